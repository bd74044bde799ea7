import PyProof.Rows.All
import Wide.All
import OpenK.AllK
import Wide.FinOn
import HandS.ForMost
import HandS.ForExc
import HandS.CallSlots
import HandS.Lambda
import HandS.HeadHook1
import KE.KDflt
import HandS.Defaults
import HandS.Deep
import HandS.TupAny
import HandS.TupMul
import HandS.Wide
import HandS.IsInst
import HandS.SortInts
import HandS.Zip
import HandS.ExcInit
import HandS.ExcField
import HandS.HotCalls
import HandS.EndTab
import HandS.HeadWalk
import HandS.HeadHook4
import HandS.Head2
import HandS.Head0
import HandS.Head1
import HandS.HeadEnd
import HandS.HeadHook2
import HandS.HeadHook3
import PyProof.Rows.SetFrom
import PyProof.SetRoads
import PyProof.StrWalks
import HandS.SetTxt0
import KE.GoesEnum
import KE.GoesMore
import PyProof.EnumMake
import HandS.Replace
import KE.GoesZip
import HandS.Star
import HandS.ClsMeth
import HandS.Property
import HandS.DictComp
import HandS.FStr
import HandS.Text
import PyProof.WalksMore
import KE.KOpsOwn
import HandS.NoneIn
import HandS.Style
import PyProof.StrLawsFirst
import HandS.HeadNt
import PySem.Challenge.RW_bagturns_k16_totals_of_sets_counted
set_option Elab.async false
set_option linter.all false
set_option maxRecDepth 100000
set_option maxHeartbeats 0
/-! The D layer, over HandS: values as plain data. -/
namespace DL
open PySem PySem.Spec PyProof.Rows L2

/-- a lambda without captured names; each parameter (ps) has the default 0; ix tells it from the others -/
structure LFn where
  ix : Nat
  qual : Str
  params : Arguments
  body : Expr
  scope : Scope
  ps : List Str
abbrev LFn.fd (F : LFn) (dV doc pm cv ctv : Value) : FuncData := PySem.W.kdv_fn "<lambda>" F.qual F.params (.expr F.body) F.scope [] dV doc pm cv ctv
/-- the object at f is the function F -/
def FnL (f : Addr) (F : LFn) (dV : Value) (c : Addr) : HO := .ext fun h => ∃ (od : Option Addr) (sl : Array (Option Value)) (doc pm ctv : Value), h.get? f = some (⟨.type "function", od, .func (F.fd dV doc pm (.ref c) ctv), sl⟩ : Obj)
theorem fnL_ne {f c : Addr} {F : LFn} {dV : Value} (ps : Array Value) : FnL f F dV c ≠ .tbl ps := fun z => by
  unfold FnL at z
  cases z
/-- plain data; .ref n: the n-th thing of the store (what may be changed); .adr a: a def or class of the top -/
inductive D where
  | non | bl (b : Bool) | int (i : Int) | str (x : Str)
  | tup (ds : List D) | lst (ds : List D) | fz (ds : List D)
  | obj (C : Str) (ns : List Str) (ds : List D)
  | ref (n : Nat) | adr (x : Str) | ty (n : String) | fn (F : LFn)

/-- ps: where the store's things stand; hs: what is under making and not to be leaned upon -/
structure Gh where
  ps : List Addr
  hs : List Addr
def Gh.off (g : Gh) (a : Addr) : Prop := a ∈ g.ps ∨ a ∈ g.hs

def WrT (K : PySem.W.Frag) (a : Addr) (xs : List V) : Prop :=
  ∃ (o : Obj) (its : Array Value) (n : Nat), K.lookup a = some o ∧ o.cls = .type "tuple" ∧ o.data = .seq its n ∧ its.size ≤ sizeLine ∧ Vals xs its.toList
def WrL (K : PySem.W.Frag) (a : Addr) (xs : List V) : Prop :=
  ∃ (o : Obj) (its : Array Value) (n : Nat), K.lookup a = some o ∧ o.cls = .type "list" ∧ o.dict = none ∧ o.data = .seq its n ∧ its.size ≤ sizeLine ∧ Vals xs its.toList
/-- the function F stands at f -/
def FnR (g : Gh) (H : Hp) (F : LFn) (f : Addr) : Prop := ∃ (dV : Value) (c : Addr), (H f = some (FnL f F dV c) ∧ ¬ g.off f) ∧ (H c = some (LamX.CodeO c F.qual) ∧ ¬ g.off c) ∧ ((F.ps = [] ∧ dV = .none) ∨ ∃ t, F.ps ≠ [] ∧ dV = .ref t ∧ H t = some (.tup (F.ps.map fun _ => V.int 0)) ∧ ¬ g.off t)
mutual
def Rep (K : PySem.W.Frag) (g : Gh) (H : Hp) : D → V → Prop
  | .non, v => v = .non
  | .bl b, v => v = .bl b
  | .int i, v => v = .int i
  | .str x, v => v = .str x
  | .tup ds, v => ∃ a vs, v = .ref a ∧ (H a = some (.tup vs) ∧ ¬ g.off a) ∧ Reps K g H ds vs
  | .lst ds, v => ∃ a vs, v = .ref a ∧ (H a = some (.lst vs) ∧ ¬ g.off a) ∧ Reps K g H ds vs
  | .fz ds, v => ∃ a vs, v = .ref a ∧ ((Rd H a (.lst vs) ∧ ¬ g.off a) ∨ WrL K a vs) ∧ Reps K g H ds vs
  | .obj C ns ds, v => ∃ a dx vs, v = .ref a ∧ (H a = some (.ins (He.ga K C) dx (ns.zip vs)) ∧ ¬ g.off a ∧ ns.length = vs.length) ∧ Reps K g H ds vs
  | .ref n, v => ∃ a, v = .ref a ∧ g.ps[n]? = some a
  | .adr x, v => v = .ref (He.ga K x)
  | .ty n, v => v = .ty n
  | .fn F, v => ∃ f, v = .ref f ∧ FnR g H F f
def Reps (K : PySem.W.Frag) (g : Gh) (H : Hp) : List D → List V → Prop
  | [], vs => vs = []
  | d :: ds, vs => ∃ v r, vs = v :: r ∧ Rep K g H d v ∧ Reps K g H ds r
end

/-- no table -/
def NT (o : HO) : Prop := ∀ t, o ≠ .tbl t
/-- no table, no code object or function -/
def NH (o : HO) : Prop := (∀ t, o ≠ .tbl t) ∧ ∀ p, o ≠ .ext p
/-- from g, H to g', H': all that is not the store's stands, the store may have grown -/
structure Ext (g : Gh) (H : Hp) (g' : Gh) (H' : Hp) : Prop where
  keep : ∀ a o, H a = some o → a ∉ g.ps → (∀ t, o ≠ .tbl t) → H' a = some o
  there : ∀ a o, H a = some o → NT o → ∃ o', H' a = some o' ∧ NT o'
  ps : ∃ new, g'.ps = g.ps ++ new ∧ ∀ a ∈ new, ∀ o, H a = some o → ¬ NT o
  hs : g'.hs = g.hs

theorem Ext.refl (g : Gh) (H : Hp) : Ext g H g H := ⟨fun _ _ h _ _ => h, fun _ o h n => ⟨o, h, n⟩, ⟨[], by simp, by simp⟩, rfl⟩
theorem Ext.trans {g g1 g2 : Gh} {H H1 H2 : Hp} (a : Ext g H g1 H1) (b : Ext g1 H1 g2 H2) : Ext g H g2 H2 := by
  obtain ⟨n1, e1, f1⟩ := a.ps
  obtain ⟨n2, e2, f2⟩ := b.ps
  refine ⟨fun x o h hp ht => ?_, fun x o h n => ?_, ⟨n1 ++ n2, by rw [e2, e1, List.append_assoc], fun x hx o h n => ?_⟩, b.hs.trans a.hs⟩
  · refine b.keep x o (a.keep x o h hp ht) (fun z => ?_) ht
    rw [e1] at z
    rcases List.mem_append.mp z with z | z
    · exact hp z
    · exact f1 x z o h ht
  · obtain ⟨o1, h1, m1⟩ := a.there x o h n
    exact b.there x o1 h1 m1
  · rcases List.mem_append.mp hx with z | z
    · exact f1 x z o h n
    · obtain ⟨o1, h1, m1⟩ := a.there x o h n
      exact f2 x z o1 h1 m1
/-- nothing but new things -/
theorem Ext.same {g : Gh} {H H' : Hp} (s : Same H H') : Ext g H g H' := ⟨fun a o h _ _ => s a o h, fun a o h n => ⟨o, s a o h, n⟩, ⟨[], by simp, by simp⟩, rfl⟩
theorem Ext.off {g g' : Gh} {H H' : Hp} (x : Ext g H g' H') {a : Addr} {o : HO} (h : H a = some o) (nt : NT o) (n : ¬ g.off a) : ¬ g'.off a := by
  obtain ⟨new, e, f⟩ := x.ps
  rintro (z | z)
  · rw [e] at z
    rcases List.mem_append.mp z with z | z
    · exact n (.inl z)
    · exact f a z o h nt
  · rw [x.hs] at z
    exact n (.inr z)
/-- what a thing that stands still needs: it stands, and is leaned upon still -/
structure Ex0 (g : Gh) (H : Hp) (g' : Gh) (H' : Hp) : Prop where
  keep : ∀ a o, H a = some o → ¬ g.off a → (∀ t, o ≠ .tbl t) → H' a = some o ∧ ¬ g'.off a
  ps : ∃ new, g'.ps = g.ps ++ new
theorem Ex0.rd {g g' : Gh} {H H' : Hp} (x : Ex0 g H g' H') {a : Addr} {u : HO} (hu : ∀ t, u ≠ .tbl t) (h : Rd H a u ∧ ¬ g.off a) : Rd H' a u ∧ ¬ g'.off a := by
  obtain ⟨h, n⟩ := h
  rcases h with h | ⟨o, h⟩
  · exact ⟨.inl (x.keep a _ h n hu).1, (x.keep a _ h n hu).2⟩
  · exact ⟨.inr ⟨o, (x.keep a _ h n (fun _ => nofun)).1⟩, (x.keep a _ h n (fun _ => nofun)).2⟩
theorem Ext.ex0 {g g' : Gh} {H H' : Hp} (x : Ext g H g' H') : Ex0 g H g' H' :=
  ⟨fun a o h n ht => ⟨x.keep a o h (fun z => n (.inl z)) ht, x.off h ht n⟩, let ⟨new, e, _⟩ := x.ps; ⟨new, e⟩⟩
theorem Ex0.refl (g : Gh) (H : Hp) : Ex0 g H g H := ⟨fun _ _ h n _ => ⟨h, n⟩, ⟨[], by simp⟩⟩
theorem Ex0.trans {g g1 g2 : Gh} {H H1 H2 : Hp} (a : Ex0 g H g1 H1) (b : Ex0 g1 H1 g2 H2) : Ex0 g H g2 H2 := by
  obtain ⟨n1, e1⟩ := a.ps
  obtain ⟨n2, e2⟩ := b.ps
  exact ⟨fun x o h n t => b.keep x o (a.keep x o h n t).1 (a.keep x o h n t).2 t, ⟨n1 ++ n2, by rw [e2, e1, List.append_assoc]⟩⟩
theorem FnR.ex0 {g g' : Gh} {H H' : Hp} (x : Ex0 g H g' H') {F : LFn} {f : Addr} (h : FnR g H F f) : FnR g' H' F f := by
  obtain ⟨dV, c, h1, h2, h3⟩ := h
  refine ⟨dV, c, x.keep _ _ h1.1 h1.2 fnL_ne, x.keep _ _ h2.1 h2.2 LamX.codeO_ne, h3.imp id fun ⟨t, e0, e1, e2, e3⟩ => ⟨t, e0, e1, x.keep _ _ e2 e3 fun _ => nofun⟩⟩
mutual
theorem Rep.ex0 {K : PySem.W.Frag} {g g' : Gh} {H H' : Hp} (x : Ex0 g H g' H') : ∀ (d : D) (v : V), Rep K g H d v → Rep K g' H' d v
  | .non, _, h => h
  | .bl _, _, h => h
  | .int _, _, h => h
  | .str _, _, h => h
  | .tup ds, _, ⟨a, vs, e, h, r⟩ => ⟨a, vs, e, x.keep a _ h.1 h.2 (fun _ => nofun), Reps.ex0 x ds vs r⟩
  | .lst ds, _, ⟨a, vs, e, h, r⟩ => ⟨a, vs, e, x.keep a _ h.1 h.2 (fun _ => nofun), Reps.ex0 x ds vs r⟩
  | .fz ds, _, ⟨a, vs, e, h, r⟩ => ⟨a, vs, e, h.elim (fun h => .inl (x.rd (fun _ => nofun) h)) .inr, Reps.ex0 x ds vs r⟩
  | .obj _ _ ds, _, ⟨a, dx, vs, e, ⟨h, n, l⟩, r⟩ => ⟨a, dx, vs, e, ⟨(x.keep a _ h n (fun _ => nofun)).1, (x.keep a _ h n (fun _ => nofun)).2, l⟩, Reps.ex0 x ds vs r⟩
  | .ref n, _, ⟨a, e, h⟩ => by
    obtain ⟨new, q⟩ := x.ps
    exact ⟨a, e, by rw [q, List.getElem?_append_left (List.getElem?_eq_some_iff.mp h).1]; exact h⟩
  | .adr _, _, h => h
  | .ty _, _, h => h
  | .fn _, _, ⟨f, e, h⟩ => ⟨f, e, FnR.ex0 x h⟩
theorem Reps.ex0 {K : PySem.W.Frag} {g g' : Gh} {H H' : Hp} (x : Ex0 g H g' H') : ∀ (ds : List D) (vs : List V), Reps K g H ds vs → Reps K g' H' ds vs
  | [], _, h => h
  | d :: ds, _, ⟨v, r, e, h, hr⟩ => ⟨v, r, e, Rep.ex0 x d v h, Reps.ex0 x ds r hr⟩
end
theorem Rep.ext {K : PySem.W.Frag} {g g' : Gh} {H H' : Hp} (x : Ext g H g' H') (d : D) (v : V) (h : Rep K g H d v) : Rep K g' H' d v := Rep.ex0 x.ex0 d v h
theorem Reps.ext {K : PySem.W.Frag} {g g' : Gh} {H H' : Hp} (x : Ext g H g' H') (ds : List D) (vs : List V) (h : Reps K g H ds vs) : Reps K g' H' ds vs := Reps.ex0 x.ex0 ds vs h
/-- a thing of the store is written -/
theorem Ex0.wr {g : Gh} {H H' : Hp} (x : ∀ b, ¬ g.off b → H' b = H b) : Ex0 g H g H' := ⟨fun a o h n _ => ⟨(x a n).trans h, n⟩, ⟨[], by simp⟩⟩
theorem Rep.wr {K : PySem.W.Frag} {g : Gh} {H H' : Hp} (x : ∀ b, ¬ g.off b → H' b = H b) (d : D) (v : V) (h : Rep K g H d v) : Rep K g H' d v := Rep.ex0 (Ex0.wr x) d v h
theorem Reps.wr {K : PySem.W.Frag} {g : Gh} {H H' : Hp} (x : ∀ b, ¬ g.off b → H' b = H b) (ds : List D) (vs : List V) (h : Reps K g H ds vs) : Reps K g H' ds vs := Reps.ex0 (Ex0.wr x) ds vs h
/-- what is hidden changes, the store's places stay -/
theorem Ex0.hid {g g' : Gh} {H : Hp} (hp : g'.ps = g.ps) (x : ∀ b o, H b = some o → ¬ g.off b → ¬ g'.off b) : Ex0 g H g' H := ⟨fun a o h n _ => ⟨h, x a o h n⟩, ⟨[], by simp [hp]⟩⟩
theorem Rep.hid {K : PySem.W.Frag} {g g' : Gh} {H : Hp} (hp : g'.ps = g.ps) (x : ∀ b o, H b = some o → ¬ g.off b → ¬ g'.off b) (d : D) (v : V) (h : Rep K g H d v) : Rep K g' H d v := Rep.ex0 (Ex0.hid hp x) d v h
theorem Reps.hid {K : PySem.W.Frag} {g g' : Gh} {H : Hp} (hp : g'.ps = g.ps) (x : ∀ b o, H b = some o → ¬ g.off b → ¬ g'.off b) (ds : List D) (vs : List V) (h : Reps K g H ds vs) : Reps K g' H ds vs := Reps.ex0 (Ex0.hid hp x) ds vs h
theorem Reps.length {K : PySem.W.Frag} {g : Gh} {H : Hp} : ∀ {ds : List D} {vs : List V}, Reps K g H ds vs → ds.length = vs.length
  | [], _, h => by cases h; rfl
  | d :: ds, _, ⟨v, r, e, h, hr⟩ => by subst e; simp [Reps.length hr]
theorem Reps.get {K : PySem.W.Frag} {g : Gh} {H : Hp} : ∀ {ds : List D} {vs : List V} {i : Nat} {d : D}, Reps K g H ds vs → ds[i]? = some d → ∃ v, vs[i]? = some v ∧ Rep K g H d v
  | [], _, _, _, _, e => by simp at e
  | d :: ds, _, 0, _, ⟨v, r, e, h, hr⟩, q => by subst e; simp at q; subst q; exact ⟨v, rfl, h⟩
  | d :: ds, _, i + 1, _, ⟨v, r, e, h, hr⟩, q => by subst e; exact Reps.get (i := i) hr (by simpa using q)
theorem Reps.getV {K : PySem.W.Frag} {g : Gh} {H : Hp} : ∀ {ds : List D} {vs : List V} {i : Nat} {v : V}, Reps K g H ds vs → vs[i]? = some v → ∃ d, ds[i]? = some d ∧ Rep K g H d v
  | [], _, _, _, h, e => by cases h; simp at e
  | d :: ds, _, 0, _, ⟨v, r, e, h, hr⟩, q => by subst e; simp at q; subst q; exact ⟨d, rfl, h⟩
  | d :: ds, _, i + 1, _, ⟨v, r, e, h, hr⟩, q => by subst e; exact Reps.getV (i := i) hr (by simpa using q)
theorem Reps.append {K : PySem.W.Frag} {g : Gh} {H : Hp} : ∀ {ds es : List D} {vs us : List V}, Reps K g H ds vs → Reps K g H es us → Reps K g H (ds ++ es) (vs ++ us)
  | [], _, _, _, h, q => by cases h; exact q
  | d :: ds, _, _, _, ⟨v, r, e, h, hr⟩, q => by subst e; exact ⟨v, _, rfl, h, Reps.append hr q⟩
theorem Reps.take {K : PySem.W.Frag} {g : Gh} {H : Hp} : ∀ {ds : List D} {vs : List V} (n : Nat), Reps K g H ds vs → Reps K g H (ds.take n) (vs.take n)
  | _, _, 0, _ => by simp [Reps]
  | [], _, n + 1, h => by cases h; simp [Reps]
  | d :: ds, _, n + 1, ⟨v, r, e, h, hr⟩ => by subst e; exact ⟨v, _, rfl, h, Reps.take n hr⟩
theorem Reps.drop {K : PySem.W.Frag} {g : Gh} {H : Hp} : ∀ {ds : List D} {vs : List V} (n : Nat), Reps K g H ds vs → Reps K g H (ds.drop n) (vs.drop n)
  | _, _, 0, h => h
  | [], _, n + 1, h => by cases h; simp [Reps]
  | d :: ds, _, n + 1, ⟨v, r, e, h, hr⟩ => by subst e; exact Reps.drop n hr
theorem Reps.set {K : PySem.W.Frag} {g : Gh} {H : Hp} {x : D} {y : V} (q : Rep K g H x y) : ∀ {ds : List D} {vs : List V} (i : Nat), Reps K g H ds vs → Reps K g H (ds.set i x) (vs.set i y)
  | [], _, _, h => by cases h; simp [Reps]
  | d :: ds, _, 0, ⟨v, r, e, h, hr⟩ => by subst e; exact ⟨y, _, rfl, q, hr⟩
  | d :: ds, _, i + 1, ⟨v, r, e, h, hr⟩ => by subst e; exact ⟨v, _, rfl, h, Reps.set q i hr⟩
theorem Reps.one {K : PySem.W.Frag} {g : Gh} {H : Hp} {x : D} {y : V} (q : Rep K g H x y) : Reps K g H [x] [y] := ⟨y, [], rfl, q, rfl⟩
theorem Reps.ints {K : PySem.W.Frag} {g : Gh} {H : Hp} : ∀ {ns : List Int} {vs : List V}, Reps K g H (ns.map D.int) vs → vs = ns.map V.int
  | [], _, h => h
  | n :: ns, _, ⟨v, r, e, h, hr⟩ => by
    have h' : v = .int n := h
    subst e h'
    rw [Reps.ints hr]; rfl
theorem Reps.ofInts {K : PySem.W.Frag} {g : Gh} {H : Hp} : ∀ (ns : List Int), Reps K g H (ns.map D.int) (ns.map V.int)
  | [] => rfl
  | n :: ns => ⟨_, _, rfl, rfl, Reps.ofInts ns⟩

/-! ### the store -/
inductive O where
  | lst (ds : List D)
  | dK (kvs : List (Key × D))
  | dT (kvs : List (List Key × D))
  | ins (C : Str) (ns : List Str) (ds : List D)
abbrev Store := List O
def ORep (K : PySem.W.Frag) (g : Gh) (H : Hp) (a : Addr) : O → Prop
  | .lst ds => ∃ vs, H a = some (.lst vs) ∧ Reps K g H ds vs
  | .dK kvs => ∃ vs, H a = some (.dK ((kvs.map (·.1)).zip vs)) ∧ Reps K g H (kvs.map (·.2)) vs
  | .dT kvs => ∃ vs, H a = some (.dT ((kvs.map (·.1)).zip vs)) ∧ Reps K g H (kvs.map (·.2)) vs
  | .ins C ns ds => ∃ dx vs, H a = some (.ins (He.ga K C) dx (ns.zip vs)) ∧ ns.length = vs.length ∧ Reps K g H ds vs
structure GoodS (K : PySem.W.Frag) (T : List (Addr × Str)) (g : Gh) (S : Store) (H : Hp) : Prop where
  len : g.ps.length = S.length
  nd : (g.ps ++ g.hs).Nodup
  st : ∀ (n : Nat) a o, g.ps[n]? = some a → S[n]? = some o → ORep K g H a o
  hid : ∀ p ∈ g.hs, ∃ o, H p = some o ∧ NH o
  tabs : LamX.Tabs T H
theorem ORep.same {K : PySem.W.Frag} {g : Gh} {H H' : Hp} (s : Same H H') {a : Addr} : ∀ {o : O}, ORep K g H a o → ORep K g H' a o
  | .lst _, ⟨vs, h, r⟩ => ⟨vs, s _ _ h, Reps.ext (Ext.same s) _ _ r⟩
  | .dK _, ⟨vs, h, r⟩ => ⟨vs, s _ _ h, Reps.ext (Ext.same s) _ _ r⟩
  | .dT _, ⟨vs, h, r⟩ => ⟨vs, s _ _ h, Reps.ext (Ext.same s) _ _ r⟩
  | .ins _ _ _, ⟨dx, vs, h, l, r⟩ => ⟨dx, vs, s _ _ h, l, Reps.ext (Ext.same s) _ _ r⟩
theorem GoodS.same {K : PySem.W.Frag} {T : List (Addr × Str)} {g : Gh} {S : Store} {H H' : Hp} (x : GoodS K T g S H) (s : Same H H') : GoodS K T g S H' :=
  ⟨x.len, x.nd, fun n a o h1 h2 => (x.st n a o h1 h2).same s, fun p hp => let ⟨o, h, n⟩ := x.hid p hp; ⟨o, s p o h, n⟩, x.tabs.ext s⟩
theorem ORep.ext {K : PySem.W.Frag} {g g' : Gh} {H H' : Hp} (x : Ext g H g' H') {a : Addr} (e : H' a = H a) : ∀ {o : O}, ORep K g H a o → ORep K g' H' a o
  | .lst _, ⟨vs, h, r⟩ => ⟨vs, e.trans h, Reps.ext x _ _ r⟩
  | .dK _, ⟨vs, h, r⟩ => ⟨vs, e.trans h, Reps.ext x _ _ r⟩
  | .dT _, ⟨vs, h, r⟩ => ⟨vs, e.trans h, Reps.ext x _ _ r⟩
  | .ins _ _ _, ⟨dx, vs, h, l, r⟩ => ⟨dx, vs, e.trans h, l, Reps.ext x _ _ r⟩
theorem ORep.ex0 {K : PySem.W.Frag} {g g' : Gh} {H H' : Hp} (x : Ex0 g H g' H') {a : Addr} (e : H' a = H a) : ∀ {o : O}, ORep K g H a o → ORep K g' H' a o
  | .lst _, ⟨vs, h, r⟩ => ⟨vs, e.trans h, Reps.ex0 x _ _ r⟩
  | .dK _, ⟨vs, h, r⟩ => ⟨vs, e.trans h, Reps.ex0 x _ _ r⟩
  | .dT _, ⟨vs, h, r⟩ => ⟨vs, e.trans h, Reps.ex0 x _ _ r⟩
  | .ins _ _ _, ⟨dx, vs, h, l, r⟩ => ⟨dx, vs, e.trans h, l, Reps.ex0 x _ _ r⟩
theorem ORep.wr {K : PySem.W.Frag} {g : Gh} {H H' : Hp} (x : ∀ b, ¬ g.off b → H' b = H b) {a : Addr} (e : H' a = H a) : ∀ {o : O}, ORep K g H a o → ORep K g H' a o
  | .lst _, ⟨vs, h, r⟩ => ⟨vs, e.trans h, Reps.wr x _ _ r⟩
  | .dK _, ⟨vs, h, r⟩ => ⟨vs, e.trans h, Reps.wr x _ _ r⟩
  | .dT _, ⟨vs, h, r⟩ => ⟨vs, e.trans h, Reps.wr x _ _ r⟩
  | .ins _ _ _, ⟨dx, vs, h, l, r⟩ => ⟨dx, vs, e.trans h, l, Reps.wr x _ _ r⟩
theorem ORep.hid {K : PySem.W.Frag} {g g' : Gh} {H : Hp} (hp : g'.ps = g.ps) (x : ∀ b o, H b = some o → ¬ g.off b → ¬ g'.off b) {a : Addr} : ∀ {o : O}, ORep K g H a o → ORep K g' H a o
  | .lst _, ⟨vs, h, r⟩ => ⟨vs, h, Reps.hid hp x _ _ r⟩
  | .dK _, ⟨vs, h, r⟩ => ⟨vs, h, Reps.hid hp x _ _ r⟩
  | .dT _, ⟨vs, h, r⟩ => ⟨vs, h, Reps.hid hp x _ _ r⟩
  | .ins _ _ _, ⟨dx, vs, h, l, r⟩ => ⟨dx, vs, h, l, Reps.hid hp x _ _ r⟩
theorem ORep.there {K : PySem.W.Frag} {g : Gh} {H : Hp} {a : Addr} : ∀ {o : O}, ORep K g H a o → H a ≠ none
  | .lst _, ⟨vs, h, _⟩, e => by rw [h] at e; cases e
  | .dK _, ⟨vs, h, _⟩, e => by rw [h] at e; cases e
  | .dT _, ⟨vs, h, _⟩, e => by rw [h] at e; cases e
  | .ins _ _ _, ⟨dx, vs, h, _⟩, e => by rw [h] at e; cases e
/-- a free place is not the store's, not hidden -/
theorem GoodS.notOff {K : PySem.W.Frag} {T : List (Addr × Str)} {g : Gh} {S : Store} {H : Hp} (h : GoodS K T g S H) {p : Addr} (e : H p = none) : ¬ g.off p := by
  rintro (z | z)
  · obtain ⟨n, hn, e1⟩ := List.getElem_of_mem z
    have hn' : n < S.length := by rw [← h.len]; exact hn
    exact (h.st n p S[n] (by rw [List.getElem?_eq_getElem hn, e1]) (List.getElem?_eq_getElem hn')).there e
  · obtain ⟨o, q, _⟩ := h.hid p z
    rw [q] at e; cases e
theorem same_upd {H : Hp} {p : Addr} {o : HO} (h : H p = none) : Same H (upd H p o) := fun b x e => by
  rw [upd_ne (ne_of_none e h)]
  exact e

/-- a new thing in the store -/
theorem Ext.new {g : Gh} {H : Hp} {p : Addr} {o : HO} (e : H p = none) : Ext g H ⟨g.ps ++ [p], g.hs⟩ (upd H p o) :=
  ⟨fun a u h _ _ => same_upd e a u h, fun a u h n => ⟨u, same_upd e a u h, n⟩, ⟨[p], rfl, fun a ha u h => by rw [List.mem_singleton.mp ha, e] at h; cases h⟩, rfl⟩
theorem GoodS.new {K : PySem.W.Frag} {T : List (Addr × Str)} {g : Gh} {S : Store} {H : Hp} (h : GoodS K T g S H) {p : Addr} (e : H p = none) {u : HO} {o : O} (ho : ORep K ⟨g.ps ++ [p], g.hs⟩ (upd H p u) p o) : GoodS K T ⟨g.ps ++ [p], g.hs⟩ (S ++ [o]) (upd H p u) := by
  have no := h.notOff e
  refine ⟨by simp [h.len], ?_, fun n a q h1 h2 => ?_, fun x hx => let ⟨o, q, n⟩ := h.hid x hx; ⟨o, same_upd e x o q, n⟩, h.tabs.ext (same_upd e)⟩
  · have nd := h.nd
    rw [List.append_assoc, List.nodup_append] at *
    obtain ⟨n1, n2, n3⟩ := nd
    refine ⟨n1, List.nodup_cons.mpr ⟨fun z => no (.inr z), n2⟩, fun x hx y hy => ?_⟩
    rcases List.mem_cons.mp hy with rfl | hy
    · exact fun z => no (.inl (z ▸ hx))
    · exact n3 x hx y hy
  · by_cases hn : n < g.ps.length
    · rw [List.getElem?_append_left hn] at h1
      rw [List.getElem?_append_left (by rw [← h.len]; exact hn)] at h2
      have q1 := h.st n a q h1 h2
      refine q1.ext (Ext.new e) (upd_ne fun z => ?_)
      subst z
      exact q1.there e
    · rw [List.getElem?_append_right (by omega)] at h1
      rw [List.getElem?_append_right (by rw [← h.len]; omega)] at h2
      rw [h.len] at h1
      have hn0 : n - S.length = 0 := by
        cases hk : n - S.length with
        | zero => rfl
        | succ k => rw [hk] at h1; simp at h1
      rw [hn0] at h1 h2
      simp at h1 h2
      subst h1 h2
      exact ho

/-! ### slots, readings -/
abbrev Sl := List (Option D)
structure Rel (K : PySem.W.Frag) (T : List (Addr × Str)) (g : Gh) (r : Sl) (S : Store) (s : L2.St) (H : Hp) : Prop where
  good : GoodS K T g S H
  len : r.length = s.length
  sl : ∀ (i : Nat) d, r[i]? = some (some d) → ∃ v, s[i]? = some (some v) ∧ Rep K g H d v
theorem Rel.same {K : PySem.W.Frag} {T : List (Addr × Str)} {g : Gh} {r : Sl} {S : Store} {σ : L2.St} {H H' : Hp} (x : Rel K T g r S σ H) (s : Same H H') : Rel K T g r S σ H' :=
  ⟨x.good.same s, x.len, fun i d h => let ⟨v, e, q⟩ := x.sl i d h; ⟨v, e, Rep.ext (Ext.same s) _ _ q⟩⟩
/-- an exception: its class, its fields -/
structure Xc where
  cls : Str
  ns : List Str
  ds : List D
def XRep (K : PySem.W.Frag) (g : Gh) (H : Hp) (x : Xc) (c : Value) (dd : Option Addr) : Prop :=
  c = .ref (He.ga K x.cls) ∧ ∃ d vs, dd = some d ∧ (H d = some (.xd (x.ns.zip vs)) ∧ ¬ g.off d ∧ x.ns.length = vs.length) ∧ Reps K g H x.ds vs
theorem XRep.ext {K : PySem.W.Frag} {g g' : Gh} {H H' : Hp} (e : Ext g H g' H') {x : Xc} {c : Value} {dd : Option Addr} (h : XRep K g H x c dd) : XRep K g' H' x c dd := by
  obtain ⟨h1, d, vs, h2, ⟨h3, h4, h5⟩, h6⟩ := h
  exact ⟨h1, d, vs, h2, ⟨e.keep d _ h3 (fun z => h4 (.inl z)) (fun _ => nofun), e.off h3 (fun _ => nofun) h4, h5⟩, Reps.ext e _ _ h6⟩

abbrev DQ := D → Store → Prop
abbrev DX := Xc → Store → Prop
abbrev DTE := Sl → Store → DQ → DX → Prop
abbrev DTA := Sl → Store → (List D → Store → Prop) → DX → Prop
abbrev DTT := Sl → Store → (Bool → Store → Prop) → DX → Prop
section
variable (K : PySem.W.Frag) (T : List (Addr × Str)) (W : WX)
def WOk (g : Gh) (H : Hp) (r : Sl) (σ : L2.St) (Ed : DX) : Prop := ∀ x S' g' H' c dd, Ed x S' → Ext g H g' H' → Rel K T g' r S' σ H' → XRep K g' H' x c dd → W c dd σ H'
def lift (t : DTE) : TE := fun σ H Q => ∃ g r S Qd Ed, Rel K T g r S σ H ∧ t r S Qd Ed ∧
  (∀ d S' g' H' v, Qd d S' → Ext g H g' H' → Rel K T g' r S' σ H' → Rep K g' H' d v → Q v H') ∧ WOk K T W g H r σ Ed
def liftA (t : DTA) : TA := fun σ H Q => ∃ g r S Qd Ed, Rel K T g r S σ H ∧ t r S Qd Ed ∧
  (∀ ds S' g' H' vs, Qd ds S' → Ext g H g' H' → Rel K T g' r S' σ H' → Reps K g' H' ds vs → Q vs H') ∧ WOk K T W g H r σ Ed
def liftT (t : DTT) : TT := fun σ H Q => ∃ g r S Qd Ed, Rel K T g r S σ H ∧ t r S Qd Ed ∧
  (∀ b S' g' H', Qd b S' → Ext g H g' H' → Rel K T g' r S' σ H' → Q b H') ∧ WOk K T W g H r σ Ed
end
theorem WOk.ext {K : PySem.W.Frag} {T : List (Addr × Str)} {W : WX} {g g' : Gh} {H H' : Hp} {r : Sl} {σ : L2.St} {Ed : DX} (h : WOk K T W g H r σ Ed) (x : Ext g H g' H') : WOk K T W g' H' r σ Ed :=
  fun y S' g2 H2 c dd e x2 rl xr => h y S' g2 H2 c dd e (x.trans x2) rl xr
def DE (X : Cx) (T : List (Addr × Str)) (W : WX) (e : Expr) (t : DTE) : Prop := PE X e (lift X.K T W t)
def DT (X : Cx) (T : List (Addr × Str)) (W : WX) (e : Expr) (t : DTT) : Prop := PT X e (liftT X.K T W t)
def DA (X : Cx) (T : List (Addr × Str)) (W : WX) (es : List Expr) (t : DTA) : Prop := PA X es (liftA X.K T W t)
theorem PE.imp {X : Cx} {e : Expr} {t t' : TE} (h : PE X e t) (i : ∀ σ H Q, t' σ H Q → t σ H Q) : PE X e t' := ⟨fun pins s σ H Q I q => h.run pins s σ H Q I (i σ H Q q)⟩
theorem PT.imp {X : Cx} {e : Expr} {t t' : TT} (h : PT X e t) (i : ∀ σ H Q, t' σ H Q → t σ H Q) : PT X e t' := ⟨fun pins s σ H Q I q => h.run pins s σ H Q I (i σ H Q q)⟩
theorem PA.imp {X : Cx} {e : List Expr} {t t' : TA} (h : PA X e t) (i : ∀ σ H Q, t' σ H Q → t σ H Q) : PA X e t' := ⟨fun pos pins s σ H Q I q => h.run pos pins s σ H Q I (i σ H Q q)⟩
theorem PS.imp {X : Cx} {e : Stmt} {t t' : TS} (h : PS X e t) (i : ∀ D σ H, t' D σ H → t D σ H) : PS X e t' := ⟨fun pins s σ H Q I q => h.run pins s σ H Q I (i Q σ H q)⟩
theorem PSs.imp {X : Cx} {e : List Stmt} {t t' : TS} (h : PSs X e t) (i : ∀ D σ H, t' D σ H → t D σ H) : PSs X e t' := ⟨fun pins s σ H Q I q => h.run pins s σ H Q I (i Q σ H q)⟩

section
variable {X : Cx} {T : List (Addr × Str)} {W : WX} {a b c : Expr} {ta tb tc : DTE} {pos : Pos}
/-! ### names, constants -/
def dVar (i : Nat) : DTE := fun r S Q _ => ∃ d, r[i]? = some (some d) ∧ Q d S
def dC (d : D) : DTE := fun _ S Q _ => Q d S
theorem de_var {i : Nat} {x : Str} (h : PE X (.Name x pos) (tVar i)) : DE X T W (.Name x pos) (dVar i) := PE.imp h fun σ H Q ⟨g, r, S, Qd, Ed, rl, ⟨d, e, q⟩, hq, _⟩ => by
  obtain ⟨v, ev, rv⟩ := rl.sl i d e
  exact ⟨v, ev, hq d S g H v q (Ext.refl g H) rl rv⟩
/-- the value in slot i -/
theorem dv (i : Nat) {x : Str} (hN : X.N[i]? = some x := by rfl) (hv : Vis X.env.scope x := by first | exact Or.inl rfl | exact Or.inr (Or.inl rfl) | exact Or.inr (Or.inr rfl)) (hd : (x == ("__debug__" : Str)) = false := by decide)
    (hcd : (x == ("__classdict__" : Str)) = false := by decide) : DE X T W (.Name x pos) (dVar i) := de_var (pe_var hN hv hd hcd)
theorem de_c {d : D} {v : V} (h : PE X a (tC v)) (r : ∀ g H, Rep X.K g H d v) : DE X T W a (dC d) := PE.imp h fun σ H Q ⟨g, ρ, S, Qd, Ed, rl, q, hq, _⟩ => hq d S g H v q (Ext.refl g H) rl (r g H)
theorem de_int {i j} : DE X T W (.Constant (.int i) j pos) (dC (.int i)) := de_c pe_int fun _ _ => rfl
theorem de_bl {i j} : DE X T W (.Constant (.bool i) j pos) (dC (.bl i)) := de_c pe_bl fun _ _ => rfl
theorem de_non {j} : DE X T W (.Constant .none j pos) (dC .non) := de_c pe_non fun _ _ => rfl
theorem de_str {i j} : DE X T W (.Constant (.str i) j pos) (dC (.str i)) := de_c pe_str fun _ _ => rfl
/-- a def, a class of the top, as a value -/
theorem de_adr {x : Str} (hg : Gl X x) (hm : X.mg x = some (.ref (He.ga X.K x))) (hd : (x == ("__debug__" : Str)) = false := by decide) : DE X T W (.Name x pos) (dC (.adr x)) := de_c (pe_glob hg hm (v := .ref (He.ga X.K x)) rfl hd) fun _ _ => rfl
/-- a built-in class as a value -/
theorem de_ty {x : Str} {n : String} (hg : Gl X x) (hm : X.mg x = none) (hv : bootBuiltins x = some (.type n)) (hn : x ≠ "__name__" := by decide) (hd : (x == ("__debug__" : Str)) = false := by decide) : DE X T W (.Name x pos) (dC (.ty n)) := de_c (pe_bltn hg hm hv (v := .ty n) rfl hn hd) fun _ _ => rfl
/-- an int, a text of the top -/
theorem de_gint {x : Str} {i : Int} {t : Tok} (hg : Gl X x) (hm : X.mg x = some (.int i t)) (hd : (x == ("__debug__" : Str)) = false := by decide) : DE X T W (.Name x pos) (dC (.int i)) := de_c (pe_glob hg hm (v := .int i) ⟨t, rfl⟩ hd) fun _ _ => rfl
theorem de_gstr {x : Str} {i : Str} {t : Tok} (hg : Gl X x) (hm : X.mg x = some (.str i t)) (hd : (x == ("__debug__" : Str)) = false := by decide) : DE X T W (.Name x pos) (dC (.str i)) := de_c (pe_glob hg hm (v := .str i) ⟨t, rfl⟩ hd) fun _ _ => rfl

/-! ### operators -/
/-- an operator by data; the heap may grow -/
def rD (K : PySem.W.Frag) (T : List (Addr × Str)) (f : Store → D → D → D → Prop) : R2 := fun x y H Q => ∃ g S dx dy dz, GoodS K T g S H ∧ Rep K g H dx x ∧ Rep K g H dy y ∧ f S dx dy dz ∧ ∀ v H', Same H H' → Rep K g H' dz v → Q v H'
def dOp (f : Store → D → D → D → Prop) (ta tb : DTE) : DTE := fun r S Q E => ta r S (fun x S1 => tb r S1 (fun y S2 => ∃ z, f S2 x y z ∧ Q z S2) E) E
theorem lift_op {f : Store → D → D → D → Prop} {K : PySem.W.Frag} {σ : L2.St} {H : Hp} {Q : VK} (h : lift K T W (dOp f ta tb) σ H Q) : tOp (rD K T f) (lift K T W ta) (lift K T W tb) σ H Q := by
  obtain ⟨g, r, S, Qd, Ed, rl, h, hq, hx⟩ := h
  refine ⟨g, r, S, _, Ed, rl, h, fun d S1 g1 H1 v h1 x1 rl1 rp1 => ?_, hx⟩
  refine ⟨g1, r, S1, _, Ed, rl1, h1, fun d2 S2 g2 H2 v2 h2 x2 rl2 rp2 => ?_, hx.ext x1⟩
  obtain ⟨z, hf, hz⟩ := h2
  exact ⟨g2, S2, d, d2, z, rl2.good, Rep.ext x2 _ _ rp1, rp2, hf, fun v' H' s rp => hq z S2 g2 H' v' hz ((x1.trans x2).trans (Ext.same s)) (rl2.same s) rp⟩
theorem de_op {op : Operator} {f : Store → D → D → D → Prop} (ho : OpR X (binaryOp op) (rD X.K T f)) (ha : DE X T W a ta) (hb : DE X T W b tb) : DE X T W (.BinOp a op b pos) (dOp f ta tb) := PE.imp (pe_op ho ha hb) fun σ H Q h => lift_op h
theorem de_cmp {op : CmpOp} {f : Store → D → D → D → Prop} (ho : OpR X (compareOp op) (rD X.K T f)) (ha : DE X T W a ta) (hb : DE X T W b tb) (hm : behindInMarks op b = false) : DE X T W (.Compare a [op] [b] pos) (dOp f ta tb) := PE.imp (pe_cmpR ho ha hb hm) fun σ H Q h => lift_op h
end
end DL
namespace DL
open PySem PySem.Spec PyProof.Rows L2
section
variable {X : Cx} {T : List (Addr × Str)} {W : WX} {a b c : Expr} {ta tb tc : DTE} {pos : Pos} {tA tB' : DTT} {rest : List Expr} {es : List Expr} {tes : DTA}
/-! ### tests -/
def dB (t : DTE) : DTT := fun r S Q E => t r S (fun x S1 => ∃ c, x = .bl c ∧ Q c S1) E
theorem lift_b {K : PySem.W.Frag} {σ : L2.St} {H : Hp} {Q : Bool → Hp → Prop} (h : liftT K T W (dB ta) σ H Q) : tB (lift K T W ta) σ H Q := by
  obtain ⟨g, r, S, Qd, Ed, rl, h, hq, hx⟩ := h
  refine ⟨g, r, S, _, Ed, rl, h, fun d S1 g1 H1 v h1 x1 rl1 rp1 => ?_, hx⟩
  obtain ⟨k, rfl, h1⟩ := h1
  have e : v = .bl k := rp1
  exact ⟨k, e, hq k S1 g1 H1 h1 x1 rl1⟩
theorem dt_val (h : DE X T W a ta) (he : ∀ whole, isTrue a X.env whole = (do let v ← whole; standAt a.pos; holding [v] (truthy v)) := by intro _; rfl) : DT X T W a (dB ta) := PT.imp (pt_val h he) fun σ H Q h => lift_b h
theorem dt_cmp {op : CmpOp} {f : Store → D → D → D → Prop} (ho : OpR X (compareOp op) (rD X.K T f)) (ha : DE X T W a ta) (hb : DE X T W b tb) (hm : behindInMarks op b = false) : DT X T W (.Compare a [op] [b] pos) (dB (dOp f ta tb)) :=
  PT.imp (pt_cmpR ho ha hb hm) fun σ H Q h => by
    obtain ⟨g, r, S, Qd, Ed, rl, h, hq, hx⟩ := h
    refine lift_op ⟨g, r, S, _, Ed, rl, h, fun d S1 g1 H1 v h1 x1 rl1 rp1 => ?_, hx⟩
    obtain ⟨k, rfl, h1⟩ := h1
    have e : v = .bl k := rp1
    exact ⟨k, e, hq k S1 g1 H1 h1 x1 rl1⟩
def DW (X : Cx) (T : List (Addr × Str)) (W : WX) (e : Expr) (t : DTT) : Prop := PW X e (liftT X.K T W t)
theorem PW.imp {X : Cx} {e : Expr} {t t' : TT} (h : PW X e t) (i : ∀ σ H Q, t' σ H Q → t σ H Q) : PW X e t' := ⟨fun wh pins s σ H Q I q => h.run wh pins s σ H Q I (i σ H Q q)⟩
theorem DW.dt {e : Expr} {t : DTT} (h : DW X T W e t) : DT X T W e t := L2.PW.pt h
def dAnd (t u : DTT) : DTT := fun r S Q E => t r S (fun c S1 => if c = true then u r S1 Q E else Q false S1) E
def dOr (t u : DTT) : DTT := fun r S Q E => t r S (fun c S1 => if c = true then Q true S1 else u r S1 Q E) E
def dNot (t : DTT) : DTT := fun r S Q E => t r S (fun c S1 => Q (!c) S1) E
theorem dw_and1 (ha : DT X T W a tA) : DW X T W (.BoolOp .And [a] pos) tA := pw_and1 ha
theorem dw_or1 (ha : DT X T W a tA) : DW X T W (.BoolOp .Or [a] pos) tA := pw_or1 ha
theorem dw_and (ha : DT X T W a tA) (hb : DW X T W (.BoolOp .And (b :: rest) pos) tB') : DW X T W (.BoolOp .And (a :: b :: rest) pos) (dAnd tA tB') := PW.imp (pw_and ha hb) fun σ H Q h => by
  obtain ⟨g, r, S, Qd, Ed, rl, h, hq, hx⟩ := h
  refine ⟨g, r, S, _, Ed, rl, h, fun k S1 g1 H1 h1 x1 rl1 => ?_, hx⟩
  cases k with
  | true => exact ⟨g1, r, S1, Qd, Ed, rl1, h1, fun k S2 g2 H2 h2 x2 rl2 => hq k S2 g2 H2 h2 (x1.trans x2) rl2, hx.ext x1⟩
  | false => exact hq false S1 g1 H1 h1 x1 rl1
theorem dw_or (ha : DT X T W a tA) (hb : DW X T W (.BoolOp .Or (b :: rest) pos) tB') : DW X T W (.BoolOp .Or (a :: b :: rest) pos) (dOr tA tB') := PW.imp (pw_or ha hb) fun σ H Q h => by
  obtain ⟨g, r, S, Qd, Ed, rl, h, hq, hx⟩ := h
  refine ⟨g, r, S, _, Ed, rl, h, fun k S1 g1 H1 h1 x1 rl1 => ?_, hx⟩
  cases k with
  | false => exact ⟨g1, r, S1, Qd, Ed, rl1, h1, fun k S2 g2 H2 h2 x2 rl2 => hq k S2 g2 H2 h2 (x1.trans x2) rl2, hx.ext x1⟩
  | true => exact hq true S1 g1 H1 h1 x1 rl1
theorem dt_not (ha : DT X T W a tA) : DT X T W (.UnaryOp .Not a pos) (dNot tA) := PT.imp (pt_not ha) fun σ H Q h => by
  obtain ⟨g, r, S, Qd, Ed, rl, h, hq, hx⟩ := h
  exact ⟨g, r, S, _, Ed, rl, h, fun k S1 g1 H1 h1 x1 rl1 => hq (!k) S1 g1 H1 h1 x1 rl1, hx⟩
/-- as values -/
def dAndV (t u : DTE) : DTE := fun r S Q E => t r S (fun x S1 => ∃ c, x = .bl c ∧ if c = true then u r S1 Q E else Q (.bl false) S1) E
def dOrV (t u : DTE) : DTE := fun r S Q E => t r S (fun x S1 => ∃ c, x = .bl c ∧ if c = true then Q (.bl true) S1 else u r S1 Q E) E
def dNotV (t : DTE) : DTE := fun r S Q E => t r S (fun x S1 => ∃ c, x = .bl c ∧ Q (.bl (!c)) S1) E
theorem de_one {op} (h : DE X T W a ta) : DE X T W (.BoolOp op [a] pos) ta := pe_one h
theorem de_and (ha : DE X T W a ta) (hb : DE X T W (.BoolOp .And (b :: rest) pos) tb) : DE X T W (.BoolOp .And (a :: b :: rest) pos) (dAndV ta tb) := PE.imp (pe_and ha hb) fun σ H Q h => by
  obtain ⟨g, r, S, Qd, Ed, rl, h, hq, hx⟩ := h
  refine ⟨g, r, S, _, Ed, rl, h, fun d S1 g1 H1 v h1 x1 rl1 rp1 => ?_, hx⟩
  obtain ⟨k, rfl, h1⟩ := h1
  have e : v = .bl k := rp1
  refine ⟨k, e, ?_⟩
  cases k with
  | true => exact ⟨g1, r, S1, Qd, Ed, rl1, h1, fun k S2 g2 H2 v2 h2 x2 rl2 rp2 => hq k S2 g2 H2 v2 h2 (x1.trans x2) rl2 rp2, hx.ext x1⟩
  | false => exact hq _ S1 g1 H1 _ h1 x1 rl1 rfl
theorem de_or (ha : DE X T W a ta) (hb : DE X T W (.BoolOp .Or (b :: rest) pos) tb) : DE X T W (.BoolOp .Or (a :: b :: rest) pos) (dOrV ta tb) := PE.imp (pe_or ha hb) fun σ H Q h => by
  obtain ⟨g, r, S, Qd, Ed, rl, h, hq, hx⟩ := h
  refine ⟨g, r, S, _, Ed, rl, h, fun d S1 g1 H1 v h1 x1 rl1 rp1 => ?_, hx⟩
  obtain ⟨k, rfl, h1⟩ := h1
  have e : v = .bl k := rp1
  refine ⟨k, e, ?_⟩
  cases k with
  | false => exact ⟨g1, r, S1, Qd, Ed, rl1, h1, fun k S2 g2 H2 v2 h2 x2 rl2 rp2 => hq k S2 g2 H2 v2 h2 (x1.trans x2) rl2 rp2, hx.ext x1⟩
  | true => exact hq _ S1 g1 H1 _ h1 x1 rl1 rfl
theorem de_not (ha : DE X T W a ta) : DE X T W (.UnaryOp .Not a pos) (dNotV ta) := PE.imp (pe_not ha) fun σ H Q h => by
  obtain ⟨g, r, S, Qd, Ed, rl, h, hq, hx⟩ := h
  refine ⟨g, r, S, _, Ed, rl, h, fun d S1 g1 H1 v h1 x1 rl1 rp1 => ?_, hx⟩
  obtain ⟨k, rfl, h1⟩ := h1
  have e : v = .bl k := rp1
  exact ⟨k, e, hq _ S1 g1 H1 _ h1 x1 rl1 rfl⟩
def dIf (t : DTT) (u v : DTE) : DTE := fun r S Q E => t r S (fun c S1 => if c = true then u r S1 Q E else v r S1 Q E) E
theorem de_ifExp (hc : DT X T W c tA) (ha : DE X T W a ta) (hb : DE X T W b tb) : DE X T W (.IfExp c a b pos) (dIf tA ta tb) := PE.imp (pe_ifExp hc ha hb) fun σ H Q h => by
  obtain ⟨g, r, S, Qd, Ed, rl, h, hq, hx⟩ := h
  refine ⟨g, r, S, _, Ed, rl, h, fun k S1 g1 H1 h1 x1 rl1 => ?_, hx⟩
  cases k with
  | true => exact ⟨g1, r, S1, Qd, Ed, rl1, h1, fun k S2 g2 H2 v2 h2 x2 rl2 rp2 => hq k S2 g2 H2 v2 h2 (x1.trans x2) rl2 rp2, hx.ext x1⟩
  | false => exact ⟨g1, r, S1, Qd, Ed, rl1, h1, fun k S2 g2 H2 v2 h2 x2 rl2 rp2 => hq k S2 g2 H2 v2 h2 (x1.trans x2) rl2 rp2, hx.ext x1⟩
/-- a op b op' c -/
def dChain (f f' : Store → D → D → D → Prop) (ta tb tc : DTE) : DTE := fun r S Q E => ta r S (fun x S1 => tb r S1 (fun y S2 => ∃ k, f S2 x y (.bl k) ∧
  (if k = true then tc r S2 (fun z S3 => ∃ w, f' S3 y z w ∧ Q w S3) E else Q (.bl false) S2)) E) E
theorem lift_chain {f f' : Store → D → D → D → Prop} {K : PySem.W.Frag} {σ : L2.St} {H : Hp} {Q : VK} (h : lift K T W (dChain f f' ta tb tc) σ H Q) : tChain (rD K T f) (rD K T f') (lift K T W ta) (lift K T W tb) (lift K T W tc) σ H Q := by
  obtain ⟨g, r, S, Qd, Ed, rl, h, hq, hx⟩ := h
  refine ⟨g, r, S, _, Ed, rl, h, fun d S1 g1 H1 v h1 x1 rl1 rp1 => ?_, hx⟩
  refine ⟨g1, r, S1, _, Ed, rl1, h1, fun d2 S2 g2 H2 v2 h2 x2 rl2 rp2 => ?_, hx.ext x1⟩
  obtain ⟨k, hf, hz⟩ := h2
  refine ⟨g2, S2, d, d2, .bl k, rl2.good, Rep.ext x2 _ _ rp1, rp2, hf, fun v' H' s rp => ?_⟩
  have e : v' = .bl k := rp
  refine ⟨k, e, ?_⟩
  have x3 := (x1.trans x2).trans (Ext.same (g := g2) s)
  cases k with
  | false => exact hq _ S2 g2 H' _ hz x3 (rl2.same s) rfl
  | true =>
    refine ⟨g2, r, S2, _, Ed, rl2.same s, hz, fun d4 S4 g4 H4 v4 h4 x4 rl4 rp4 => ?_, hx.ext x3⟩
    obtain ⟨w, hw, hQ⟩ := h4
    exact ⟨g4, S4, d2, d4, w, rl4.good, Rep.ext ((Ext.same s).trans x4) _ _ rp2, rp4, hw, fun v5 H5 s5 rp5 => hq w S4 g4 H5 v5 hQ ((x3.trans x4).trans (Ext.same s5)) (rl4.same s5) rp5⟩
theorem de_chain {op op' : CmpOp} {f f' : Store → D → D → D → Prop} (ho : OpR X (compareOp op) (rD X.K T f)) (ho' : OpR X (compareOp op') (rD X.K T f')) (ha : DE X T W a ta) (hb : DE X T W b tb) (hc : DE X T W c tc)
    (hm : lastMarks [op, op'] [b, c] = false := by with_unfolding_all rfl) : DE X T W (.Compare a [op, op'] [b, c] pos) (dChain f f' ta tb tc) := PE.imp (pe_chain ho ho' ha hb hc hm) fun σ H Q h => lift_chain h
theorem dt_chain {op op' : CmpOp} {f f' : Store → D → D → D → Prop} (ho : OpR X (compareOp op) (rD X.K T f)) (ho' : OpR X (compareOp op') (rD X.K T f')) (ha : DE X T W a ta) (hb : DE X T W b tb) (hc : DE X T W c tc)
    (hm : lastMarks [op, op'] [b, c] = false := by with_unfolding_all rfl) : DT X T W (.Compare a [op, op'] [b, c] pos) (dB (dChain f f' ta tb tc)) := PT.imp (pt_chain ho ho' ha hb hc hm) fun σ H Q h => by
    obtain ⟨g, r, S, Qd, Ed, rl, h, hq, hx⟩ := h
    refine lift_chain ⟨g, r, S, _, Ed, rl, h, fun d S1 g1 H1 v h1 x1 rl1 rp1 => ?_, hx⟩
    obtain ⟨k, rfl, h1⟩ := h1
    have e : v = .bl k := rp1
    exact ⟨k, e, hq k S1 g1 H1 h1 x1 rl1⟩

/-! ### argument lists, displays -/
def dNil : DTA := fun _ S Q _ => Q [] S
def dCons (t : DTE) (u : DTA) : DTA := fun r S Q E => t r S (fun d S1 => u r S1 (fun ds S2 => Q (d :: ds) S2) E) E
theorem da_nil : DA X T W [] dNil := PA.imp pa_nil fun σ H Q ⟨g, r, S, Qd, Ed, rl, h, hq, hx⟩ => hq [] S g H [] h (Ext.refl g H) rl rfl
theorem da_cons (ha : DE X T W a ta) (hr : DA X T W es tes) (hs : starEach (a :: es) X.env = (false, eval a X.env) :: starEach es X.env := by rfl) : DA X T W (a :: es) (dCons ta tes) := PA.imp (pa_cons ha hr hs) fun σ H Q ⟨g, r, S, Qd, Ed, rl, h, hq, hx⟩ => by
  refine ⟨g, r, S, _, Ed, rl, h, fun d S1 g1 H1 v h1 x1 rl1 rp1 => ?_, hx⟩
  exact ⟨g1, r, S1, _, Ed, rl1, h1, fun ds S2 g2 H2 vs h2 x2 rl2 rp2 => hq _ S2 g2 H2 _ h2 (x1.trans x2) rl2 ⟨v, vs, rfl, Rep.ext x2 _ _ rp1, rp2⟩, hx.ext x1⟩
/-- a new tuple; a new list that stands still; a new list of the store -/
def dTup (t : DTA) : DTE := fun r S Q E => t r S (fun ds S1 => ds.length ≤ sizeLine ∧ Q (.tup ds) S1) E
def dLst (t : DTA) : DTE := fun r S Q E => t r S (fun ds S1 => ds.length ≤ sizeLine ∧ Q (.lst ds) S1) E
def dLstS (t : DTA) : DTE := fun r S Q E => t r S (fun ds S1 => ds.length ≤ sizeLine ∧ Q (.ref S1.length) (S1 ++ [.lst ds])) E
theorem Rep.tupNew {K : PySem.W.Frag} {g : Gh} {S : Store} {H : Hp} {ds : List D} {vs : List V} (h : GoodS K T g S H) (r : Reps K g H ds vs) {p : Addr} (e : H p = none) : Rep K g (upd H p (.tup vs)) (.tup ds) (.ref p) :=
  ⟨p, vs, rfl, ⟨upd_same, h.notOff e⟩, Reps.ext (Ext.same (same_upd e)) _ _ r⟩
theorem Rep.lstNew {K : PySem.W.Frag} {g : Gh} {S : Store} {H : Hp} {ds : List D} {vs : List V} (h : GoodS K T g S H) (r : Reps K g H ds vs) {p : Addr} (e : H p = none) : Rep K g (upd H p (.lst vs)) (.lst ds) (.ref p) :=
  ⟨p, vs, rfl, ⟨upd_same, h.notOff e⟩, Reps.ext (Ext.same (same_upd e)) _ _ r⟩
theorem de_tup {x1} (h : DA X T W es tes) : DE X T W (.Tuple es x1 pos) (dTup tes) := PE.imp (pe_tup h) fun σ H Q ⟨g, r, S, Qd, Ed, rl, h, hq, hx⟩ => by
  refine ⟨g, r, S, _, Ed, rl, h, fun ds S1 g1 H1 vs ⟨h1, h2⟩ x1 rl1 rp1 => ⟨by rw [← rp1.length]; exact h1, fun p hp => ?_⟩, hx⟩
  exact hq _ S1 g1 _ _ h2 (x1.trans (Ext.same (same_upd hp))) (rl1.same (same_upd hp)) (Rep.tupNew rl1.good rp1 hp)
theorem de_lst (h : DA X T W es tes) : DE X T W (.List es pos) (dLst tes) := PE.imp (pe_lst h) fun σ H Q ⟨g, r, S, Qd, Ed, rl, h, hq, hx⟩ => by
  refine ⟨g, r, S, _, Ed, rl, h, fun ds S1 g1 H1 vs ⟨h1, h2⟩ x1 rl1 rp1 => ⟨by rw [← rp1.length]; exact h1, fun p hp => ?_⟩, hx⟩
  exact hq _ S1 g1 _ _ h2 (x1.trans (Ext.same (same_upd hp))) (rl1.same (same_upd hp)) (Rep.lstNew rl1.good rp1 hp)
theorem Rel.new {K : PySem.W.Frag} {g : Gh} {r : Sl} {S : Store} {σ : L2.St} {H : Hp} (h : Rel K T g r S σ H) {p : Addr} (e : H p = none) {u : HO} {o : O} (ho : ORep K ⟨g.ps ++ [p], g.hs⟩ (upd H p u) p o) : Rel K T ⟨g.ps ++ [p], g.hs⟩ r (S ++ [o]) σ (upd H p u) :=
  ⟨h.good.new e ho, h.len, fun i d q => let ⟨v, e1, q1⟩ := h.sl i d q; ⟨v, e1, Rep.ext (Ext.new e) _ _ q1⟩⟩
theorem de_lstS (h : DA X T W es tes) : DE X T W (.List es pos) (dLstS tes) := PE.imp (pe_lst h) fun σ H Q ⟨g, r, S, Qd, Ed, rl, h, hq, hx⟩ => by
  refine ⟨g, r, S, _, Ed, rl, h, fun ds S1 g1 H1 vs ⟨h1, h2⟩ x1 rl1 rp1 => ⟨by rw [← rp1.length]; exact h1, fun p hp => ?_⟩, hx⟩
  refine hq _ _ ⟨g1.ps ++ [p], g1.hs⟩ _ _ h2 (x1.trans (Ext.new hp)) (rl1.new hp ⟨vs, upd_same, Reps.ext (Ext.new hp) _ _ rp1⟩) ⟨p, rfl, ?_⟩
  rw [← rl1.good.len]
  simp
/-! ### statements -/
structure DEnds where
  nx : Sl → Store → Prop
  rt : D → Store → Prop
  ex : Xc → Sl → Store → Prop
  bk : Sl → Store → Prop := fun _ _ => False
  ct : Sl → Store → Prop := fun _ _ => False
abbrev DTS := DEnds → Sl → Store → Prop
/-- what the ends at the D level say of the ends below -/
structure EOk (K : PySem.W.Frag) (T : List (Addr × Str)) (W : WX) (g : Gh) (H : Hp) (d : DEnds) (N : Ends) : Prop where
  nx : ∀ r' S' g' σ' H', d.nx r' S' → Ext g H g' H' → Rel K T g' r' S' σ' H' → N.nx σ' H'
  rt : ∀ d0 S' g' H' v, d.rt d0 S' → Ext g H g' H' → GoodS K T g' S' H' → Rep K g' H' d0 v → N.rt v H'
  ex : ∀ x r' S' g' σ' H' c dd, d.ex x r' S' → Ext g H g' H' → Rel K T g' r' S' σ' H' → XRep K g' H' x c dd → W c dd σ' H'
  bk : ∀ r' S' g' σ' H', d.bk r' S' → Ext g H g' H' → Rel K T g' r' S' σ' H' → N.bk σ' H'
  ct : ∀ r' S' g' σ' H', d.ct r' S' → Ext g H g' H' → Rel K T g' r' S' σ' H' → N.ct σ' H'
theorem EOk.ext {K : PySem.W.Frag} {g g' : Gh} {H H' : Hp} {d : DEnds} {N : Ends} (e : EOk K T W g H d N) (x : Ext g H g' H') : EOk K T W g' H' d N :=
  ⟨fun r2 S2 g2 σ2 H2 h x2 rl => e.nx r2 S2 g2 σ2 H2 h (x.trans x2) rl, fun d0 S2 g2 H2 v h x2 rl rp => e.rt d0 S2 g2 H2 v h (x.trans x2) rl rp, fun y r2 S2 g2 σ2 H2 c dd h x2 rl rp => e.ex y r2 S2 g2 σ2 H2 c dd h (x.trans x2) rl rp,
    fun r2 S2 g2 σ2 H2 h x2 rl => e.bk r2 S2 g2 σ2 H2 h (x.trans x2) rl, fun r2 S2 g2 σ2 H2 h x2 rl => e.ct r2 S2 g2 σ2 H2 h (x.trans x2) rl⟩
def liftS (K : PySem.W.Frag) (T : List (Addr × Str)) (W : WX) (t : DTS) : TS := fun N σ H => ∃ g r S d, Rel K T g r S σ H ∧ t d r S ∧ EOk K T W g H d N
def DS (X : Cx) (T : List (Addr × Str)) (W : WX) (s : Stmt) (t : DTS) : Prop := PS X s (liftS X.K T W t)
def DSs (X : Cx) (T : List (Addr × Str)) (W : WX) (s : List Stmt) (t : DTS) : Prop := PSs X s (liftS X.K T W t)
/-- the exceptions of an expression in a statement -/
theorem EOk.wok {K : PySem.W.Frag} {g : Gh} {H : Hp} {d : DEnds} {N : Ends} (e : EOk K T W g H d N) (r : Sl) (σ : L2.St) : WOk K T W g H r σ (fun x S => d.ex x r S) := fun x S' g' H' c dd h x1 rl xr => e.ex x r S' g' σ H' c dd h x1 rl xr
variable {st : Stmt} {sts sts' : List Stmt} {t u : DTS}
def dNext : DTS := fun d r S => d.nx r S
def dSeq (t u : DTS) : DTS := fun d r S => t { d with nx := u d } r S
theorem dss_nil : DSs X T W [] dNext := PSs.imp pss_nil fun N σ H ⟨g, r, S, d, rl, h, e⟩ => e.nx r S g σ H h (Ext.refl g H) rl
theorem dss_cons (h1 : DS X T W st t) (h2 : DSs X T W sts u) : DSs X T W (st :: sts) (dSeq t u) := PSs.imp (pss_cons h1 h2) fun N σ H ⟨g, r, S, d, rl, h, e⟩ =>
  ⟨g, r, S, { d with nx := u d }, rl, h, ⟨fun r' S' g' σ' H' q x rl' => ⟨g', r', S', d, rl', q, e.ext x⟩, e.rt, e.ex, e.bk, e.ct⟩⟩
theorem dss_one (h1 : DS X T W st t) : DSs X T W [st] t := pss_one h1
theorem ds_pass : DS X T W (.Pass pos) dNext := PS.imp ps_pass fun N σ H ⟨g, r, S, d, rl, h, e⟩ => e.nx r S g σ H h (Ext.refl g H) rl
def dBreak : DTS := fun d r S => d.bk r S
def dCont : DTS := fun d r S => d.ct r S
theorem ds_break : DS X T W (.Break pos) dBreak := PS.imp ps_break fun N σ H ⟨g, r, S, d, rl, h, e⟩ => e.bk r S g σ H h (Ext.refl g H) rl
theorem ds_continue : DS X T W (.Continue pos) dCont := PS.imp ps_continue fun N σ H ⟨g, r, S, d, rl, h, e⟩ => e.ct r S g σ H h (Ext.refl g H) rl
def dExpr (t : DTE) : DTS := fun d r S => t r S (fun _ S1 => d.nx r S1) (fun x S1 => d.ex x r S1)
theorem ds_expr (h : DE X T W a ta) (hs : swapsWith a none pos.line X.env = pure false := by rfl) : DS X T W (.Expr a pos) (dExpr ta) := PS.imp (ps_expr h hs) fun N σ H ⟨g, r, S, d, rl, h, e⟩ =>
  ⟨g, r, S, _, _, rl, h, fun d1 S1 g1 H1 v h1 x1 rl1 rp1 => e.nx r S1 g1 σ H1 h1 x1 rl1, e.wok r σ⟩
def dRet (t : DTE) : DTS := fun d r S => t r S (fun x S1 => d.rt x S1) (fun x S1 => d.ex x r S1)
theorem ds_ret (h : DE X T W a ta) : DS X T W (.Return (some a) pos) (dRet ta) := PS.imp (ps_ret h) fun N σ H ⟨g, r, S, d, rl, h, e⟩ =>
  ⟨g, r, S, _, _, rl, h, fun d1 S1 g1 H1 v h1 x1 rl1 rp1 => e.rt d1 S1 g1 H1 v h1 x1 rl1.good rp1, e.wok r σ⟩
def dIfS (c : DTT) (t u : DTS) : DTS := fun d r S => c r S (fun b S1 => if b = true then t d r S1 else u d r S1) (fun x S1 => d.ex x r S1)
theorem ds_if (hc : DT X T W c tA) (ha : DSs X T W sts t) (hb : DSs X T W sts' u) : DS X T W (.If c sts sts' pos) (dIfS tA t u) := PS.imp (ps_if hc ha hb) fun N σ H ⟨g, r, S, d, rl, h, e⟩ => by
  refine ⟨g, r, S, _, _, rl, h, fun b S1 g1 H1 h1 x1 rl1 => ?_, e.wok r σ⟩
  cases b with
  | true => exact ⟨g1, r, S1, d, rl1, h1, e.ext x1⟩
  | false => exact ⟨g1, r, S1, d, rl1, h1, e.ext x1⟩
/-! ### targets -/
abbrev DTG := D → Sl → Store → (Sl → Store → Prop) → Prop
def liftG (K : PySem.W.Frag) (T : List (Addr × Str)) (t : DTG) : TG := fun v σ H Q => ∃ g r S d Qd, Rel K T g r S σ H ∧ Rep K g H d v ∧ t d r S Qd ∧ ∀ r' S' g' σ' H', Qd r' S' → Ext g H g' H' → Rel K T g' r' S' σ' H' → Q σ' H'
def liftGs (K : PySem.W.Frag) (T : List (Addr × Str)) (t : List D → Sl → Store → (Sl → Store → Prop) → Prop) : TGs := fun vs σ H Q => ∃ g r S ds Qd, Rel K T g r S σ H ∧ Reps K g H ds vs ∧ t ds r S Qd ∧ ∀ r' S' g' σ' H', Qd r' S' → Ext g H g' H' → Rel K T g' r' S' σ' H' → Q σ' H'
def DG (X : Cx) (T : List (Addr × Str)) (e : Expr) (t : DTG) : Prop := PG X e (liftG X.K T t)
def DGs (X : Cx) (T : List (Addr × Str)) (e : List Expr) (t : List D → Sl → Store → (Sl → Store → Prop) → Prop) : Prop := PGs X e (liftGs X.K T t)
theorem PG.imp {e : Expr} {t t' : TG} (h : PG X e t) (i : ∀ v σ H Q, t' v σ H Q → t v σ H Q) : PG X e t' := ⟨fun pins s σ H v u Q I r q => h.run pins s σ H v u Q I r (i v σ H Q q)⟩
theorem PGs.imp {e : List Expr} {t t' : TGs} (h : PGs X e t) (i : ∀ v σ H Q, t' v σ H Q → t v σ H Q) : PGs X e t' := ⟨fun pins s σ H v u Q I r q => h.run pins s σ H v u Q I r (i v σ H Q q)⟩
theorem Rel.set {K : PySem.W.Frag} {g : Gh} {r : Sl} {S : Store} {σ : L2.St} {H : Hp} (h : Rel K T g r S σ H) {d : D} {v : V} (rp : Rep K g H d v) (i : Nat) : Rel K T g (r.set i (some d)) S (σ.set i (some v)) H :=
  ⟨h.good, by simp [h.len], fun j d' q => by
    by_cases hj : i = j
    · subst hj
      by_cases hi : i < r.length
      · rw [List.getElem?_set_self hi] at q
        cases q
        exact ⟨v, List.getElem?_set_self (by rw [← h.len]; exact hi), rp⟩
      · rw [List.getElem?_eq_none (by simpa using hi)] at q; cases q
    · rw [List.getElem?_set_ne hj] at q
      rw [List.getElem?_set_ne hj]
      exact h.sl j d' q⟩
def dgName (i : Nat) : DTG := fun d r S Q => Q (r.set i (some d)) S
theorem dg_of {e : Expr} {i : Nat} (h : PG X e (gName i)) : DG X T e (dgName i) := PG.imp h fun v σ H Q ⟨g, r, S, d, Qd, rl, rp, h, hq⟩ => hq _ S g _ H h (Ext.refl g H) (rl.set rp i)
theorem dg_name {i : Nat} {x : Str} (hN : X.N.Nodup) (hi : X.N[i]? = some x) (hx : Loc X.env.scope x) (hf : X.fn x = true ∨ X.env.scope.names.lookup x = some .local := by first | exact .inl rfl | exact .inr rfl | assumption) : DG X T (.Name x pos) (dgName i) := dg_of (pg_name hN hi hx hf)
def dgNil : List D → Sl → Store → (Sl → Store → Prop) → Prop := fun ds r S Q => ds = [] ∧ Q r S
def dgCons (t : DTG) (u : List D → Sl → Store → (Sl → Store → Prop) → Prop) : List D → Sl → Store → (Sl → Store → Prop) → Prop := fun ds r S Q => ∃ d q, ds = d :: q ∧ t d r S fun r' S' => u q r' S' Q
theorem dgs_nil : DGs X T [] dgNil := PGs.imp pgs_nil fun v σ H Q ⟨g, r, S, ds, Qd, rl, rp, ⟨e, h⟩, hq⟩ => by
  subst e
  exact ⟨rp, hq r S g σ H h (Ext.refl g H) rl⟩
theorem dgs_cons {e : Expr} {t : DTG} {u : List D → Sl → Store → (Sl → Store → Prop) → Prop} (h1 : DG X T e t) (h2 : DGs X T es u)
    (hs : (assignEach (e :: es) X.env).map (·.2) = assign e X.env :: (assignEach es X.env).map (·.2) := by rfl) : DGs X T (e :: es) (dgCons t u) := PGs.imp (pgs_cons h1 h2 hs) fun vs σ H Q ⟨g, r, S, ds, Qd, rl, rp, ⟨d, q, e, h⟩, hq⟩ => by
  subst e
  obtain ⟨v, vr, e2, r1, r2⟩ := rp
  subst e2
  refine ⟨v, vr, rfl, g, r, S, d, _, rl, r1, h, fun r' S' g' σ' H' q1 x1 rl1 => ?_⟩
  exact ⟨g', r', S', q, _, rl1, Reps.ext x1 _ _ r2, q1, fun r2' S2 g2 σ2 H2 q2 x2 rl2 => hq r2' S2 g2 σ2 H2 q2 (x1.trans x2) rl2⟩
/-- (a, b, ..) = a tuple -/
def dgTup (n : Nat) (t : List D → Sl → Store → (Sl → Store → Prop) → Prop) : DTG := fun d r S Q => ∃ ds, d = .tup ds ∧ ds.length = n ∧ t ds r S Q
theorem Rep.tup_sq {K : PySem.W.Frag} {g : Gh} {H : Hp} {ds : List D} {v : V} (h : Rep K g H (.tup ds) v) : ∃ a vs, v = .ref a ∧ SqT K H a vs ∧ Reps K g H ds vs := by
  obtain ⟨a, vs, e, h, r⟩ := h
  exact ⟨a, vs, e, .inl (.inl h.1), r⟩
theorem Rep.lst_sq {K : PySem.W.Frag} {g : Gh} {H : Hp} {ds : List D} {v : V} (h : Rep K g H (.lst ds) v) : ∃ a vs, v = .ref a ∧ SqL K H a vs ∧ Reps K g H ds vs := by
  obtain ⟨a, vs, e, h, r⟩ := h
  exact ⟨a, vs, e, .inl (.inl h.1), r⟩
theorem dg_tup {k n : Nat} {t : List D → Sl → Store → (Sl → Store → Prop) → Prop} (hc : X.calm = true) (h : DGs X T es t)
    (hn : (assignEach es X.env).length = n := by rfl) (hst : (assignEach es X.env).findIdx? (·.1) = none := by rfl) : DG X T (.Tuple es k pos) (dgTup n t) := PG.imp (pg_tup hc h hn hst) fun v σ H Q ⟨g, r, S, d, Qd, rl, rp, ⟨ds, e, hl, h⟩, hq⟩ => by
  subst e
  obtain ⟨a, vs, e2, sq, rs⟩ := rp.tup_sq
  exact ⟨a, vs, e2, sq, by rw [← rs.length]; exact hl, g, r, S, ds, Qd, rl, rs, h, hq⟩
def dAsg (t : DTE) (g : DTG) : DTS := fun d r S => t r S (fun x S1 => g x r S1 d.nx) (fun x S1 => d.ex x r S1)
theorem ds_asg {tg : Expr} {g : DTG} (he : DE X T W a ta) (hg : DG X T tg g) (hs : swapsWithSole [tg] a pos.line X.env = pure false := by rfl) (hw : swappedStores [tg] a X.env = pure none := by rfl)
    (h1 : (assignEach [tg] X.env).map (·.2) = [assign tg X.env] := by rfl) : DS X T W (.Assign [tg] a pos) (dAsg ta g) := PS.imp (ps_asg he hg hs hw h1) fun N σ H ⟨g, r, S, d, rl, h, e⟩ =>
  ⟨g, r, S, _, _, rl, h, fun d1 S1 g1 H1 v h1 x1 rl1 rp1 => ⟨g1, r, S1, d1, _, rl1, rp1, h1, fun r' S' g' σ' H' q x2 rl2 => e.nx r' S' g' σ' H' q (x1.trans x2) rl2⟩, e.wok r σ⟩
theorem ds_set {i : Nat} {x : Str} {pos' : Pos} (hN : X.N.Nodup) (hi : X.N[i]? = some x) (hx : Loc X.env.scope x) (he : DE X T W a ta) (hs : swapsWith a (some (.Name x pos')) pos.line X.env = pure false := by rfl) (hf : X.fn x = true ∨ X.env.scope.names.lookup x = some .local := by first | exact .inl rfl | exact .inr rfl | assumption) :
    DS X T W (.Assign [.Name x pos'] a pos) (dAsg ta (dgName i)) := PS.imp (ps_set hN hi hx he hs hf) fun N σ H ⟨g, r, S, d, rl, h, e⟩ =>
  ⟨g, r, S, _, _, rl, h, fun d1 S1 g1 H1 v h1 x1 rl1 rp1 => e.nx _ S1 g1 _ H1 h1 x1 (rl1.set rp1 i), e.wok r σ⟩
/-- a, b = x, y of plain local names -/
def dPar (i j : Nat) (t : DTA) : DTS := fun d r S => t r S (fun ds S1 => ∃ v w, ds = [v, w] ∧ d.nx ((r.set i (some v)).set j (some w)) S1) (fun x S1 => d.ex x r S1)
theorem ds_par {i j : Nat} {x y : Str} {px py pt : Pos} {kt k2 pt2} (hc : X.calm = true) (hN : X.N.Nodup) (hi : X.N[i]? = some x) (hj : X.N[j]? = some y) (hij : i ≠ j)
    (hx : X.env.scope.names.lookup x = some .local) (hy : X.env.scope.names.lookup y = some .local) (ha : DA X T W [a, b] tes)
    (hw : swappedStores [.Tuple [.Name x px, .Name y py] kt pt] (.Tuple [a, b] k2 pt2) X.env = pure (some [x, y]))
    (hs : swapsWithSole [.Tuple [.Name x px, .Name y py] kt pt] (.Tuple [a, b] k2 pt2) pos.line X.env = pure false := by rfl) :
    DS X T W (.Assign [.Tuple [.Name x px, .Name y py] kt pt] (.Tuple [a, b] k2 pt2) pos) (dPar i j tes) := PS.imp (ps_par hc hN hi hj hij hx hy ha hw hs) fun N σ H ⟨g, r, S, d, rl, h, e⟩ => by
  refine ⟨g, r, S, _, _, rl, h, fun ds S1 g1 H1 vs ⟨v, w, e1, h1⟩ x1 rl1 rp1 => ?_, e.wok r σ⟩
  subst e1
  obtain ⟨v1, r1, rfl, p1, v2, r2, rfl, p2, rfl⟩ := rp1
  exact ⟨v1, v2, rfl, e.nx _ S1 g1 _ H1 h1 x1 ((rl1.set p1 i).set p2 j)⟩
/-- name op= e -/
def dAug (i : Nat) (t : DTE) (f : Store → D → D → D → Prop) : DTS := fun d r S => ∃ x, r[i]? = some (some x) ∧ t r S (fun y S1 => ∃ z, f S1 x y z ∧ d.nx (r.set i (some z)) S1) (fun x S1 => d.ex x r S1)
theorem ds_aug {i : Nat} {x : Str} {op : Operator} {pos' : Pos} {f : Store → D → D → D → Prop} (hN : X.N.Nodup) (hi : X.N[i]? = some x) (hx : Loc X.env.scope x) (he : DE X T W a ta) (ho : OpR X (inplaceOp op) (rD X.K T f)) (hf : X.fn x = true ∨ X.env.scope.names.lookup x = some .local := by first | exact .inl rfl | exact .inr rfl | assumption) :
    DS X T W (.AugAssign (.Name x pos') op a pos) (dAug i ta f) := PS.imp (ps_aug (ti := rD X.K T f) hN hi hx he (fun pins s σ H x y v u Q I r1 r2 h => ho pins s σ H x y v u Q I r1 r2 h) hf) fun N σ H ⟨g, r, S, d, rl, ⟨x, hx, h⟩, e⟩ => by
  obtain ⟨v, ev, rv⟩ := rl.sl i x hx
  refine ⟨v, ev, g, r, S, _, _, rl, h, fun y S1 g1 H1 w h1 x1 rl1 rp1 => ?_, e.wok r σ⟩
  obtain ⟨z, hf, hz⟩ := h1
  exact ⟨g1, S1, x, y, z, rl1.good, Rep.ext x1 _ _ rv, rp1, hf, fun v' H' s rp => e.nx _ S1 g1 _ H' hz (x1.trans (Ext.same s)) ((rl1.same s).set rp i)⟩
end
end DL
namespace DL
open PySem PySem.Spec PyProof.Rows L2
/-! ### what is walked -/
abbrev DTI := Sl → Store → (List D → Store → Prop) → DX → Prop
def Walks (K : PySem.W.Frag) (g : Gh) (H : Hp) (ds : List D) (J : It) : Prop := ∀ g2 H2, Ex0 g H g2 H2 →
  (∀ (i : Nat) d, ds[i]? = some d → J.go i H2 ∧ ∀ x H', J.yld i H2 x H' → Same H2 H' ∧ ∀ S T, GoodS K T g2 S H2 → Rep K g2 H' d x) ∧ J.stop ds.length H2
def liftI (K : PySem.W.Frag) (T : List (Addr × Str)) (W : WX) (t : DTI) : TI := fun σ H R => ∃ g r S Qd Ed, Rel K T g r S σ H ∧ t r S Qd Ed ∧
  (∀ ds S' g' H' J, Qd ds S' → Ext g H g' H' → Rel K T g' r S' σ H' → Walks K g' H' ds J → R J H') ∧ WOk K T W g H r σ Ed
def DI (X : Cx) (T : List (Addr × Str)) (W : WX) (tg e : Expr) (t : DTI) : Prop := PI X tg e (liftI X.K T W t)
theorem PI.imp {X : Cx} {tg e : Expr} {t t' : TI} (h : PI X tg e t) (i : ∀ σ H Q, t' σ H Q → t σ H Q) : PI X tg e t' := ⟨fun pins s σ H Q I q => h.run pins s σ H Q I (i σ H Q q)⟩
section
variable {X : Cx} {T : List (Addr × Str)} {W : WX} {a b c tg : Expr} {ta tb tc : DTE} {pos : Pos} {tA : DTT} {es : List Expr} {tes : DTA} {sts : List Stmt} {ts : DTS}
theorem walks_list {K : PySem.W.Frag} {g : Gh} {H : Hp} {a : Addr} {vs : List V} {ds : List D} (h : H a = some (.lst vs) ∧ ¬ g.off a) (r : Reps K g H ds vs) : Walks K g H ds (Itl K a) := fun g2 H2 x => by
  have h2 : SqL K H2 a vs := .inl (.inl (x.keep a _ h.1 h.2 (fun _ => nofun)).1)
  have r2 := Reps.ex0 (K := K) x _ _ r
  refine ⟨fun i d hd => ?_, ⟨vs, h2, by rw [r.length]; exact Nat.le_refl _⟩⟩
  obtain ⟨v, hv, rv⟩ := r2.get hd
  refine ⟨⟨vs, v, h2, hv⟩, fun x H' ⟨e, y⟩ => ?_⟩
  subst e
  refine ⟨Same.refl _, fun _ _ _ => ?_⟩
  have e2 := y vs h2
  rw [hv] at e2
  cases e2
  exact rv
theorem walks_tup {K : PySem.W.Frag} {g : Gh} {H : Hp} {a : Addr} {vs : List V} {ds : List D} (h : H a = some (.tup vs) ∧ ¬ g.off a) (r : Reps K g H ds vs) : Walks K g H ds (Itt K a) := fun g2 H2 x => by
  have h2 : SqT K H2 a vs := .inl (.inl (x.keep a _ h.1 h.2 (fun _ => nofun)).1)
  have r2 := Reps.ex0 (K := K) x _ _ r
  refine ⟨fun i d hd => ?_, ⟨vs, h2, by rw [r.length]; exact Nat.le_refl _⟩⟩
  obtain ⟨v, hv, rv⟩ := r2.get hd
  refine ⟨⟨vs, v, h2, hv⟩, fun x H' ⟨e, y⟩ => ?_⟩
  subst e
  refine ⟨Same.refl _, fun _ _ _ => ?_⟩
  have e2 := y vs h2
  rw [hv] at e2
  cases e2
  exact rv
/-- over a list that stands still; over a tuple -/
def diList (t : DTE) : DTI := fun r S Q E => t r S (fun d S1 => ∃ ds, d = .lst ds ∧ Q ds S1) E
def diTup (t : DTE) : DTI := fun r S Q E => t r S (fun d S1 => ∃ ds, d = .tup ds ∧ Q ds S1) E
theorem di_list (h : DE X T W a ta) : DI X T W tg a (diList ta) := PI.imp (pi_list h) fun σ H R ⟨g, r, S, Qd, Ed, rl, h, hq, hx⟩ => by
  refine ⟨g, r, S, _, Ed, rl, h, fun d S1 g1 H1 v ⟨ds, e, h1⟩ x1 rl1 rp1 => ?_, hx⟩
  subst e
  obtain ⟨p, vs, e2, hl, rs⟩ := rp1
  exact ⟨p, e2, ⟨vs, .inl (.inl hl.1)⟩, hq ds S1 g1 H1 _ h1 x1 rl1 (walks_list hl rs)⟩
theorem di_tup (h : DE X T W a ta) : DI X T W tg a (diTup ta) := PI.imp (pi_tup h) fun σ H R ⟨g, r, S, Qd, Ed, rl, h, hq, hx⟩ => by
  refine ⟨g, r, S, _, Ed, rl, h, fun d S1 g1 H1 v ⟨ds, e, h1⟩ x1 rl1 rp1 => ?_, hx⟩
  subst e
  obtain ⟨p, vs, e2, hl, rs⟩ := rp1
  exact ⟨p, e2, ⟨vs, .inl (.inl hl.1)⟩, hq ds S1 g1 H1 _ h1 x1 rl1 (walks_tup hl rs)⟩
/-! ### for -/
def dFor (ti : DTI) (tg : DTG) (tb : DTS) : DTS := fun d r S => ti r S (fun ds S1 => ∃ Iv : Nat → Sl → Store → Prop, Iv 0 r S1 ∧
  (∀ (i : Nat) x r S, ds[i]? = some x → Iv i r S → tg x r S fun r2 S2 => tb { d with nx := Iv (i + 1), ct := Iv (i + 1), bk := d.nx } r2 S2) ∧ (∀ r S, Iv ds.length r S → d.nx r S)) (fun x S1 => d.ex x r S1)
theorem ds_for {ti : DTI} {dg : DTG} (hp : PassesOwn (model X.prog X.w) X.A X.env X.xe) (hc : X.calm = true) (hi : DI X T W tg a ti) (hg : DG X T tg dg) (hb : DSs X T W sts ts)
    (hs : ∀ x, foldedSetIterable a X.env x = pure x := by intro _; rfl) : DS X T W (.For tg a sts [] pos) (dFor ti dg ts) := PS.imp (ps_for hp hc hi hg hb hs) fun N σ H ⟨g, r, S, d, rl, h, e⟩ => by
  refine ⟨g, r, S, _, _, rl, h, fun ds S1 g1 H1 J ⟨Iv, h0, hst, hen⟩ x1 rl1 wk => ?_, e.wok r σ⟩
  refine ⟨fun i m σ H => m = ds.length - i ∧ i ≤ ds.length ∧ ∃ g' r' S', Rel X.K T g' r' S' σ H ∧ Iv i r' S' ∧ Ext g1 H1 g' H, ⟨ds.length, by simp, Nat.zero_le _, g1, r, S1, rl1, h0, Ext.refl _ _⟩, ?_⟩
  rintro i m σ' H' ⟨rfl, hi, g', r', S', rl', iv, x'⟩
  obtain ⟨w1, w2⟩ := wk g' H' x'.ex0
  by_cases hlt : i < ds.length
  · obtain ⟨go, yl⟩ := w1 i ds[i] (List.getElem?_eq_getElem hlt)
    refine .inr ⟨go, fun σ2 H2 => ∃ g2 r2 S2, Rel X.K T g2 r2 S2 σ2 H2 ∧ Iv (i + 1) r2 S2 ∧ Ext g1 H1 g2 H2, fun σ2 H2 q => ⟨ds.length - (i + 1), by omega, rfl, hlt, q⟩, fun x H2 y => ?_⟩
    obtain ⟨sm, rp⟩ := yl x H2 y
    have rp := rp S' T rl'.good
    have x2 := x'.trans (Ext.same (g := g') sm)
    refine ⟨g', r', S', ds[i], _, rl'.same sm, rp, hst i ds[i] r' S' (List.getElem?_eq_getElem hlt) iv, fun r3 S3 g3 σ3 H3 q3 x3 rl3 => ?_⟩
    have x13 := x2.trans x3
    refine ⟨g3, r3, S3, _, rl3, q3, ⟨fun r4 S4 g4 σ4 H4 q4 x4 rl4 => ⟨g4, r4, S4, rl4, q4, x13.trans x4⟩, fun d0 S4 g4 H4 v q4 x4 gd rp4 => e.rt d0 S4 g4 H4 v q4 ((x1.trans x13).trans x4) gd rp4,
      fun y r4 S4 g4 σ4 H4 c dd q4 x4 rl4 xr => e.ex y r4 S4 g4 σ4 H4 c dd q4 ((x1.trans x13).trans x4) rl4 xr, fun r4 S4 g4 σ4 H4 q4 x4 rl4 => e.nx r4 S4 g4 σ4 H4 q4 ((x1.trans x13).trans x4) rl4, fun r4 S4 g4 σ4 H4 q4 x4 rl4 => ⟨g4, r4, S4, rl4, q4, x13.trans x4⟩⟩⟩
  · have e2 : i = ds.length := by omega
    subst e2
    exact .inl ⟨w2, e.nx r' S' g' σ' H' (hen r' S' iv) (x1.trans x') rl'⟩
/-! ### while -/
def dWhile (c : DTT) (tb : DTS) : DTS := fun d r S => ∃ Iv : Nat → Sl → Store → Prop, (∃ m, Iv m r S) ∧ ∀ m r S, Iv m r S →
  c r S (fun b S1 => if b = true then tb { d with nx := fun r' S' => ∃ m', m' < m ∧ Iv m' r' S', ct := fun r' S' => ∃ m', m' < m ∧ Iv m' r' S', bk := d.nx } r S1 else d.nx r S1) (fun x S1 => d.ex x r S1)
theorem ds_while (hp : PassesOwn (model X.prog X.w) X.A X.env X.xe) (hc : DT X T W c tA) (hb : DSs X T W sts ts) : DS X T W (.While c sts [] pos) (dWhile tA ts) := PS.imp (ps_while hp hc hb) fun N σ H ⟨g, r, S, d, rl, ⟨Iv, ⟨m0, h0⟩, hst⟩, e⟩ => by
  refine ⟨fun m σ H2 => ∃ g' r' S', Rel X.K T g' r' S' σ H2 ∧ Iv m r' S' ∧ Ext g H g' H2, ⟨m0, g, r, S, rl, h0, Ext.refl _ _⟩, ?_⟩
  rintro m σ' H' ⟨g', r', S', rl', iv, x'⟩
  refine ⟨g', r', S', _, _, rl', hst m r' S' iv, fun b S1 g1 H1 h1 x1 rl1 => ?_, (e.ext x').wok r' σ'⟩
  have x2 := x'.trans x1
  cases b with
  | true =>
    refine ⟨fun σ2 H2 => ∃ m', m' < m ∧ ∃ g2 r2 S2, Rel X.K T g2 r2 S2 σ2 H2 ∧ Iv m' r2 S2 ∧ Ext g H g2 H2, fun σ2 H2 ⟨m', hm, q⟩ => ⟨m', hm, q⟩, ?_⟩
    exact ⟨g1, r', S1, _, rl1, h1, ⟨fun r4 S4 g4 σ4 H4 ⟨m', hm, q4⟩ x4 rl4 => ⟨m', hm, g4, r4, S4, rl4, q4, x2.trans x4⟩, fun d0 S4 g4 H4 v q4 x4 gd rp4 => e.rt d0 S4 g4 H4 v q4 (x2.trans x4) gd rp4,
      fun y r4 S4 g4 σ4 H4 c dd q4 x4 rl4 xr => e.ex y r4 S4 g4 σ4 H4 c dd q4 (x2.trans x4) rl4 xr, fun r4 S4 g4 σ4 H4 q4 x4 rl4 => e.nx r4 S4 g4 σ4 H4 q4 (x2.trans x4) rl4, fun r4 S4 g4 σ4 H4 ⟨m', hm, q4⟩ x4 rl4 => ⟨m', hm, g4, r4, S4, rl4, q4, x2.trans x4⟩⟩⟩
  | false => exact e.nx r' S1 g1 σ' H1 h1 x2 rl1
/-! ### list comprehensions -/
def wipeD (r : Sl) : List Nat → Sl
  | [] => r
  | v :: vs => (wipeD r vs).set v none
theorem wipeD_len (r : Sl) : ∀ vs : List Nat, (wipeD r vs).length = r.length
  | [] => rfl
  | v :: vs => by unfold wipeD; rw [List.length_set, wipeD_len r vs]
theorem wipe_get {σ : L2.St} {i : Nat} : ∀ {vs : List Nat}, i ∉ vs → (wipe σ vs)[i]? = σ[i]?
  | [], _ => rfl
  | v :: vs, h => by
    unfold wipe
    rw [List.getElem?_set_ne (fun z => h (by simp [z])), wipe_get fun z => h (by simp [z])]
theorem wipeD_some {r : Sl} {i : Nat} {x : D} : ∀ {vs : List Nat}, (wipeD r vs)[i]? = some (some x) → r[i]? = some (some x) ∧ i ∉ vs
  | [], h => ⟨h, by simp⟩
  | v :: vs, h => by
    unfold wipeD at h
    by_cases hi : v = i
    · subst hi
      by_cases hv : v < (wipeD r vs).length
      · rw [List.getElem?_set_self hv] at h; cases h
      · rw [List.getElem?_eq_none (by simpa using hv)] at h; cases h
    · rw [List.getElem?_set_ne hi] at h
      obtain ⟨h1, h2⟩ := wipeD_some h
      exact ⟨h1, by simp [h2, Ne.symm hi]⟩
theorem Rel.wipe {K : PySem.W.Frag} {g : Gh} {r : Sl} {S : Store} {σ : L2.St} {H : Hp} (h : Rel K T g r S σ H) (vs : List Nat) : Rel K T g (wipeD r vs) S (wipe σ vs) H :=
  ⟨h.good, by rw [wipeD_len, wipe_length, h.len], fun i d e => by
    obtain ⟨h1, h2⟩ := wipeD_some e
    rw [wipe_get h2]
    exact h.sl i d h1⟩
theorem wipe_ext {σ τ : L2.St} (hl : σ.length = τ.length) (vs : List Nat) (h : ∀ i, i ∉ vs → σ[i]? = τ[i]?) : L2.wipe σ vs = L2.wipe τ vs := by
  apply List.ext_getElem?
  intro i
  by_cases hi : i ∈ vs
  · have key : ∀ (ρ : L2.St) (vs : List Nat), i ∈ vs → (L2.wipe ρ vs)[i]? = if i < ρ.length then some none else none := by
      intro ρ vs
      induction vs with
      | nil => intro h; cases h
      | cons v vs ih =>
        intro h
        unfold L2.wipe
        by_cases hv : v = i
        · subst hv
          by_cases hl : v < ρ.length
          · rw [List.getElem?_set_self (by rw [wipe_length]; exact hl), if_pos hl]
          · rw [List.getElem?_eq_none (by rw [List.length_set, wipe_length]; omega), if_neg hl]
        · rw [List.getElem?_set_ne hv]
          exact ih ((List.mem_cons.mp h).resolve_left (Ne.symm hv))
    rw [key σ vs hi, key τ vs hi, hl]
  · rw [wipe_get hi, wipe_get hi, h i hi]
/-- a comprehension's target: it stores into the block's own slots alone -/
def TgOk (K : PySem.W.Frag) (T : List (Addr × Str)) (vs : List Nat) (gv : TG) (tg : DTG) : Prop := ∀ (g : Gh) (r : Sl) (S : Store) (σ : L2.St) (H : Hp) (d : D) (v : V) (Qd : Sl → Store → Prop) (k : L2.St → Hp → Prop), Rel K T g r S σ H → Rep K g H d v → tg d r S Qd →
  (∀ r2 S2 σ2, Qd r2 S2 → Rel K T g r2 S2 σ2 H → (∀ i, i ∉ vs → σ2[i]? = σ[i]?) → σ2.length = σ.length → k σ2 H) → gv v σ H k
theorem tgOk_name {K : PySem.W.Frag} {vs : List Nat} {i : Nat} (hi : i ∈ vs) : TgOk K T vs (gName i) (dgName i) := fun g r S σ H d v Qd k rl rp h hk =>
  hk _ S _ h (rl.set rp i) (fun j hj => List.getElem?_set_ne (by rintro rfl; exact hj hi)) (by simp)
theorem tgOk_pair {K : PySem.W.Frag} {vs : List Nat} {i j : Nat} (hi : i ∈ vs) (hj : j ∈ vs) : TgOk K T vs (gTup K 2 (gCons (gName i) (gCons (gName j) gNil))) (dgTup 2 (dgCons (dgName i) (dgCons (dgName j) dgNil))) := fun g r S σ H d v Qd k rl rp h hk => by
  obtain ⟨ds, e, hl, d1, q1, e1, d2, q2, e2, e3, h⟩ := h
  subst e e1 e2 e3
  obtain ⟨a, vs', ev, sq, rs⟩ := rp.tup_sq
  obtain ⟨v1, r1, rfl, p1, v2, r2, rfl, p2, rfl⟩ := rs
  refine ⟨a, [v1, v2], ev, sq, rfl, v1, [v2], rfl, v2, [], rfl, rfl, ?_⟩
  refine hk _ S _ h ((rl.set p1 i).set p2 j) (fun m hm => ?_) (by simp)
  rw [List.getElem?_set_ne (by rintro rfl; exact hm hj), List.getElem?_set_ne (by rintro rfl; exact hm hi)]
abbrev WF : WX := fun _ _ _ _ => False
abbrev EF : DX := fun _ _ => False
def dLc (ti : DTI) (tg : DTG) (tt : DTT) (te : DTE) (vs : List Nat) : DTE := fun r S Q E => ti r S (fun ds S1 => ∃ Iv : Nat → List D → Store → Prop, Iv 0 [] S1 ∧
  (∀ (i : Nat) x acc S, ds[i]? = some x → Iv i acc S → tg x (wipeD r vs) S fun r2 S2 => tt r2 S2 (fun b S3 => if b = true then te r2 S3 (fun y S4 => acc.length < sizeLine ∧ Iv (i + 1) (acc ++ [y]) S4) EF else Iv (i + 1) acc S3) EF) ∧
  (∀ acc S, Iv ds.length acc S → Q (.lst acc) S)) E
/-- p is hidden from here on -/
theorem Rel.hide {K : PySem.W.Frag} {g : Gh} {r : Sl} {S : Store} {σ : L2.St} {H : Hp} (h : Rel K T g r S σ H) {p : Addr} {o : HO} (nt : NT o) (e : H p = none) (ne : ∀ q, o ≠ .ext q := by intro _; nofun) : Rel K T ⟨g.ps, p :: g.hs⟩ r S σ (upd H p o) ∧ Ex0 g H ⟨g.ps, p :: g.hs⟩ (upd H p o) := by
  have no := h.good.notOff e
  have ex : Ex0 g H ⟨g.ps, p :: g.hs⟩ (upd H p o) := ⟨fun a u q n t => ⟨same_upd e a u q, fun z => by
    rcases z with z | z
    · exact n (.inl z)
    · rcases List.mem_cons.mp z with rfl | z
      · rw [e] at q; cases q
      · exact n (.inr z)⟩, ⟨[], by simp⟩⟩
  refine ⟨⟨⟨h.good.len, ?_, fun n a o' h1 h2 => ?_, fun x hx => ?_, h.good.tabs.ext (same_upd e)⟩, h.len, fun i d q => let ⟨v, e1, q1⟩ := h.sl i d q; ⟨v, e1, Rep.ex0 ex _ _ q1⟩⟩, ex⟩
  · have nd := h.good.nd
    rw [List.nodup_append] at *
    obtain ⟨n1, n2, n3⟩ := nd
    refine ⟨n1, List.nodup_cons.mpr ⟨fun z => no (.inr z), n2⟩, fun x hx y hy => ?_⟩
    rcases List.mem_cons.mp hy with rfl | hy
    · exact fun z => no (.inl (z ▸ hx))
    · exact n3 x hx y hy
  · have q1 := h.good.st n a o' h1 h2
    refine q1.ex0 ex (upd_ne fun z => ?_)
    subst z
    exact q1.there e
  · rcases List.mem_cons.mp hx with rfl | hx
    · exact ⟨o, upd_same, nt, ne⟩
    · obtain ⟨u, q, n⟩ := h.good.hid x hx
      exact ⟨u, same_upd e x u q, n⟩
/-- what is hidden is written -/
theorem Rel.wrHid {K : PySem.W.Frag} {g : Gh} {r : Sl} {S : Store} {σ : L2.St} {H : Hp} (h : Rel K T g r S σ H) {p : Addr} {o : HO} (nt : NT o) (hp : p ∈ g.hs) (hps : p ∉ g.ps) (ht : ∀ t, H p ≠ some (.tbl t)) (hc : ∀ c q, H p ≠ some (LamX.CodeO c q)) (ne : ∀ q, o ≠ .ext q := by intro _; nofun) : Rel K T g r S σ (upd H p o) := by
  have w : ∀ b, ¬ g.off b → upd H p o b = H b := fun b n => upd_ne fun z => n (.inr (z ▸ hp))
  refine ⟨⟨h.good.len, h.good.nd, fun n a o' h1 h2 => (h.good.st n a o' h1 h2).wr w (upd_ne fun z => ?_), fun x hx => ?_, fun y hy => ?_⟩, h.len, fun i d q => let ⟨v, e1, q1⟩ := h.sl i d q; ⟨v, e1, Rep.wr w _ _ q1⟩⟩
  · subst z
    exact hps (List.mem_of_getElem? h1)
  · by_cases e : x = p
    · subst e; exact ⟨o, upd_same, nt, ne⟩
    · rw [upd_ne e]; exact h.good.hid x hx
  · obtain ⟨ps, q1, q2, q3⟩ := h.good.tabs y hy
    refine ⟨ps, ?_, q2, fun pos cv hcv => ?_⟩
    · rw [upd_ne (show y.1 ≠ p from fun z => ht ps (by rw [← z]; exact q1))]; exact q1
    · obtain ⟨c, e1, e2⟩ := q3 pos cv hcv
      refine ⟨c, e1, ?_⟩
      rw [upd_ne (show c ≠ p from fun z => hc c y.2 (by rw [← z]; exact e2))]; exact e2
theorem codeO_lst {c : Addr} {q : Str} {xs : List V} : HO.lst xs ≠ LamX.CodeO c q := fun z => by
  unfold LamX.CodeO at z
  cases z
/-- the hidden thing is let go -/
theorem Rel.unhide {K : PySem.W.Frag} {g : Gh} {hs : List Addr} {p : Addr} {r : Sl} {S : Store} {σ : L2.St} {H : Hp} (h : Rel K T g r S σ H) (e : g.hs = p :: hs) : Rel K T ⟨g.ps, hs⟩ r S σ H ∧ Ex0 g H ⟨g.ps, hs⟩ H := by
  have ex : Ex0 g H ⟨g.ps, hs⟩ H := Ex0.hid rfl fun b o _ n z => n (z.imp id fun q => by rw [e]; exact List.mem_cons_of_mem _ q)
  refine ⟨⟨⟨h.good.len, ?_, fun n a o' h1 h2 => (h.good.st n a o' h1 h2).ex0 ex rfl, fun x hx => h.good.hid x (by rw [e]; exact List.mem_cons_of_mem _ hx), h.good.tabs⟩, h.len, fun i d q => let ⟨v, e1, q1⟩ := h.sl i d q; ⟨v, e1, Rep.ex0 ex _ _ q1⟩⟩, ex⟩
  have nd := h.good.nd
  rw [e, List.nodup_append] at nd
  rw [List.nodup_append]
  exact ⟨nd.1, (List.nodup_cons.mp nd.2.1).2, fun x hx y hy => nd.2.2 x hx y (List.mem_cons_of_mem _ hy)⟩
theorem nd_not {g : Gh} {p : Addr} {hs : List Addr} (nd : (g.ps ++ g.hs).Nodup) (e : g.hs = p :: hs) : p ∉ g.ps ∧ p ∉ hs := by
  rw [e, List.nodup_append] at nd
  exact ⟨fun z => nd.2.2 p z p List.mem_cons_self rfl, (List.nodup_cons.mp nd.2.1).1⟩
/-- back to the outer slots -/
theorem Rel.slots {K : PySem.W.Frag} {g g' : Gh} {r r' : Sl} {S S' : Store} {σ σ' : L2.St} {H H' : Hp} (h : Rel K T g r S σ H) (h' : Rel K T g' r' S' σ' H') (x : Ex0 g H g' H') : Rel K T g' r S' σ H' :=
  ⟨h'.good, h.len, fun i d q => let ⟨v, e1, q1⟩ := h.sl i d q; ⟨v, e1, Rep.ex0 x _ _ q1⟩⟩
theorem Ext.norm {g g' : Gh} {H H' : Hp} (x : Ext g H g' H') {p : Addr} {u : HO} (hp : H p = some u) (nu : NT u) {o : HO} (no : NT o) : Ext g (upd H p o) g' (upd H' p o) := by
  obtain ⟨new, e, f⟩ := x.ps
  refine ⟨fun a u q n t => ?_, fun a u q n => ?_, ⟨new, e, fun a ha u' q n => ?_⟩, x.hs⟩
  · by_cases h : a = p
    · subst h; rw [upd_same] at *; exact q
    · rw [upd_ne h] at *; exact x.keep a u q n t
  · by_cases h : a = p
    · subst h; exact ⟨o, upd_same, no⟩
    · rw [upd_ne h] at *; exact x.there a u q n
  · by_cases h : a = p
    · subst h; exact f a ha u hp nu
    · rw [upd_ne h] at q; exact f a ha u' q n
/-- around a hidden thing that changes -/
structure Hx (g : Gh) (H : Hp) (p : Addr) (g' : Gh) (H' : Hp) : Prop where
  free : H p = none
  hs : g'.hs = p :: g.hs
  ext : Ext ⟨g.ps, p :: g.hs⟩ (upd H p (.lst [])) g' (upd H' p (.lst []))
theorem Hx.ex0 {g g' : Gh} {H H' : Hp} {p : Addr} (x : Hx g H p g' H') : Ex0 g H g' H' := by
  obtain ⟨new, e, f⟩ := x.ext.ps
  refine ⟨fun a o h n t => ?_, ⟨new, e⟩⟩
  have ne : a ≠ p := fun z => by rw [z, x.free] at h; cases h
  refine ⟨?_, ?_⟩
  · have q := x.ext.keep a o (by rw [upd_ne ne]; exact h) (fun z => n (.inl z)) t
    rw [upd_ne ne] at q
    exact q
  · rintro (z | z)
    · rw [e] at z
      rcases List.mem_append.mp z with z | z
      · exact n (.inl z)
      · exact f a z o (by rw [upd_ne ne]; exact h) t
    · rw [x.hs] at z
      rcases List.mem_cons.mp z with z | z
      · exact ne z
      · exact n (.inr z)
theorem Hx.out {g g' : Gh} {H H' : Hp} {p : Addr} (x : Hx g H p g' H') : Ext g H ⟨g'.ps, g.hs⟩ H' := by
  obtain ⟨new, e, f⟩ := x.ext.ps
  refine ⟨fun a o h n t => ?_, fun a o h n => ?_, ⟨new, e, fun a ha o h n => ?_⟩, rfl⟩
  · have ne : a ≠ p := fun z => by rw [z, x.free] at h; cases h
    have q := x.ext.keep a o (by rw [upd_ne ne]; exact h) n t
    rw [upd_ne ne] at q
    exact q
  · have ne : a ≠ p := fun z => by rw [z, x.free] at h; cases h
    have q2 := x.ext.there a o (by rw [upd_ne ne]; exact h) n
    rw [upd_ne ne] at q2
    exact q2
  · have ne : a ≠ p := fun z => by rw [z, x.free] at h; cases h
    exact f a ha o (by rw [upd_ne ne]; exact h) n
theorem Hx.step {g g1 g2 : Gh} {H H1 H2 : Hp} {p : Addr} {u : HO} (x : Hx g H p g1 H1) (hp : H1 p = some u) (nu : NT u) (e : Ext g1 H1 g2 H2) (o : HO) : Hx g H p g2 (upd H2 p o) :=
  ⟨x.free, e.hs.trans x.hs, by rw [upd_upd]; exact x.ext.trans (e.norm hp nu (fun _ => nofun))⟩
theorem Hx.stay {g g1 g2 : Gh} {H H1 H2 : Hp} {p : Addr} {u : HO} (x : Hx g H p g1 H1) (hp : H1 p = some u) (nu : NT u) (e : Ext g1 H1 g2 H2) : Hx g H p g2 H2 := ⟨x.free, e.hs.trans x.hs, x.ext.trans (e.norm hp nu (fun _ => nofun))⟩
theorem lift_lc {K : PySem.W.Frag} {ti : DTI} {gv : TG} {dg : DTG} {tt : DTT} {te : DTE} {vs : List Nat} (ok : TgOk K T vs gv dg) {σ : L2.St} {H : Hp} {Q : VK} (h : lift K T W (dLc ti dg tt te vs) σ H Q) :
    tLc (liftI K T W ti) gv (liftT K T WF tt) (lift K T WF te) vs σ H Q := by
  obtain ⟨g, r, S, Qd, Ed, rl, h, hq, hx⟩ := h
  refine ⟨g, r, S, _, Ed, rl, h, fun ds S1 g1 H1 J ⟨Iv, h0, hst, hen⟩ x1 rl1 wk D hD => ?_, hx⟩
  refine ⟨fun i m H2 => m = ds.length - i ∧ i ≤ ds.length ∧ ∃ g2 S2 acc vs2, Rel K T g2 r S2 σ H2 ∧ Iv i acc S2 ∧ H2 D = some (.lst vs2) ∧ Reps K g2 H2 acc vs2 ∧ Hx g1 H1 D g2 H2, ?_, ?_⟩
  · obtain ⟨rh, xh⟩ := rl1.hide (o := .lst []) (fun _ => nofun) hD
    exact ⟨ds.length, by simp, Nat.zero_le _, ⟨g1.ps, D :: g1.hs⟩, S1, [], [], rh, h0, upd_same, rfl, ⟨hD, rfl, by rw [upd_upd]; exact Ext.refl _ _⟩⟩
  rintro i m H2 ⟨rfl, hi, g2, S2, acc, vs2, rl2, iv, hD2, rs, xx⟩
  have nl : ∀ xs : List V, NT (.lst xs) := fun _ _ => nofun
  obtain ⟨w1, w2⟩ := wk g2 H2 xx.ex0
  by_cases hlt : i < ds.length
  · obtain ⟨go, yl⟩ := w1 i ds[i] (List.getElem?_eq_getElem hlt)
    refine .inr ⟨go, fun H3 => ∃ g3 S3 acc3 vs3, Rel K T g3 r S3 σ H3 ∧ Iv (i + 1) acc3 S3 ∧ H3 D = some (.lst vs3) ∧ Reps K g3 H3 acc3 vs3 ∧ Hx g1 H1 D g3 H3, fun H3 q => ⟨ds.length - (i + 1), by omega, rfl, hlt, q⟩, fun x H3 y => ?_⟩
    obtain ⟨sm, rp⟩ := yl x H3 y
    have rp := rp S2 T rl2.good
    have e23 : Ext g2 H2 g2 H3 := Ext.same sm
    have hD3 : H3 D = some (.lst vs2) := sm _ _ hD2
    have rlw : Rel K T g2 (wipeD r vs) S2 (L2.wipe σ vs) H3 := (rl2.wipe vs).same sm
    refine ok g2 _ S2 _ H3 ds[i] x _ _ rlw rp (hst i ds[i] acc S2 (List.getElem?_eq_getElem hlt) iv) fun r4 S4 σ4 q4 rl4 hσ hl4 => ⟨?_, ?_⟩
    · refine wipe_ext (by rw [hl4, wipe_length]) vs fun k hk => ?_
      rw [hσ k hk, wipe_get hk]
    · refine ⟨g2, r4, S4, _, _, rl4, q4, fun b S5 g5 H5 q5 x5 rl5 => ?_, fun _ _ _ _ _ _ z => z.elim⟩
      have nn := nd_not rl2.good.nd xx.hs
      have hD5 : H5 D = some (.lst vs2) := x5.keep D _ hD3 nn.1 (fun _ => nofun)
      cases b with
      | false => exact ⟨g5, S5, acc, vs2, rl2.slots rl5 (e23.trans x5).ex0, q5, hD5, Reps.ext (e23.trans x5) _ _ rs, xx.stay hD2 (nl _) (e23.trans x5)⟩
      | true =>
        refine ⟨g5, r4, S5, _, _, rl5, q5, fun d6 S6 g6 H6 v6 ⟨hz, q6⟩ x6 rl6 rp6 => ?_, fun _ _ _ _ _ _ z => z.elim⟩
        have e26 := (e23.trans x5).trans x6
        have nn5 : D ∉ g5.ps := (nd_not (hs := g1.hs) rl5.good.nd (x5.hs.trans xx.hs)).1
        have nn6 := nd_not (hs := g1.hs) rl6.good.nd (x6.hs.trans (x5.hs.trans xx.hs))
        have hh6 : D ∈ g6.hs := by rw [x6.hs, x5.hs, xx.hs]; exact List.mem_cons_self
        have hD6 : H6 D = some (.lst vs2) := x6.keep D _ hD5 nn5 (fun _ => nofun)
        have w : ∀ b, ¬ g6.off b → upd H6 D (.lst (vs2 ++ [v6])) b = H6 b := fun b n => upd_ne fun z => n (.inr (by rw [z]; exact hh6))
        refine ⟨vs2, hD6, by rw [← rs.length]; exact hz, g6, S6, acc ++ [d6], vs2 ++ [v6], ?_, q6, upd_same, ?_, xx.step hD2 (nl _) e26 _⟩
        · exact (rl2.slots rl6 e26.ex0).wrHid (nl _) hh6 nn6.1 (fun t z => by rw [hD6] at z; cases z) (fun c q z => by rw [hD6] at z; exact codeO_lst (Option.some.inj z))
        · exact Reps.append (Reps.wr w _ _ (Reps.ext e26 _ _ rs)) (Reps.one (Rep.wr w _ _ rp6))
  · have e2 : i = ds.length := by omega
    subst e2
    obtain ⟨ru, xu⟩ := rl2.unhide xx.hs
    refine .inl ⟨w2, ?_⟩
    have nn := nd_not rl2.good.nd xx.hs
    refine hq _ S2 ⟨g2.ps, g1.hs⟩ H2 _ (hen acc S2 iv) (x1.trans xx.out) ru ⟨D, vs2, rfl, ⟨hD2, fun z => ?_⟩, Reps.ex0 xu _ _ rs⟩
    exact z.elim nn.1 nn.2
theorem de_lc {elt iter : Expr} {ifs : List Expr} {scope : Scope} {own : List (Str × Nat)} {ti : DTI} {gv : TG} {dg : DTG} {tt : DTT} {te : DTE} (hc : X.calm = true) (hN : X.N.Nodup) (hi : DI X T W tg iter ti) (ok : BlkOk X.N X.env.scope scope own) (tok : TgOk X.K T (own.map (·.2)) gv dg)
    (hg : ∀ (s : Shared) (H : Hp) (C : Addr) (cl : List (Str × Addr)) (fp : List Addr), PG (X.blk s H scope (compEnvC scope cl C X.env) fp) tg gv) (ht : ∀ (s : Shared) (H : Hp) (C : Addr) (cl : List (Str × Addr)) (fp : List Addr), PTs (X.blk s H scope (compEnvC scope cl C X.env) fp) ifs (liftT X.K T WF tt))
    (he : ∀ (s : Shared) (H : Hp) (C : Addr) (cl : List (Str × Addr)) (fp : List Addr), DE (X.blk s H scope (compEnvC scope cl C X.env) fp) T WF elt te) (hs : ∀ x, foldedSetIterable iter X.env x = pure x := by intro _; rfl) :
    DE X T W (.ListComp elt [⟨tg, iter, ifs, 0⟩] scope pos) (dLc ti dg tt te (own.map (·.2))) := PE.imp (pe_lc (te := lift X.K T WF te) hc hN hi ok hg ht he hs) fun σ H Q h => lift_lc tok h
theorem ds_setLc {i : Nat} {y : Str} {py spos : Pos} {elt iter : Expr} {ifs : List Expr} {scope : Scope} {own : List (Str × Nat)} {ti : DTI} {gv : TG} {dg : DTG} {tt : DTT} {te : DTE} (hc : X.calm = true) (hN : X.N.Nodup) (hy : X.N[i]? = some y) (hyl : X.env.scope.names.lookup y = some .local)
    (hsw : swapsWith (.ListComp elt [⟨tg, iter, ifs, 0⟩] scope pos) (some (.Name y py)) spos.line X.env = pure true) (hi : DI X T W tg iter ti) (ok : BlkOk X.N X.env.scope scope own) (tok : TgOk X.K T (own.map (·.2)) gv dg)
    (hg : ∀ (s : Shared) (H : Hp) (C : Addr) (cl : List (Str × Addr)) (fp : List Addr), PG (X.blk s H scope (compEnvC scope cl C X.env) fp) tg gv) (ht : ∀ (s : Shared) (H : Hp) (C : Addr) (cl : List (Str × Addr)) (fp : List Addr), PTs (X.blk s H scope (compEnvC scope cl C X.env) fp) ifs (liftT X.K T WF tt))
    (he : ∀ (s : Shared) (H : Hp) (C : Addr) (cl : List (Str × Addr)) (fp : List Addr), DE (X.blk s H scope (compEnvC scope cl C X.env) fp) T WF elt te) (hs : ∀ x, foldedSetIterable iter X.env x = pure x := by intro _; rfl) :
    DS X T W (.Assign [.Name y py] (.ListComp elt [⟨tg, iter, ifs, 0⟩] scope pos) spos) (dAsg (dLc ti dg tt te (own.map (·.2))) (dgName i)) := PS.imp (ps_setLc (te := lift X.K T WF te) hc hN hy hyl hsw hi ok hg ht he hs) fun N σ H ⟨g, r, S, d, rl, h, e⟩ =>
  lift_lc tok ⟨g, r, S, _, _, rl, h, fun d1 S1 g1 H1 v h1 x1 rl1 rp1 => e.nx _ S1 g1 _ H1 h1 x1 (rl1.set rp1 i), e.wok r σ⟩
def dYes : DTT := fun _ S Q _ => Q true S
theorem dts_nil {Y : Cx} : PTs Y [] (liftT Y.K T WF dYes) := ⟨fun pins s σ H Q I ⟨g, r, S, Qd, Ed, rl, h, hq, _⟩ => pts_nil.run pins s σ H Q I (hq true S g H h (Ext.refl g H) rl)⟩
theorem dts_one {Y : Cx} {t : DTT} (h : DT Y T WF c t) : PTs Y [c] (liftT Y.K T WF t) := pts_one h
/-! ### calls of defs -/
abbrev DSp := List D → Store → DQ → DX → Prop
def spD (K : PySem.W.Frag) (T : List (Addr × Str)) (n : Nat) (t : DSp) : Sp := fun vs H Q E => ∃ g S ds Qd Ed, GoodS K T g S H ∧ Reps K g H ds vs ∧ ds.length = n ∧ t ds S Qd Ed ∧
  (∀ d S' g' H' v, Qd d S' → Ext g H g' H' → GoodS K T g' S' H' → Rep K g' H' d v → Q v H') ∧ (∀ x S' g' H' c dd, Ed x S' → Ext g H g' H' → GoodS K T g' S' H' → XRep K g' H' x c dd → E c dd H')
def FnD (P : Program) (w : World) (K : PySem.W.Frag) (mg : Str → Option Value) (base : Heap) (T : List (Addr × Str)) (k : Nat) (f : Addr) (fd : FuncData) (ps : List Str) (t : DSp) : Prop := FnOk P w K mg base (L2.CX P w) k f fd ps (spD K T ps.length t)
def dCall (sp : DSp) (n : Nat) (t : DTA) : DTE := fun r S Q E => t r S (fun ds S1 => ds.length = n ∧ sp ds S1 Q E) E
theorem Rel.good' {K : PySem.W.Frag} {g g' : Gh} {r : Sl} {S S' : Store} {σ : L2.St} {H H' : Hp} (h : Rel K T g r S σ H) (h' : GoodS K T g' S' H') (x : Ext g H g' H') : Rel K T g' r S' σ H' :=
  ⟨h', h.len, fun i d q => let ⟨v, e1, q1⟩ := h.sl i d q; ⟨v, e1, Rep.ext x _ _ q1⟩⟩
variable {k : Nat} {f : Addr} {fd : FuncData} {ps : List Str} {sp : DSp} {x : Str} {p : Pos} {e : Expr}
theorem lift_call {K : PySem.W.Frag} {σ : L2.St} {H : Hp} {Q : VK} (h : lift K T W (dCall sp ps.length tes) σ H Q) : tCallS (spD K T ps.length sp) (WE W) (liftA K T W tes) σ H Q := by
  obtain ⟨g, r, S, Qd, Ed, rl, h, hq, hx⟩ := h
  refine ⟨g, r, S, _, Ed, rl, h, fun ds S1 g1 H1 vs ⟨hl, h1⟩ x1 rl1 rp1 => ?_, hx⟩
  exact ⟨g1, S1, ds, Qd, Ed, rl1.good, rp1, hl, h1, fun d S2 g2 H2 v q2 x2 gd rp => hq d S2 g2 H2 v q2 (x1.trans x2) (rl1.good' gd x2) rp, fun y S2 g2 H2 c dd q2 x2 gd xr => hx y S2 g2 H2 c dd q2 (x1.trans x2) (rl1.good' gd x2) xr⟩
theorem de_call (F : FnD X.prog X.w X.K X.mg X.base T k f fd ps sp) (tk : Takes X W) (hr : Room k X.A) (hg : Gl X x) (hm : X.mg x = some (.ref f)) (hk : PySem.W.keepIn X.K (.ref f) = true) (hb : Binds X.K fd ps [])
    (ha : DA X T W (e :: es) tes) (hdb : (x == ("__debug__" : Str)) = false := by decide) (he : starEach (e :: es) X.env = (false, eval e X.env) :: starEach es X.env := by rfl) (hpl : (backTo pos (starEach es X.env)).any (·.1) = false := by rfl) :
    DE X T W (.Call (.Name x p) (e :: es) [] pos) (dCall sp ps.length tes) := PE.imp (pe_callS F hr hg hm hk hb (fun σ => passAt tk σ) ha hdb he hpl) fun σ H Q h => lift_call h
/-! ### a def by its body -/
def startD (N : List Str) (ds : List D) : Sl := ds.map some ++ List.replicate (N.length - ds.length) none
theorem Rel.start {K : PySem.W.Frag} {g : Gh} {S : Store} {H : Hp} {N : List Str} {ds : List D} {vs : List V} (h : GoodS K T g S H) (r : Reps K g H ds vs) : Rel K T g (startD N ds) S (start N vs) H := by
  have hl := r.length
  refine ⟨h, by simp [startD, L2.start, hl], fun i d e => ?_⟩
  unfold startD at e
  by_cases hi : i < ds.length
  · rw [List.getElem?_append_left (by simpa using hi), List.getElem?_map, List.getElem?_eq_getElem hi] at e
    simp at e
    obtain ⟨v, hv, rv⟩ := r.get (List.getElem?_eq_getElem hi)
    refine ⟨v, ?_, by rw [← e]; exact rv⟩
    unfold L2.start
    rw [List.getElem?_append_left (by rw [List.length_map, ← hl]; exact hi), List.getElem?_map, hv]
    rfl
  · rw [List.getElem?_append_right (by simpa using hi), List.getElem?_replicate] at e
    split at e <;> cases e
section
variable {P : Program} {w : World} {K : PySem.W.Frag} {mg : Str → Option Value} {base : Heap}
/-- a def of the text as it stands behind the top -/
abbrev FunS (K : PySem.W.Frag) (x qual : Str) (st : Stmt) (dvs : List V) (kws : List (Str × V)) (f : Addr) (fd : FuncData) : Prop := FunD K x qual (defArgs st) (defBody st) (defScope st) dvs kws f fd
abbrev WD (E : XK) : WX := fun c dd _ H => E c dd H
/-- the context of a def's body -/
abbrev cxD (P : Program) (w : World) (K : PySem.W.Frag) (mg : Str → Option Value) (base : Heap) (N : List Str) (qual : Str) (sc : Scope) (f : Addr) (cdv : Value) (A : Around) (outer : List Env) (s : Shared) (H : Hp) (E : XK) : Cx := cxOf (L2.CX P w) P w K mg base N qual sc f cdv A outer s H E
theorem takesD {N : List Str} {qual : Str} {sc : Scope} {f : Addr} {cdv : Value} {A : Around} {outer : List Env} {s : Shared} {H : Hp} {E : XK} : Takes (cxD P w K mg base N qual sc f cdv A outer s H E) (WD E) := takes_of rfl rfl rfl rfl
theorem passD {N : List Str} {qual : Str} {sc : Scope} {f : Addr} {cdv : Value} {A : Around} {outer : List Env} {s : Shared} {H : Hp} {E : XK} : PassesOwn (model P w) (cxD P w K mg base N qual sc f cdv A outer s H E).A (cxD P w K mg base N qual sc f cdv A outer s H E).env (cxD P w K mg base N qual sc f cdv A outer s H E).xe :=
  passes_of (X := cxD P w K mg base N qual sc f cdv A outer s H E) rfl
theorem FunS.okC {CXx : CXT} {x qual : Str} {st : Stmt} {f : Addr} {fd : FuncData} {N ps : List Str} {k : Nat} {sp : Sp} {dvs : List V} {kws : List (Str × V)} (F : FunS K x qual st dvs kws f fd) (Sc : FnScope N ps (defScope st)) (len : ∀ vs H Q E, sp vs H Q E → vs.length = ps.length)
    (hbody : ∀ (cdv : Value) (A : Around) (outer : List Env) (s : Shared) (H : Hp) (vs : List V) (Q : VK) (E : XK), fd.code = cdv → Room k (A.deeper (envOfC qual (defScope st) s.heap.objs.size f cdv)) → sp vs H Q E →
      ∃ t, PSs (cxOf CXx P w K mg base N qual (defScope st) f cdv A outer s H E) (defBody st) t ∧ t { nx := fun _ H' => Q .non H', rt := Q } (L2.start N vs) H) : FnOk P w K mg base CXx (k + 1) f fd ps sp := by
  obtain ⟨oc, od, dV, kV, doc, pm, an, cdv, ct, osl, rfl, lk, hcd, _, _⟩ := F.ex
  exact fn_of lk hcd Sc len fun A outer s H vs Q E hr hsp => hbody cdv A outer s H vs Q E rfl hr hsp
theorem fnD_of {x qual : Str} {st : Stmt} {f : Addr} {fd : FuncData} {N ps : List Str} {k : Nat} {t : DTS} {sp : DSp} {dvs : List V} {kws : List (Str × V)} (F : FunS K x qual st dvs kws f fd) (Sc : FnScope N ps (defScope st))
    (hb : ∀ (cdv : Value) (A : Around) (outer : List Env) (s : Shared) (H : Hp) (E : XK), fd.code = cdv → Room k (A.deeper (envOfC qual (defScope st) s.heap.objs.size f cdv)) → DSs (cxD P w K mg base N qual (defScope st) f cdv A outer s H E) T (WD E) (defBody st) t)
    (hs : ∀ ds S Qd Ed, ds.length = ps.length → sp ds S Qd Ed → t { nx := fun _ S' => Qd .non S', rt := Qd, ex := fun x _ S' => Ed x S' } (startD N ds) S) : FnD P w K mg base T (k + 1) f fd ps sp := by
  refine FunS.okC F Sc (fun vs H Q E h => ?_) (fun cdv A outer s H vs Q E hcd hr h => ⟨_, hb cdv A outer s H E hcd hr, ?_⟩)
  · obtain ⟨g, S, ds, Qd, Ed, gd, rs, hl, _⟩ := h
    rw [← rs.length, hl]
  · obtain ⟨g, S, ds, Qd, Ed, gd, rs, hl, h, hq, hx⟩ := h
    refine ⟨g, _, S, _, Rel.start gd rs, hs ds S Qd Ed hl h, ⟨fun r' S' g' σ' H' q x1 rl1 => hq _ S' g' H' _ q x1 rl1.good rfl, fun d0 S' g' H' v q x1 gd1 rp1 => hq _ S' g' H' v q x1 gd1 rp1, fun y r' S' g' σ' H' c dd q x1 rl1 xr => hx y S' g' H' c dd q x1 rl1.good xr, fun _ _ _ _ _ z => z.elim, fun _ _ _ _ _ z => z.elim⟩⟩
end
end
end DL
namespace DL
open PySem PySem.Spec PyProof.Rows L2
/-! ### lists as they are seen -/
def lsv (S : Store) : D → Option (List D)
  | .lst ds => some ds
  | .ref n => match S[n]? with
    | some (.lst ds) => some ds
    | _ => none
  | _ => none
section
variable {K : PySem.W.Frag} {T : List (Addr × Str)} {g : Gh} {S : Store} {H : Hp} {d : D} {v : V} {ds : List D}
theorem ref_at (gd : GoodS K T g S H) {n : Nat} {o : O} (rp : Rep K g H (.ref n) v) (h : S[n]? = some o) : ∃ a, v = .ref a ∧ g.ps[n]? = some a ∧ ORep K g H a o := by
  obtain ⟨a, e, q⟩ := rp
  exact ⟨a, e, q, gd.st n a o q h⟩
theorem lsv_at (gd : GoodS K T g S H) (rp : Rep K g H d v) (h : lsv S d = some ds) : ∃ a vs, v = .ref a ∧ H a = some (.lst vs) ∧ Reps K g H ds vs := by
  cases d with
  | lst es =>
    cases h
    obtain ⟨a, vs, e, q, r⟩ := rp
    exact ⟨a, vs, e, q.1, r⟩
  | ref n =>
    cases hS : S[n]? with
    | none => simp only [lsv, hS] at h; cases h
    | some o =>
      simp only [lsv, hS] at h
      cases o with
      | lst es =>
        cases h
        obtain ⟨a, e, _, vs, q, r⟩ := ref_at gd rp hS
        exact ⟨a, vs, e, q, r⟩
      | _ => cases h
  | _ => cases h
end
/-! ### pure data -/
mutual
def pd : D → PyData
  | .bl b => .bool b
  | .int i => .int i
  | .str x => .str x
  | .tup ds => .tuple (pds ds)
  | .lst ds => .list (pds ds)
  | _ => .none
def pds : List D → List PyData
  | [] => []
  | d :: ds => pd d :: pds ds
end
theorem pds_map : ∀ ds : List D, pds ds = ds.map pd
  | [] => rfl
  | d :: ds => by simp [pds, pds_map ds]
/-- data of depth at most n -/
def sh : Nat → D → Bool
  | _, .non => true
  | _, .bl _ => true
  | _, .int _ => true
  | _, .str x => PyData.strOk x
  | n + 1, .tup ds => ds.all (sh n)
  | n + 1, .lst ds => ds.all (sh n)
  | _, _ => false
theorem canLayAll0_of : ∀ {l : List PyData}, (∀ d ∈ l, d.canLay0 = true) → PyData.canLayAll0 l = true
  | [], _ => by simp [PyData.canLayAll0]
  | d :: l, h => by
    have h1 := h d (by simp)
    have h2 := canLayAll0_of (l := l) fun x hx => h x (by simp [hx])
    simp [PyData.canLayAll0, h1, h2]
theorem depthAll_le {n : Nat} : ∀ {l : List PyData}, (∀ d ∈ l, d.depth ≤ n) → PyData.depthAll l ≤ n
  | [], _ => by simp [PyData.depthAll]
  | d :: l, h => by
    simp only [PyData.depthAll]
    exact Nat.max_le.mpr ⟨h d (by simp), depthAll_le fun x hx => h x (by simp [hx])⟩
theorem sh_ok : ∀ (n : Nat) (d : D), sh n d = true → (pd d).canLay0 = true ∧ (pd d).depth ≤ n
  | n, .non, _ => by simp [pd, PyData.canLay0, PyData.depth]
  | n, .bl _, _ => by simp [pd, PyData.canLay0, PyData.depth]
  | n, .int _, _ => by simp [pd, PyData.canLay0, PyData.depth]
  | n, .str x, h => by
    have h' : PyData.strOk x = true := by simpa [sh] using h
    simp [pd, PyData.canLay0, PyData.depth, h']
  | 0, .tup ds, h => by simp [sh] at h
  | 0, .lst ds, h => by simp [sh] at h
  | n + 1, .tup ds, h => by
    have h' : ∀ d ∈ ds, sh n d = true := by simpa [sh] using h
    simp only [pd, PyData.canLay0, PyData.depth, pds_map]
    refine ⟨canLayAll0_of fun x hx => ?_, Nat.succ_le_succ (depthAll_le fun x hx => ?_)⟩
    · obtain ⟨d, hd, e⟩ := List.mem_map.mp hx
      rw [← e]; exact (sh_ok n d (h' d hd)).1
    · obtain ⟨d, hd, e⟩ := List.mem_map.mp hx
      rw [← e]; exact (sh_ok n d (h' d hd)).2
  | n + 1, .lst ds, h => by
    have h' : ∀ d ∈ ds, sh n d = true := by simpa [sh] using h
    simp only [pd, PyData.canLay0, PyData.depth, pds_map]
    refine ⟨canLayAll0_of fun x hx => ?_, Nat.succ_le_succ (depthAll_le fun x hx => ?_)⟩
    · obtain ⟨d, hd, e⟩ := List.mem_map.mp hx
      rw [← e]; exact (sh_ok n d (h' d hd)).1
    · obtain ⟨d, hd, e⟩ := List.mem_map.mp hx
      rw [← e]; exact (sh_ok n d (h' d hd)).2
  | n, .fz _, h => by cases n <;> simp [sh] at h
  | n, .obj _ _ _, h => by cases n <;> simp [sh] at h
  | n, .ref _, h => by cases n <;> simp [sh] at h
  | n, .adr _, h => by cases n <;> simp [sh] at h
  | n, .ty _, h => by cases n <;> simp [sh] at h
  | n, .fn _, h => by cases n <;> simp [sh] at h
theorem sh_shaped {n : Nat} {d : D} (h : sh n d = true) (hn : n ≤ 64) : SeqAt.shaped (pd d) = true := by
  obtain ⟨h1, h2⟩ := sh_ok n d h
  unfold SeqAt.shaped
  rw [h1, Bool.true_and]
  exact decide_eq_true (Nat.le_trans h2 hn)
section
variable {K : PySem.W.Frag} {T : List (Addr × Str)} {g : Gh} {S : Store} {H : Hp}
mutual
theorem dp_of : ∀ (n : Nat) (d : D) (v : V), sh n d = true → Rep K g H d v → Dp K H v (pd d)
  | _, .non, _, _, r => by cases r; simp only [pd]; exact .non
  | _, .bl b, _, _, r => by cases r; simp only [pd]; exact .bl b
  | _, .int b, _, _, r => by cases r; simp only [pd]; exact .int b
  | _, .str b, _, _, r => by cases r; simp only [pd]; exact .str b
  | 0, .tup ds, _, h, _ => by simp [sh] at h
  | 0, .lst ds, _, h, _ => by simp [sh] at h
  | n + 1, .tup ds, v, h, r => by
    obtain ⟨a, vs, e, sq, rs⟩ := Rep.tup_sq r
    subst e
    simp only [pd]
    exact .tup sq (dps_of n ds vs (by simpa [sh] using h) rs)
  | n + 1, .lst ds, v, h, r => by
    obtain ⟨a, vs, e, sq, rs⟩ := Rep.lst_sq r
    subst e
    simp only [pd]
    exact .lst sq (dps_of n ds vs (by simpa [sh] using h) rs)
  | n, .fz _, _, h, _ => by cases n <;> simp [sh] at h
  | n, .obj _ _ _, _, h, _ => by cases n <;> simp [sh] at h
  | n, .ref _, _, h, _ => by cases n <;> simp [sh] at h
  | n, .adr _, _, h, _ => by cases n <;> simp [sh] at h
  | n, .ty _, _, h, _ => by cases n <;> simp [sh] at h
  | n, .fn _, _, h, _ => by cases n <;> simp [sh] at h
theorem dps_of : ∀ (n : Nat) (ds : List D) (vs : List V), (∀ d ∈ ds, sh n d = true) → Reps K g H ds vs → DpAll K H vs (pds ds)
  | _, [], _, _, r => by cases r; simp only [pds]; exact .nil
  | n, d :: ds, _, h, ⟨v, q, e, r1, r2⟩ => by
    subst e
    simp only [pds]
    exact .cons (dp_of n d v (h d (by simp)) r1) (dps_of n ds q (fun x hx => h x (by simp [hx])) r2)
end
end
/-- the value as data, a store's list as it stands -/
def dres (S : Store) (d : D) : D := match lsv S d with
  | some ds => .lst ds
  | none => d
theorem dres_dp {K : PySem.W.Frag} {T : List (Addr × Str)} {g : Gh} {S : Store} {H : Hp} {d : D} {v : V} {n : Nat} (gd : GoodS K T g S H) (r : Rep K g H d v) (h : sh n (dres S d) = true) : Dp K H v (pd (dres S d)) := by
  unfold dres at *
  cases q : lsv S d with
  | none => rw [q] at h; exact dp_of n d v h r
  | some ds =>
    rw [q] at h
    obtain ⟨a, vs, e, ha, rs⟩ := lsv_at gd r q
    subst e
    cases n with
    | zero => simp [sh] at h
    | succ n =>
      simp only [pd]
      exact .lst (SqL.of ha) (dps_of n ds vs (by simpa [sh] using h) rs)
/-! ### operators -/
def MulOk (i j : Int) : Prop := CMul i j ∨ CMulW i j
def DivOk (j : Int) : Prop := 0 < j ∧ j.natAbs.log2 < 9000
def fAdd (S : Store) (x y z : D) : Prop := match x, y with
  | .int i, .int j => z = .int (i + j)
  | .str x, .str y => x.length + y.length ≤ sizeLine ∧ z = .str (x ++ y)
  | .tup x, .tup y => x.length + y.length ≤ sizeLine ∧ z = .tup (x ++ y)
  | x, y => ∃ a b, lsv S x = some a ∧ lsv S y = some b ∧ a.length + b.length ≤ sizeLine ∧ z = .lst (a ++ b)
def fSub (S : Store) : D → D → D → Prop
  | .int i, .int j, z => z = .int (i - j)
  | _, _, _ => False
def fMul (S : Store) (x y z : D) : Prop := match x, y with
  | .int i, .int j => MulOk i j ∧ z = .int (i * j)
  | .tup x, .int k => x ≠ [] ∧ 2 ≤ k ∧ k ≤ 1000 ∧ x.length ≤ 1000 ∧ z = .tup (List.replicate k.toNat x).flatten
  | x, .int k => ∃ a, lsv S x = some a ∧ -(2 ^ 63) ≤ k ∧ k < 2 ^ 63 ∧ a.length * k.toNat ≤ sizeLine ∧ z = .lst (List.replicate k.toNat a).flatten
  | _, _ => False
def fFdiv (S : Store) : D → D → D → Prop
  | .int i, .int j, z => DivOk j ∧ z = .int (i / j)
  | _, _, _ => False
def fMod (S : Store) : D → D → D → Prop
  | .int i, .int j, z => 0 < j ∧ z = .int (i % j)
  | _, _, _ => False
def fPow (S : Store) : D → D → D → Prop
  | .int i, .int j, z => (0 ≤ j ∧ j ≤ 1000000 ∧ i.natAbs < 2 ^ 64) ∧ z = .int (i ^ j.toNat)
  | _, _, _ => False
def fLt (S : Store) : D → D → D → Prop
  | .int i, .int j, z => z = .bl (decide (i < j))
  | _, _, _ => False
def fLe (S : Store) : D → D → D → Prop
  | .int i, .int j, z => z = .bl (decide (i ≤ j))
  | _, _, _ => False
def fGt (S : Store) : D → D → D → Prop
  | .int i, .int j, z => z = .bl (decide (j < i))
  | _, _, _ => False
def fGe (S : Store) : D → D → D → Prop
  | .int i, .int j, z => z = .bl (decide (j ≤ i))
  | _, _, _ => False
def fEq (S : Store) (x y z : D) : Prop := sh 60 (dres S x) = true ∧ sh 60 (dres S y) = true ∧ z = .bl (PyData.eqv (pd (dres S x)) (pd (dres S y)))
def fNe (S : Store) (x y z : D) : Prop := sh 60 (dres S x) = true ∧ sh 60 (dres S y) = true ∧ z = .bl (!PyData.eqv (pd (dres S x)) (pd (dres S y)))
def isNon : D → Bool
  | .non => true
  | _ => false
def fIsN (S : Store) (x y z : D) : Prop := y = .non ∧ z = .bl (isNon x)
def fNotN (S : Store) (x y z : D) : Prop := y = .non ∧ z = .bl (!isNon x)
section
variable {X : Cx} {T : List (Addr × Str)}
theorem opd_add : OpR X (binaryOp .Add) (rD X.K T fAdd) := fun pins s σ H x y v u Q I rx ry ⟨g, S, dx, dy, dz, gd, r1, r2, hf, q⟩ => by
  have lists : (∃ a b, lsv S dx = some a ∧ lsv S dy = some b ∧ a.length + b.length ≤ sizeLine ∧ dz = .lst (a ++ b)) → wpAny (model X.prog X.w) X.A (binaryOp .Add v u) (EP X pins σ Q) X.xe s := by
    rintro ⟨a, b, ha, hb, hz, rfl⟩
    obtain ⟨p, xs, rfl, hp, rs1⟩ := lsv_at gd r1 ha
    obtain ⟨p2, ys, rfl, hp2, rs2⟩ := lsv_at gd r2 hb
    exact op_cat pins s σ H _ _ v u Q I rx ry ⟨p, p2, xs, ys, rfl, rfl, hp, hp2, by rw [← rs1.length, ← rs2.length]; exact hz, fun l hl => q _ _ (same_upd hl) (Rep.lstNew gd (rs1.append rs2) hl)⟩
  unfold fAdd at hf
  split at hf
  case h_1 i j =>
    subst hf
    exact op_add pins s σ H x y v u Q I rx ry ⟨i, j, r1, r2, q _ H (Same.refl H) rfl⟩
  case h_2 i j =>
    obtain ⟨hz, rfl⟩ := hf
    exact op_add_str pins s σ H x y v u Q I rx ry ⟨i, j, r1, r2, hz, q _ H (Same.refl H) rfl⟩
  case h_3 i j =>
    obtain ⟨hz, rfl⟩ := hf
    have r1' := r1
    have r2' := r2
    obtain ⟨p, xs, rfl, hp, rs1⟩ := Rep.tup_sq r1
    obtain ⟨p2, ys, rfl, hp2, rs2⟩ := Rep.tup_sq r2
    refine op_catA pins s σ H _ _ v u Q I rx ry ⟨p, p2, xs, ys, rfl, rfl, hp, hp2, by rw [← rs1.length, ← rs2.length]; exact hz, fun e => ?_, fun _ e => ?_, fun _ _ l hl => q _ _ (same_upd hl) (Rep.tupNew gd (rs1.append rs2) hl)⟩
    · have hi : i = [] := by
        have := rs1.length
        rw [e] at this
        exact List.eq_nil_of_length_eq_zero this
      subst hi
      exact q _ H (Same.refl H) r2'
    · have hj : j = [] := by
        have := rs2.length
        rw [e] at this
        exact List.eq_nil_of_length_eq_zero this
      subst hj
      rw [List.append_nil] at q
      exact q _ H (Same.refl H) r1'
  case h_4 => exact lists hf
theorem opd_sub : OpR X (binaryOp .Sub) (rD X.K T fSub) := fun pins s σ H x y v u Q I rx ry ⟨g, S, dx, dy, dz, gd, r1, r2, hf, q⟩ => by
  match dx, dy, hf with
  | .int i, .int j, hf =>
    subst hf
    exact op_sub pins s σ H x y v u Q I rx ry ⟨i, j, r1, r2, q _ H (Same.refl H) rfl⟩
theorem Reps.replicate {K : PySem.W.Frag} {g : Gh} {H : Hp} {ds : List D} {vs : List V} (r : Reps K g H ds vs) : ∀ n : Nat, Reps K g H (List.replicate n ds).flatten (List.replicate n vs).flatten
  | 0 => rfl
  | n + 1 => by rw [List.replicate_succ, List.replicate_succ, List.flatten_cons, List.flatten_cons]; exact r.append (Reps.replicate r n)
theorem opd_mul : OpR X (binaryOp .Mult) (rD X.K T fMul) := fun pins s σ H x y v u Q I rx ry ⟨g, S, dx, dy, dz, gd, r1, r2, hf, q⟩ => by
  unfold fMul at hf
  split at hf
  case h_1 i j =>
    obtain ⟨h, hf⟩ := hf
    subst hf
    rcases h with h | h
    · exact op_mul pins s σ H x y v u Q I rx ry ⟨i, j, r1, r2, h, q _ H (Same.refl H) rfl⟩
    · exact op_mulW pins s σ H x y v u Q I rx ry ⟨i, j, r1, r2, h, q _ H (Same.refl H) rfl⟩
  case h_2 i k =>
    obtain ⟨h1, h2, h3, h4, rfl⟩ := hf
    obtain ⟨p, xs, rfl, hp, rs1⟩ := Rep.tup_sq r1
    refine op_repT pins s σ H _ _ v u Q I rx ry ⟨p, k, xs, rfl, r2, hp, ?_, h2, h3, by rw [← rs1.length]; exact h4, fun l hl => q _ _ (same_upd hl) (Rep.tupNew gd (rs1.replicate _) hl)⟩
    rintro rfl
    exact h1 (List.eq_nil_of_length_eq_zero rs1.length)
  case h_3 k _ _ =>
    obtain ⟨a, h, h1, h2, h3, hf⟩ := hf
    subst hf
    obtain ⟨p, xs, rfl, hp, rs1⟩ := lsv_at gd r1 h
    exact op_rep pins s σ H _ _ v u Q I rx ry ⟨p, k, xs, rfl, r2, hp, h1, h2, by rw [← rs1.length]; exact h3, fun l hl => q _ _ (same_upd hl) (Rep.lstNew gd (rs1.replicate _) hl)⟩
  case h_4 => exact hf.elim
theorem opd_fdiv : OpR X (binaryOp .FloorDiv) (rD X.K T fFdiv) := fun pins s σ H x y v u Q I rx ry ⟨g, S, dx, dy, dz, gd, r1, r2, hf, q⟩ => by
  match dx, dy, hf with
  | .int i, .int j, ⟨h, hf⟩ =>
    subst hf
    exact op_fdivW pins s σ H x y v u Q I rx ry ⟨i, j, r1, r2, h, q _ H (Same.refl H) rfl⟩
theorem opd_mod : OpR X (binaryOp .Mod) (rD X.K T fMod) := fun pins s σ H x y v u Q I rx ry ⟨g, S, dx, dy, dz, gd, r1, r2, hf, q⟩ => by
  match dx, dy, hf with
  | .int i, .int j, ⟨h, hf⟩ =>
    subst hf
    exact op_mod pins s σ H x y v u Q I rx ry ⟨i, j, r1, r2, h, q _ H (Same.refl H) rfl⟩
theorem opd_pow : OpR X (binaryOp .Pow) (rD X.K T fPow) := fun pins s σ H x y v u Q I rx ry ⟨g, S, dx, dy, dz, gd, r1, r2, hf, q⟩ => by
  match dx, dy, hf with
  | .int i, .int j, ⟨h, hf⟩ =>
    subst hf
    exact op_pow pins s σ H x y v u Q I rx ry ⟨i, j, r1, r2, h, q _ H (Same.refl H) rfl⟩
theorem opd_lt : OpR X (compareOp .Lt) (rD X.K T fLt) := fun pins s σ H x y v u Q I rx ry ⟨g, S, dx, dy, dz, gd, r1, r2, hf, q⟩ => by
  match dx, dy, hf with
  | .int i, .int j, hf => subst hf; exact op_lt pins s σ H x y v u Q I rx ry ⟨i, j, r1, r2, q _ H (Same.refl H) rfl⟩
theorem opd_le : OpR X (compareOp .LtE) (rD X.K T fLe) := fun pins s σ H x y v u Q I rx ry ⟨g, S, dx, dy, dz, gd, r1, r2, hf, q⟩ => by
  match dx, dy, hf with
  | .int i, .int j, hf => subst hf; exact op_le pins s σ H x y v u Q I rx ry ⟨i, j, r1, r2, q _ H (Same.refl H) rfl⟩
theorem opd_gt : OpR X (compareOp .Gt) (rD X.K T fGt) := fun pins s σ H x y v u Q I rx ry ⟨g, S, dx, dy, dz, gd, r1, r2, hf, q⟩ => by
  match dx, dy, hf with
  | .int i, .int j, hf => subst hf; exact op_gt pins s σ H x y v u Q I rx ry ⟨i, j, r1, r2, q _ H (Same.refl H) rfl⟩
theorem opd_ge : OpR X (compareOp .GtE) (rD X.K T fGe) := fun pins s σ H x y v u Q I rx ry ⟨g, S, dx, dy, dz, gd, r1, r2, hf, q⟩ => by
  match dx, dy, hf with
  | .int i, .int j, hf => subst hf; exact op_ge pins s σ H x y v u Q I rx ry ⟨i, j, r1, r2, q _ H (Same.refl H) rfl⟩
theorem opd_eq {k : Nat} (hr : Room k X.A) : OpR X (compareOp .Eq) (rD X.K T fEq) := fun pins s σ H x y v u Q I rx ry ⟨g, S, dx, dy, dz, gd, r1, r2, ⟨h1, h2, hf⟩, q⟩ => by
  subst hf
  exact op_eqD hr.units pins s σ H x y v u Q I rx ry ⟨_, _, dres_dp gd r1 h1, dres_dp gd r2 h2, sh_shaped h1 (by decide), sh_shaped h2 (by decide), q _ H (Same.refl H) rfl⟩
theorem opd_ne {k : Nat} (hr : Room k X.A) : OpR X (compareOp .NotEq) (rD X.K T fNe) := fun pins s σ H x y v u Q I rx ry ⟨g, S, dx, dy, dz, gd, r1, r2, ⟨h1, h2, hf⟩, q⟩ => by
  subst hf
  exact op_neD hr.units pins s σ H x y v u Q I rx ry ⟨_, _, dres_dp gd r1 h1, dres_dp gd r2 h2, sh_shaped h1 (by decide), sh_shaped h2 (by decide), q _ H (Same.refl H) rfl⟩
theorem rep_non {K : PySem.W.Frag} {g : Gh} {H : Hp} {d : D} {v : V} (r : Rep K g H d v) : decide (v = .non) = isNon d := by
  cases d with
  | non => cases r; rfl
  | bl b => cases r; rfl
  | int b => cases r; rfl
  | str b => cases r; rfl
  | tup ds => obtain ⟨a, vs, e, _⟩ := r; subst e; rfl
  | lst ds => obtain ⟨a, vs, e, _⟩ := r; subst e; rfl
  | fz ds => obtain ⟨a, vs, e, _⟩ := r; subst e; rfl
  | obj C ns ds => obtain ⟨a, dx, vs, e, _⟩ := r; subst e; rfl
  | ref n => obtain ⟨a, e, _⟩ := r; subst e; rfl
  | adr a => cases r; rfl
  | ty n => cases r; rfl
  | fn F => obtain ⟨a, e, _⟩ := r; subst e; rfl
theorem opd_isN : OpR X (compareOp .Is) (rD X.K T fIsN) := fun pins s σ H x y v u Q I rx ry ⟨g, S, dx, dy, dz, gd, r1, r2, ⟨h, hf⟩, q⟩ => by
  subst h hf
  exact op_isN pins s σ H x y v u Q I rx ry ⟨r2, q _ H (Same.refl H) (by rw [← rep_non r1]; exact rfl)⟩
theorem opd_notN : OpR X (compareOp .IsNot) (rD X.K T fNotN) := fun pins s σ H x y v u Q I rx ry ⟨g, S, dx, dy, dz, gd, r1, r2, ⟨h, hf⟩, q⟩ => by
  subst h hf
  exact op_notN pins s σ H x y v u Q I rx ry ⟨r2, q _ H (Same.refl H) (by rw [← rep_non r1]; exact rfl)⟩
end
end DL
namespace DL
open PySem PySem.Spec PyProof.Rows L2
/-! ### iteration -/
def chr1 (c : Nat) : D := .str ⟨#[c]⟩
/-- what a for walks -/
def itv : D → Option (List D)
  | .lst ds => some ds
  | .tup ds => some ds
  | .str x => some (x.cps.toList.map chr1)
  | _ => none
section
variable {X : Cx} {T : List (Addr × Str)} {W : WX} {a b c tg : Expr} {ta tb tc : DTE} {pos p tpos : Pos} {es elts : List Expr} {tes : DTA} {kk : Nat}
theorem walks_str {K : PySem.W.Frag} {g : Gh} {H : Hp} (x : Str) : Walks K g H (x.cps.toList.map chr1) (Its x) := fun g2 H2 _ => by
  refine ⟨fun i d hd => ?_, show x.cps.size ≤ _ by simp⟩
  rw [List.getElem?_map] at hd
  cases q : x.cps.toList[i]? with
  | none => rw [q] at hd; cases hd
  | some c =>
    rw [q] at hd
    cases hd
    have hi : i < x.cps.size := by simpa using (List.getElem?_eq_some_iff.mp q).1
    have q' : x.cps[i]? = some c := by simpa using q
    refine ⟨hi, fun v H' ⟨e, c', e1, e2⟩ => ?_⟩
    subst e
    rw [q'] at e1
    cases e1
    exact ⟨Same.refl _, fun _ _ _ => e2⟩
def diSeq (t : DTE) : DTI := fun r S Q E => t r S (fun d S1 => ∃ ds, itv d = some ds ∧ Q ds S1) E
theorem di_seq (h : DE X T W a ta) : DI X T W tg a (diSeq ta) := ⟨fun pins s σ H R I ⟨g, r, S, Qd, Ed, rl, hh, hq, hx⟩ => by
  refine thn (h.run pins s σ H _ I ⟨g, r, S, _, Ed, rl, hh, fun d S1 g1 H1 v h1 x1 rl1 rp1 => (show (∃ ds, itv d = some ds ∧ Qd ds S1) ∧ Ext g H g1 H1 ∧ Rel X.K T g1 r S1 σ H1 ∧ Rep X.K g1 H1 d v → ∃ d S1 g1, (∃ ds, itv d = some ds ∧ Qd ds S1) ∧ Ext g H g1 H1 ∧ Rel X.K T g1 r S1 σ H1 ∧ Rep X.K g1 H1 d v from fun z => ⟨d, S1, g1, z⟩) ⟨h1, x1, rl1, rp1⟩, hx⟩) fun v s1 ⟨x, H1, I1, r1, d, S1, g1, ⟨ds, e, h1⟩, x1, rl1, rp1⟩ => ?_
  cases d with
  | lst es =>
    cases e
    obtain ⟨p, vs, rfl, hl, rs⟩ := rp1
    have q := hq _ S1 g1 H1 _ h1 x1 rl1 (walks_list hl rs)
    cases r1
    obtain ⟨its, rv, pl, hz⟩ := I1.list (SqL.of hl.1)
    refine wpAny_pyIter_list pl.isList ?_
    refine ⟨s1.heap.objs.size, [s1.heap.objs.size], _, _, H1, rfl, I1.kept (t' := s1.toks) fun b o e => Heap.get?_push_of_some _ e, turn_list p _, ⟨_, Heap.get?_push_size _ rfl, rfl, rfl⟩, fun b hb => ?_, q⟩
    have e : b = s1.heap.objs.size := by simpa using hb
    subst e
    exact I1.fpOk (Nat.le_refl _) (I1.hok.fresh (Nat.le_refl _))
  | tup es =>
    cases e
    obtain ⟨p, vs, rfl, hl, rs⟩ := rp1
    have q := hq _ S1 g1 H1 _ h1 x1 rl1 (walks_tup hl rs)
    cases r1
    obtain ⟨its, rv, pl, hz⟩ := I1.tuple (show SqT X.K H1 p vs from .inl (.inl hl.1))
    refine wpAny_pyIter_tuple (show s1.heap.IsTuple p its.toArray from pl) ?_
    refine ⟨s1.heap.objs.size, [s1.heap.objs.size], _, _, H1, rfl, I1.kept (t' := s1.toks) fun b o e => Heap.get?_push_of_some _ e, turn_tuple p _, ⟨_, Heap.get?_push_size _ rfl, rfl, rfl⟩, fun b hb => ?_, q⟩
    have e : b = s1.heap.objs.size := by simpa using hb
    subst e
    exact I1.fpOk (Nat.le_refl _) (I1.hok.fresh (Nat.le_refl _))
  | str y =>
    cases e
    cases rp1
    obtain ⟨t, rfl⟩ := r1
    have q := hq _ S1 g1 H1 _ h1 x1 rl1 (walks_str y)
    cases ha : y.cps.all (· < 128)
    · exact wpAny_pyIter_wide ha (pi_one (tk := s1.toks) I1 _ (turn_str _ y t "str_iterator" (.inr rfl)) ⟨_, Heap.get?_push_size _ rfl, rfl, rfl⟩ q)
    · exact wpAny_pyIter_ascii ha (pi_one (tk := s1.toks) I1 _ (turn_str _ y t "str_ascii_iterator" (.inl rfl)) ⟨_, Heap.get?_push_size _ rfl, rfl, rfl⟩ q)
  | _ => cases e⟩
/-- lo, lo + 1, .., n of them -/
def rngD (lo : Int) (n : Nat) : List D := (List.range n).map fun k => .int (lo + (k : Nat))
theorem rngD_get {lo : Int} {n i : Nat} {d : D} (h : (rngD lo n)[i]? = some d) : i < n ∧ d = .int (lo + (i : Nat)) := by
  unfold rngD at h
  rw [List.getElem?_map] at h
  by_cases hi : i < n
  · rw [List.getElem?_range hi] at h
    exact ⟨hi, (Option.some.inj h).symm⟩
  · rw [List.getElem?_eq_none (by simpa using hi)] at h; cases h
theorem rngD_len (lo : Int) (n : Nat) : (rngD lo n).length = n := by simp [rngD]
theorem walks_rng {K : PySem.W.Frag} {g : Gh} {H : Hp} (lo : Int) (n : Nat) : Walks K g H (rngD lo n) (Itr lo n) := fun g2 H2 _ => by
  refine ⟨fun i d hd => ?_, show n ≤ _ by rw [rngD_len]; exact Nat.le_refl _⟩
  obtain ⟨hi, rfl⟩ := rngD_get hd
  refine ⟨hi, fun v H' ⟨e, e2⟩ => ?_⟩
  subst e e2
  exact ⟨Same.refl _, fun _ _ _ => rfl⟩
def diRng1 (t : DTA) : DTI := fun r S Q E => t r S (fun ds S1 => ∃ j : Int, ds = [.int j] ∧ -(2 ^ 62) ≤ j ∧ j < 2 ^ 62 ∧ Q (rngD 0 j.toNat) S1) E
def diRng2 (t : DTA) : DTI := fun r S Q E => t r S (fun ds S1 => ∃ i j : Int, ds = [.int i, .int j] ∧ (-(2 ^ 62) ≤ i ∧ i < 2 ^ 62 ∧ -(2 ^ 62) ≤ j ∧ j < 2 ^ 62) ∧ Q (rngD i (j - i).toNat) S1) E
theorem di_rng1 (hg : Gl X "range") (hm : X.mg "range" = none) (ha : DA X T W [a] tes) (hs : starEach [a] X.env = [(false, eval a X.env)] := by rfl) : DI X T W tg (.Call (.Name "range" p) [a] [] pos) (diRng1 tes) := PI.imp (pi_range1 hg hm ha hs) fun σ H R ⟨g, r, S, Qd, Ed, rl, h, hq, hx⟩ => by
  refine ⟨g, r, S, _, Ed, rl, h, fun ds S1 g1 H1 vs ⟨j, e, h1, h2, h3⟩ x1 rl1 rp1 => ?_, hx⟩
  subst e
  obtain ⟨v, q, rfl, e1, rfl⟩ := rp1
  exact ⟨j, by rw [show v = .int j from e1], h1, h2, hq _ S1 g1 H1 _ h3 x1 rl1 (walks_rng 0 _)⟩
theorem di_rng2 (hg : Gl X "range") (hm : X.mg "range" = none) (ha : DA X T W [a, b] tes) (hs : starEach [a, b] X.env = [(false, eval a X.env), (false, eval b X.env)] := by rfl) (hs2 : starEach [b] X.env = [(false, eval b X.env)] := by rfl) :
    DI X T W tg (.Call (.Name "range" p) [a, b] [] pos) (diRng2 tes) := PI.imp (pi_range2 hg hm ha hs hs2) fun σ H R ⟨g, r, S, Qd, Ed, rl, h, hq, hx⟩ => by
  refine ⟨g, r, S, _, Ed, rl, h, fun ds S1 g1 H1 vs ⟨i, j, e, h1, h3⟩ x1 rl1 rp1 => ?_, hx⟩
  subst e
  obtain ⟨v, q, rfl, e1, v2, q2, rfl, e2, rfl⟩ := rp1
  exact ⟨i, j, by rw [show v = .int i from e1, show v2 = .int j from e2], h1, hq _ S1 g1 H1 _ h3 x1 rl1 (walks_rng i _)⟩
/-- enumerate of a list -/
def enumD (ds : List D) : List D := ds.zipIdx.map fun p => .tup [.int ((p.2 : Nat) : Int), p.1]
def zipD (xs ys : List D) : List D := (xs.zip ys).map fun p => .tup [p.1, p.2]
theorem enumD_get {ds : List D} {i : Nat} {d : D} (h : (enumD ds)[i]? = some d) : ∃ x, ds[i]? = some x ∧ d = .tup [.int (i : Nat), x] := by
  unfold enumD at h
  rw [List.getElem?_map, List.getElem?_zipIdx] at h
  cases q : ds[i]? with
  | none => rw [q] at h; cases h
  | some x => rw [q] at h; simp at h; exact ⟨x, rfl, h.symm⟩
theorem zipD_get {xs ys : List D} {i : Nat} {d : D} (h : (zipD xs ys)[i]? = some d) : ∃ x y, xs[i]? = some x ∧ ys[i]? = some y ∧ d = .tup [x, y] := by
  unfold zipD at h
  rw [List.getElem?_map] at h
  cases q : (xs.zip ys)[i]? with
  | none => rw [q] at h; cases h
  | some z =>
    rw [q] at h
    obtain ⟨h1, h2⟩ := List.getElem?_zip_eq_some.mp q
    exact ⟨z.1, z.2, h1, h2, (Option.some.inj h).symm⟩
theorem zipD_len (xs ys : List D) : (zipD xs ys).length = min xs.length ys.length := by simp [zipD]
theorem enumD_len (xs : List D) : (enumD xs).length = xs.length := by simp [enumD]
def diEnum (t : DTA) : DTI := fun r S Q E => t r S (fun ds S1 => ∃ xs, ds = [.lst xs] ∧ Q (enumD xs) S1) E
theorem di_enum (hg : Gl X "enumerate") (hm : X.mg "enumerate" = none) (ha : DA X T W [a] tes) (hs : starEach [a] X.env = [(false, eval a X.env)] := by rfl) :
    DI X T W (.Tuple elts kk tpos) (.Call (.Name "enumerate" p) [a] [] pos) (diEnum tes) := PI.imp (pi_enum hg hm ha hs) fun σ H R ⟨g, r, S, Qd, Ed, rl, h, hq, hx⟩ => by
  refine ⟨g, r, S, _, Ed, rl, h, fun ds S1 g1 H1 vs ⟨xs, e, h3⟩ x1 rl1 rp1 => ?_, hx⟩
  subst e
  obtain ⟨v, q, rfl, ⟨l, ws, rfl, hl, rs⟩, rfl⟩ := rp1
  refine ⟨l, ws, rfl, SqL.of hl.1, hq _ S1 g1 H1 _ h3 x1 rl1 fun g2 H2 x2 => ?_⟩
  have hl2 := x2.keep l _ hl.1 hl.2 (fun _ => nofun)
  have rs2 := Reps.ex0 (K := X.K) x2 _ _ rs
  refine ⟨fun i d hd => ?_, ⟨ws, SqL.of hl2.1, by rw [enumD_len, rs.length]; exact Nat.le_refl _⟩⟩
  obtain ⟨x, hx, rfl⟩ := enumD_get hd
  obtain ⟨w, hw, rw'⟩ := rs2.get hx
  refine ⟨⟨ws, w, SqL.of hl2.1, hw⟩, fun v H' ⟨Tp, y, e1, e2, e3, e4⟩ => ?_⟩
  subst e1 e3
  have e5 := e4 ws (SqL.of hl2.1)
  rw [hw] at e5
  cases e5
  exact ⟨same_upd e2, fun S' T' gd => Rep.tupNew gd (ds := [.int (i : Nat), x]) (vs := [.int (i : Nat), w]) ⟨_, _, rfl, rfl, Reps.one rw'⟩ e2⟩
/-- zip of two lists, of two tuples -/
def diZip (t : DTA) : DTI := fun r S Q E => t r S (fun ds S1 => ∃ xs ys, (ds = [.lst xs, .lst ys] ∨ ds = [.tup xs, .tup ys]) ∧ Q (zipD xs ys) S1) E
theorem di_zip (hg : Gl X "zip") (hm : X.mg "zip" = none) (ha : DA X T W [a, b] tes) (hs : starEach [a, b] X.env = (false, eval a X.env) :: starEach [b] X.env := by rfl) (hpl : (backTo pos (starEach [b] X.env)).any (·.1) = false := by rfl) :
    DI X T W (.Tuple elts kk tpos) (.Call (.Name "zip" p) [a, b] [] pos) (diZip tes) := PI.imp (RZ.pi_zipA hg hm ha hs hpl) fun σ H R ⟨g, r, S, Qd, Ed, rl, h, hq, hx⟩ => by
  refine ⟨g, r, S, _, Ed, rl, h, fun ds S1 g1 H1 vs ⟨xs, ys, e, h3⟩ x1 rl1 rp1 => ?_, hx⟩
  rcases e with e | e
  · subst e
    obtain ⟨v, q, rfl, ⟨l, ws, rfl, hl, rs⟩, v', q', rfl, ⟨l', ws', rfl, hl', rs'⟩, rfl⟩ := rp1
    refine ⟨l, l', ws, ws', rfl, .inl ⟨SqL.of hl.1, SqL.of hl'.1, hq _ S1 g1 H1 _ h3 x1 rl1 fun g2 H2 x2 => ?_⟩⟩
    have hl2 := SqL.of (K := X.K) (x2.keep l _ hl.1 hl.2 (fun _ => nofun)).1
    have hl2' := SqL.of (K := X.K) (x2.keep l' _ hl'.1 hl'.2 (fun _ => nofun)).1
    have rs2 := Reps.ex0 (K := X.K) x2 _ _ rs
    have rs2' := Reps.ex0 (K := X.K) x2 _ _ rs'
    refine ⟨fun i d hd => ?_, ⟨ws, ws', hl2, hl2', by rw [zipD_len, rs.length, rs'.length]; omega⟩⟩
    obtain ⟨x, y, hx, hy, rfl⟩ := zipD_get hd
    obtain ⟨w, hw, rw1⟩ := rs2.get hx
    obtain ⟨w', hw', rw2⟩ := rs2'.get hy
    refine ⟨⟨ws, ws', w, w', hl2, hl2', hw, hw'⟩, fun v H' ⟨Tp, z, z', e1, e2, e3, e4, e4'⟩ => ?_⟩
    subst e1 e3
    have e5 := e4 ws hl2
    have e5' := e4' ws' hl2'
    rw [hw] at e5
    rw [hw'] at e5'
    cases e5
    cases e5'
    exact ⟨same_upd e2, fun S' T' gd => Rep.tupNew gd (ds := [x, y]) (vs := [w, w']) ⟨_, _, rfl, rw1, Reps.one rw2⟩ e2⟩
  · subst e
    obtain ⟨v, q, rfl, ⟨l, ws, rfl, hl, rs⟩, v', q', rfl, ⟨l', ws', rfl, hl', rs'⟩, rfl⟩ := rp1
    have sq : ∀ {g : Gh} {H : Hp} {l : Addr} {ws : List V}, (H l = some (.tup ws) ∧ ¬ g.off l) → SqT X.K H l ws := fun h => .inl (.inl h.1)
    refine ⟨l, l', ws, ws', rfl, .inr ⟨sq hl, sq hl', hq _ S1 g1 H1 _ h3 x1 rl1 fun g2 H2 x2 => ?_⟩⟩
    have hl2 : SqT X.K H2 l ws := .inl (.inl (x2.keep l _ hl.1 hl.2 (fun _ => nofun)).1)
    have hl2' : SqT X.K H2 l' ws' := .inl (.inl (x2.keep l' _ hl'.1 hl'.2 (fun _ => nofun)).1)
    have rs2 := Reps.ex0 (K := X.K) x2 _ _ rs
    have rs2' := Reps.ex0 (K := X.K) x2 _ _ rs'
    refine ⟨fun i d hd => ?_, ⟨ws, ws', hl2, hl2', by rw [zipD_len, rs.length, rs'.length]; omega⟩⟩
    obtain ⟨x, y, hx, hy, rfl⟩ := zipD_get hd
    obtain ⟨w, hw, rw1⟩ := rs2.get hx
    obtain ⟨w', hw', rw2⟩ := rs2'.get hy
    refine ⟨⟨ws, ws', w, w', hl2, hl2', hw, hw'⟩, fun v H' ⟨Tp, z, z', e1, e2, e3, e4, e4'⟩ => ?_⟩
    subst e1 e3
    have e5 := e4 ws hl2
    have e5' := e4' ws' hl2'
    rw [hw] at e5
    rw [hw'] at e5'
    cases e5
    cases e5'
    exact ⟨same_upd e2, fun S' T' gd => Rep.tupNew gd (ds := [x, y]) (vs := [w, w']) ⟨_, _, rfl, rw1, Reps.one rw2⟩ e2⟩
/-! ### calls of built-in functions and classes, by data -/
def rDA (K : PySem.W.Frag) (T : List (Addr × Str)) (f : Store → List D → D → Prop) : List V → Hp → VK → Prop := fun xs H Q => ∃ g S ds dz, GoodS K T g S H ∧ Reps K g H ds xs ∧ f S ds dz ∧ ∀ v H', Same H H' → Rep K g H' dz v → Q v H'
def dCB (f : Store → List D → D → Prop) (t : DTA) : DTE := fun r S Q E => t r S (fun ds S1 => ∃ z, f S1 ds z ∧ Q z S1) E
theorem lift_cb {f : Store → List D → D → Prop} {K : PySem.W.Frag} {σ : L2.St} {H : Hp} {Q : VK} (h : lift K T W (dCB f tes) σ H Q) : tCB (rDA K T f) (liftA K T W tes) σ H Q := by
  obtain ⟨g, r, S, Qd, Ed, rl, h, hq, hx⟩ := h
  refine ⟨g, r, S, _, Ed, rl, h, fun ds S1 g1 H1 vs ⟨z, hf, hz⟩ x1 rl1 rp1 => ?_, hx⟩
  exact ⟨g1, S1, ds, z, rl1.good, rp1, hf, fun v H' s rp => hq z S1 g1 H' v hz (x1.trans (Ext.same s)) (rl1.same s) rp⟩
variable {x : Str} {bid : String} {f : Store → List D → D → Prop}
theorem de_callB (hc : CallR X (.builtin bid) (rDA X.K T f)) (hg : Gl X x) (hm : X.mg x = none) (hv : bootBuiltins x = some (.builtin bid)) (ha : DA X T W (a :: es) tes) (hn : x ≠ "__name__" := by decide) (hdb : (x == ("__debug__" : Str)) = false := by decide)
    (he : starEach (a :: es) X.env = (false, eval a X.env) :: starEach es X.env := by rfl) (hpl : (backTo pos (starEach es X.env)).any (·.1) = false := by rfl) : DE X T W (.Call (.Name x p) (a :: es) [] pos) (dCB f tes) := PE.imp (pe_callB hc hg hm hv ha hn hdb he hpl) fun σ H Q h => lift_cb h
theorem de_callTy (hc : CallR X (.type bid) (rDA X.K T f)) (hg : Gl X x) (hm : X.mg x = none) (hv : bootBuiltins x = some (.type bid)) (ha : DA X T W (a :: es) tes) (hn : x ≠ "__name__" := by decide) (hdb : (x == ("__debug__" : Str)) = false := by decide)
    (he : starEach (a :: es) X.env = (false, eval a X.env) :: starEach es X.env := by rfl) (hpl : (backTo pos (starEach es X.env)).any (·.1) = false := by rfl) : DE X T W (.Call (.Name x p) (a :: es) [] pos) (dCB f tes) := PE.imp (pe_callTy hc hg hm hv ha hn hdb he hpl) fun σ H Q h => lift_cb h
/-- the length; of a text, a list, a tuple -/
def lenD (S : Store) : D → Option Nat
  | .str x => if x.length ≤ sizeLine then some x.length else none
  | .tup ds => some ds.length
  | d => (lsv S d).map (·.length)
def bLen (S : Store) (ds : List D) (z : D) : Prop := ∃ x n, ds = [x] ∧ lenD S x = some n ∧ z = .int (n : Nat)
theorem cb_len : CallR X (.builtin "len") (rDA X.K T bLen) := fun pins s σ H xs us Q I r ⟨g, S, ds, dz, gd, rs, ⟨x, n, e, hl, ez⟩, q⟩ => by
  subst e ez
  obtain ⟨v, q', rfl, r1, rfl⟩ := rs
  refine call_len pins s σ H _ us Q I r ⟨v, n, rfl, ?_, q _ H (Same.refl H) rfl⟩
  have viaL : ∀ {ds : List D}, lsv S x = some ds → n = ds.length → LenV X.K v H n := fun {ds} h e => by
    obtain ⟨p, vs, rfl, hp, rs⟩ := lsv_at gd r1 h
    exact .inl ⟨vs, SqL.of hp, by rw [e, rs.length]⟩
  cases x with
  | str y =>
    cases r1
    have hl' : (if y.length ≤ sizeLine then some y.length else none) = some n := hl
    split at hl'
    · rename_i hz
      exact ⟨hz, (Option.some.inj hl').symm⟩
    · cases hl'
  | tup ds =>
    obtain ⟨p, vs, rfl, hp, rs⟩ := Rep.tup_sq r1
    cases hl
    exact .inr ⟨vs, hp, rs.length⟩
  | lst ds => cases hl; exact viaL rfl rfl
  | ref m =>
    cases h : lsv S (.ref m) with
    | none => simp only [lenD, h] at hl; cases hl
    | some ds => simp only [lenD, h] at hl; cases hl; exact viaL h rfl
  | _ => cases hl
def bAbs (S : Store) (ds : List D) (z : D) : Prop := ∃ i : Int, ds = [.int i] ∧ z = .int (if i < 0 then -i else i)
theorem cb_abs : CallR X (.builtin "abs") (rDA X.K T bAbs) := fun pins s σ H xs us Q I r ⟨g, S, ds, dz, gd, rs, ⟨i, e, ez⟩, q⟩ => by
  subst e ez
  obtain ⟨v, q', rfl, r1, rfl⟩ := rs
  exact call_abs pins s σ H _ us Q I r ⟨i, by rw [show v = .int i from r1], q _ H (Same.refl H) rfl⟩
def bMax2 (S : Store) (ds : List D) (z : D) : Prop := ∃ i j : Int, ds = [.int i, .int j] ∧ z = .int (if j > i then j else i)
theorem cb_max2 (hc : X.calm = true) : CallR X (.builtin "max") (rDA X.K T bMax2) := fun pins s σ H xs us Q I r ⟨g, S, ds, dz, gd, rs, ⟨i, j, e, ez⟩, q⟩ => by
  subst e ez
  obtain ⟨v, q', rfl, r1, v2, q2, rfl, r2, rfl⟩ := rs
  exact call_max2 hc pins s σ H _ us Q I r ⟨i, j, by rw [show v = .int i from r1, show v2 = .int j from r2], q _ H (Same.refl H) rfl⟩
def bMin2 (S : Store) (ds : List D) (z : D) : Prop := ∃ i j : Int, ds = [.int i, .int j] ∧ z = .int (if j < i then j else i)
theorem cb_min2 (hc : X.calm = true) : CallR X (.builtin "min") (rDA X.K T bMin2) := fun pins s σ H xs us Q I r ⟨g, S, ds, dz, gd, rs, ⟨i, j, e, ez⟩, q⟩ => by
  subst e ez
  obtain ⟨v, q', rfl, r1, v2, q2, rfl, r2, rfl⟩ := rs
  exact call_min2 hc pins s σ H _ us Q I r ⟨i, j, by rw [show v = .int i from r1, show v2 = .int j from r2], q _ H (Same.refl H) rfl⟩
/-- int(..) of an int, a truth value, a text -/
def bInt (S : Store) (ds : List D) (z : D) : Prop := match ds with
  | [.int i] => z = .int i
  | [.bl b] => z = .int (if b then 1 else 0)
  | [.str a] => ∃ n, PySem.intText? a = some n ∧ a.length ≤ 640 ∧ z = .int n
  | _ => False
theorem cb_int : CallR X (.type "int") (rDA X.K T bInt) := fun pins s σ H xs us Q I r ⟨g, S, ds, dz, gd, rs, h, q⟩ => by
  unfold bInt at h
  split at h
  · subst h
    obtain ⟨v, q', rfl, r1, rfl⟩ := rs
    exact call_int1 pins s σ H _ us Q I r (.inl ⟨_, by rw [show v = .int _ from r1], q _ H (Same.refl H) rfl⟩)
  · subst h
    obtain ⟨v, q', rfl, r1, rfl⟩ := rs
    exact call_int1 pins s σ H _ us Q I r (.inr ⟨_, by rw [show v = .bl _ from r1], q _ H (Same.refl H) rfl⟩)
  · obtain ⟨n, h1, h2, rfl⟩ := h
    obtain ⟨v, q', rfl, r1, rfl⟩ := rs
    exact call_int_str pins s σ H _ us Q I r ⟨_, n, by rw [show v = .str _ from r1], h1, h2, q _ H (Same.refl H) rfl⟩
  · exact h.elim
def bStr (S : Store) (ds : List D) (z : D) : Prop := ∃ i : Int, ds = [.int i] ∧ i.natAbs.log2 < 1920 ∧ z = .str (toString i)
theorem cb_str : CallR X (.type "str") (rDA X.K T bStr) := fun pins s σ H xs us Q I r ⟨g, S, ds, dz, gd, rs, ⟨i, e, h, ez⟩, q⟩ => by
  subst e ez
  obtain ⟨v, q', rfl, r1, rfl⟩ := rs
  exact call_str_int pins s σ H _ us Q I r ⟨i, by rw [show v = .int i from r1], h, q _ H (Same.refl H) rfl⟩
/-- tuple(list), tuple(tuple); list(list), list(tuple): it stands still -/
def bTuple (S : Store) (ds : List D) (z : D) : Prop := ∃ x, ds = [x] ∧ ((∃ es, lsv S x = some es ∧ z = .tup es) ∨ ∃ es, x = .tup es ∧ z = x)
theorem cb_tuple : CallR X (.type "tuple") (rDA X.K T bTuple) := fun pins s σ H xs us Q I r ⟨g, S, ds, dz, gd, rs, ⟨x, e, h⟩, q⟩ => by
  subst e
  obtain ⟨v, q', rfl, r1, rfl⟩ := rs
  rcases h with ⟨es, h, rfl⟩ | ⟨es, rfl, rfl⟩
  · obtain ⟨p, vs, rfl, hp, rs⟩ := lsv_at gd r1 h
    exact call_tuple_of pins s σ H _ us Q I r ⟨p, vs, rfl, .inl ⟨SqL.of hp, fun l hl => q _ _ (same_upd hl) (Rep.tupNew gd rs hl)⟩⟩
  · have r1' := r1
    obtain ⟨p, vs, rfl, hp, rs⟩ := Rep.tup_sq r1
    exact call_tuple_of pins s σ H _ us Q I r ⟨p, vs, rfl, .inr ⟨hp, q _ H (Same.refl H) r1'⟩⟩
def bList (S : Store) (ds : List D) (z : D) : Prop := ∃ x es, ds = [x] ∧ (lsv S x = some es ∨ x = .tup es ∨ x = .fz es) ∧ z = .lst es
theorem cb_list : CallR X (.type "list") (rDA X.K T bList) := fun pins s σ H xs us Q I r ⟨g, S, ds, dz, gd, rs, ⟨x, es, e, h, ez⟩, q⟩ => by
  subst e ez
  obtain ⟨v, q', rfl, r1, rfl⟩ := rs
  rcases h with h | rfl | rfl
  · obtain ⟨p, vs, rfl, hp, rs⟩ := lsv_at gd r1 h
    exact call_list_of pins s σ H _ us Q I r ⟨p, vs, rfl, .inl (SqL.of hp), fun l hl => q _ _ (same_upd hl) (Rep.lstNew gd rs hl)⟩
  · obtain ⟨p, vs, rfl, hp, rs⟩ := Rep.tup_sq r1
    exact call_list_of pins s σ H _ us Q I r ⟨p, vs, rfl, .inr hp, fun l hl => q _ _ (same_upd hl) (Rep.lstNew gd rs hl)⟩
  · obtain ⟨p, vs, rfl, hp, rs⟩ := r1
    exact call_list_of pins s σ H _ us Q I r ⟨p, vs, rfl, .inl (hp.imp (fun q => q.1) id), fun l hl => q _ _ (same_upd hl) (Rep.lstNew gd rs hl)⟩
/-- all, any of a list of truth values; sum of a list of ints -/
theorem Reps.bls {K : PySem.W.Frag} {g : Gh} {H : Hp} : ∀ {ns : List Bool} {vs : List V}, Reps K g H (ns.map D.bl) vs → vs = ns.map V.bl
  | [], _, h => h
  | n :: ns, _, ⟨v, r, e, h, hr⟩ => by
    have h' : v = .bl n := h
    subst e h'
    rw [Reps.bls hr]; rfl
def bAll (S : Store) (ds : List D) (z : D) : Prop := ∃ (x : D) (bs : List Bool), ds = [x] ∧ lsv S x = some (bs.map D.bl) ∧ z = .bl (bs.all id)
theorem cb_all (hc : X.calm = true) : CallR X (.builtin "all") (rDA X.K T bAll) := fun pins s σ H xs us Q I r ⟨g, S, ds, dz, gd, rs, ⟨x, bs, e, h, ez⟩, q⟩ => by
  subst e ez
  obtain ⟨v, q', rfl, r1, rfl⟩ := rs
  obtain ⟨p, vs, rfl, hp, rs⟩ := lsv_at gd r1 h
  rw [rs.bls] at hp
  exact cr_all hc pins s σ H _ us Q I r ⟨p, bs, rfl, SqL.of hp, q _ H (Same.refl H) rfl⟩
def bAny (S : Store) (ds : List D) (z : D) : Prop := ∃ (x : D) (bs : List Bool), ds = [x] ∧ lsv S x = some (bs.map D.bl) ∧ z = .bl (bs.any id)
theorem cb_any (hc : X.calm = true) : CallR X (.builtin "any") (rDA X.K T bAny) := fun pins s σ H xs us Q I r ⟨g, S, ds, dz, gd, rs, ⟨x, bs, e, h, ez⟩, q⟩ => by
  subst e ez
  obtain ⟨v, q', rfl, r1, rfl⟩ := rs
  obtain ⟨p, vs, rfl, hp, rs⟩ := lsv_at gd r1 h
  rw [rs.bls] at hp
  exact cr_any hc pins s σ H _ us Q I r ⟨p, bs, rfl, SqL.of hp, q _ H (Same.refl H) rfl⟩
def bSum (S : Store) (ds : List D) (z : D) : Prop := ∃ (x : D) (ns : List Int), ds = [x] ∧ lsv S x = some (ns.map D.int) ∧ z = .int ns.sum
theorem cb_sum (hc : X.calm = true) : CallR X (.builtin "sum") (rDA X.K T bSum) := fun pins s σ H xs us Q I r ⟨g, S, ds, dz, gd, rs, ⟨x, bs, e, h, ez⟩, q⟩ => by
  subst e ez
  obtain ⟨v, q', rfl, r1, rfl⟩ := rs
  obtain ⟨p, vs, rfl, hp, rs⟩ := lsv_at gd r1 h
  rw [rs.ints] at hp
  exact cr_sum hc pins s σ H _ us Q I r ⟨p, bs, rfl, SqL.of hp, q _ H (Same.refl H) rfl⟩
/-- isinstance against built-in classes -/
def tyD (S : Store) : D → Option String
  | .non => some "NoneType"
  | .bl _ => some "bool"
  | .int _ => some "int"
  | .str _ => some "str"
  | .tup _ => some "tuple"
  | .lst _ => some "list"
  | _ => none
theorem tyD_ok {K : PySem.W.Frag} {g : Gh} {S : Store} {H : Hp} {d : D} {v : V} {n : String} (r : Rep K g H d v) (h : tyD S d = some n) : TyX K H v (.type n) := by
  cases d with
  | non => cases h; cases r; exact .base .non
  | bl b => cases h; cases r; exact .base (.bl b)
  | int b => cases h; cases r; exact .base (.int b)
  | str b => cases h; cases r; exact .base (.str b)
  | tup ds =>
    cases h
    obtain ⟨a, vs, rfl, hq, _⟩ := r
    exact .base (.tup hq.1)
  | lst ds =>
    cases h
    obtain ⟨a, vs, rfl, hq, _⟩ := r
    exact .base (.lst hq.1)
  | _ => cases h
def bIsi (S : Store) (ds : List D) (z : D) : Prop := ∃ x c n b, ds = [x, .ty c] ∧ tyD S x = some n ∧ kitB n c = some b ∧ z = .bl b
def bIsiT (S : Store) (ds : List D) (z : D) : Prop := ∃ x c1 c2 n b1 b2, ds = [x, .tup [.ty c1, .ty c2]] ∧ tyD S x = some n ∧ kitB n c1 = some b1 ∧ kitB n c2 = some b2 ∧ z = .bl (b1 || b2)
def bIsin (S : Store) (ds : List D) (z : D) : Prop := bIsi S ds z ∨ bIsiT S ds z
theorem cb_isi : CallR X (.builtin "isinstance") (rDA X.K T bIsi) := fun pins s σ H xs us Q I r ⟨g, S, ds, dz, gd, rs, ⟨x, c, n, b, e, h1, h2, ez⟩, q⟩ => by
  subst e ez
  obtain ⟨v, q', rfl, r1, v2, q2, rfl, r2, rfl⟩ := rs
  exact call_isi pins s σ H _ us Q I r ⟨v, .ty c, .type n, .type c, b, by rw [show v2 = .ty c from r2], .ty c, tyD_ok r1 h1, kit_ty h2, q _ H (Same.refl H) rfl⟩
/-! ### items, slices -/
def itemD (S : Store) (x : D) (i : Int) : Option D := match x with
  | .tup ds => atI ds i
  | .str y => if y.length ≤ sizeLine then (atI y.cps.toList i).map chr1 else none
  | x => (lsv S x).bind fun ds => atI ds i
def fIx (S : Store) (x y z : D) : Prop := ∃ i, y = .int i ∧ itemD S x i = some z
theorem Reps.atI {K : PySem.W.Frag} {g : Gh} {H : Hp} {ds : List D} {vs : List V} {i : Int} {d : D} (r : Reps K g H ds vs) (h : L2.atI ds i = some d) : ∃ v, L2.atI vs i = some v ∧ Rep K g H d v := by
  unfold L2.atI at *
  rw [← r.length]
  cases q : ixN ds.length i with
  | none => rw [q] at h; cases h
  | some j => rw [q] at h; exact r.get h
theorem ixd : IxR X (rD X.K T fIx) := fun value slice pins s σ H x y v u Q I rx ry ⟨g, S, dx, dy, dz, gd, r1, r2, ⟨i, e, hf⟩, q⟩ hs => by
  subst e
  have viaL : ∀ {ds : List D}, lsv S dx = some ds → atI ds i = some dz → wpAny (model X.prog X.w) X.A (subscriptTail value slice v u) (EP X pins σ Q) X.xe s := fun {ds} h e => by
    obtain ⟨p, vs, rfl, hp, rs⟩ := lsv_at gd r1 h
    obtain ⟨w, hw, rw'⟩ := rs.atI e
    exact ix_list value slice pins s σ H _ _ v u Q I rx ry ⟨p, vs, i, w, rfl, r2, SqL.of hp, hw, q _ H (Same.refl H) rw'⟩ hs
  cases dx with
  | str z =>
    have hf' : (if z.length ≤ sizeLine then (atI z.cps.toList i).map chr1 else none) = some dz := hf
    split at hf'
    · rename_i hz
      cases q2 : atI z.cps.toList i with
      | none => rw [q2] at hf'; cases hf'
      | some c =>
        rw [q2] at hf'
        cases hf'
        exact ix_str value slice pins s σ H _ _ v u Q I rx ry ⟨z, i, c, r1, r2, hz, q2, q _ H (Same.refl H) rfl⟩ hs
    · cases hf'
  | tup ds =>
    obtain ⟨p, vs, rfl, hp, rs⟩ := Rep.tup_sq r1
    obtain ⟨w, hw, rw'⟩ := rs.atI hf
    exact ix_tup value slice pins s σ H _ _ v u Q I rx ry ⟨p, vs, i, w, rfl, r2, hp, hw, q _ H (Same.refl H) rw'⟩ hs
  | lst ds => exact viaL rfl hf
  | ref m =>
    cases h : lsv S (.ref m) with
    | none => simp only [itemD, h] at hf; cases hf
    | some ds => simp only [itemD, h] at hf; exact viaL h hf
  | _ => cases hf
theorem de_ix (ha : DE X T W a ta) (hb : DE X T W b tb) (hs : PlainIx b) : DE X T W (.Subscript a b pos) (dOp fIx ta tb) := PE.imp (pe_ix ixd ha hb hs) fun σ H Q h => lift_op h
/-- a[lo:hi] -/
def cutD (ds : List D) (lo hi : Option Int) : List D := (ds.drop (HT.sIx ds.length 0 lo)).take (HT.sIx ds.length ds.length hi - HT.sIx ds.length 0 lo)
theorem Reps.cut {K : PySem.W.Frag} {g : Gh} {H : Hp} {ds : List D} {vs : List V} (r : Reps K g H ds vs) (lo hi : Option Int) : Reps K g H (cutD ds lo hi) (cutV vs lo hi) := by
  unfold cutD cutV
  rw [r.length]
  exact (r.drop _).take _
def fSl (S : Store) (x : D) (lo hi : Option Int) (z : D) : Prop := match x with
  | .tup ds => z = .tup (cutD ds lo hi)
  | .str y => y.length ≤ sizeLine ∧ z = .str (cutS y lo hi)
  | .fz ds => z = .lst (cutD ds lo hi)
  | x => ∃ ds, lsv S x = some ds ∧ z = .lst (cutD ds lo hi)
def rSlD (K : PySem.W.Frag) (T : List (Addr × Str)) : V → Option Int → Option Int → Hp → VK → Prop := fun x lo hi H Q => ∃ g S dx dz, GoodS K T g S H ∧ Rep K g H dx x ∧ fSl S dx lo hi dz ∧ ∀ v H', Same H H' → Rep K g H' dz v → Q v H'
theorem sld : SlR X (rSlD X.K T) := fun pins s σ H x v vl vu lo hi sl Q I rx hs pl pu ⟨g, S, dx, dz, gd, r1, hf, q⟩ => by
  unfold fSl at hf
  split at hf
  · subst hf
    have r1' := r1
    obtain ⟨p, vs, rfl, hp, rs⟩ := Rep.tup_sq r1
    refine sl_tupA pins s σ H _ v vl vu lo hi sl Q I rx hs pl pu ⟨p, vs, rfl, hp, fun ⟨e1, e2⟩ => ?_, fun _ l hl => q _ _ (same_upd hl) (Rep.tupNew gd (rs.cut lo hi) hl)⟩
    refine q _ H (Same.refl H) ?_
    have e : ∀ ds : List D, ds.length = vs.length → cutD ds lo hi = ds := fun ds hl => by
      unfold cutD
      rw [hl, e1, e2, List.drop_zero, Nat.sub_zero, ← hl, List.take_length]
    rw [e _ rs.length]
    exact r1'
  · obtain ⟨hz, rfl⟩ := hf
    exact sl_str pins s σ H _ v vl vu lo hi sl Q I rx hs pl pu ⟨_, r1, hz, q _ H (Same.refl H) rfl⟩
  · subst hf
    obtain ⟨p, vs, rfl, hp, rs⟩ := r1
    exact sl_list pins s σ H _ v vl vu lo hi sl Q I rx hs pl pu ⟨p, vs, rfl, hp.imp (fun q => q.1) id, fun l hl => q _ _ (same_upd hl) (Rep.lstNew gd (rs.cut lo hi) hl)⟩
  · obtain ⟨ds, h, rfl⟩ := hf
    obtain ⟨p, vs, rfl, hp, rs⟩ := lsv_at gd r1 h
    exact sl_list pins s σ H _ v vl vu lo hi sl Q I rx hs pl pu ⟨p, vs, rfl, SqL.of hp, fun l hl => q _ _ (same_upd hl) (Rep.lstNew gd (rs.cut lo hi) hl)⟩
abbrev DTO := Sl → Store → (Option Int → Store → Prop) → DX → Prop
def liftO (K : PySem.W.Frag) (T : List (Addr × Str)) (W : WX) (t : DTO) : TO := fun σ H Q => ∃ g r S Qd Ed, Rel K T g r S σ H ∧ t r S Qd Ed ∧ (∀ o S' g' H', Qd o S' → Ext g H g' H' → Rel K T g' r S' σ H' → Q o H') ∧ WOk K T W g H r σ Ed
def DO (X : Cx) (T : List (Addr × Str)) (W : WX) (e : Option Expr) (t : DTO) : Prop := PO X e (liftO X.K T W t)
theorem PO.imp {e : Option Expr} {t t' : TO} (h : PO X e t) (i : ∀ σ H Q, t' σ H Q → t σ H Q) : PO X e t' := ⟨fun pins s σ H Q I q => h.run pins s σ H Q I (i σ H Q q)⟩
def dNoPart : DTO := fun _ S Q _ => Q none S
def dPart (t : DTE) : DTO := fun r S Q E => t r S (fun x S1 => ∃ i, x = .int i ∧ Q (some i) S1) E
theorem do_none : DO X T W none dNoPart := PO.imp po_none fun σ H Q ⟨g, r, S, Qd, Ed, rl, h, hq, hx⟩ => hq none S g H h (Ext.refl g H) rl
theorem do_some (h : DE X T W a ta) : DO X T W (some a) (dPart ta) := PO.imp (po_some h) fun σ H Q ⟨g, r, S, Qd, Ed, rl, h, hq, hx⟩ =>
  ⟨g, r, S, _, Ed, rl, h, fun d S1 g1 H1 v ⟨i, e, h1⟩ x1 rl1 rp1 => ⟨i, by rw [e] at rp1; exact rp1, hq _ S1 g1 H1 h1 x1 rl1⟩, hx⟩
def dSl (t : DTE) (tl th : DTO) : DTE := fun r S Q E => t r S (fun x S1 => tl r S1 (fun l S2 => th r S2 (fun u S3 => ∃ z, fSl S3 x l u z ∧ Q z S3) E) E) E
theorem de_slice {lo hi : Option Expr} {p2 : Pos} {tl th : DTO} (he : DE X T W a ta) (hl : DO X T W lo tl) (hu : DO X T W hi th) : DE X T W (.Subscript a (.Slice lo hi none p2) pos) (dSl ta tl th) := PE.imp (pe_slice sld he hl hu) fun σ H Q ⟨g, r, S, Qd, Ed, rl, h, hq, hx⟩ => by
  refine ⟨g, r, S, _, Ed, rl, h, fun d S1 g1 H1 v h1 x1 rl1 rp1 => ?_, hx⟩
  refine ⟨g1, r, S1, _, Ed, rl1, h1, fun o S2 g2 H2 h2 x2 rl2 => ?_, hx.ext x1⟩
  refine ⟨g2, r, S2, _, Ed, rl2, h2, fun o2 S3 g3 H3 ⟨z, hf, hz⟩ x3 rl3 => ?_, (hx.ext x1).ext x2⟩
  exact ⟨g3, S3, d, z, rl3.good, Rep.ext (x2.trans x3) _ _ rp1, hf, fun v' H' s rp => hq z S3 g3 H' v' hz (((x1.trans x2).trans x3).trans (Ext.same s)) (rl3.same s) rp⟩
end
end DL
namespace DL
open PySem PySem.Spec PyProof.Rows L2
section
variable {K : PySem.W.Frag} {T : List (Addr × Str)} {g : Gh} {S : Store} {H : Hp}
theorem ps_inj (gd : GoodS K T g S H) {n m : Nat} {a : Addr} (h1 : g.ps[n]? = some a) (h2 : g.ps[m]? = some a) : n = m := by
  have nd : g.ps.Nodup := (List.nodup_append.mp gd.nd).1
  obtain ⟨i1, e1⟩ := List.getElem?_eq_some_iff.mp h1
  obtain ⟨i2, e2⟩ := List.getElem?_eq_some_iff.mp h2
  exact (List.getElem_inj nd).mp (e1.trans e2.symm)
/-- a thing of the store is written -/
theorem GoodS.write (gd : GoodS K T g S H) {n : Nat} {a : Addr} {u : HO} {o : O} (nu : NT u) (hn : g.ps[n]? = some a) (hS : n < S.length) (ho : ORep K g (upd H a u) a o) (ht : ∀ t, H a ≠ some (.tbl t)) (hc : ∀ c q, H a ≠ some (LamX.CodeO c q)) : GoodS K T g (S.set n o) (upd H a u) ∧ Ext g H g (upd H a u) := by
  have ha : a ∈ g.ps := List.mem_of_getElem? hn
  have w : ∀ b, ¬ g.off b → upd H a u b = H b := fun b nb => upd_ne fun z => nb (.inl (by rw [z]; exact ha))
  refine ⟨⟨by simp [gd.len], gd.nd, fun m b o' h1 h2 => ?_, fun x hx => ?_, fun y hy => ?_⟩, ⟨fun b o' h1 h2 _ => ?_, fun b o' h1 n1 => ?_, ⟨[], by simp, by simp⟩, rfl⟩⟩
  · by_cases hm : n = m
    · subst hm
      rw [List.getElem?_set_self hS] at h2
      cases h2
      rw [hn] at h1
      cases h1
      exact ho
    · rw [List.getElem?_set_ne hm] at h2
      refine (gd.st m b o' h1 h2).wr w (upd_ne fun z => hm ?_)
      subst z
      exact ps_inj gd hn h1
  · by_cases e : x = a
    · subst e; exact absurd rfl ((List.nodup_append.mp gd.nd).2.2 _ ha _ hx)
    · rw [upd_ne e]; exact gd.hid x hx
  · obtain ⟨ps, q1, q2, q3⟩ := gd.tabs y hy
    refine ⟨ps, ?_, q2, fun pos cv hcv => ?_⟩
    · rw [upd_ne (show y.1 ≠ a from fun z => ht ps (by rw [← z]; exact q1))]; exact q1
    · obtain ⟨c, e1, e2⟩ := q3 pos cv hcv
      refine ⟨c, e1, ?_⟩
      rw [upd_ne (show c ≠ a from fun z => hc c y.2 (by rw [← z]; exact e2))]; exact e2
  · exact (upd_ne (show b ≠ a from fun z => h2 (by rw [z]; exact ha))).trans h1
  · by_cases e : b = a
    · subst e; exact ⟨u, upd_same, nu⟩
    · exact ⟨o', (upd_ne e).trans h1, n1⟩
theorem GoodS.writeL (gd : GoodS K T g S H) {n : Nat} {a : Addr} {vs us : List V} {es : List D} (hn : g.ps[n]? = some a) (hS : n < S.length) (h : H a = some (.lst vs)) (r : Reps K g H es us) : GoodS K T g (S.set n (.lst es)) (upd H a (.lst us)) ∧ Ext g H g (upd H a (.lst us)) :=
  gd.write (fun _ => nofun) hn hS ⟨us, upd_same, Reps.wr (fun b nb => upd_ne fun z => nb (.inl (by rw [z]; exact List.mem_of_getElem? hn))) _ _ r⟩ (fun t z => by rw [h] at z; cases z) (fun c q z => by rw [h] at z; exact codeO_lst (Option.some.inj z))
end
section
variable {X : Cx} {T : List (Addr × Str)} {W : WX} {a b c o e : Expr} {ta tb tc to : DTE} {pos apos cpos : Pos} {es : List Expr} {tes : DTA}
/-- xs[i] = .., xs a list of the store -/
def dgSub (to ti : DTE) : DTG := fun d r S Q => to r S (fun x S1 => ti r S1 (fun y S2 => ∃ (n : Nat) (ds : List D) (k : Int) (j : Nat), x = .ref n ∧ y = .int k ∧ S2[n]? = some (.lst ds) ∧ ixN ds.length k = some j ∧ Q r (S2.set n (.lst (ds.set j d)))) EF) EF
theorem dg_sub (ho : DE X T WF o ta) (hi : DE X T WF a tb)
    (h : ∀ v, assign (.Subscript o a pos) X.env v = (do
      let ov ← holding [v] (eval o X.env)
      let iv ← holding [v, ov] (eval a X.env)
      standAt pos
      holding [v, ov, iv] (setItem ov iv v)
      release [v, ov, iv] []) := by intro _; rfl) : DG X T (.Subscript o a pos) (dgSub ta tb) := PG.imp (pg_sub ho hi set_list h) fun v σ H Q ⟨g, r, S, d, Qd, rl, rp, h, hq⟩ => by
  refine ⟨g, r, S, _, _, rl, h, fun x S1 g1 H1 v1 h1 x1 rl1 rp1 => ?_, fun _ _ _ _ _ _ z => z.elim⟩
  refine ⟨g1, r, S1, _, _, rl1, h1, fun y S2 g2 H2 v2 ⟨n, ds, k, j, e1, e2, hS, hj, hQ⟩ x2 rl2 rp2 => ?_, fun _ _ _ _ _ _ z => z.elim⟩
  subst e1 e2
  obtain ⟨p, e3, hp, vs, hH, rs⟩ := ref_at rl2.good (Rep.ext x2 _ _ rp1) hS
  subst e3
  have rd : Rep X.K g2 H2 d v := Rep.ext (x1.trans x2) _ _ rp
  obtain ⟨gd3, x3⟩ := rl2.good.writeL hp (List.getElem?_eq_some_iff.mp hS).1 hH (rs.set rd j)
  exact ⟨p, vs, k, j, rfl, rp2, hH, by rw [← rs.length]; exact hj, hq r _ g2 σ _ hQ ((x1.trans x2).trans x3) (rl2.good' gd3 x3)⟩
/-! ### methods of built-in classes, by data -/
abbrev MF := Store → D → List D → D → Store → Prop
def rDM (K : PySem.W.Frag) (T : List (Addr × Str)) (f : MF) : V → List V → Hp → VK → Prop := fun x xs H Q => ∃ g S dx ds dz S', GoodS K T g S H ∧ Rep K g H dx x ∧ Reps K g H ds xs ∧ f S dx ds dz S' ∧ ∀ v H' g', Ext g H g' H' → GoodS K T g' S' H' → Rep K g' H' dz v → Q v H'
/-- the receiver's built-in class -/
def tyM (S : Store) (x : D) : Option String := match x with
  | .str _ => some "str"
  | .int _ => some "int"
  | x => (lsv S x).map fun _ => "list"
theorem tyM_ok {K : PySem.W.Frag} {g : Gh} {S : Store} {H : Hp} {d : D} {v : V} {n : String} (gd : GoodS K T g S H) (r : Rep K g H d v) (h : tyM S d = some n) : tyV K n v H := by
  cases d with
  | str y => cases h; cases r; rfl
  | int y => cases h; cases r; rfl
  | lst ds =>
    cases h
    obtain ⟨a, vs, e, q, _⟩ := r
    subst e
    exact .inl ⟨rfl, vs, SqL.of q.1⟩
  | ref m =>
    cases q : lsv S (.ref m) with
    | none => simp only [tyM, q] at h; cases h
    | some ds =>
      simp only [tyM, q] at h
      cases h
      obtain ⟨a, vs, e, q, _⟩ := lsv_at gd r q
      subst e
      exact .inl ⟨rfl, vs, SqL.of q⟩
  | _ => cases h
def dBM (ty : String) (f : MF) (to : DTE) (t : DTA) : DTE := fun r S Q E => to r S (fun x S1 => tyM S1 x = some ty ∧ t r S1 (fun ds S2 => ∃ z S3, f S2 x ds z S3 ∧ Q z S3) E) E
theorem de_bm {ty bid : String} {name : Str} {f : MF} (pa : PlainAttrs ty) (slot : Slot ty name bid) (hty : typeOf (.builtin bid) = pure (.type "method_descriptor")) (hm : MtR X bid (rDM X.K T f)) (ho : DE X T W o to) (ha : DA X T W (e :: es) tes)
    (hbase : attributeBase o name X.env (eval o X.env) = eval o X.env := by rfl)
    (hfew : ((backTo cpos (starEach (e :: es) X.env)).all (fun x => !x.1) && (backToKw cpos (keywordEach [] X.env)).all (fun x => x.1.isSome)
      && decide ((e :: es).length + ([] : List Keyword).length + (if ([] : List Keyword).isEmpty then 0 else 1) < 30)) = true := by rfl)
    (hline : (apos.endLine == cpos.line) = true := by rfl) (hs : starEach (e :: es) X.env = (false, eval e X.env) :: starEach es X.env := by rfl) (hplain : (backTo cpos (starEach es X.env)).any (·.1) = false := by rfl) :
    DE X T W (.Call (.Attribute o name apos) (e :: es) [] cpos) (dBM ty f to tes) := PE.imp (pe_bm pa slot hty hm ho ha hbase hfew hline hs hplain) fun σ H Q ⟨g, r, S, Qd, Ed, rl, h, hq, hx⟩ => by
  refine ⟨g, r, S, _, Ed, rl, h, fun d S1 g1 H1 v ⟨ht, h1⟩ x1 rl1 rp1 => ⟨tyM_ok rl1.good rp1 ht, ?_⟩, hx⟩
  refine ⟨g1, r, S1, _, Ed, rl1, h1, fun ds S2 g2 H2 vs ⟨z, S3, hf, hz⟩ x2 rl2 rp2 => ?_, hx.ext x1⟩
  exact ⟨g2, S2, d, ds, z, S3, rl2.good, Rep.ext x2 _ _ rp1, rp2, hf, fun v' H' g' x3 gd rp => hq z S3 g' H' v' hz ((x1.trans x2).trans x3) (rl2.good' gd x3) rp⟩
theorem de_bm0 {ty bid : String} {name : Str} {f : MF} (pa : PlainAttrs ty) (slot : Slot ty name bid) (hty : typeOf (.builtin bid) = pure (.type "method_descriptor")) (hm : MtR X bid (rDM X.K T f)) (ho : DE X T W o to)
    (hbase : attributeBase o name X.env (eval o X.env) = eval o X.env := by rfl) (hline : (apos.endLine == cpos.line) = true := by rfl) :
    DE X T W (.Call (.Attribute o name apos) [] [] cpos) (dBM ty f to dNil) := PE.imp (pe_bm0 pa slot hty hm ho hbase hline) fun σ H Q ⟨g, r, S, Qd, Ed, rl, h, hq, hx⟩ => by
  refine ⟨g, r, S, _, Ed, rl, h, fun d S1 g1 H1 v ⟨ht, z, S3, hf, hz⟩ x1 rl1 rp1 => ⟨tyM_ok rl1.good rp1 ht, ?_⟩, hx⟩
  exact ⟨g1, S1, d, [], z, S3, rl1.good, rp1, rfl, hf, fun v' H' g' x3 gd rp => hq z S3 g' H' v' hz (x1.trans x3) (rl1.good' gd x3) rp⟩
/-- xs.append(y) -/
def mfAppend : MF := fun S x ds z S' => ∃ (n : Nat) (es : List D) (y : D), x = .ref n ∧ ds = [y] ∧ S[n]? = some (.lst es) ∧ es.length < sizeLine ∧ z = .non ∧ S' = S.set n (.lst (es ++ [y]))
theorem mtd_append : MtR X "list.append" (rDM X.K T mfAppend) := fun pins s σ H x xs v us Q I rx rv ⟨g, S, dx, ds, dz, S', gd, r1, r2, ⟨n, es, y, e1, e2, hS, hz, e3, e4⟩, q⟩ => by
  subst e1 e2 e3 e4
  obtain ⟨p, rfl, hp, vs, hH, rs⟩ := ref_at gd r1 hS
  obtain ⟨w, q', rfl, rw', rfl⟩ := r2
  obtain ⟨gd3, x3⟩ := gd.writeL hp (List.getElem?_eq_some_iff.mp hS).1 hH (rs.append (Reps.one rw'))
  exact mt_append pins s σ H _ _ v us Q I rx rv ⟨p, vs, w, rfl, rfl, hH, by rw [← rs.length]; exact hz, q _ _ g x3 gd3 rfl⟩
theorem Reps.dropLast {K : PySem.W.Frag} {g : Gh} {H : Hp} {ds : List D} {vs : List V} (r : Reps K g H ds vs) : Reps K g H ds.dropLast vs.dropLast := by
  rw [List.dropLast_eq_take, List.dropLast_eq_take, r.length]
  exact r.take _
/-- xs.pop() -/
def mfPop : MF := fun S x ds z S' => ∃ (n : Nat) (es : List D), x = .ref n ∧ ds = [] ∧ S[n]? = some (.lst es) ∧ es[es.length - 1]? = some z ∧ S' = S.set n (.lst es.dropLast)
theorem mtd_pop : MtR X "list.pop" (rDM X.K T mfPop) := fun pins s σ H x xs v us Q I rx rv ⟨g, S, dx, ds, dz, S', gd, r1, r2, ⟨n, es, e1, e2, hS, hz, e4⟩, q⟩ => by
  subst e1 e2 e4
  obtain ⟨p, rfl, hp, vs, hH, rs⟩ := ref_at gd r1 hS
  cases r2
  obtain ⟨gd3, x3⟩ := gd.writeL hp (List.getElem?_eq_some_iff.mp hS).1 hH rs.dropLast
  obtain ⟨w, hw, rw'⟩ := rs.get hz
  exact mt_pop pins s σ H _ _ v us Q I rx rv ⟨p, vs, w, rfl, rfl, hH, by rw [← rs.length]; exact hw, q _ _ g x3 gd3 (Rep.ext x3 _ _ rw')⟩
/-- sep.join(texts) -/
theorem Reps.strs {K : PySem.W.Frag} {g : Gh} {H : Hp} : ∀ {ns : List Str} {vs : List V}, Reps K g H (ns.map D.str) vs → vs = ns.map V.str
  | [], _, h => h
  | n :: ns, _, ⟨v, r, e, h, hr⟩ => by
    have h' : v = .str n := h
    subst e h'
    rw [Reps.strs hr]; rfl
theorem Reps.ofStrs {K : PySem.W.Frag} {g : Gh} {H : Hp} : ∀ ns : List Str, Reps K g H (ns.map D.str) (ns.map V.str)
  | [] => rfl
  | n :: ns => ⟨_, _, rfl, rfl, Reps.ofStrs ns⟩
def mfJoin : MF := fun S x ds z S' => ∃ (a : Str) (y : D) (ys : List Str), x = .str a ∧ ds = [y] ∧ (lsv S y = some (ys.map D.str) ∨ y = .tup (ys.map D.str)) ∧ (ys.map (·.length)).sum + ys.length * a.length ≤ 16777216 ∧ z = .str (Txt.join a ys) ∧ S' = S
theorem mtd_join : MtR X "str.join" (rDM X.K T mfJoin) := fun pins s σ H x xs v us Q I rx rv ⟨g, S, dx, ds, dz, S', gd, r1, r2, ⟨a, y, ys, e1, e2, hy, hz, e3, e4⟩, q⟩ => by
  subst e1 e2 e3 e4
  obtain ⟨w, q', rfl, rw', rfl⟩ := r2
  rcases hy with hy | hy
  · obtain ⟨p, vs, rfl, hp, rs⟩ := lsv_at gd rw' hy
    rw [rs.strs] at hp
    exact mt_join pins s σ H _ _ v us Q I rx rv ⟨a, p, ys, r1, rfl, .inl (SqL.of hp), hz, q _ H g (Ext.refl g H) gd rfl⟩
  · subst hy
    obtain ⟨p, vs, rfl, hp, rs⟩ := Rep.tup_sq rw'
    rw [rs.strs] at hp
    exact mt_join pins s σ H _ _ v us Q I rx rv ⟨a, p, ys, r1, rfl, .inr hp, hz, q _ H g (Ext.refl g H) gd rfl⟩
end
end DL
namespace DL
open PySem PySem.Spec PyProof.Rows L2
/-! ### exceptions of the program's own, made by __init__(self, f1, ..): self.f1 = f1; ..; self.code = c -/
abbrev xns (fs : List Str) : List Str := "code" :: fs.reverse
abbrev xvs (c : Str) (vs : List V) : List V := .str c :: vs.reverse
/-- what __init__ promises of the exception that is being made at a -/
def spXi (C : Addr) (c : Str) (fs : List Str) : Sp := fun vs H Q _ => ∃ (a : Addr) (ws : List V), vs = .ref a :: ws ∧ ws.length = fs.length ∧ H a = some (exo a C none) ∧
  ∀ dx H', H dx = none → dx ≠ a → H' a = some (exo a C (some dx)) → H' dx = some (exd dx ((xns fs).zip (xvs c ws))) → (∀ b, b ≠ a → b ≠ dx → H' b = H b) → Q .non H'
section
variable {X : Cx} {T : List (Addr × Str)} {W : WX} {es : List Expr} {e : Expr} {tes : DTA} {p pos : Pos} {C fI : Addr} {x c : Str} {fs : List Str} {fd : FuncData} {ps : List Str} {k : Nat}
theorem xmk_call {pins : List (Addr × Obj)} {σ : L2.St} {H1 : Hp} {s1 : Shared} {us : List Value} {vs : List V} {Q : XK} (Tc : OexC X.K C) (iC : PySem.W.findIn X.K (.ref C) "__init__" = some (some (.ref fI))) (tI : PySem.W.typeIn X.K (.ref fI) = some (.type "function"))
    (F1 : FnOk X.prog X.w X.K X.mg X.base CX0 k fI fd ps (spXi C c fs)) (hr : Room (k + 1) X.A) (hb : Binds X.K fd ps []) (J1 : Inv X pins σ H1 s1) (rv : Vals vs us) (hn : vs.length = fs.length) (hz : vs.length ≤ 1000)
    (q : ∀ d, H1 d = none → Q (.ref C) (some d) (upd H1 d (.xd ((xns fs).zip (xvs c vs))))) : wpAny (model X.prog X.w) X.A (call (.ref C) us) (MkP X pins σ Q) X.xe s1 := by
  obtain ⟨nm, q0, N, bs, bm, sn, sub, ab, col, dd, k0, k1, k2, k3, k5, hC, hbm⟩ := Tc.cls
  obtain ⟨hp, gn, dr, tk, os⟩ := s1
  have big : hp.objs.size ≤ hp.objs.size + 1 := Nat.le_succ _
  have fresh : H1 (hp.objs.size + 1) = none := J1.hok.fresh big
  have kept : ∀ b o, hp.get? b = some o → ((hp.push (PySem.W.kdv_tup us)).push (PySem.HandSPX.excO C hp.objs.size)).get? b = some o := fun b o e => Heap.get?_push_of_some _ (Heap.get?_push_of_some _ e)
  have got : ((hp.push (PySem.W.kdv_tup us)).push (PySem.HandSPX.excO C hp.objs.size)).get? (hp.objs.size + 1) = some (PySem.HandSPX.excO C hp.objs.size) := by heap_get
  have J2 : Inv X pins σ (upd H1 (hp.objs.size + 1) (exo (hp.objs.size + 1) C none)) ⟨(hp.push (PySem.W.kdv_tup us)).push (PySem.HandSPX.excO C hp.objs.size), gn, dr, tk, os⟩ :=
    J1.laid (t' := tk) (a := hp.objs.size + 1) (o := exo (hp.objs.size + 1) C none) (h' := (hp.push (PySem.W.kdv_tup us)).push (PySem.HandSPX.excO C hp.objs.size)) kept big (exo_ok got)
  have hsp : spXi C c fs (V.ref (hp.objs.size + 1) :: vs) (upd H1 (hp.objs.size + 1) (exo (hp.objs.size + 1) C none)) (fun v H2 => v = .non ∧ ∃ (d : Addr) (gs : List (Str × V)), H2 (hp.objs.size + 1) = some (exo (hp.objs.size + 1) C (some d)) ∧ H2 d = some (exd d gs) ∧ H1 d = none ∧ Q (.ref C) (some d) (upd (del H2 (hp.objs.size + 1)) d (.xd gs))) (fun _ _ _ => False) := by
    refine ⟨_, vs, rfl, hn, upd_same, fun dx H' h1 h2 h3 h4 h5 => ⟨rfl, dx, _, h3, h4, ?_, ?_⟩⟩
    · rw [upd_ne h2] at h1; exact h1
    · have hd : H1 dx = none := by rw [upd_ne h2] at h1; exact h1
      have eq : upd (del H' (hp.objs.size + 1)) dx (.xd ((xns fs).zip (xvs c vs))) = upd H1 dx (.xd ((xns fs).zip (xvs c vs))) := by
        funext b
        by_cases hb1 : b = dx
        · subst hb1; rw [upd_same, upd_same]
        · rw [upd_ne hb1, upd_ne hb1]
          by_cases hb2 : b = hp.objs.size + 1
          · subst hb2; rw [del_same, fresh]
          · rw [del_ne hb2, h5 b hb2 hb1, upd_ne hb2]
      rw [eq]
      exact q dx hd
  have rv2 : Vals (V.ref (hp.objs.size + 1) :: vs) (Value.ref (hp.objs.size + 1) :: us) := .cons rfl rv
  have hl2 : (Value.ref (hp.objs.size + 1) :: us).length = ps.length := by
    rw [← rv2.length]; exact F1.len _ _ _ _ hsp
  have hus : us.length ≤ sizeLine := by
    rw [← Paired.length rv, sizeLine_eq]
    omega
  have bnd := hb _ (Value.ref (hp.objs.size + 1) :: us) J2.kIn (by rw [List.append_nil]; exact hl2)
  rw [List.append_nil] at bnd
  refine wpAny_call (PySem.HandSPX.call_own F.excBase_ValueError (fun Y => PySem.HandSPX.refsVE_contains Y bm hbm) (J1.kIn _ _ hC) (PySem.W.looks_findIn J1.kIn iC) (fun self => PySem.W.bind_fn J1.kIn self tI) hus (codeAny_mono (F1.run _ X.stack _ _ _ _ _ _ (fun _ _ _ => False) (hr.make C us []) (J2.env0.make C us []) bnd rv2 hsp) fun r s' hq' => ?_))
  cases r with
  | error er => exact (show False from hq').elim
  | ok fl =>
    cases fl with
    | ret u =>
      obtain ⟨v, H2, os2, bare2, un2, hok2, rv, ev, d, gs, ea, ed, hd1, q2⟩ := hq'
      subst ev
      obtain ⟨h2, g2, d2, t2, os'⟩ := s'
      exact ⟨rv, mk_end (raises_own Tc.exC Tc.tyC) J1 big kept un2 hok2 os2 bare2 ea ed hd1 q2⟩
    | _ => exact False.elim hq'
/-- raise C(..) -/
def dRaise (C : Str) (c : Str) (fs : List Str) (t : DTA) : DTS := fun d r S => t r S (fun ds S1 => ds.length = fs.length ∧ d.ex ⟨C, xns fs, .str c :: ds.reverse⟩ r S1) (fun x S1 => d.ex x r S1)
theorem Reps.reverse {K : PySem.W.Frag} {g : Gh} {H : Hp} : ∀ {ds : List D} {vs : List V}, Reps K g H ds vs → Reps K g H ds.reverse vs.reverse
  | [], _, h => by cases h; rfl
  | d :: ds, _, ⟨v, r, e, h, hr⟩ => by
    subst e
    rw [List.reverse_cons, List.reverse_cons]
    exact (Reps.reverse hr).append (Reps.one h)
/-- what is known of a class of exceptions -/
structure XCls (P : Program) (w : World) (K : PySem.W.Frag) (mg : Str → Option Value) (base : Heap) (x : Str) (C fI : Addr) (fd : FuncData) (c : Str) (fs ps : List Str) (k : Nat) : Prop where
  oex : OexC K C
  init : PySem.W.findIn K (.ref C) "__init__" = some (some (.ref fI))
  tyI : PySem.W.typeIn K (.ref fI) = some (.type "function")
  fn : FnOk P w K mg base CX0 k fI fd ps (spXi C c fs)
  binds : Binds K fd ps []
  mgx : mg x = some (.ref C)
theorem lift_raise {K : PySem.W.Frag} {N : Ends} {σ : L2.St} {H : Hp} {x : Str} (hf : fs.length ≤ 1000) (h : liftS K T W (dRaise x c fs tes) N σ H) : liftA K T W tes σ H fun vs H1 => vs.length = fs.length ∧ vs.length ≤ 1000 ∧ ∀ d, H1 d = none → W (.ref (He.ga K x)) (some d) σ (upd H1 d (.xd ((xns fs).zip (xvs c vs)))) := by
  obtain ⟨g, r, S, d, rl, h, e⟩ := h
  refine ⟨g, r, S, _, _, rl, h, fun ds S1 g1 H1 vs ⟨hl, h1⟩ x1 rl1 rp1 => ?_, e.wok r σ⟩
  have hl' : vs.length = fs.length := by rw [← rp1.length]; exact hl
  refine ⟨hl', by omega, fun dd hd => e.ex _ r S1 g1 σ _ _ _ h1 (x1.trans (Ext.same (same_upd hd))) (rl1.same (same_upd hd)) ⟨rfl, dd, xvs c vs, rfl, ⟨upd_same, rl1.good.notOff hd, by simp [hl']⟩, ?_⟩⟩
  exact ⟨_, _, rfl, rfl, Reps.ext (Ext.same (same_upd hd)) _ _ rp1.reverse⟩
theorem ds_raise (Tx : XCls X.prog X.w X.K X.mg X.base x (He.ga X.K x) fI fd c fs ps k) (hc : X.calm = true) (tk : Takes X W) (hr : Room (k + 1) X.A) (hg : Gl X x) (ha : DA X T W (e :: es) tes) (hf : fs.length ≤ 1000 := by decide)
    (hdb : (x == ("__debug__" : Str)) = false := by decide) (he : starEach (e :: es) X.env = (false, eval e X.env) :: starEach es X.env := by rfl) (hpl : (backTo pos (starEach es X.env)).any (·.1) = false := by rfl) {pos2 : Pos} :
    DS X T W (.Raise (some (.Call (.Name x p) (e :: es) [] pos)) none pos2) (dRaise x c fs tes) := PS.imp (ps_raise (t := fun σ H Q => liftA X.K T W tes σ H fun vs H1 => vs.length = fs.length ∧ vs.length ≤ 1000 ∧ ∀ d, H1 d = none → Q (.ref (He.ga X.K x)) (some d) (upd H1 d (.xd ((xns fs).zip (xvs c vs))))) hc tk fun pins s σ H Q I h => by
      refine wpAny_Call_Name_kw (ld_glob I hg Tx.mgx ?_ hdb)
      refine PySem.W.callWith_K (h₀ := X.base) I.ok.mod.kin Tx.oex.kC (thn (L2.PA.run ha pos pins s σ H _ I h) fun us s1 ⟨vs, H1, I1, r1, h1, h2, q1⟩ => ⟨I1.kIn, ?_⟩) he hpl
      exact xmk_call Tx.oex Tx.init Tx.tyI Tx.fn hr Tx.binds I1 r1 h1 h2 q1) fun N σ H h => lift_raise hf h
theorem ds_raise0 (Tx : XCls X.prog X.w X.K X.mg X.base x (He.ga X.K x) fI fd c [] ps k) (hc : X.calm = true) (tk : Takes X W) (hr : Room (k + 1) X.A) (hg : Gl X x) (hdb : (x == ("__debug__" : Str)) = false := by decide) {pos2 : Pos} :
    DS X T W (.Raise (some (.Call (.Name x p) [] [] pos)) none pos2) (dRaise x c [] dNil) := PS.imp (ps_raise (t := fun σ H Q => ∀ d, H d = none → Q (.ref (He.ga X.K x)) (some d) (upd H d (.xd ((xns []).zip (xvs c []))))) hc tk fun pins s σ H Q I h => by
      refine wpAny_Call_Name_kw (ld_glob I hg Tx.mgx ?_ hdb)
      exact PySem.W.callWith_K0 I.kIn Tx.oex.kC (xmk_call (us := []) (vs := []) Tx.oex Tx.init Tx.tyI Tx.fn hr Tx.binds I .nil rfl (by decide) h)) fun N σ H h => by
    obtain ⟨g, r, S, d, rl, ⟨_, h1⟩, e⟩ := h
    exact fun dd hd => e.ex _ r S g σ _ _ _ h1 (Ext.same (same_upd hd)) (rl.same (same_upd hd)) ⟨rfl, dd, xvs c [], rfl, ⟨upd_same, rl.good.notOff hd, rfl⟩, ⟨_, _, rfl, rfl, rfl⟩⟩
end
end DL
namespace DL
open PySem PySem.Spec PyProof.Rows L2
/-! ### try .. except (x1, x2) as n -/
/-- what the clause wishes of an exception of the body -/
def wAsT (K : PySem.W.Frag) (c1 c2 : Value) (i : Nat) (ts : Addr → Value → Option Addr → TS) (Wout : WX) (D : Ends) : WX := fun cls d σ H =>
  ∃ b, PySem.W.exmAny K cls [c1, c2] = some b ∧ (b = true → ∀ a, H a = none → ts a cls d { nx := fun σ' H' => D.nx (σ'.set i none) H', rt := D.rt, bk := fun σ' H' => D.bk (σ'.set i none) H', ct := fun σ' H' => D.ct (σ'.set i none) H' } (σ.set i (some (.ref a))) H) ∧
    (b = false → Wout cls d σ H)
section
variable {X : Cx} {x1 x2 n : Str} {c1 c2 : Value} {i : Nat} {body suite : List Stmt} {b0 : Stmt} {np1 np2 tpos pos pos' : Pos} {kk : Nat} {tb : WX → TS} {ts : Addr → Value → Option Addr → TS} {Wout : WX}
theorem flyZ_push {B h : Heap} {l : List Env} {a : Addr} {Z : Obj → Prop} (f : HandSPX.FlyingZ B l a Z h) (o : Obj) : HandSPX.FlyingZ B l a Z (h.push o) := by
  obtain ⟨f1, f2, f3, oe, ws, t, oT, ts, he, hc, hd, h1, hn, hne, hT, hdT, h3⟩ := f
  have k : ∀ b u, h.get? b = some u → (h.push o).get? b = some u := fun _ _ z => Heap.get?_push_of_some _ z
  exact ⟨fun b u q => k b u (f1 b u q), f2, f3.of_keeps fun b u q _ => ⟨u, k b u q, rfl⟩, oe, ws, t, oT, ts, k _ _ he, hc, hd, h1, hn, hne, k _ _ hT, hdT, h3⟩
theorem ps_try_asT (hs : X.stack = X.env :: X.outer) (hf : X.env.frame = some X.env.locals) (hN : X.N.Nodup) (hi : X.N[i]? = some n) (hln : X.env.kindOf n = some .local) (hn1 : Names X x1 c1) (hn2 : Names X x2 c2) (tk : Takes X Wout)
    (hb : ∀ (W : WX) (pn : List (Addr × Obj)) (xe : Value → Shared → Prop), Takes (X.tr pn xe) W → PassesOwn (model X.prog X.w) X.A X.env xe → PSs (X.tr pn xe) body (tb W))
    (hsu : ∀ (a : Addr) (oe : Obj) (cls : Value) (d : Option Addr) (pn : List (Addr × Obj)), Zc cls d oe → (∃ vs, oe.data = .fields vs) → PSs (X.suite a ((a, oe) :: pn)) (b0 :: suite) (ts a cls d)) :
    PS X (.Try body [.ExceptHandler (some (.Tuple [.Name x1 np1, .Name x2 np2] kk tpos)) (some n) (b0 :: suite) pos'] [] [] pos) (fun D σ H => tb (wAsT X.K c1 c2 i ts Wout D) D σ H) := by
  refine ⟨fun pins s σ H D I0 h => ?_⟩
  have ok := I0.ok
  have frm : X.A.frames = some (X.env :: X.outer) := by rw [ok.frames, hs]
  have isLoc : Loc X.env.scope n := .inl hln
  refine wpAny_Try_except ?_
  refine wpAny_mono ((hb (wAsT X.K c1 c2 i ts Wout D) (X.pn ++ pins) (fun e sA => wpAny (model X.prog X.w) X.A (noteFrame e X.env) (fun _ sB => wpAny (model X.prog X.w) X.A (setFlight e none) (fun _ sC =>
    wpAny (model X.prog X.w) X.A (handleBy e X.env [.ExceptHandler (some (.Tuple [.Name x1 np1, .Name x2 np2] kk tpos)) (some n) (b0 :: suite) pos']) (SP X pins D) X.xe sC) X.xe sB) X.xe sA) (fun u s' xx => ?_) PassesOwn.looking).run [] s σ H D (I0.toTry _) h) (fun f sA hsp => ?_) (fun e sA he => he)
  · obtain ⟨a, B, sI, pins', σ', H', cls, d, rfl, Jt, nb, up, sky, na, os, ag, b, hb1, hyes, hno⟩ := xx
    have J : Inv X pins σ' H' sI := Jt.ofTry ok
    have sky2 : Sky B (X.env :: X.outer) a (Zc cls d) X.env.locals s'.heap := by rw [← hs]; exact sky
    show wpAny (model X.prog X.w) X.A (noteFrame (.ref a) X.env) _ _ _
    refine Sky.land Zc.steady frm hf sky2 fun hA flA upA => ?_
    have JA : Inv X pins σ' H' { s' with heap := hA } := J.landed nb flA.1 (up.trans upA) os ag
    obtain ⟨oeA, vsA, heA, hzA, hdA⟩ := flA.there
    have outF : ∀ {h : Heap} {o : Obj} {vs : Array Value}, h.FunFrames B (X.env :: X.outer) → h.get? a = some o → o.data = .fields vs → a ∉ frs (X.env :: X.outer) := fun {h o vs} ff e dd hm => by
      obtain ⟨_, o2, e2, hnf⟩ := ff.mem hm
      rw [e] at e2; cases e2
      exact hnf _ dd
    have nfr := outF flA.2.2.1 heA hdA
    have nL : a ≠ X.env.locals := fun z => nfr (List.mem_filterMap.mpr ⟨X.env, List.mem_cons_self, by rw [hf, z]⟩)
    have nF : a ∉ X.fs := fun hm => by
      obtain ⟨e, he, q⟩ := List.mem_filterMap.mp hm
      exact nfr (List.mem_filterMap.mpr ⟨e, List.mem_cons_of_mem _ he, q⟩)
    have SA := JA.suite heA hdA na nL nF
    refine wpAny_handleBy_cons (codeAny_handlers_test ?_) (by intro q; cases q)
    have LT : PySem.W.Looks (model X.prog X.w) hA (typeOf (.ref a)) cls := fun A Q E s k q => wpAny_typeOf_ref (k _ _ heA) (by rw [hzA.1]; exact q)
    have kp : ∀ q o, hA.get? q = some o → (hA.push { cls := .type "tuple", data := .seq [c1, c2].toArray }).get? q = some o := fun _ _ z => Heap.get?_push_of_some _ z
    have LM := PySem.W.exm_tup2 (M := model X.prog X.w) (JA.kIn.keeps kp) (LT.keeps kp) (Heap.get?_push_size hA rfl) hb1
    have nameOk : ∀ {x : Str} {c : Value} {np : Pos} {Q : Value → Shared → Prop} {E : Value → Shared → Prop}, Names X x c → Q c { s' with heap := hA } → wpAny (model X.prog X.w) (X.A.mark (some (.ref a))) (eval (.Name x np) X.env) Q E { s' with heap := hA } := fun {x c np Q E} hc q => by
      obtain ⟨hg, hdbg, hm | ⟨hm, hv, hnn⟩⟩ := hc
      · exact ld_glob (X := X.suite a ((a, oeA) :: (X.pn ++ pins))) SA hg hm q hdbg
      · exact ld_blt (X := X.suite a ((a, oeA) :: (X.pn ++ pins))) SA hg hm hv q hnn hdbg
    refine wpAny_Tuple (wpAny_items_cons (nameOk hn1 (wpAny_items_cons (nameOk hn2 (wpAny_items_nil ⟨by size_fits, LM.here ?_⟩)))))
    have flP := flyZ_push flA { cls := .type "tuple", data := .seq [c1, c2].toArray }
    have upP : sI.heap.UpToSlots (hA.push { cls := .type "tuple", data := .seq [c1, c2].toArray }) := (up.trans upA).trans (Heap.UpToSlots.of_keeps kp)
    have JP : Inv X pins σ' H' { s' with heap := hA.push { cls := .type "tuple", data := .seq [c1, c2].toArray } } := J.landed nb flP.1 upP os ag
    cases b with
    | true =>
      refine codeAny_handlers_suite_as ?_
      refine HandSPX.lands_againZ flP fun hB flB upB => ?_
      have JB : Inv X pins σ' H' { s' with heap := hB } := J.landed nb flB.1 (upP.trans upB) os ag
      obtain ⟨oeB, vsB, heB, hzB, hdB⟩ := flB.there
      have SB := JB.suite heB hdB na nL nF
      refine store_ok (X := X.suite a ((a, oeB) :: (X.pn ++ pins))) (v := .ref a) SB hN hi isLoc rfl (fun sD SD => ?_) (.inr hln)
      refine wpAny_mono ((hsu a oeB cls d (X.pn ++ pins) hzB ⟨_, hdB⟩).run [] sD _ H' _ SD (hyes rfl a na)) (fun f sE hsp => ?_) (fun _ _ z => False.elim z)
      have close : ∀ {σE : L2.St} {HE : Hp} {Q : Shared → Prop}, Inv (X.suite a ((a, oeB) :: (X.pn ++ pins))) [] σE HE sE → (∀ sF, Inv X pins (σE.set i none) HE sF → Q sF) →
          wpAny (model X.prog X.w) X.A (do bindName X.env n .none; unbindBehindTheSuite X.env n pos') (fun _ sF => Q sF) X.xe sE := fun {σE HE Q} SE hq => gone_ok (SE.unsuite ok) hN hi hln hq
      cases f with
      | next => obtain ⟨σE, HE, SE, qE⟩ := hsp; exact close SE fun sF JF => ⟨_, _, JF, qE⟩
      | brk => obtain ⟨σE, HE, SE, qE⟩ := hsp; exact close SE fun sF JF => ⟨_, _, JF, qE⟩
      | cont => obtain ⟨σE, HE, SE, qE⟩ := hsp; exact close SE fun sF JF => ⟨_, _, JF, qE⟩
      | ret u => obtain ⟨vE, σE, HE, SE, rE, qE⟩ := hsp; exact close SE fun sF JF => ⟨_, _, _, JF, rE, qE⟩
    | false =>
      show wpAny _ X.A (handleBy (.ref a) X.env []) _ _ _
      refine wpAny_handleBy_nil ?_
      obtain ⟨k1, k2, k3, oe, vs, t, oT, ts2, he, hz, hd, h1, hr⟩ := id flP
      unfold PySem.passOn
      refine wpAny_bind (wpAny_field he hd h1 ?_)
      rw [if_neg (show ¬ ((Value.ref t == Value.none) = true) from by simp)]
      have away : wpAny (model X.prog X.w) X.A (setFlight (.ref a) X.env.frame) (fun _ sG => wpAny (model X.prog X.w) X.A (throw (.ref a) : Sem Flow) (SP X pins D) X.xe sG) X.xe { s' with heap := hA.push { cls := .type "tuple", data := .seq [c1, c2].toArray } } := by
        rw [hf]
        refine HandSPX.setFlight_upZ flP fun hG hhG upG => wpAny_throw (tk _ _ ?_)
        exact ⟨a, B, sI, pins, σ', H', cls, d, rfl, J, nb, upP.trans upG, .inr (.inr (by rw [hs]; exact hhG)), na, os, ag, hno rfl⟩
      first
        | exact wpAny_bind (wpAny_pure (wpAny_bind away))
        | exact wpAny_bind away
  · cases f with
    | next => obtain ⟨σ', H', Jt, q⟩ := hsp; exact wpAny_execs_nil ⟨σ', H', Jt.ofTry ok, q⟩
    | brk => obtain ⟨σ', H', Jt, q⟩ := hsp; exact ⟨σ', H', Jt.ofTry ok, q⟩
    | cont => obtain ⟨σ', H', Jt, q⟩ := hsp; exact ⟨σ', H', Jt.ofTry ok, q⟩
    | ret u => obtain ⟨v, σ', H', Jt, r, q⟩ := hsp; exact ⟨v, σ', H', Jt.ofTry ok, r, q⟩
end
/-! ### a def that is called in an except suite with the exception that is handled -/
structure FnP (P : Program) (w : World) (K : PySem.W.Frag) (mg : Str → Option Value) (base : Heap) (k : Nat) (f : Addr) (fd : FuncData) (ps : List Str) (sp : Addr × Obj → Sp) : Prop where
  len : ∀ p vs H Q E, sp p vs H Q E → vs.length = ps.length
  run : ∀ (A : Around) (outer : List Env) (s : Shared) (H : Hp) (args : Args) (us : List Value) (vs : List V) (Q : VK) (p : Addr × Obj), L2H.RoomH k A → L2H.PinOk outer H s p → Env0 P w K mg base A outer s H → BindsTo s fd args (ps.zip us) → Vals vs us → sp p vs H Q E0 →
    codeAny (model P w) A (.call (.ref f) args) (CR CX0 outer P w H s Q E0) s
theorem fnP_of {P : Program} {w : World} {K : PySem.W.Frag} {mg : Str → Option Value} {base : Heap} {k : Nat} {f : Addr} {x qual : Str} {st : Stmt} {fd : FuncData} {N ps : List Str} {sp : Addr × Obj → Sp} {dvs : List V} {kws : List (Str × V)} (F : FunS K x qual st dvs kws f fd) (Sc : FnScope N ps (defScope st))
    (len : ∀ p vs H Q E, sp p vs H Q E → vs.length = ps.length)
    (hbody : ∀ (cdv : Value) (A : Around) (outer : List Env) (s : Shared) (H : Hp) (vs : List V) (Q : VK) (p : Addr × Obj), L2H.RoomH k (A.deeper (envOfC qual (defScope st) s.heap.objs.size f cdv)) → sp p vs H Q E0 →
      ∃ t, PSs (L2H.cxH CX0 P w K mg base N qual (defScope st) f cdv A outer s H E0 p) (defBody st) t ∧ t { nx := fun _ H' => Q .non H', rt := Q } (L2.start N vs) H) :
    FnP P w K mg base (k + 1) f fd ps sp := by
  obtain ⟨oc, od, dV, kV, doc, pm, an, cdv, ct, osl, rfl, lk, hcd, _, _⟩ := F.ex
  refine ⟨len, fun A outer s H args us vs Q p hr hpin e0 hb r hsp => ?_⟩
  have KX : K.In s.heap := e0.mod.kin.keeps fun b o e => (e0.bs b o e).1
  have lim : s.heap.NoLimit := e0.mod.nolimit.keeps fun b o e => (e0.bs b o e).1
  have kinds : ∀ y ∈ ps.zip us, (defScope st).names.lookup y.1 = some .local ∨ ((defScope st).names.lookup y.1 = some .cell ∧ ((cellsFrom (s.heap.objs.size + 1) (defScope st).names []).lookup y.1).isSome = true) := fun ⟨n, v⟩ hy =>
    (Sc.par n (List.of_mem_zip hy).1).imp id fun q => ⟨q, PySem.W.cellsFrom_some _ _ _ (.inl q)⟩
  refine codeAny_call_function hr.depth (KX _ _ lk) rfl Sc.co Sc.gen rfl (PySem.W.codeRec_of KX hcd) (hb _ _ _ _ ?_)
  refine wpAny_newFunctionEnv_cells Sc.kind kinds fun env he s1 x => ?_
  subst he
  refine ⟨lim.keeps x.toInCall.keep, codeAny_func ?_⟩
  obtain ⟨t, ht, hq⟩ := hbody cdv A outer s H vs Q p (hr.deeper _) hsp
  have I1 : Inv (L2H.cxH CX0 P w K mg base N qual (defScope st) f cdv A outer s H E0 p) [] (L2.start N vs) H s1 := L2H.inv_startH Sc hpin e0 (len _ _ _ _ _ hsp) r x
  refine wpAny_mono (ht.run [] s1 (L2.start N vs) H _ I1 hq) (fun fl s' hs => ?_) fun e s' hs => hs
  cases fl with
  | ret u => obtain ⟨v, σ', H', J, rv, q⟩ := hs; exact ⟨v, H', J.os, J.bare, J.base, J.hok, rv, q⟩
  | next => obtain ⟨σ', H', J, q⟩ := hs; exact ⟨.non, H', J.os, J.bare, J.base, J.hok, rfl, q⟩
  | brk => obtain ⟨_, _, _, q⟩ := hs; exact False.elim q
  | cont => obtain ⟨_, _, _, q⟩ := hs; exact False.elim q
section
variable {X : Cx} {k : Nat} {f : Addr} {fd : FuncData} {ps : List Str} {sp : Addr × Obj → Sp} {x : Str} {q pos : Pos} {e : Expr} {es : List Expr} {t : TA} {p : Addr × Obj}
theorem pe_callP (F : FnP X.prog X.w X.K X.mg X.base k f fd ps sp) (hr : L2H.RoomH k X.A) (hp : p ∈ X.pn) (hg : Gl X x) (hm : X.mg x = some (.ref f)) (hk : PySem.W.keepIn X.K (.ref f) = true) (hb : Binds X.K fd ps [])
    (ha : PA X (e :: es) t) (hdb : (x == ("__debug__" : Str)) = false := by decide) (he : starEach (e :: es) X.env = (false, eval e X.env) :: starEach es X.env := by rfl) (hpl : (backTo pos (starEach es X.env)).any (·.1) = false := by rfl) :
    PE X (.Call (.Name x q) (e :: es) [] pos) (fun σ H Q => t σ H fun vs H1 => sp p vs H1 Q E0) := by
  refine ⟨fun pins s σ H Q I h => ?_⟩
  refine wpAny_Call_Name_kw (ld_glob I hg hm ?_ hdb)
  refine PySem.W.callWith_K (h₀ := X.base) I.ok.mod.kin hk (thn (ha.run pos pins s σ H _ I h) fun us s1 ⟨vs, H1, J, r, q⟩ => ⟨J.kIn, ?_⟩) he hpl
  have hl : us.length = ps.length := by rw [← r.length]; exact F.len _ _ _ _ _ q
  have bd := hb s1 us J.kIn (by rw [List.append_nil]; exact hl)
  rw [List.append_nil] at bd
  have P1 := J.pin p (List.mem_append_left _ hp)
  have pin : L2H.PinOk X.stack H1 s1 p := ⟨P1.1, P1.2.1, fun hm => (List.mem_cons.mp (J.stkSub p.1 hm)).elim P1.2.2.1 P1.2.2.2.1, P1.2.2.2.2⟩
  refine wpAny_call (codeAny_mono (F.run X.A X.stack s1 H1 ⟨us, []⟩ us vs Q p hr pin J.env0 bd r q) fun r s' hq => ?_)
  cases r with
  | error e => exact (show False from hq).elim
  | ok fl =>
    cases fl with
    | ret u => exact J.after hq
    | _ => exact False.elim hq
/-- the field n of the exception p that the context bears -/
def tXp (p : Addr × Obj) (n : Str) (te : TE) : TE := fun σ H Q => te σ H fun x H1 => x = .ref p.1 ∧ ∃ (C dd : Addr) (fs : List (Str × V)) (v : V) (gs : Array Value), p.2.cls = .ref C ∧ p.2.dict = some dd ∧ p.2.data = .fields gs ∧ XfC X.K C ∧ PySem.W.findIn X.K (.ref C) n = some none ∧ H1 dd = some (.xd fs) ∧ fs.lookup n = some v ∧ Q v H1
theorem pe_xp {n : Str} {te : TE} (hp : p ∈ X.pn) (h : PE X e te) (hb : attributeBase e n X.env (eval e X.env) = eval e X.env := by rfl) : PE X (.Attribute e n pos) (tXp (X := X) p n te) := by
  refine ⟨fun pins s σ H Q I hw => ?_⟩
  refine attr_of hb (thn (h.run pins s σ H _ I hw) fun u s1 hh => ?_)
  obtain ⟨x, H1, I1, rx, ex, C, dd, fs, v, gs, hc, hdd, hdt, Tx, hno, ea, l, q⟩ := hh
  subst ex
  obtain rfl : u = Value.ref p.1 := rx
  have got := (I1.pin p (List.mem_append_left _ hp)).1
  have okx : ObjOk X.prog X.w H1 s1.heap dd (.xd fs) := I1.hok dd _ ea
  obtain ⟨mA, hns, hr⟩ := okx
  obtain ⟨od, ho, hl⟩ := lookIn_ns hns
  obtain ⟨u, hu, ru⟩ := RelO.some_of (v := v) (o := mA n) (by rw [← l]; exact hr n)
  have J : PySem.W.InstAt s1.heap p.1 p.2 C (some od) := ⟨got, hc, by unfold PySem.W.notCls; rw [hdt] <;> rfl, by rw [hdd]; exact ho⟩
  exact HandSPX.exc_get I1.kIn J Tx.ga Tx.gg Tx.exC (PySem.W.findObj_own Tx.hdC hno rfl (by rw [hl, hu])) (handed_of ru) ⟨v, H1, I1.tok _, ru, q⟩
end
end DL
namespace DL
open PySem PySem.Spec PyProof.Rows L2
/-! ### the laws' own _law_field and _law_try -/
def cLim : List Str := ["TooMany", "TooLong", "LimitReached"]
def cNam : List Str := ["InvalidName", "WrongKind", "CircularName", "NameInUse", "DuplicateName", "UnknownName"]
def cInd : List Str := ["InvalidTurn", "InvalidCommand"]
/-- which field is told of an exception with the code c -/
def fldA (c : Str) : Option (Option Str) :=
  if inV (.str c) (cLim.map V.str) = true then some (some "limit")
  else if inV (.str c) (cNam.map V.str) = true then some (some "name")
  else if inV (.str c) (cInd.map V.str) = true then some (some "index")
  else if c = "InvalidChoice" then some (some "number")
  else if c = "Endless" then none else some none
def fldV (fs : List (Str × V)) (c : Str) (v : V) : Prop := (fldA c = some none ∧ v = .non) ∨ ∃ n, fldA c = some (some n) ∧ fs.lookup n = some v
/-- what is asked of a class of exceptions whose instances are told -/
structure XA (K : PySem.W.Frag) (C : Addr) : Prop where
  xf : XfC K C
  no : ∀ n ∈ (["code", "limit", "name", "index", "number"] : List Str), PySem.W.findIn K (.ref C) n = some none
def spField (K : PySem.W.Frag) (p : Addr × Obj) : Sp := fun vs H Q _ => ∃ (C dd : Addr) (fs : List (Str × V)) (c : Str) (v : V) (gs : Array Value), vs = [.ref p.1] ∧ p.2.cls = .ref C ∧ p.2.dict = some dd ∧ p.2.data = .fields gs ∧ XA K C ∧ H dd = some (.xd fs) ∧
  fs.lookup ("code" : Str) = some (.str c) ∧ fldV fs c v ∧ ∀ H', Same H H' → Q v H'
def tStrs : List Str → TA
  | [] => tNil
  | c :: l => tCons (tC (.str c)) (tStrs l)
section
variable {X : Cx} {p : Addr × Obj}
abbrev tInL (X : Cx) (p : Addr × Obj) (l : List Str) : TT := tTest (tOp (rIn X.K false) (tXp (X := X) p "code" (tVar 0)) (tTup (tStrs l)))
abbrev tField (X : Cx) (p : Addr × Obj) : TS :=
  tSeq (tIfS (tInL X p cLim) (tRet (tXp (X := X) p "limit" (tVar 0))) tNext) (tSeq (tIfS (tInL X p cNam) (tRet (tXp (X := X) p "name" (tVar 0))) tNext) (tSeq (tIfS (tInL X p cInd) (tRet (tXp (X := X) p "index" (tVar 0))) tNext)
    (tSeq (tIfS (tTest (tOp rEq (tXp (X := X) p "code" (tVar 0)) (tC (.str "InvalidChoice")))) (tRet (tXp (X := X) p "number" (tVar 0))) tNext)
      (tRet (tIf (tTest (tOp rEq (tXp (X := X) p "code" (tVar 0)) (tC (.str "Endless")))) (tTup (tCons (tXp (X := X) p "name" (tVar 0)) (tCons (tXp (X := X) p "bag" (tVar 0)) tNil))) (tC .non))))))
theorem strs_rd (σ : L2.St) (H : Hp) : ∀ (l : List Str) (Q : List V → Hp → Prop), Q (l.map V.str) H → tStrs l σ H Q
  | [], Q, h => h
  | c :: l, Q, h => strs_rd σ H l (fun xs H2 => Q (.str c :: xs) H2) h
theorem flat_strs : ∀ l : List Str, (l.map V.str).all flatV = true
  | [] => rfl
  | c :: l => by rw [List.map_cons, List.all_cons, flat_strs l]; rfl
theorem inL_rd {C dd : Addr} {fs : List (Str × V)} {c : Str} {gs : Array Value} {σ : L2.St} {H : Hp} (l : List Str) (hl : l.length ≤ 100) (hσ : σ[0]? = some (some (.ref p.1))) (hc : p.2.cls = .ref C) (hd : p.2.dict = some dd) (hg : p.2.data = .fields gs) (Tx : XA X.K C) (ha : H dd = some (.xd fs)) (hco : fs.lookup ("code" : Str) = some (.str c))
    {Q : Bool → Hp → Prop} (h : ∀ H', Same H H' → Q (inV (.str c) (l.map V.str)) H') : tInL X p l σ H Q := by
  refine ⟨_, hσ, rfl, C, dd, fs, .str c, gs, hc, hd, hg, Tx.xf, Tx.no _ (by decide), ha, hco, ?_⟩
  refine strs_rd σ H l _ ⟨?_, fun t ht => ?_⟩
  · rw [List.length_map, sizeLine_eq]; omega
  · exact ⟨t, _, rfl, .inr (SqT.of upd_same), rfl, flat_strs l, _, rfl, h _ (same_upd ht)⟩
theorem fld_rd {C dd : Addr} {fs : List (Str × V)} {v : V} {gs : Array Value} {σ : L2.St} {H : Hp} {n : Str} (hn : n ∈ (["code", "limit", "name", "index", "number"] : List Str)) (hσ : σ[0]? = some (some (.ref p.1))) (hc : p.2.cls = .ref C) (hd : p.2.dict = some dd) (hg : p.2.data = .fields gs) (Tx : XA X.K C) (ha : H dd = some (.xd fs)) (hco : fs.lookup n = some v)
    {Q : VK} (h : Q v H) : tXp (X := X) p n (tVar 0) σ H Q := ⟨_, hσ, rfl, C, dd, fs, v, gs, hc, hd, hg, Tx.xf, Tx.no _ hn, ha, hco, h⟩
theorem field_rd {N : List Str} {vs : List V} {H : Hp} {Q : VK} (h : spField X.K p vs H Q E0) : tField X p { nx := fun _ H' => Q .non H', rt := Q } (L2.start N vs) H := by
  obtain ⟨C, dd, fs, c, v, gs, e, hc, hd, hg, Tx, ha, hco, hf, q⟩ := h
  subst e
  have hσ : (L2.start N [V.ref p.1])[0]? = some (some (.ref p.1)) := rfl
  refine inL_rd cLim (by decide) hσ hc hd hg Tx ha hco fun H1 s1 => ?_
  have ha1 := s1 _ _ ha
  unfold fldV fldA at hf
  by_cases b1 : inV (.str c) (cLim.map V.str) = true
  · rw [b1, if_pos rfl] at hf
    rw [b1]
    refine iteT ?_
    rcases hf with ⟨hf, _⟩ | ⟨n, hn, hv⟩
    · cases hf
    · cases hn; exact fld_rd (by decide) hσ hc hd hg Tx ha1 hv (q _ s1)
  · rw [if_neg b1] at hf
    rw [Bool.eq_false_iff.mpr b1]
    refine iteF (inL_rd cNam (by decide) hσ hc hd hg Tx ha1 hco fun H2 s2 => ?_)
    have ha2 := s2 _ _ ha1
    by_cases b2 : inV (.str c) (cNam.map V.str) = true
    · rw [b2, if_pos rfl] at hf
      rw [b2]
      refine iteT ?_
      rcases hf with ⟨hf, _⟩ | ⟨n, hn, hv⟩
      · cases hf
      · cases hn; exact fld_rd (by decide) hσ hc hd hg Tx ha2 hv (q _ (s1.trans s2))
    · rw [if_neg b2] at hf
      rw [Bool.eq_false_iff.mpr b2]
      refine iteF (inL_rd cInd (by decide) hσ hc hd hg Tx ha2 hco fun H3 s3 => ?_)
      have ha3 := s3 _ _ ha2
      have s13 := (s1.trans s2).trans s3
      by_cases b3 : inV (.str c) (cInd.map V.str) = true
      · rw [b3, if_pos rfl] at hf
        rw [b3]
        refine iteT ?_
        rcases hf with ⟨hf, _⟩ | ⟨n, hn, hv⟩
        · cases hf
        · cases hn; exact fld_rd (by decide) hσ hc hd hg Tx ha3 hv (q _ s13)
      · rw [if_neg b3] at hf
        rw [Bool.eq_false_iff.mpr b3]
        refine iteF ?_
        refine ⟨_, hσ, rfl, C, dd, fs, .str c, gs, hc, hd, hg, Tx.xf, Tx.no _ (by decide), ha3, hco, rfl, _, rfl, ?_⟩
        by_cases b4 : c = "InvalidChoice"
        · rw [if_pos b4] at hf
          rw [decide_eq_true (by rw [b4])]
          refine iteT ?_
          rcases hf with ⟨hf, _⟩ | ⟨n, hn, hv⟩
          · cases hf
          · cases hn; exact fld_rd (by decide) hσ hc hd hg Tx ha3 hv (q _ s13)
        · rw [if_neg b4] at hf
          rw [decide_eq_false (fun z => b4 (V.str.inj z))]
          refine iteF ?_
          refine ⟨_, hσ, rfl, C, dd, fs, .str c, gs, hc, hd, hg, Tx.xf, Tx.no _ (by decide), ha3, hco, rfl, _, rfl, ?_⟩
          by_cases b5 : c = "Endless"
          · rw [if_pos b5] at hf
            rcases hf with ⟨hf, _⟩ | ⟨n, hn, hv⟩
            · cases hf
            · cases hn
          · rw [if_neg b5] at hf
            rw [decide_eq_false (fun z => b5 (V.str.inj z))]
            refine iteF ?_
            rcases hf with ⟨_, hv⟩ | ⟨n, hn, hv⟩
            · subst hv; exact q _ s13
            · cases hn
end
/-! ### _law_try -/
/-- what a told exception is worth -/
def XTold (K : PySem.W.Frag) (c1 c2 : Value) (Q : VK) : XK := fun cls dd H => ∃ (C d : Addr) (fs : List (Str × V)) (c : Str) (v : V), cls = .ref C ∧ dd = some d ∧ PySem.W.exmAny K (.ref C) [c1, c2] = some true ∧ XA K C ∧ H d = some (.xd fs) ∧ fs.lookup ("code" : Str) = some (.str c) ∧ fldV fs c v ∧
  ∀ H', Same H H' → ∀ p, H' p = none → Q (.ref p) (upd H' p (.tup [.str c, v]))
def TTry (K : PySem.W.Frag) (c1 c2 : Value) : (XK → Hp → VK → Prop) → Hp → VK → Prop := fun tl H Q =>
  tl (XTold K c1 c2 Q) H (fun v H1 => [V.str "value", v].length ≤ sizeLine ∧ ∀ p, H1 p = none → Q (.ref p) (upd H1 p (.tup [.str "value", v])))
section
variable {X : Cx}
theorem try_gives {Ng : List Str} {x a q n b1 b2 fl : Str} {sg : Scope} {g fF : Addr} {fdF : FuncData} {cdg c1 c2 : Value} {j k1 k2 k3 k : Nat} {p1 p2 p3 p4 p5 p6 p7 p8 p9 p10 p11 p12 p13 p14 p15 p16 p17 : Pos} (hr : Room (k + 2) X.A) (hN : Ng.Nodup) (hN0 : Ng[0]? = some a) (hN1 : Ng[1]? = some n) (hNl : 2 ≤ Ng.length)
    (hl : sg.names.lookup n = some .local) (hb1 : sg.names.lookup b1 = some .globalImplicit) (hb2 : sg.names.lookup b2 = some .globalImplicit) (hfl : sg.names.lookup fl = some .globalImplicit) (m1 : X.mg b1 = some c1) (m2 : X.mg b2 = some c2) (mf : X.mg fl = some (.ref fF))
    (d1 : (b1 == ("__debug__" : Str)) = false) (d2 : (b2 == ("__debug__" : Str)) = false) (d3 : (fl == ("__debug__" : Str)) = false) (d4 : (n == ("__debug__" : Str)) = false) (d5 : (n == ("__classdict__" : Str)) = false) (kf : PySem.W.keepIn X.K (.ref fF) = true) (bf : Binds X.K fdF ["_law_e"] [])
    (FF : FnP X.prog X.w X.K X.mg X.base k fF fdF ["_law_e"] (spField X.K)) :
    LamX.GivesTo X Ng x sg g cdg [.Try [.Return (some (.Tuple [.Constant (.str "value") j p1, .Call (.Name a p2) [] [] p3] k1 p4)) p5]
      [.ExceptHandler (some (.Tuple [.Name b1 p6, .Name b2 p7] k2 p8)) (some n) [.Return (some (.Tuple [.Attribute (.Name n p9) "code" p10, .Call (.Name fl p11) [.Name n p12] [] p13] k3 p14)) p15] p16] [] [] p17] a q (TTry X.K c1 c2) := by
  intro f c' s H Q tl act hco h
  refine ⟨_, pss_one (ps_try_asT (X := (cxOf C8.CX0 X.prog X.w X.K X.mg X.base Ng x sg g cdg X.A X.stack s H C8.E0).nox) (i := 1) (c1 := c1) (c2 := c2) (Wout := fun _ _ _ _ => False)
      (tb := fun W D σ H => ∃ Ech : XK, (∀ cls d σ' H', Ech cls d H' → σ'.length = Ng.length → W cls d σ' H') ∧ σ[0]? = some (some (.ref f)) ∧ H c' = some (LamX.CodeO c' q) ∧ tl Ech H (fun v H1 => [V.str "value", v].length ≤ sizeLine ∧ ∀ p, H1 p = none → D.rt (.ref p) (upd H1 p (.tup [.str "value", v]))))
      (ts := fun a0 cls d D σ H => ∃ (C dd : Addr) (fs : List (Str × V)) (c : Str) (v : V), cls = .ref C ∧ d = some dd ∧ XA X.K C ∧ H dd = some (.xd fs) ∧ fs.lookup ("code" : Str) = some (.str c) ∧ fldV fs c v ∧ σ[1]? = some (some (.ref a0)) ∧ ∀ H', Same H H' → ∀ p, H' p = none → D.rt (.ref p) (upd H' p (.tup [.str c, v])))
      rfl rfl hN hN1 hl ⟨hb1, d1, .inl m1⟩ ⟨hb2, d2, .inl m2⟩ LamX.takes0 (fun W pn xe tk _ => ?_) (fun a0 oe cls d pn hz hf => ?_)), ?_⟩
  · refine ⟨fun pins s' σ H' D I h' => ?_⟩
    obtain ⟨Ech, hW, h1, h2, h3⟩ := h'
    have tk2 : Takes ((cxOf C8.CX0 X.prog X.w X.K X.mg X.base Ng x sg g cdg X.A X.stack s H C8.E0).tr pn xe) (fun cls d σ' H' => σ'.length = Ng.length → W cls d σ' H') := fun u s2 ⟨a2, B, sI, pins2, σ2, H2, cls, d, e1, e2, e3, e4, e5, e6, e7, e8, e9⟩ =>
      tk u s2 ⟨a2, B, sI, pins2, σ2, H2, cls, d, e1, e2, e3, e4, e5, e6, e7, e8, e9 e2.len⟩
    exact (pss_one (ps_ret (pe_tup (pa_cons pe_str (pa_cons (act _ pn xe Ech _ _ tk2 hW) pa_nil))))).run pins s' σ H' D I ⟨h1, h2, h3⟩
  · have hp : (a0, oe) ∈ (Cx.suite (cxOf C8.CX0 X.prog X.w X.K X.mg X.base Ng x sg g cdg X.A X.stack s H C8.E0).nox a0 ((a0, oe) :: pn)).pn := List.mem_cons_self
    have rm : L2H.RoomH k (Cx.suite (cxOf C8.CX0 X.prog X.w X.K X.mg X.base Ng x sg g cdg X.A X.stack s H C8.E0).nox a0 ((a0, oe) :: pn)).A := by
      have r1 := L2H.roomH_of ((hr.mono (j := k + 1) (by omega)).deeper (envOfC x sg s.heap.objs.size g cdg))
      exact ⟨r1.dp, r1.un⟩
    have vn : ∀ {pp : Pos}, PE (Cx.suite (cxOf C8.CX0 X.prog X.w X.K X.mg X.base Ng x sg g cdg X.A X.stack s H C8.E0).nox a0 ((a0, oe) :: pn)) (.Name n pp) (tVar 1) := pe_var hN1 (.inl hl) d4 d5
    refine PSs.imp (pss_one (ps_ret (pe_tup (pa_cons (pe_xp hp vn) (pa_cons (pe_callP FF rm hp hfl mf kf bf (pa_cons vn pa_nil) d3) pa_nil))))) fun D σ H' h' => ?_
    obtain ⟨C, dd, fs, c, v, e1, e2, Tx, ha, hc, hv, hσ, hq⟩ := h'
    obtain ⟨gs, hg⟩ := hf
    refine ⟨_, hσ, rfl, C, dd, fs, .str c, gs, by rw [hz.1, e1], by rw [hz.2, e2], hg, Tx.xf, Tx.no _ (by decide), ha, hc, ?_⟩
    refine ⟨_, hσ, C, dd, fs, c, v, gs, rfl, by rw [hz.1, e1], by rw [hz.2, e2], hg, Tx, ha, hc, hv, fun H2 s2 => ⟨?_, fun p hp2 => hq H2 s2 p hp2⟩⟩
    show 2 ≤ sizeLine
    decide
  · refine ⟨XTold X.K c1 c2 Q, fun cls d σ' H' hX hlen => ?_, rfl, hco, h⟩
    obtain ⟨C, dd, fs, c, v, e1, e2, hm, Tx, ha, hc, hv, hq⟩ := hX
    refine ⟨true, by rw [e1]; exact hm, fun _ a0 ha0 => ⟨C, dd, fs, c, v, e1, e2, Tx, ha, hc, hv, ?_, hq⟩, fun z => nomatch z⟩
    rw [List.getElem?_set_self (by rw [hlen]; omega)]
/-! ### _law_try(lambda: e), by data -/
/-- an exception as it is told -/
def xlook (x : Xc) (n : Str) : Option D := (x.ns.zip x.ds).lookup n
def tellD (x : Xc) (c f : D) : Prop := ∃ s : Str, c = .str s ∧ xlook x "code" = some c ∧ ((fldA s = some none ∧ f = .non) ∨ ∃ n, fldA s = some (some n) ∧ xlook x n = some f)
def dTry (ok : Str → Prop) (t : DTE) : DTE := fun r S Q E => t r S (fun d S1 => Q (.tup [.str "value", d]) S1) (fun x S1 => ok x.cls ∧ ∃ c f, tellD x c f ∧ Q (.tup [c, f]) S1)
theorem Reps.lookup {K : PySem.W.Frag} {g : Gh} {H : Hp} {n : Str} {d : D} : ∀ {ns : List Str} {ds : List D} {vs : List V}, Reps K g H ds vs → (ns.zip ds).lookup n = some d → ∃ v, (ns.zip vs).lookup n = some v ∧ Rep K g H d v
  | [], _, _, _, h => by simp at h
  | _ :: _, [], _, _, h => by simp at h
  | m :: ns, e :: ds, _, ⟨v, r, ev, h1, h2⟩, h => by
    subst ev
    rw [List.zip_cons_cons, List.lookup_cons] at h ⊢
    cases q : n == m with
    | true => rw [q] at h; cases h; exact ⟨v, rfl, h1⟩
    | false => rw [q] at h; exact Reps.lookup h2 h
theorem lamGood {K : PySem.W.Frag} {T : List (Addr × Str)} {g : Gh} {S : Store} {H H1 : Hp} (gd : GoodS K T g S H) (x : LamX.ExtN H H1) (t : LamX.Tabs T H1) : GoodS K T g S H1 ∧ Ext g H g H1 := by
  have ex : Ext g H g H1 := ⟨fun a o h _ n => x a o h n, fun a o h n => ⟨o, x a o h n, n⟩, ⟨[], by simp, by simp⟩, rfl⟩
  refine ⟨⟨gd.len, gd.nd, fun n a o h1 h2 => ?_, fun p hp => let ⟨o, h, n⟩ := gd.hid p hp; ⟨o, x p o h n.1, n⟩, t⟩, ex⟩
  have q := gd.st n a o h1 h2
  refine q.ext ex ?_
  cases o with
  | lst ds => obtain ⟨vs, e, _⟩ := q; rw [e]; exact x _ _ e (fun _ => nofun)
  | dK ds => obtain ⟨vs, e, _⟩ := q; rw [e]; exact x _ _ e (fun _ => nofun)
  | dT ds => obtain ⟨vs, e, _⟩ := q; rw [e]; exact x _ _ e (fun _ => nofun)
  | ins C ns ds => obtain ⟨dx, vs, e, _⟩ := q; rw [e]; exact x _ _ e (fun _ => nofun)
theorem de_try {T : List (Addr × Str)} {W : WX} {x a : Str} {g c P : Addr} {k : Nat} {pg : Arguments} {bg : List Stmt} {sg : Scope} {dV kV doc pm cdv ct oc : Value} {an od : Option Addr} {osl : Array (Option Value)} {Ng : List Str}
    {params : Arguments} {body : Expr} {scope : Scope} {t : DTE} {p lpos pos : Pos} {c1 c2 : Value} {okc : Str → Prop} (hok : ∀ C, okc C → XA X.K (He.ga X.K C) ∧ PySem.W.exmAny X.K (.ref (He.ga X.K C)) [c1, c2] = some true) (hg : Gl X x) (hm : X.mg x = some (.ref g)) (hk : PySem.W.keepIn X.K (.ref g) = true)
    (lk : X.K.lookup g = some ⟨oc, od, .func (PySem.W.fnOf x x pg bg sg dV kV doc pm an cdv ct), osl⟩) (hcg : PySem.W.codeIn X.K cdv x = true) (hb : L2.Binds X.K (PySem.W.fnOf x x pg bg sg dV kV doc pm an cdv ct) [a] []) (Sg : FnScope Ng [a] sg) (hNg : Ng[0]? = some a) (hva : Vis sg a)
    (hG : LamX.GivesTo X Ng x sg g cdv bg a (X.env.qual ++ "<lambda>") (TTry X.K c1 c2))
    (TB : LamX.TabB X.base X.mg c P) (hcode : X.env.code = .ref c) (hmT : (P, X.env.qual ++ "<lambda>") ∈ T) (hu : ∀ p ∈ T, p.1 = P → p.2 = X.env.qual ++ "<lambda>") (hr : Room (k + 2) X.A) (L : LamX.LamS X.env.scope scope) (hdef : defaultsOf params X.env = ([], []))
    (hbind : ∀ (q : Str) (cl : List (Str × Addr)) (pm cv ctv : Value), bindArgs (PySem.W.kla_fn "<lambda>" q params body scope cl pm cv ctv) ⟨[], []⟩ = pure [])
    (hbody : ∀ (A : Around) (outer : List Env) (s : Shared) (H : Hp) (E : XK) (f c' : Addr), Room k (A.deeper (LamX.lamEnv X scope s.heap.objs.size f c')) → DE (LamX.lamCx X A outer s H E scope f c') T (WD E) body t)
    (hdb : (x == ("__debug__" : Str)) = false := by decide) (hd : (a == ("__debug__" : Str)) = false := by decide) (hcd : (a == ("__classdict__" : Str)) = false := by decide) :
    DE X T W (.Call (.Name x p) [.Lambda params body scope lpos] [] pos) (dTry okc t) :=
  PE.imp (LamX.pe_lamcall (t := fun E => lift X.K T (WD E) t) hg hm hk lk hcg hb Sg hNg hva hG TB hcode hmT hu hr L hdef hbind hbody hdb hd hcd) fun σ H Q ⟨g0, r, S, Qd, Ed, rl, h, hq, hx⟩ => by
    refine ⟨rl.good.tabs, fun H1 xN tb => ?_⟩
    obtain ⟨gd1, x1⟩ := lamGood rl.good xN tb
    have rl1 := rl.good' gd1 x1
    refine ⟨g0, r, S, _, _, rl1, h, fun d S2 g2 H2 v q2 x2 rl2 rp2 => ⟨by show 2 ≤ sizeLine; decide, fun p hp => ?_⟩, fun y S2 g2 H2 cc dd q2 x2 rl2 xr => ?_⟩
    · exact hq _ S2 g2 _ _ q2 ((x1.trans x2).trans (Ext.same (same_upd hp))) (rl2.same (same_upd hp)) (Rep.tupNew (ds := [.str "value", d]) rl2.good ⟨_, _, rfl, rfl, Reps.one rp2⟩ hp)
    · obtain ⟨hC, cD, fD, ⟨s, ec, hcl, hf⟩, hQ⟩ := q2
      obtain ⟨e1, d0, vs, e2, ⟨hd0, hoff, hl⟩, rs⟩ := xr
      obtain ⟨xa, hm2⟩ := hok _ hC
      subst ec
      obtain ⟨vc, hvc, rvc⟩ := rs.lookup hcl
      have evc : vc = .str s := rvc
      subst evc
      have fin : ∀ vf, Rep X.K g2 H2 fD vf → ∀ H', Same H2 H' → ∀ p, H' p = none → Q (.ref p) (upd H' p (.tup [.str s, vf])) := fun vf rf H' sm p hp =>
        hq _ S2 g2 _ _ hQ (((x1.trans x2).trans (Ext.same sm)).trans (Ext.same (same_upd hp))) ((rl2.same sm).same (same_upd hp)) (Rep.tupNew (ds := [.str s, fD]) (rl2.good.same sm) ⟨_, _, rfl, rfl, Reps.one (Rep.ext (Ext.same sm) _ _ rf)⟩ hp)
      rcases hf with ⟨hf, ef⟩ | ⟨n, hf, hn⟩
      · subst ef
        exact ⟨He.ga X.K y.cls, d0, _, s, .non, e1, e2, hm2, xa, hd0, hvc, .inl ⟨hf, rfl⟩, fin _ rfl⟩
      · obtain ⟨vf, hvf, rvf⟩ := rs.lookup hn
        exact ⟨He.ga X.K y.cls, d0, _, s, vf, e1, e2, hm2, xa, hd0, hvc, .inr ⟨n, hf, hvf⟩, fin _ rvf⟩
end
end DL
namespace DL
open PySem PySem.Spec PyProof.Rows L2
/-! ### leaving a def: what it made in the store is let go, or stands still from now on -/
mutual
/-- no place of the store from n on -/
def rlt (n : Nat) : D → Bool
  | .ref m => decide (m < n)
  | .tup ds => rlts n ds
  | .lst ds => rlts n ds
  | .fz ds => rlts n ds
  | .obj _ _ ds => rlts n ds
  | _ => true
def rlts (n : Nat) : List D → Bool
  | [] => true
  | d :: ds => rlt n d && rlts n ds
end
theorem rlts_all (n : Nat) : ∀ ds : List D, rlts n ds = ds.all (rlt n)
  | [] => by simp [rlts]
  | d :: ds => by simp [rlts, rlts_all n ds]
theorem rlts_ints (n : Nat) (ns : List Int) : rlts n (ns.map D.int) = true := by
  rw [rlts_all]; simp [rlt]
theorem rlts_strs (n : Nat) (ns : List Str) : rlts n (ns.map D.str) = true := by
  rw [rlts_all]; simp [rlt]
theorem rlts_bls (n : Nat) (ns : List Bool) : rlts n (ns.map D.bl) = true := by
  rw [rlts_all]; simp [rlt]
def rltO (n : Nat) : O → Bool
  | .lst ds => rlts n ds
  | .dK kvs => rlts n (kvs.map (·.2))
  | .dT kvs => rlts n (kvs.map (·.2))
  | .ins _ _ ds => rlts n ds
mutual
theorem rlt_of {K : PySem.W.Frag} {g : Gh} {H : Hp} : ∀ (d : D) (v : V), Rep K g H d v → rlt g.ps.length d = true
  | .non, _, _ => by simp [rlt]
  | .bl _, _, _ => by simp [rlt]
  | .int _, _, _ => by simp [rlt]
  | .str _, _, _ => by simp [rlt]
  | .tup ds, _, ⟨a, vs, e, h, r⟩ => by simp only [rlt]; exact rlts_of ds vs r
  | .lst ds, _, ⟨a, vs, e, h, r⟩ => by simp only [rlt]; exact rlts_of ds vs r
  | .fz ds, _, ⟨a, vs, e, h, r⟩ => by simp only [rlt]; exact rlts_of ds vs r
  | .obj _ _ ds, _, ⟨a, dx, vs, e, h, r⟩ => by simp only [rlt]; exact rlts_of ds vs r
  | .ref n, _, ⟨a, e, h⟩ => by simp only [rlt]; exact decide_eq_true (List.getElem?_eq_some_iff.mp h).1
  | .adr _, _, _ => by simp [rlt]
  | .ty _, _, _ => by simp [rlt]
  | .fn _, _, _ => by simp [rlt]
theorem rlts_of {K : PySem.W.Frag} {g : Gh} {H : Hp} : ∀ (ds : List D) (vs : List V), Reps K g H ds vs → rlts g.ps.length ds = true
  | [], _, _ => by simp [rlts]
  | d :: ds, _, ⟨v, r, e, h, hr⟩ => by simp only [rlts, Bool.and_eq_true]; exact ⟨rlt_of d v h, rlts_of ds r hr⟩
end
mutual
/-- fewer places -/
theorem Rep.less {K : PySem.W.Frag} {g g' : Gh} {H : Hp} {new : List Addr} (hp : g'.ps = g.ps ++ new) (hh : g'.hs = g.hs) : ∀ (d : D) (v : V), rlt g.ps.length d = true → Rep K g' H d v → Rep K g H d v
  | .non, _, _, h => h
  | .bl _, _, _, h => h
  | .int _, _, _, h => h
  | .str _, _, _, h => h
  | .tup ds, _, l, ⟨a, vs, e, h, r⟩ => ⟨a, vs, e, ⟨h.1, fun z => h.2 (z.imp (fun y => by rw [hp]; exact List.mem_append_left _ y) fun y => by rw [hh]; exact y)⟩, Reps.less hp hh ds vs (by simpa [rlt] using l) r⟩
  | .lst ds, _, l, ⟨a, vs, e, h, r⟩ => ⟨a, vs, e, ⟨h.1, fun z => h.2 (z.imp (fun y => by rw [hp]; exact List.mem_append_left _ y) fun y => by rw [hh]; exact y)⟩, Reps.less hp hh ds vs (by simpa [rlt] using l) r⟩
  | .fz ds, _, l, ⟨a, vs, e, h, r⟩ => ⟨a, vs, e, h.imp (fun q => ⟨q.1, fun z => q.2 (z.imp (fun y => by rw [hp]; exact List.mem_append_left _ y) fun y => by rw [hh]; exact y)⟩) id, Reps.less hp hh ds vs (by simpa [rlt] using l) r⟩
  | .obj _ _ ds, _, l, ⟨a, dx, vs, e, h, r⟩ => ⟨a, dx, vs, e, ⟨h.1, fun z => h.2.1 (z.imp (fun y => by rw [hp]; exact List.mem_append_left _ y) fun y => by rw [hh]; exact y), h.2.2⟩, Reps.less hp hh ds vs (by simpa [rlt] using l) r⟩
  | .ref n, _, l, ⟨a, e, h⟩ => ⟨a, e, by rw [hp, List.getElem?_append_left (by simpa [rlt] using l)] at h; exact h⟩
  | .adr _, _, _, h => h
  | .ty _, _, _, h => h
  | .fn _, _, _, ⟨f, e, dV, c, h1, h2, h3⟩ => by
    have k : ∀ {a : Addr}, ¬ g'.off a → ¬ g.off a := fun q z => q (z.imp (fun y => by rw [hp]; exact List.mem_append_left _ y) fun y => by rw [hh]; exact y)
    exact ⟨f, e, dV, c, ⟨h1.1, k h1.2⟩, ⟨h2.1, k h2.2⟩, h3.imp id fun ⟨t, e0, e1, e2, e3⟩ => ⟨t, e0, e1, e2, k e3⟩⟩
theorem Reps.less {K : PySem.W.Frag} {g g' : Gh} {H : Hp} {new : List Addr} (hp : g'.ps = g.ps ++ new) (hh : g'.hs = g.hs) : ∀ (ds : List D) (vs : List V), rlts g.ps.length ds = true → Reps K g' H ds vs → Reps K g H ds vs
  | [], _, _, h => h
  | d :: ds, _, l, ⟨v, r, e, h, hr⟩ => by
    simp only [rlts, Bool.and_eq_true] at l
    exact ⟨v, r, e, Rep.less hp hh d v l.1 h, Reps.less hp hh ds r l.2 hr⟩
end
theorem ORep.rlt {K : PySem.W.Frag} {g : Gh} {H : Hp} {a : Addr} : ∀ {o : O}, ORep K g H a o → rltO g.ps.length o = true
  | .lst _, ⟨vs, h, r⟩ => rlts_of _ _ r
  | .dK _, ⟨vs, h, r⟩ => rlts_of _ _ r
  | .dT _, ⟨vs, h, r⟩ => rlts_of _ _ r
  | .ins _ _ _, ⟨dx, vs, h, l, r⟩ => rlts_of _ _ r
theorem ORep.less {K : PySem.W.Frag} {g g' : Gh} {H : Hp} {a : Addr} {new : List Addr} (hp : g'.ps = g.ps ++ new) (hh : g'.hs = g.hs) : ∀ {o : O}, rltO g.ps.length o = true → ORep K g' H a o → ORep K g H a o
  | .lst _, l, ⟨vs, h, r⟩ => ⟨vs, h, Reps.less hp hh _ _ l r⟩
  | .dK _, l, ⟨vs, h, r⟩ => ⟨vs, h, Reps.less hp hh _ _ l r⟩
  | .dT _, l, ⟨vs, h, r⟩ => ⟨vs, h, Reps.less hp hh _ _ l r⟩
  | .ins _ _ _, l, ⟨dx, vs, h, e, r⟩ => ⟨dx, vs, h, e, Reps.less hp hh _ _ l r⟩
mutual
/-- what is returned, and what it is worth outside -/
inductive Frz (n : Nat) (S : Store) : D → D → Prop
  | keep {d : D} : rlt n d = true → Frz n S d d
  | lst {m : Nat} {ds : List D} : n ≤ m → S[m]? = some (.lst ds) → rlts n ds = true → Frz n S (.ref m) (.lst ds)
  | ins {m : Nat} {C : Str} {ns : List Str} {ds : List D} : n ≤ m → S[m]? = some (.ins C ns ds) → rlts n ds = true → Frz n S (.ref m) (.obj C ns ds)
  | tup {ds es : List D} : FrzAll n S ds es → Frz n S (.tup ds) (.tup es)
inductive FrzAll (n : Nat) (S : Store) : List D → List D → Prop
  | nil : FrzAll n S [] []
  | cons {d e : D} {ds es : List D} : Frz n S d e → FrzAll n S ds es → FrzAll n S (d :: ds) (e :: es)
end
section
variable {K : PySem.W.Frag} {T : List (Addr × Str)} {g g' : Gh} {S S' : Store} {H' : Hp}
theorem off_new {new : List Addr} (gd : GoodS K T g' S' H') (hp : g'.ps = g.ps ++ new) (hh : g'.hs = g.hs) {m : Nat} {a : Addr} (hm : g.ps.length ≤ m) (h : g'.ps[m]? = some a) : ¬ g.off a := by
  have nd := List.nodup_append.mp gd.nd
  have ha := List.mem_of_getElem? h
  rintro (z | z)
  · obtain ⟨i, hi, e⟩ := List.getElem_of_mem z
    have h2 : g'.ps[i]? = some a := by rw [hp, List.getElem?_append_left hi, List.getElem?_eq_getElem hi, e]
    have := ps_inj gd h h2
    omega
  · exact nd.2.2 a ha a (by rw [hh]; exact z) rfl
mutual
theorem Frz.rep {new : List Addr} (gd : GoodS K T g' S' H') (hp : g'.ps = g.ps ++ new) (hh : g'.hs = g.hs) : ∀ {d e : D} {v : V}, Frz g.ps.length S' d e → Rep K g' H' d v → Rep K g H' e v
  | _, _, _, .keep h, r => Rep.less hp hh _ _ h r
  | _, _, _, .lst hm hS hl, r => by
    obtain ⟨a, e, q, vs, hH, rs⟩ := ref_at gd r hS
    exact ⟨a, vs, e, ⟨hH, off_new gd hp hh hm q⟩, Reps.less hp hh _ _ hl rs⟩
  | _, _, _, .ins hm hS hl, r => by
    obtain ⟨a, e, q, dx, vs, hH, hn, rs⟩ := ref_at gd r hS
    exact ⟨a, dx, vs, e, ⟨hH, off_new gd hp hh hm q, hn⟩, Reps.less hp hh _ _ hl rs⟩
  | _, _, _, .tup f, ⟨a, vs, e, h, r⟩ => ⟨a, vs, e, ⟨h.1, fun z => h.2 (z.imp (fun y => by rw [hp]; exact List.mem_append_left _ y) fun y => by rw [hh]; exact y)⟩, FrzAll.reps gd hp hh f r⟩
theorem FrzAll.reps {new : List Addr} (gd : GoodS K T g' S' H') (hp : g'.ps = g.ps ++ new) (hh : g'.hs = g.hs) : ∀ {ds es : List D} {vs : List V}, FrzAll g.ps.length S' ds es → Reps K g' H' ds vs → Reps K g H' es vs
  | _, _, _, .nil, r => r
  | _, _, _, .cons f fs, ⟨v, r, e, h, hr⟩ => ⟨v, r, e, Frz.rep gd hp hh f h, FrzAll.reps gd hp hh fs hr⟩
end
end
/-- the store behind a def: S1, the rest let go -/
structure Left (S S' S1 : Store) : Prop where
  app : ∃ L, S' = S1 ++ L
  len : S1.length = S.length
  old : ∀ (i : Nat) o, S1[i]? = some o → S[i]? = some o ∨ rltO S.length o = true
theorem Left.all (S L : Store) : Left S (S ++ L) S := ⟨⟨L, rfl⟩, rfl, fun _ _ h => .inl h⟩
theorem Left.refl (S : Store) : Left S S S := ⟨⟨[], by simp⟩, rfl, fun _ _ h => .inl h⟩
/-- one old thing was changed -/
theorem Left.set (S L : Store) (n : Nat) (o : O) (h : rltO S.length o = true) : Left S (S.set n o ++ L) (S.set n o) := by
  refine ⟨⟨L, rfl⟩, by simp, fun i u e => ?_⟩
  by_cases hn : n = i
  · subst hn
    by_cases hl : n < S.length
    · rw [List.getElem?_set_self hl] at e; cases e; exact .inr h
    · rw [List.getElem?_eq_none (by simpa using hl)] at e; cases e
  · rw [List.getElem?_set_ne hn] at e; exact .inl e
theorem Left.good {K : PySem.W.Frag} {T : List (Addr × Str)} {g g' : Gh} {S S' S1 : Store} {H H' : Hp} (l : Left S S' S1) (gd : GoodS K T g S H) (gd' : GoodS K T g' S' H') (x : Ext g H g' H') : GoodS K T g S1 H' ∧ Ext g H g H' := by
  obtain ⟨new, hp, hf⟩ := x.ps
  obtain ⟨L, hL⟩ := l.app
  refine ⟨⟨gd.len.trans l.len.symm, gd.nd, fun n a o h1 h2 => ?_, fun p hq => gd'.hid p (by rw [x.hs]; exact hq), gd'.tabs⟩, ⟨x.keep, x.there, ⟨[], by simp, by simp⟩, rfl⟩⟩
  have hn : n < g.ps.length := (List.getElem?_eq_some_iff.mp h1).1
  have q := gd'.st n a o (by rw [hp, List.getElem?_append_left hn]; exact h1) (by rw [hL, List.getElem?_append_left (List.getElem?_eq_some_iff.mp h2).1]; exact h2)
  refine ORep.less hp x.hs ?_ q
  rcases l.old n o h2 with h3 | h3
  · exact (gd.st n a o h1 h3).rlt
  · rw [gd.len]; exact h3
section
variable {P : Program} {w : World} {K : PySem.W.Frag} {mg : Str → Option Value} {base : Heap} {T : List (Addr × Str)}
/-- the ends of a def's body whose own things of the store are let go -/
def exitE (S : Store) (Qd : DQ) (Ed : DX) : DEnds where
  nx := fun _ S' => ∃ S1, Left S S' S1 ∧ Qd .non S1
  rt := fun d S' => ∃ S1 e, Left S S' S1 ∧ Frz S.length S' d e ∧ Qd e S1
  ex := fun x _ S' => ∃ S1, Left S S' S1 ∧ rlts S.length x.ds = true ∧ Ed x S1
theorem fnD_ofE {x qual : Str} {st : Stmt} {f : Addr} {fd : FuncData} {N ps : List Str} {k : Nat} {t : DTS} {sp : DSp} {dvs : List V} {kws : List (Str × V)} (F : FunS K x qual st dvs kws f fd) (Sc : FnScope N ps (defScope st))
    (hb : ∀ (cdv : Value) (A : Around) (outer : List Env) (s : Shared) (H : Hp) (E : XK), fd.code = cdv → Room k (A.deeper (envOfC qual (defScope st) s.heap.objs.size f cdv)) → DSs (cxD P w K mg base N qual (defScope st) f cdv A outer s H E) T (WD E) (defBody st) t)
    (hs : ∀ ds S Qd Ed, ds.length = ps.length → sp ds S Qd Ed → t (exitE S Qd Ed) (startD N ds) S) : FnD P w K mg base T (k + 1) f fd ps sp := by
  refine FunS.okC F Sc (fun vs H Q E h => ?_) (fun cdv A outer s H vs Q E hcd hr h => ⟨_, hb cdv A outer s H E hcd hr, ?_⟩)
  · obtain ⟨g, S, ds, Qd, Ed, gd, rs, hl, _⟩ := h
    rw [← rs.length, hl]
  · obtain ⟨g, S, ds, Qd, Ed, gd, rs, hl, h, hq, hx⟩ := h
    refine ⟨g, _, S, _, Rel.start gd rs, hs ds S Qd Ed hl h, ⟨fun r' S' g' σ' H' q x1 rl1 => ?_, fun d0 S' g' H' v q x1 gd1 rp1 => ?_, fun y r' S' g' σ' H' c dd q x1 rl1 xr => ?_, fun _ _ _ _ _ z => z.elim, fun _ _ _ _ _ z => z.elim⟩⟩
    · obtain ⟨S1, l, q⟩ := q
      obtain ⟨gd2, x2⟩ := l.good gd rl1.good x1
      exact hq _ S1 g H' _ q x2 gd2 rfl
    · obtain ⟨S1, e, l, fz, q⟩ := q
      obtain ⟨gd2, x2⟩ := l.good gd gd1 x1
      obtain ⟨new, hp, _⟩ := x1.ps
      rw [← gd.len] at fz
      exact hq _ S1 g H' v q x2 gd2 (fz.rep gd1 hp x1.hs rp1)
    · obtain ⟨S1, l, hr2, q⟩ := q
      obtain ⟨gd2, x2⟩ := l.good gd rl1.good x1
      obtain ⟨new, hp, _⟩ := x1.ps
      obtain ⟨e1, d, vs, e2, ⟨h3, h4, h5⟩, h6⟩ := xr
      refine hx y S1 g H' c dd q x2 gd2 ⟨e1, d, vs, e2, ⟨h3, fun z => h4 (z.imp (fun y => by rw [hp]; exact List.mem_append_left _ y) fun y => by rw [x1.hs]; exact y), h5⟩, Reps.less hp x1.hs _ _ ?_ h6⟩
      rw [gd.len]; exact hr2
end
end DL
namespace DL
open PySem PySem.Spec PyProof.Rows L2
/-! ### a def that is called by its name -/
structure Cal (P : Program) (w : World) (K : PySem.W.Frag) (mg : Str → Option Value) (base : Heap) (T : List (Addr × Str)) (x : Str) (k : Nat) (f : Addr) (fd : FuncData) (ps : List Str) (sp : DSp) : Prop where
  fn : FnD P w K mg base T k f fd ps sp
  gl : mg x = some (.ref f)
  kp : PySem.W.keepIn K (.ref f) = true
  bd : Binds K fd ps []
section
variable {X : Cx} {T : List (Addr × Str)} {W : WX} {a b c e : Expr} {ta tb tc : DTE} {pos p : Pos} {es : List Expr} {tes : DTA} {x : Str} {k j : Nat} {f : Addr} {fd : FuncData} {ps : List Str} {sp : DSp}
theorem de_cal (F : Cal X.prog X.w X.K X.mg X.base T x k f fd ps sp) (tk : Takes X W) (hr : Room j X.A) (ha : DA X T W (e :: es) tes) (hj : k ≤ j := by decide) (hg : Gl X x := by rfl) (hdb : (x == ("__debug__" : Str)) = false := by decide)
    (he : starEach (e :: es) X.env = (false, eval e X.env) :: starEach es X.env := by rfl) (hpl : (backTo pos (starEach es X.env)).any (·.1) = false := by rfl) :
    DE X T W (.Call (.Name x p) (e :: es) [] pos) (dCall sp ps.length tes) := de_call F.fn tk (hr.mono hj) hg F.gl F.kp F.bd ha hdb he hpl
/-! ### -a, in -/
def dUn (f : Store → D → D → Prop) (t : DTE) : DTE := fun r S Q E => t r S (fun x S1 => ∃ z, f S1 x z ∧ Q z S1) E
def rDU (K : PySem.W.Frag) (T : List (Addr × Str)) (f : Store → D → D → Prop) : V → Hp → VK → Prop := fun x H Q => ∃ g S dx dz, GoodS K T g S H ∧ Rep K g H dx x ∧ f S dx dz ∧ ∀ v H', Same H H' → Rep K g H' dz v → Q v H'
theorem de_un {op : UnaryOp} {f : Store → D → D → Prop} (ho : UnR X (unaryOp op) (rDU X.K T f)) (ha : DE X T W a ta) : DE X T W (.UnaryOp op a pos) (dUn f ta) := PE.imp (pe_un ho ha) fun σ H Q ⟨g, r, S, Qd, Ed, rl, h, hq, hx⟩ => by
  refine ⟨g, r, S, _, Ed, rl, h, fun d S1 g1 H1 v ⟨z, hf, hz⟩ x1 rl1 rp1 => ?_, hx⟩
  exact ⟨g1, S1, d, z, rl1.good, rp1, hf, fun v' H' s rp => hq z S1 g1 H' v' hz (x1.trans (Ext.same s)) (rl1.same s) rp⟩
def fNeg (S : Store) (x z : D) : Prop := ∃ i, x = .int i ∧ z = .int (-i)
theorem und_neg : UnR X (unaryOp .USub) (rDU X.K T fNeg) := fun pins s σ H x v Q I rx ⟨g, S, dx, dz, gd, r1, ⟨i, e1, e2⟩, q⟩ => by
  subst e1 e2
  exact un_neg pins s σ H x v Q I rx ⟨i, r1, q _ H (Same.refl H) rfl⟩
/-- flat data: None, truth values, ints, texts -/
def flatD : D → Bool
  | .non => true
  | .bl _ => true
  | .int _ => true
  | .str _ => true
  | _ => false
def flV : D → V
  | .bl b => .bl b
  | .int i => .int i
  | .str x => .str x
  | _ => .non
theorem flat_rep {K : PySem.W.Frag} {g : Gh} {H : Hp} {d : D} {v : V} (h : flatD d = true) (r : Rep K g H d v) : v = flV d ∧ flatV v = true := by
  cases d with
  | non => cases r; exact ⟨rfl, rfl⟩
  | bl b => cases r; exact ⟨rfl, rfl⟩
  | int b => cases r; exact ⟨rfl, rfl⟩
  | str b => cases r; exact ⟨rfl, rfl⟩
  | _ => cases h
theorem flat_reps {K : PySem.W.Frag} {g : Gh} {H : Hp} : ∀ {ds : List D} {vs : List V}, ds.all flatD = true → Reps K g H ds vs → vs = ds.map flV ∧ vs.all flatV = true
  | [], _, _, r => by cases r; exact ⟨rfl, rfl⟩
  | d :: ds, _, h, ⟨v, q, e, r1, r2⟩ => by
    subst e
    rw [List.all_cons, Bool.and_eq_true] at h
    obtain ⟨e1, f1⟩ := flat_rep h.1 r1
    obtain ⟨e2, f2⟩ := flat_reps h.2 r2
    exact ⟨by rw [List.map_cons, e1, e2], by rw [List.all_cons, f1, f2]; rfl⟩
/-- the items of a list or tuple -/
def sqv (S : Store) : D → Option (List D)
  | .tup ds => some ds
  | d => lsv S d
theorem sqv_at {K : PySem.W.Frag} {g : Gh} {S : Store} {H : Hp} {d : D} {v : V} {ds : List D} (gd : GoodS K T g S H) (rp : Rep K g H d v) (h : sqv S d = some ds) : ∃ a vs, v = .ref a ∧ (SqL K H a vs ∨ SqT K H a vs) ∧ Reps K g H ds vs := by
  cases d with
  | tup es => cases h; obtain ⟨a, vs, e, q, r⟩ := Rep.tup_sq rp; exact ⟨a, vs, e, .inr q, r⟩
  | lst es => obtain ⟨a, vs, e, q, r⟩ := lsv_at gd rp (show lsv S (.lst es) = some ds from h); exact ⟨a, vs, e, .inl (SqL.of q), r⟩
  | ref m => obtain ⟨a, vs, e, q, r⟩ := lsv_at gd rp (show lsv S (.ref m) = some ds from h); exact ⟨a, vs, e, .inl (SqL.of q), r⟩
  | _ => cases h
/-- x in y: a sign in a text; a flat thing among flat things; data in a list -/
def fIn (neg : Bool) (S : Store) (x y z : D) : Prop := (∃ (c : Nat) (t : Str), x = chr1 c ∧ y = .str t ∧ z = .bl (if neg then !decide (c ∈ t.cps.toList) else decide (c ∈ t.cps.toList))) ∨
  (∃ ds, sqv S y = some ds ∧ flatD x = true ∧ ds.all flatD = true ∧ z = .bl (if neg then !inV (flV x) (ds.map flV) else inV (flV x) (ds.map flV))) ∨
  (∃ ds, lsv S y = some ds ∧ sh 50 x = true ∧ ds.all (sh 50) = true ∧ z = .bl (if neg then !(ds.any fun d => PyData.eqv (pd d) (pd x)) else ds.any fun d => PyData.eqv (pd d) (pd x)))
theorem opd_in {j : Nat} (hr : Room j X.A) : OpR X (compareOp .In) (rD X.K T (fIn false)) := fun pins s σ H x y v u Q I rx ry ⟨g, S, dx, dy, dz, gd, r1, r2, hf, q⟩ => by
  rcases hf with ⟨c, t, e1, e2, e3⟩ | ⟨ds, h1, h2, h3, e3⟩ | ⟨ds, h1, h2, h3, e3⟩
  · subst e1 e2 e3
    exact op_in_sign pins s σ H x y v u Q I rx ry ⟨c, t, r1, r2, q _ H (Same.refl H) rfl⟩
  · subst e3
    obtain ⟨a, vs, e, sq, rs⟩ := sqv_at gd r2 h1
    obtain ⟨ex, fx⟩ := flat_rep h2 r1
    obtain ⟨es, fs⟩ := flat_reps h3 rs
    exact op_in_seq pins s σ H x y v u Q I rx ry ⟨a, vs, e, sq, fx, fs, q _ H (Same.refl H) (by rw [ex, es]; rfl)⟩
  · subst e3
    obtain ⟨a, vs, e, hH, rs⟩ := lsv_at gd r2 h1
    have hx := dp_of (K := X.K) (g := g) (H := H) 50 dx x h2 r1
    have hl := dps_of (K := X.K) (g := g) (H := H) 50 ds vs (List.all_eq_true.mp h3) rs
    have shl : SeqAt.shaped (.list (pds ds)) = true := by
      have := sh_shaped (n := 51) (d := .lst ds) (by simpa [sh] using h3) (by decide)
      simpa [pd] using this
    refine op_inD (by have := hr.un; omega) pins s σ H x y v u Q I rx ry ⟨pd dx, pds ds, hx, by rw [e]; exact .lst (SqL.of hH) hl, sh_shaped h2 (by decide), shl, q _ H (Same.refl H) ?_⟩
    show _ = _
    rw [pds_map, List.any_map]
    rfl
theorem opd_notin {j : Nat} (hr : Room j X.A) : OpR X (compareOp .NotIn) (rD X.K T (fIn true)) := fun pins s σ H x y v u Q I rx ry ⟨g, S, dx, dy, dz, gd, r1, r2, hf, q⟩ => by
  rcases hf with ⟨c, t, e1, e2, e3⟩ | ⟨ds, h1, h2, h3, e3⟩ | ⟨ds, h1, h2, h3, e3⟩
  · subst e1 e2 e3
    exact op_notIn_sign pins s σ H x y v u Q I rx ry ⟨c, t, r1, r2, q _ H (Same.refl H) rfl⟩
  · subst e3
    obtain ⟨a, vs, e, sq, rs⟩ := sqv_at gd r2 h1
    obtain ⟨ex, fx⟩ := flat_rep h2 r1
    obtain ⟨es, fs⟩ := flat_reps h3 rs
    exact op_notIn_seq pins s σ H x y v u Q I rx ry ⟨a, vs, e, sq, fx, fs, q _ H (Same.refl H) (by rw [ex, es]; rfl)⟩
  · subst e3
    obtain ⟨a, vs, e, hH, rs⟩ := lsv_at gd r2 h1
    have hx := dp_of (K := X.K) (g := g) (H := H) 50 dx x h2 r1
    have hl := dps_of (K := X.K) (g := g) (H := H) 50 ds vs (List.all_eq_true.mp h3) rs
    have shl : SeqAt.shaped (.list (pds ds)) = true := by
      have := sh_shaped (n := 51) (d := .lst ds) (by simpa [sh] using h3) (by decide)
      simpa [pd] using this
    refine op_notInD (by have := hr.un; omega) pins s σ H x y v u Q I rx ry ⟨pd dx, pds ds, hx, by rw [e]; exact .lst (SqL.of hH) hl, sh_shaped h2 (by decide), shl, q _ H (Same.refl H) ?_⟩
    show _ = _
    rw [pds_map, List.any_map]
    rfl
/-- isinstance(e, (A, B)) of built-in classes -/
def dIsi2 (c1 c2 : String) (t : DTE) : DTE := fun r S Q E => t r S (fun x S1 => ∃ n b1 b2, tyD S1 x = some n ∧ kitB n c1 = some b1 ∧ kitB n c2 = some b2 ∧ Q (.bl (b1 || b2)) S1) E
theorem de_isi2 {x1 x2 : Str} {c1 c2 : String} {p1 p2 p3 : Pos} {kk : Nat} (hm : X.mg "isinstance" = none) (m1 : X.mg x1 = none) (m2 : X.mg x2 = none) (v1 : bootBuiltins x1 = some (.type c1)) (v2 : bootBuiltins x2 = some (.type c2)) (ha : DE X T W a ta)
    (hg : Gl X "isinstance" := by rfl) (g1 : Gl X x1 := by rfl) (g2 : Gl X x2 := by rfl) (n1 : x1 ≠ "__name__" := by decide) (n2 : x2 ≠ "__name__" := by decide) (b1 : (x1 == ("__debug__" : Str)) = false := by decide) (b2 : (x2 == ("__debug__" : Str)) = false := by decide)
    (s1 : starEach [.Name x1 p1, .Name x2 p2] X.env = (false, eval (.Name x1 p1) X.env) :: starEach [.Name x2 p2] X.env := by rfl) (s2 : starEach [.Name x2 p2] X.env = (false, eval (.Name x2 p2) X.env) :: starEach [] X.env := by rfl)
    (s3 : starEach [a, .Tuple [.Name x1 p1, .Name x2 p2] kk p3] X.env = (false, eval a X.env) :: starEach [.Tuple [.Name x1 p1, .Name x2 p2] kk p3] X.env := by rfl) (s4 : starEach [.Tuple [.Name x1 p1, .Name x2 p2] kk p3] X.env = (false, eval (.Tuple [.Name x1 p1, .Name x2 p2] kk p3) X.env) :: starEach [] X.env := by rfl)
    (hpl : (backTo pos (starEach [.Tuple [.Name x1 p1, .Name x2 p2] kk p3] X.env)).any (·.1) = false := by rfl) :
    DE X T W (.Call (.Name "isinstance" p) [a, .Tuple [.Name x1 p1, .Name x2 p2] kk p3] [] pos) (dIsi2 c1 c2 ta) :=
  PE.imp (pe_callB call_isiT hg hm (by decide +kernel) (pa_cons ha (pa_cons (pe_tup (pa_cons (pe_bltn g1 m1 v1 (v := .ty c1) rfl n1 b1) (pa_cons (pe_bltn g2 m2 v2 (v := .ty c2) rfl n2 b2) pa_nil s2) s1)) pa_nil s4) s3) (by decide) (by decide) s3 hpl) fun σ H Q ⟨g, r, S, Qd, Ed, rl, h, hq, hx⟩ => by
    refine ⟨g, r, S, _, Ed, rl, h, fun d S1 g1 H1 v ⟨n, t1, t2, hn, h1, h2, hQ⟩ x1 rl1 rp1 => ⟨by show 2 ≤ sizeLine; decide, fun t ht => ?_⟩, hx⟩
    refine ⟨v, t, _, .type n, [.type c1, .type c2], _, rfl, upd_same, .cons (.ty c1) (.cons (.ty c2) .nil), tyD_ok (S := S1) (Rep.ext (Ext.same (same_upd ht)) _ _ rp1) hn, ?_, hq _ S1 g1 _ _ hQ (x1.trans (Ext.same (same_upd ht))) (rl1.same (same_upd ht)) rfl⟩
    refine kitAny_cons (kit_ty h1) (r := t1 || t2) (fun e => ?_) (fun e => by rw [e]; rfl)
    rw [e, Bool.false_or]
    exact kitAny_cons (kit_ty h2) (fun e => by rw [e]; exact kitAny_nil) (fun e => by rw [e])
end
end DL
namespace DL
open PySem PySem.Spec PyProof.Rows L2
/-! ### calls with keywords -/
def pick {α : Type} (ix : List Nat) (l : List α) : List α := ix.filterMap fun i => l[i]?
theorem pick_vals {vs : List V} {us : List Value} (r : Vals vs us) : ∀ ix : List Nat, Vals (pick ix vs) (pick ix us)
  | [] => .nil
  | i :: ix => by
    have ih := pick_vals r ix
    unfold pick at *
    rw [List.filterMap_cons, List.filterMap_cons]
    cases h : vs[i]? with
    | none => rw [r.none_of h]; exact ih
    | some v => obtain ⟨u, hu, ru⟩ := r.get h; rw [hu]; exact .cons ru ih
theorem pick_reps {K : PySem.W.Frag} {g : Gh} {H : Hp} {ds : List D} {vs : List V} (r : Reps K g H ds vs) : ∀ ix : List Nat, Reps K g H (pick ix ds) (pick ix vs)
  | [] => rfl
  | i :: ix => by
    have ih := pick_reps r ix
    unfold pick at *
    rw [List.filterMap_cons, List.filterMap_cons]
    cases h : ds[i]? with
    | none =>
      have h2 : vs[i]? = none := List.getElem?_eq_none_iff.mpr (by rw [← r.length]; exact List.getElem?_eq_none_iff.mp h)
      rw [h2]; exact ih
    | some d => obtain ⟨v, hv, rv⟩ := r.get h; rw [hv]; exact ⟨v, _, rfl, rv, ih⟩
/-- n values by place, those of the keywords ks; ix: the parameters' values among both, from the left -/
def KBd (K : PySem.W.Frag) (fd : FuncData) (ps : List Str) (n : Nat) (ks : List Str) (ix : List Nat) : Prop :=
  ∀ (s : Shared) (us ws : List Value), K.In s.heap → us.length = n → ws.length = ks.length → BindsTo s fd ⟨us, ks.zip ws⟩ (ps.zip (pick ix (us ++ ws)))
theorem FunS.kbd {K : PySem.W.Frag} {x qual : Str} {st : Stmt} {kws : List (Str × V)} {f : Addr} {fd : FuncData} {ps ks : List Str} {n : Nat} {ix : List Nat} (F : FunS K x qual st [] kws f fd)
    (h : ∀ (kV doc pm : Value) (an : Option Addr) (cdv ct : Value) (us ws : List Value), us.length = n → ws.length = ks.length → bindArgs (PySem.W.fnOf x qual (defArgs st) (defBody st) (defScope st) .none kV doc pm an cdv ct) ⟨us, ks.zip ws⟩ = pure (ps.zip (pick ix (us ++ ws)))) : KBd K fd ps n ks ix := by
  obtain ⟨oc, od, dV, kV, doc, pm, an, cdv, ct, osl, rfl, lk, hcd, hD, hK⟩ := F.ex
  rcases hD with ⟨_, rfl⟩ | ⟨e, _⟩
  · exact fun s us ws _ h1 h2 => .of_eq (h kV doc pm an cdv ct us ws h1 h2)
  · exact absurd rfl e
theorem FunS.bd {K : PySem.W.Frag} {x qual : Str} {st : Stmt} {kws : List (Str × V)} {f : Addr} {fd : FuncData} {ps : List Str} (F : FunS K x qual st [] kws f fd)
    (h : ∀ (kV doc pm : Value) (an : Option Addr) (cdv ct : Value) (us : List Value), us.length = ps.length → bindArgs (PySem.W.fnOf x qual (defArgs st) (defBody st) (defScope st) .none kV doc pm an cdv ct) ⟨us, []⟩ = pure (ps.zip us)) : Binds K fd ps [] := FunD.bindsN F h
def DK (X : Cx) (T : List (Addr × Str)) (W : WX) (kws : List Keyword) (t : DTA) : Prop := PK X kws (liftA X.K T W t)
section
variable {X : Cx} {T : List (Addr × Str)} {W : WX} {e : Expr} {es : List Expr} {ta : DTE} {tes tk : DTA} {pos p kpos : Pos} {x : Str} {k j n : Nat} {f : Addr} {fd : FuncData} {ps ks : List Str} {sp : DSp} {kws : List Keyword} {nm : Option Str} {ix : List Nat}
theorem PK.imp {t t' : TA} (h : PK X kws t) (i : ∀ σ H Q, t' σ H Q → t σ H Q) : PK X kws t' := ⟨fun pos pins s σ H Q I q => h.run pos pins s σ H Q I (i σ H Q q)⟩
theorem dk_nil : DK X T W [] dNil := PK.imp pk_nil fun σ H Q ⟨g, r, S, Qd, Ed, rl, h, hq, hx⟩ => hq [] S g H [] h (Ext.refl g H) rl rfl
theorem dk_cons (ha : DE X T W e ta) (hr : DK X T W kws tes) : DK X T W (⟨nm, e, kpos⟩ :: kws) (dCons ta tes) := PK.imp (pk_cons ha hr) fun σ H Q ⟨g, r, S, Qd, Ed, rl, h, hq, hx⟩ => by
  refine ⟨g, r, S, _, Ed, rl, h, fun d S1 g1 H1 v h1 x1 rl1 rp1 => ?_, hx⟩
  exact ⟨g1, r, S1, _, Ed, rl1, h1, fun ds S2 g2 H2 vs h2 x2 rl2 rp2 => hq _ S2 g2 H2 _ h2 (x1.trans x2) rl2 ⟨v, vs, rfl, Rep.ext x2 _ _ rp1, rp2⟩, hx.ext x1⟩
def dCallK (sp : DSp) (m n l : Nat) (ix : List Nat) (t tk : DTA) : DTE := fun r S Q E => t r S (fun ds S1 => tk r S1 (fun zs S2 => ds.length = n ∧ zs.length = l ∧ (pick ix (ds ++ zs)).length = m ∧ sp (pick ix (ds ++ zs)) S2 Q E) E) E
theorem run_kw {pins : List (Addr × Obj)} {σ : L2.St} {H : Hp} {s : Shared} {Q : VK} {us ws : List Value} {vs zs : List V} {sp : Sp} (F : FnOk X.prog X.w X.K X.mg X.base (L2.CX X.prog X.w) k f fd ps sp) (hr : Room k X.A) (hb : KBd X.K fd ps n ks ix) (tk : Takes X W)
    (I : Inv X pins σ H s) (r : Vals vs us) (rz : Vals zs ws) (h1 : vs.length = n) (h2 : zs.length = ks.length) (h : sp (pick ix (vs ++ zs)) H Q (WE W σ)) : wpAny (model X.prog X.w) X.A (call (.ref f) us (ks.zip ws)) (EP X pins σ Q) X.xe s := by
  have r2 := pick_vals (r.append rz) ix
  refine wpAny_call (codeAny_mono (F.run X.A X.stack s H ⟨us, ks.zip ws⟩ _ _ Q (WE W σ) hr I.env0 (hb s us ws I.kIn (by rw [← r.length]; exact h1) (by rw [← rz.length]; exact h2)) r2 h) fun r s' hq => ?_)
  cases r with
  | error e => exact passAt tk σ pins H s e s' I hq
  | ok fl =>
    cases fl with
    | ret u => exact I.after hq
    | _ => exact False.elim hq
theorem lift_callK {K : PySem.W.Frag} {σ : L2.St} {H : Hp} {Q : VK} (h : lift K T W (dCallK sp ps.length n ks.length ix tes tk) σ H Q) : liftA K T W tes σ H fun vs H1 => liftA K T W tk σ H1 fun zs H2 => vs.length = n ∧ zs.length = ks.length ∧ spD K T ps.length sp (pick ix (vs ++ zs)) H2 Q (WE W σ) := by
  obtain ⟨g, r, S, Qd, Ed, rl, h, hq, hx⟩ := h
  refine ⟨g, r, S, _, Ed, rl, h, fun ds S1 g1 H1 vs h1 x1 rl1 rp1 => ?_, hx⟩
  refine ⟨g1, r, S1, _, Ed, rl1, h1, fun zs S2 g2 H2 ws ⟨hn, hl, hp, h2⟩ x2 rl2 rp2 => ?_, hx.ext x1⟩
  have rp1' := Reps.ext x2 _ _ rp1
  refine ⟨by rw [← rp1.length]; exact hn, by rw [← rp2.length]; exact hl, g2, S2, _, Qd, Ed, rl2.good, pick_reps (rp1'.append rp2) ix, hp, h2, fun d S3 g3 H3 v q3 x3 gd rp => hq d S3 g3 H3 v q3 ((x1.trans x2).trans x3) (rl2.good' gd x3) rp, fun y S3 g3 H3 c dd q3 x3 gd xr => hx y S3 g3 H3 c dd q3 ((x1.trans x2).trans x3) (rl2.good' gd x3) xr⟩
theorem de_calK (F : Cal X.prog X.w X.K X.mg X.base T x k f fd ps sp) (hb : KBd X.K fd ps n ks ix) (tkk : Takes X W) (hr : Room j X.A) (ha : DA X T W (e :: es) tes) (hkw : DK X T W kws tk) (hj : k ≤ j := by decide) (hg : Gl X x := by rfl) (hall : (backToKw pos (keywordEach kws X.env)).all (·.1.isSome) = true := by rfl) (hks : (backToKw pos (keywordEach kws X.env)).filterMap (·.1) = ks := by rfl)
    (hdb : (x == ("__debug__" : Str)) = false := by decide) (he : starEach (e :: es) X.env = (false, eval e X.env) :: starEach es X.env := by rfl)
    (hpl : ((backTo pos (starEach (e :: es) X.env)).any (·.1) || (backToKw pos (keywordEach kws X.env)).any (·.1.isNone)) = false := by rfl) :
    DE X T W (.Call (.Name x p) (e :: es) kws pos) (dCallK sp ps.length n ks.length ix tes tk) := ⟨fun pins s σ H Q I h => by
  refine wpAny_Call_Name_kw (ld_glob I hg F.gl ?_ hdb)
  refine PySem.W.callWith_KW (h₀ := X.base) I.ok.mod.kin F.kp hall (thn (L2.PA.run ha pos pins s σ H _ I (lift_callK h)) fun us s1 ⟨vs, H1, I1, r, q⟩ => ?_) hpl he
  refine thn (L2.PK.run hkw pos pins s1 σ H1 _ I1 q) fun ws s2 ⟨zs, H2, I2, rz, q1, q2, q3⟩ => ⟨I2.kIn, ?_⟩
  rw [hks]
  exact run_kw F.fn (hr.mono hj) hb tkk I2 r rz q1 q2 q3⟩
theorem de_calK0 (F : Cal X.prog X.w X.K X.mg X.base T x k f fd ps sp) (hb : KBd X.K fd ps 0 ks ix) (tkk : Takes X W) (hr : Room j X.A) (hkw : DK X T W kws tk) (hj : k ≤ j := by decide) (hg : Gl X x := by rfl) (hall : (backToKw pos (keywordEach kws X.env)).all (·.1.isSome) = true := by rfl) (hks : (backToKw pos (keywordEach kws X.env)).filterMap (·.1) = ks := by rfl)
    (hdb : (x == ("__debug__" : Str)) = false := by decide) (hpl : ((backTo pos (starEach [] X.env)).any (·.1) || (backToKw pos (keywordEach kws X.env)).any (·.1.isNone)) = false := by rfl) :
    DE X T W (.Call (.Name x p) [] kws pos) (dCallK sp ps.length 0 ks.length ix dNil tk) := ⟨fun pins s σ H Q I h => by
  refine wpAny_Call_Name_kw (ld_glob I hg F.gl ?_ hdb)
  obtain ⟨g, r, S, Qd, Ed, rl, h, hq, hx⟩ := h
  have h' : liftA X.K T W tk σ H fun zs H2 => zs.length = ks.length ∧ spD X.K T ps.length sp (pick ix zs) H2 Q (WE W σ) := by
    refine ⟨g, r, S, _, Ed, rl, h, fun zs S2 g2 H2 ws ⟨_, hl, hp, h2⟩ x2 rl2 rp2 => ?_, hx⟩
    exact ⟨by rw [← rp2.length]; exact hl, g2, S2, _, Qd, Ed, rl2.good, pick_reps rp2 ix, hp, h2, fun d S3 g3 H3 v q3 x3 gd rp => hq d S3 g3 H3 v q3 (x2.trans x3) (rl2.good' gd x3) rp, fun y S3 g3 H3 c dd q3 x3 gd xr => hx y S3 g3 H3 c dd q3 (x2.trans x3) (rl2.good' gd x3) xr⟩
  refine PySem.W.callWith_KW0 (h₀ := X.base) I.ok.mod.kin F.kp hall (thn (L2.PK.run hkw pos pins s σ H _ I h') fun ws s2 ⟨zs, H2, I2, rz, q2, q3⟩ => ⟨I2.kIn, ?_⟩) hpl
  rw [hks]
  exact run_kw (us := []) (vs := []) F.fn (hr.mono hj) hb tkk I2 .nil rz rfl q2 q3⟩
end
end DL
namespace DL
open PySem PySem.Spec PyProof.Rows L2
section
variable {X : Cx} {T : List (Addr × Str)} {W : WX} {a b c e : Expr} {ta tb tc : DTE} {pos p : Pos} {es : List Expr} {tes : DTA} {x : Str} {k j : Nat} {f : Addr} {fd : FuncData} {ps : List Str} {sp : DSp}
/-- a call within a block of a comprehension -/
theorem de_calE (F : Cal X.prog X.w X.K X.mg X.base T x k f fd ps sp) (tk : Takes X W) (hr : Room j X.A) (ha : DA X T W (e :: es) tes) (hj : k ≤ j) (hg : Gl X x) (hdb : (x == ("__debug__" : Str)) = false)
    (he : starEach (e :: es) X.env = (false, eval e X.env) :: starEach es X.env) (hpl : (backTo pos (starEach es X.env)).any (·.1) = false) {n : Nat} (hn : ps.length = n) :
    DE X T W (.Call (.Name x p) (e :: es) [] pos) (dCall sp n tes) := by subst hn; exact de_cal F tk hr ha hj hg hdb he hpl
theorem de_calKE {kws : List Keyword} {ks : List Str} {ix : List Nat} {n m l : Nat} {tk : DTA} (F : Cal X.prog X.w X.K X.mg X.base T x k f fd ps sp) (hb : KBd X.K fd ps n ks ix) (tkk : Takes X W) (hr : Room j X.A) (ha : DA X T W (e :: es) tes) (hkw : DK X T W kws tk) (hj : k ≤ j) (hg : Gl X x) (hall : (backToKw pos (keywordEach kws X.env)).all (·.1.isSome) = true) (hks : (backToKw pos (keywordEach kws X.env)).filterMap (·.1) = ks)
    (hdb : (x == ("__debug__" : Str)) = false) (he : starEach (e :: es) X.env = (false, eval e X.env) :: starEach es X.env)
    (hpl : ((backTo pos (starEach (e :: es) X.env)).any (·.1) || (backToKw pos (keywordEach kws X.env)).any (·.1.isNone)) = false) (hm : ps.length = m) (hl : ks.length = l) :
    DE X T W (.Call (.Name x p) (e :: es) kws pos) (dCallK sp m n l ix tes tk) := by subst hm hl; exact de_calK F hb tkk hr ha hkw hj hg hall hks hdb he hpl
theorem de_calK0E {kws : List Keyword} {ks : List Str} {ix : List Nat} {m l : Nat} {tk : DTA} (F : Cal X.prog X.w X.K X.mg X.base T x k f fd ps sp) (hb : KBd X.K fd ps 0 ks ix) (tkk : Takes X W) (hr : Room j X.A) (hkw : DK X T W kws tk) (hj : k ≤ j) (hg : Gl X x) (hall : (backToKw pos (keywordEach kws X.env)).all (·.1.isSome) = true) (hks : (backToKw pos (keywordEach kws X.env)).filterMap (·.1) = ks)
    (hdb : (x == ("__debug__" : Str)) = false) (hpl : ((backTo pos (starEach [] X.env)).any (·.1) || (backToKw pos (keywordEach kws X.env)).any (·.1.isNone)) = false) (hm : ps.length = m) (hl : ks.length = l) :
    DE X T W (.Call (.Name x p) [] kws pos) (dCallK sp m 0 l ix dNil tk) := by subst hm hl; exact de_calK0 F hb tkk hr hkw hj hg hall hks hdb hpl
end
end DL
namespace DL
open PySem PySem.Spec PyProof.Rows L2
/-! ### _law_try, packed -/
/-- what the laws' _law_try and _law_field are -/
structure TryB (P : Program) (w : World) (K : PySem.W.Frag) (mg : Str → Option Value) (base : Heap) (okc : Str → Prop) (st : Stmt) (g : Addr) (fd : FuncData) (c1 c2 : Value) (fF : Addr) (fdF : FuncData) : Prop where
  fn : FunS K "_law_try" "_law_try" st [] [] g fd
  gl : mg "_law_try" = some (.ref g)
  bd : Binds K fd ["_law_ask"] []
  m1 : mg "BagError" = some c1
  m2 : mg "Missing" = some c2
  mf : mg "_law_field" = some (.ref fF)
  kf : PySem.W.keepIn K (.ref fF) = true
  bf : Binds K fdF ["_law_e"] []
  FF : FnP P w K mg base 2 fF fdF ["_law_e"] (spField K)
  ok : ∀ C, okc C → XA K (He.ga K C) ∧ PySem.W.exmAny K (.ref (He.ga K C)) [c1, c2] = some true
  sc : FnScope ["_law_ask", "_law_e"] ["_law_ask"] (defScope st)
  na : (defScope st).names.lookup ("_law_ask" : Str) = some .local
  ne : (defScope st).names.lookup ("_law_e" : Str) = some .local
  nb1 : (defScope st).names.lookup ("BagError" : Str) = some .globalImplicit
  nb2 : (defScope st).names.lookup ("Missing" : Str) = some .globalImplicit
  nf : (defScope st).names.lookup ("_law_field" : Str) = some .globalImplicit
  body : ∃ j k1 k2 k3 p1 p2 p3 p4 p5 p6 p7 p8 p9 p10 p11 p12 p13 p14 p15 p16 p17, defBody st = [.Try [.Return (some (.Tuple [.Constant (.str "value") j p1, .Call (.Name "_law_ask" p2) [] [] p3] k1 p4)) p5]
      [.ExceptHandler (some (.Tuple [.Name "BagError" p6, .Name "Missing" p7] k2 p8)) (some "_law_e") [.Return (some (.Tuple [.Attribute (.Name "_law_e" p9) "code" p10, .Call (.Name "_law_field" p11) [.Name "_law_e" p12] [] p13] k3 p14)) p15] p16] [] [] p17]
/-- with the table of the code of the def called q whose code object lies at cd -/
structure TryC (P : Program) (w : World) (K : PySem.W.Frag) (mg : Str → Option Value) (base : Heap) (T : List (Addr × Str)) (okc : Str → Prop) (q : Str) (cd : Addr) : Prop where
  bas : ∃ st g fd c1 c2 fF fdF, TryB P w K mg base okc st g fd c1 c2 fF fdF
  tab : ∃ Pt, LamX.TabB base mg cd Pt ∧ (Pt, q ++ ".<locals>." ++ "<lambda>") ∈ T ∧ ∀ p ∈ T, p.1 = Pt → p.2 = q ++ ".<locals>." ++ "<lambda>"
theorem RoomH.mono {j k : Nat} {A : Around} (h : L2H.RoomH k A) (x : j ≤ k) : L2H.RoomH j A := ⟨by have := h.dp; omega, by have := h.un; omega⟩
theorem FnP.mono {P : Program} {w : World} {K : PySem.W.Frag} {mg : Str → Option Value} {base : Heap} {j k : Nat} {f : Addr} {fd : FuncData} {ps : List Str} {sp : Addr × Obj → Sp} (F : FnP P w K mg base j f fd ps sp) (x : j ≤ k) : FnP P w K mg base k f fd ps sp :=
  ⟨F.len, fun A outer s H args us vs Q p hr => F.run A outer s H args us vs Q p (RoomH.mono hr x)⟩
theorem takesL {X : Cx} {A : Around} {outer : List Env} {s : Shared} {H : Hp} {E : XK} {scope : Scope} {f c : Addr} : Takes (LamX.lamCx X A outer s H E scope f c) (WD E) := takes_of rfl rfl rfl rfl
theorem de_tryX {P : Program} {w : World} {K : PySem.W.Frag} {mg : Str → Option Value} {base : Heap} {T : List (Addr × Str)} {okc : Str → Prop} {N : List Str} {q : Str} {sc : Scope} {f cd : Addr} {cdv : Value} {A : Around} {outer : List Env} {s : Shared} {H : Hp} {E : XK} {W : WX} {j : Nat}
    {params : Arguments} {body : Expr} {scope : Scope} {t : DTE} {p lpos pos : Pos} (TC : TryC P w K mg base T okc q cd) (hcode : cdv = .ref cd) (hr : Room (j + 4) (A.deeper (envOfC q sc s.heap.objs.size f cdv))) (L : LamX.LamS sc scope)
    (hbody : ∀ (A1 : Around) (outer1 : List Env) (s1 : Shared) (H1 : Hp) (E1 : XK) (f1 c' : Addr), Room (j + 2) (A1.deeper (LamX.lamEnv (cxD P w K mg base N q sc f cdv A outer s H E) scope s1.heap.objs.size f1 c')) → DE (LamX.lamCx (cxD P w K mg base N q sc f cdv A outer s H E) A1 outer1 s1 H1 E1 scope f1 c') T (WD E1) body t)
    (hg : Gl (cxD P w K mg base N q sc f cdv A outer s H E) "_law_try")
    (hdef : defaultsOf params (cxD P w K mg base N q sc f cdv A outer s H E).env = ([], [])) (hbind : ∀ (q : Str) (cl : List (Str × Addr)) (pm cv ctv : Value), bindArgs (PySem.W.kla_fn "<lambda>" q params body scope cl pm cv ctv) ⟨[], []⟩ = pure []) :
    DE (cxD P w K mg base N q sc f cdv A outer s H E) T W (.Call (.Name "_law_try" p) [.Lambda params body scope lpos] [] pos) (dTry okc t) := by
  obtain ⟨st, g, fd, c1, c2, fF, fdF, B⟩ := TC.bas
  obtain ⟨Pt, tb, tm, tu⟩ := TC.tab
  obtain ⟨oc, od, dV, kV, doc, pm, an, cdg, ct, osl, rfl, lk, hcd, _, _⟩ := B.fn.ex
  obtain ⟨j0, k1, k2, k3, p1, p2, p3, p4, p5, p6, p7, p8, p9, p10, p11, p12, p13, p14, p15, p16, p17, hb⟩ := B.body
  have hG := try_gives (X := cxD P w K mg base N q sc f cdv A outer s H E) (q := q ++ ".<locals>." ++ "<lambda>") (x := "_law_try") (g := g) (cdg := cdg) (j := j0) (k1 := k1) (k2 := k2) (k3 := k3) (p1 := p1) (p2 := p2) (p3 := p3) (p4 := p4) (p5 := p5) (p6 := p6) (p7 := p7) (p8 := p8) (p9 := p9) (p10 := p10) (p11 := p11) (p12 := p12) (p13 := p13) (p14 := p14) (p15 := p15) (p16 := p16) (p17 := p17)
    hr B.sc.nd rfl rfl (by decide) B.ne B.nb1 B.nb2 B.nf B.m1 B.m2 B.mf (by decide) (by decide) (by decide) (by decide) (by decide) B.kf B.bf (B.FF.mono (by omega))
  rw [← hb] at hG
  exact de_try B.ok hg B.gl B.fn.kp lk hcd B.bd B.sc rfl (.inl B.na) hG tb hcode tm tu hr L hdef hbind hbody
end DL
namespace DL
open PySem PySem.Spec PyProof.Rows L2
/-! ### classes of exceptions, told by Bools of the head -/
def oclB (K : PySem.W.Frag) (C : Addr) : Bool := match K.lookup C with
  | some ⟨.type "type", _, .cls cd, sl⟩ => (match cd.mro, sl.toList with
    | .ref C' :: bm, [_, _, _, _, some (.builtin n), _] => C' == C && n == "ValueError.__new__" && !cd.hasDel && cd.hasDict && PySem.HandSPX.refsVE bm
    | _, _ => false)
  | _ => false
def oexB (K : PySem.W.Frag) (C : Addr) : Bool := oclB K C && (decide (PySem.W.findIn K (.ref C) "__setattr__" = some (some (.builtin "object.__setattr__"))) && (decide (PySem.W.subIn K (.ref C) (.type "BaseException") = some true) && (decide (PySem.W.typeIn K (.ref C) = some (.type "type")) && PySem.W.keepIn K (.ref C))))
theorem oexB_ok {K : PySem.W.Frag} {C : Addr} (h : oexB K C = true) : OexC K C := by
  obtain ⟨h0, h⟩ := He.ba h
  obtain ⟨h1, h⟩ := He.ba h
  obtain ⟨h2, h⟩ := He.ba h
  obtain ⟨h3, h4⟩ := He.ba h
  refine ⟨?_, of_decide_eq_true h1, of_decide_eq_true h2, of_decide_eq_true h3, h4⟩
  have q := h0
  unfold oclB at q
  split at q
  · rename_i dd cd sl ho
    split at q
    · rename_i C' bm k0 k1 k2 k3 n k5 hm hs
      simp only [Bool.and_eq_true, beq_iff_eq, Bool.not_eq_true'] at q
      obtain ⟨⟨⟨⟨rfl, rfl⟩, hdel⟩, hdt⟩, ht⟩ := q
      obtain ⟨nm, bs, mro, ns, qn, hd, sn, sub, ab, col, del⟩ := cd
      dsimp only at hm hdel hdt
      subst hm hdel hdt
      have hsl : sl = #[k0, k1, k2, k3, some (.builtin "ValueError.__new__"), k5] := by
        obtain ⟨l⟩ := sl
        simp only at hs
        rw [hs]
      subst hsl
      exact ⟨nm, qn, ns, bs, bm, sn, sub, ab, col, dd, k0, k1, k2, k3, k5, ho, ht⟩
    · cases q
  · cases q
/-- all that is asked of the exceptions' class called x: its own __init__, its fields are no attributes of the class -/
def xclB (K : PySem.W.Frag) (x : Str) : Bool := oexB K (He.ga K x) && (xfB K (He.ga K x) && ((["code", "limit", "name", "index", "number", "bag"] : List Str).all (fun n => decide (PySem.W.findIn K (.ref (He.ga K x)) n = some none)) &&
  (decide (PySem.W.findIn K (.ref (He.ga K x)) "__init__" = some (some (.ref (He.ma K (He.ga K x) "__init__")))) && (decide (PySem.W.typeIn K (.ref (He.ma K (He.ga K x) "__init__")) = some (.type "function")) &&
    decide (PySem.W.exmAny K (.ref (He.ga K x)) [.ref (He.ga K "BagError"), .ref (He.ga K "Missing")] = some true)))))
structure XclF (K : PySem.W.Frag) (x : Str) : Prop where
  oex : OexC K (He.ga K x)
  xf : XfC K (He.ga K x)
  no : ∀ n ∈ (["code", "limit", "name", "index", "number", "bag"] : List Str), PySem.W.findIn K (.ref (He.ga K x)) n = some none
  init : PySem.W.findIn K (.ref (He.ga K x)) "__init__" = some (some (.ref (He.ma K (He.ga K x) "__init__")))
  tyI : PySem.W.typeIn K (.ref (He.ma K (He.ga K x) "__init__")) = some (.type "function")
  exm : PySem.W.exmAny K (.ref (He.ga K x)) [.ref (He.ga K "BagError"), .ref (He.ga K "Missing")] = some true
theorem xclB_ok {K : PySem.W.Frag} {x : Str} (h : xclB K x = true) : XclF K x := by
  obtain ⟨h0, h⟩ := He.ba h
  obtain ⟨h1, h⟩ := He.ba h
  obtain ⟨h2, h⟩ := He.ba h
  obtain ⟨h3, h⟩ := He.ba h
  obtain ⟨h4, h5⟩ := He.ba h
  exact ⟨oexB_ok h0, xfB_ok h1, fun n hn => of_decide_eq_true (List.all_eq_true.mp h2 n hn), of_decide_eq_true h3, of_decide_eq_true h4, of_decide_eq_true h5⟩
theorem XclF.xa {K : PySem.W.Frag} {x : Str} (h : XclF K x) : XA K (He.ga K x) := ⟨h.xf, fun n hn => h.no n (by
  simp only [List.mem_cons, List.not_mem_nil, or_false] at hn ⊢
  rcases hn with rfl | rfl | rfl | rfl | rfl <;> simp)⟩
/-! ### __init__(self): self.code = c -/
section
variable {P : Program} {w : World} {K : PySem.W.Frag} {mg : Str → Option Value} {base : Heap}
theorem init0 {x qual : Str} {C f : Addr} {st : Stmt} {fd : FuncData} {c : Str} {p1 p2 p3 p4 : Pos} {kk : Nat} (F : FunS K x qual st [] [] f fd) (Sc : FnScope ["self"] ["self"] (defScope st)) (hv : (defScope st).names.lookup ("self" : Str) = some .local)
    (Tx : OexC K C) (hno : PySem.W.findIn K (.ref C) "code" = some none) (hb : defBody st = [.Assign [.Attribute (.Name "self" p1) "code" p2] (.Constant (.str c) kk p3) p4]) : FnOk P w K mg base CX0 1 f fd ["self"] (spXi C c []) := by
  refine F.ok Sc (fun vs H Q E h => ?_) (fun cdv A outer s H vs Q E hr h => ⟨tOst K "code" (tVar 0) (tC (.str c)), PSs.nox ?_, ?_⟩)
  · obtain ⟨a, ws, rfl, hl, _⟩ := h
    cases ws with
    | nil => rfl
    | cons _ _ => cases hl
  · rw [hb]
    exact pss_one (ps_ost (pe_var (i := 0) rfl (.inl hv) (by decide) (by decide)) pe_str)
  · obtain ⟨a, ws, rfl, hl, ha, q⟩ := h
    cases ws with
    | cons _ _ => cases hl
    | nil =>
      refine ⟨_, rfl, a, C, rfl, Tx, hno, .inl ⟨ha, fun dx hd hne => ?_⟩⟩
      refine q dx _ hd hne upd_same ?_ fun b hb1 hb2 => by rw [upd_ne hb1, upd_ne hb2]
      rw [upd_ne hne, upd_same]
      rfl
/-- __init__(self, f1): self.f1 = f1; self.code = c, in this order -/
theorem init1 {x qual f1 : Str} {C f : Addr} {st : Stmt} {fd : FuncData} {c : Str} {p1 p2 p3 p4 p5 p6 p7 p8 : Pos} {kk : Nat} (F : FunS K x qual st [] [] f fd) (Sc : FnScope ["self", f1] ["self", f1] (defScope st)) (hv : (defScope st).names.lookup ("self" : Str) = some .local) (hv1 : (defScope st).names.lookup f1 = some .local)
    (hd1 : (f1 == ("__debug__" : Str)) = false) (hd2 : (f1 == ("__classdict__" : Str)) = false)
    (Tx : OexC K C) (hno : PySem.W.findIn K (.ref C) "code" = some none) (hno1 : PySem.W.findIn K (.ref C) f1 = some none) (hb : defBody st = [.Assign [.Attribute (.Name "self" p5) f1 p6] (.Name f1 p7) p8, .Assign [.Attribute (.Name "self" p1) "code" p2] (.Constant (.str c) kk p3) p4])
    (hs : ∀ env : Env, swapsWith (.Name f1 p7) (some (.Attribute (.Name "self" p5) f1 p6)) p8.line env = pure false) : FnOk P w K mg base CX0 1 f fd ["self", f1] (spXi C c [f1]) := by
  refine F.ok Sc (fun vs H Q E h => ?_) (fun cdv A outer s H vs Q E hr h => ⟨tSeq (tOst K f1 (tVar 0) (tVar 1)) (tOst K "code" (tVar 0) (tC (.str c))), PSs.nox ?_, ?_⟩)
  · obtain ⟨a, ws, rfl, hl, _⟩ := h
    rw [List.length_cons, hl]; rfl
  · rw [hb]
    exact pss_cons (ps_ost (pe_var (i := 0) rfl (.inl hv) (by decide) (by decide)) (pe_var (i := 1) rfl (.inl hv1) hd1 hd2) (hs _)) (pss_one (ps_ost (pe_var (i := 0) rfl (.inl hv) (by decide) (by decide)) pe_str))
  · obtain ⟨a, ws, rfl, hl, ha, q⟩ := h
    match ws, hl with
    | [y], _ =>
      refine ⟨y, rfl, _, rfl, a, C, rfl, Tx, hno1, .inl ⟨ha, fun dx hd hne => ?_⟩⟩
      refine ⟨_, rfl, a, C, rfl, Tx, hno, .inr ⟨dx, [(f1, y)], upd_same, by rw [upd_ne hne, upd_same], by simp, ?_⟩⟩
      refine q dx _ hd hne (by rw [upd_ne (Ne.symm hne), upd_same]) ?_ fun b hb1 hb2 => by rw [upd_ne hb2, upd_ne hb1, upd_ne hb2]
      rw [upd_same]
      rfl
end
end DL
namespace DL
open PySem PySem.Spec PyProof.Rows L2
/-! ### the readings, told for simp -/
@[simp] theorem dVar_rd (i : Nat) {r : Sl} {S : Store} {Q : DQ} {E : DX} : dVar i r S Q E = (∃ d, r[i]? = some (some d) ∧ Q d S) := rfl
@[simp] theorem dC_rd (d : D) {r : Sl} {S : Store} {Q : DQ} {E : DX} : dC d r S Q E = (Q d S) := rfl
@[simp] theorem dOp_rd (f : Store → D → D → D → Prop) (ta tb : DTE) {r : Sl} {S : Store} {Q : DQ} {E : DX} : dOp f ta tb r S Q E = (ta r S (fun x S1 => tb r S1 (fun y S2 => ∃ z, f S2 x y z ∧ Q z S2) E) E) := rfl
@[simp] theorem dAndV_rd (t u : DTE) {r : Sl} {S : Store} {Q : DQ} {E : DX} : dAndV t u r S Q E = (t r S (fun x S1 => ∃ c, x = .bl c ∧ if c = true then u r S1 Q E else Q (.bl false) S1) E) := rfl
@[simp] theorem dOrV_rd (t u : DTE) {r : Sl} {S : Store} {Q : DQ} {E : DX} : dOrV t u r S Q E = (t r S (fun x S1 => ∃ c, x = .bl c ∧ if c = true then Q (.bl true) S1 else u r S1 Q E) E) := rfl
@[simp] theorem dNotV_rd (t : DTE) {r : Sl} {S : Store} {Q : DQ} {E : DX} : dNotV t r S Q E = (t r S (fun x S1 => ∃ c, x = .bl c ∧ Q (.bl (!c)) S1) E) := rfl
@[simp] theorem dIf_rd (t : DTT) (u v : DTE) {r : Sl} {S : Store} {Q : DQ} {E : DX} : dIf t u v r S Q E = (t r S (fun c S1 => if c = true then u r S1 Q E else v r S1 Q E) E) := rfl
@[simp] theorem dTup_rd (t : DTA) {r : Sl} {S : Store} {Q : DQ} {E : DX} : dTup t r S Q E = (t r S (fun ds S1 => ds.length ≤ sizeLine ∧ Q (.tup ds) S1) E) := rfl
@[simp] theorem dLst_rd (t : DTA) {r : Sl} {S : Store} {Q : DQ} {E : DX} : dLst t r S Q E = (t r S (fun ds S1 => ds.length ≤ sizeLine ∧ Q (.lst ds) S1) E) := rfl
@[simp] theorem dLstS_rd (t : DTA) {r : Sl} {S : Store} {Q : DQ} {E : DX} : dLstS t r S Q E = (t r S (fun ds S1 => ds.length ≤ sizeLine ∧ Q (.ref S1.length) (S1 ++ [.lst ds])) E) := rfl
@[simp] theorem dCB_rd (f : Store → List D → D → Prop) (t : DTA) {r : Sl} {S : Store} {Q : DQ} {E : DX} : dCB f t r S Q E = (t r S (fun ds S1 => ∃ z, f S1 ds z ∧ Q z S1) E) := rfl
@[simp] theorem dCall_rd (sp : DSp) (n : Nat) (t : DTA) {r : Sl} {S : Store} {Q : DQ} {E : DX} : dCall sp n t r S Q E = (t r S (fun ds S1 => ds.length = n ∧ sp ds S1 Q E) E) := rfl
@[simp] theorem dUn_rd (f : Store → D → D → Prop) (t : DTE) {r : Sl} {S : Store} {Q : DQ} {E : DX} : dUn f t r S Q E = (t r S (fun x S1 => ∃ z, f S1 x z ∧ Q z S1) E) := rfl
@[simp] theorem dSl_rd (t : DTE) (tl th : DTO) {r : Sl} {S : Store} {Q : DQ} {E : DX} : dSl t tl th r S Q E = (t r S (fun x S1 => tl r S1 (fun l S2 => th r S2 (fun u S3 => ∃ z, fSl S3 x l u z ∧ Q z S3) E) E) E) := rfl
@[simp] theorem dBM_rd (ty : String) (f : MF) (to : DTE) (t : DTA) {r : Sl} {S : Store} {Q : DQ} {E : DX} : dBM ty f to t r S Q E = (to r S (fun x S1 => tyM S1 x = some ty ∧ t r S1 (fun ds S2 => ∃ z S3, f S2 x ds z S3 ∧ Q z S3) E) E) := rfl
@[simp] theorem dIsi2_rd (c1 c2 : String) (t : DTE) {r : Sl} {S : Store} {Q : DQ} {E : DX} : dIsi2 c1 c2 t r S Q E = (t r S (fun x S1 => ∃ n b1 b2, tyD S1 x = some n ∧ kitB n c1 = some b1 ∧ kitB n c2 = some b2 ∧ Q (.bl (b1 || b2)) S1) E) := rfl
@[simp] theorem dTry_rd (ok : Str → Prop) (t : DTE) {r : Sl} {S : Store} {Q : DQ} {E : DX} : dTry ok t r S Q E = (t r S (fun d S1 => Q (.tup [.str "value", d]) S1) (fun x S1 => ok x.cls ∧ ∃ c f, tellD x c f ∧ Q (.tup [c, f]) S1)) := rfl
@[simp] theorem dCallK_rd (sp : DSp) (m n l : Nat) (ix : List Nat) (t tk : DTA) {r : Sl} {S : Store} {Q : DQ} {E : DX} : dCallK sp m n l ix t tk r S Q E = (t r S (fun ds S1 => tk r S1 (fun zs S2 => ds.length = n ∧ zs.length = l ∧ (pick ix (ds ++ zs)).length = m ∧ sp (pick ix (ds ++ zs)) S2 Q E) E) E) := rfl
@[simp] theorem dChain_rd (f f' : Store → D → D → D → Prop) (ta tb tc : DTE) {r : Sl} {S : Store} {Q : DQ} {E : DX} : dChain f f' ta tb tc r S Q E = (ta r S (fun x S1 => tb r S1 (fun y S2 => ∃ k, f S2 x y (.bl k) ∧ (if k = true then tc r S2 (fun z S3 => ∃ w, f' S3 y z w ∧ Q w S3) E else Q (.bl false) S2)) E) E) := rfl
@[simp] theorem dB_rd (t : DTE) {r : Sl} {S : Store} {Q : Bool → Store → Prop} {E : DX} : dB t r S Q E = (t r S (fun x S1 => ∃ c, x = .bl c ∧ Q c S1) E) := rfl
@[simp] theorem dAnd_rd (t u : DTT) {r : Sl} {S : Store} {Q : Bool → Store → Prop} {E : DX} : dAnd t u r S Q E = (t r S (fun c S1 => if c = true then u r S1 Q E else Q false S1) E) := rfl
@[simp] theorem dOr_rd (t u : DTT) {r : Sl} {S : Store} {Q : Bool → Store → Prop} {E : DX} : dOr t u r S Q E = (t r S (fun c S1 => if c = true then Q true S1 else u r S1 Q E) E) := rfl
@[simp] theorem dNot_rd (t : DTT) {r : Sl} {S : Store} {Q : Bool → Store → Prop} {E : DX} : dNot t r S Q E = (t r S (fun c S1 => Q (!c) S1) E) := rfl
@[simp] theorem dYes_rd {r : Sl} {S : Store} {Q : Bool → Store → Prop} {E : DX} : dYes r S Q E = (Q true S) := rfl
@[simp] theorem dNil_rd {r : Sl} {S : Store} {Q : List D → Store → Prop} {E : DX} : dNil r S Q E = (Q [] S) := rfl
@[simp] theorem dCons_rd (t : DTE) (u : DTA) {r : Sl} {S : Store} {Q : List D → Store → Prop} {E : DX} : dCons t u r S Q E = (t r S (fun d S1 => u r S1 (fun ds S2 => Q (d :: ds) S2) E) E) := rfl
@[simp] theorem diSeq_rd (t : DTE) {r : Sl} {S : Store} {Q : List D → Store → Prop} {E : DX} : diSeq t r S Q E = (t r S (fun d S1 => ∃ ds, itv d = some ds ∧ Q ds S1) E) := rfl
@[simp] theorem diRng1_rd (t : DTA) {r : Sl} {S : Store} {Q : List D → Store → Prop} {E : DX} : diRng1 t r S Q E = (t r S (fun ds S1 => ∃ j : Int, ds = [.int j] ∧ -(2 ^ 62) ≤ j ∧ j < 2 ^ 62 ∧ Q (rngD 0 j.toNat) S1) E) := rfl
@[simp] theorem diRng2_rd (t : DTA) {r : Sl} {S : Store} {Q : List D → Store → Prop} {E : DX} : diRng2 t r S Q E = (t r S (fun ds S1 => ∃ i j : Int, ds = [.int i, .int j] ∧ (-(2 ^ 62) ≤ i ∧ i < 2 ^ 62 ∧ -(2 ^ 62) ≤ j ∧ j < 2 ^ 62) ∧ Q (rngD i (j - i).toNat) S1) E) := rfl
@[simp] theorem diEnum_rd (t : DTA) {r : Sl} {S : Store} {Q : List D → Store → Prop} {E : DX} : diEnum t r S Q E = (t r S (fun ds S1 => ∃ xs, ds = [.lst xs] ∧ Q (enumD xs) S1) E) := rfl
@[simp] theorem diZip_rd (t : DTA) {r : Sl} {S : Store} {Q : List D → Store → Prop} {E : DX} : diZip t r S Q E = (t r S (fun ds S1 => ∃ xs ys, (ds = [.lst xs, .lst ys] ∨ ds = [.tup xs, .tup ys]) ∧ Q (zipD xs ys) S1) E) := rfl
@[simp] theorem dNoPart_rd {r : Sl} {S : Store} {Q : Option Int → Store → Prop} {E : DX} : dNoPart r S Q E = (Q none S) := rfl
@[simp] theorem dPart_rd (t : DTE) {r : Sl} {S : Store} {Q : Option Int → Store → Prop} {E : DX} : dPart t r S Q E = (t r S (fun x S1 => ∃ i, x = .int i ∧ Q (some i) S1) E) := rfl
@[simp] theorem dNext_rd {d : DEnds} {r : Sl} {S : Store} : dNext d r S = (d.nx r S) := rfl
@[simp] theorem dSeq_rd (t u : DTS) {d : DEnds} {r : Sl} {S : Store} : dSeq t u d r S = (t { d with nx := u d } r S) := rfl
@[simp] theorem dBreak_rd {d : DEnds} {r : Sl} {S : Store} : dBreak d r S = (d.bk r S) := rfl
@[simp] theorem dCont_rd {d : DEnds} {r : Sl} {S : Store} : dCont d r S = (d.ct r S) := rfl
@[simp] theorem dExpr_rd (t : DTE) {d : DEnds} {r : Sl} {S : Store} : dExpr t d r S = (t r S (fun _ S1 => d.nx r S1) (fun x S1 => d.ex x r S1)) := rfl
@[simp] theorem dRet_rd (t : DTE) {d : DEnds} {r : Sl} {S : Store} : dRet t d r S = (t r S (fun x S1 => d.rt x S1) (fun x S1 => d.ex x r S1)) := rfl
@[simp] theorem dIfS_rd (c : DTT) (t u : DTS) {d : DEnds} {r : Sl} {S : Store} : dIfS c t u d r S = (c r S (fun b S1 => if b = true then t d r S1 else u d r S1) (fun x S1 => d.ex x r S1)) := rfl
@[simp] theorem dAsg_rd (t : DTE) (g : DTG) {d : DEnds} {r : Sl} {S : Store} : dAsg t g d r S = (t r S (fun x S1 => g x r S1 d.nx) (fun x S1 => d.ex x r S1)) := rfl
@[simp] theorem dPar_rd (i j : Nat) (t : DTA) {d : DEnds} {r : Sl} {S : Store} : dPar i j t d r S = (t r S (fun ds S1 => ∃ v w, ds = [v, w] ∧ d.nx ((r.set i (some v)).set j (some w)) S1) (fun x S1 => d.ex x r S1)) := rfl
@[simp] theorem dAug_rd (i : Nat) (t : DTE) (f : Store → D → D → D → Prop) {d : DEnds} {r : Sl} {S : Store} : dAug i t f d r S = (∃ x, r[i]? = some (some x) ∧ t r S (fun y S1 => ∃ z, f S1 x y z ∧ d.nx (r.set i (some z)) S1) (fun x S1 => d.ex x r S1)) := rfl
@[simp] theorem dRaise_rd (C : Str) (c : Str) (fs : List Str) (t : DTA) {d : DEnds} {r : Sl} {S : Store} : dRaise C c fs t d r S = (t r S (fun ds S1 => ds.length = fs.length ∧ d.ex ⟨C, xns fs, .str c :: ds.reverse⟩ r S1) (fun x S1 => d.ex x r S1)) := rfl
@[simp] theorem dgName_rd {i : Nat} {d : D} {r : Sl} {S : Store} {Q : Sl → Store → Prop} : dgName i d r S Q = Q (r.set i (some d)) S := rfl
theorem dgTup_rd {n : Nat} {t : List D → Sl → Store → (Sl → Store → Prop) → Prop} {d : D} {r : Sl} {S : Store} {Q : Sl → Store → Prop} : dgTup n t d r S Q = (∃ ds, d = .tup ds ∧ ds.length = n ∧ t ds r S Q) := rfl
theorem dgNil_rd {ds : List D} {r : Sl} {S : Store} {Q : Sl → Store → Prop} : dgNil ds r S Q = (ds = [] ∧ Q r S) := rfl
theorem dgCons_rd {t : DTG} {u : List D → Sl → Store → (Sl → Store → Prop) → Prop} {ds : List D} {r : Sl} {S : Store} {Q : Sl → Store → Prop} : dgCons t u ds r S Q = (∃ d q, ds = d :: q ∧ t d r S fun r' S' => u q r' S' Q) := rfl
@[simp] theorem dgTup_c {n : Nat} {t : List D → Sl → Store → (Sl → Store → Prop) → Prop} {ds : List D} {r : Sl} {S : Store} {Q : Sl → Store → Prop} : dgTup n t (.tup ds) r S Q = (ds.length = n ∧ t ds r S Q) := propext ⟨fun ⟨_, e, h⟩ => by cases e; exact h, fun h => ⟨ds, rfl, h⟩⟩
@[simp] theorem dgNil_c {r : Sl} {S : Store} {Q : Sl → Store → Prop} : dgNil [] r S Q = Q r S := propext ⟨fun h => h.2, fun h => ⟨rfl, h⟩⟩
@[simp] theorem dgCons_c {t : DTG} {u : List D → Sl → Store → (Sl → Store → Prop) → Prop} {d : D} {q : List D} {r : Sl} {S : Store} {Q : Sl → Store → Prop} : dgCons t u (d :: q) r S Q = (t d r S fun r' S' => u q r' S' Q) := propext ⟨fun ⟨_, _, e, h⟩ => by cases e; exact h, fun h => ⟨d, q, rfl, h⟩⟩
@[simp] theorem dgSub_rd {to ti : DTE} {d : D} {r : Sl} {S : Store} {Q : Sl → Store → Prop} : dgSub to ti d r S Q = (to r S (fun x S1 => ti r S1 (fun y S2 => ∃ (n : Nat) (ds : List D) (k : Int) (j : Nat), x = .ref n ∧ y = .int k ∧ S2[n]? = some (.lst ds) ∧ ixN ds.length k = some j ∧ Q r (S2.set n (.lst (ds.set j d)))) EF) EF) := rfl
section
variable {S : Store} {i j : Int} {z x y : D} {es fs : List D} {a b : Str} {p q : Bool}
@[simp] theorem fAdd_ii : fAdd S (.int i) (.int j) z = (z = .int (i + j)) := rfl
@[simp] theorem fAdd_tt : fAdd S (.tup es) (.tup fs) z = (es.length + fs.length ≤ sizeLine ∧ z = .tup (es ++ fs)) := rfl
@[simp] theorem fAdd_ss : fAdd S (.str a) (.str b) z = (a.length + b.length ≤ sizeLine ∧ z = .str (a ++ b)) := rfl
@[simp] theorem fSub_ii : fSub S (.int i) (.int j) z = (z = .int (i - j)) := rfl
@[simp] theorem fMul_ii : fMul S (.int i) (.int j) z = (MulOk i j ∧ z = .int (i * j)) := rfl
@[simp] theorem fFdiv_ii : fFdiv S (.int i) (.int j) z = (DivOk j ∧ z = .int (i / j)) := rfl
@[simp] theorem fMod_ii : fMod S (.int i) (.int j) z = (0 < j ∧ z = .int (i % j)) := rfl
@[simp] theorem fPow_ii : fPow S (.int i) (.int j) z = ((0 ≤ j ∧ j ≤ 1000000 ∧ i.natAbs < 2 ^ 64) ∧ z = .int (i ^ j.toNat)) := rfl
@[simp] theorem fLt_ii : fLt S (.int i) (.int j) z = (z = .bl (decide (i < j))) := rfl
@[simp] theorem fLe_ii : fLe S (.int i) (.int j) z = (z = .bl (decide (i ≤ j))) := rfl
@[simp] theorem fGt_ii : fGt S (.int i) (.int j) z = (z = .bl (decide (i > j))) := rfl
@[simp] theorem fGe_ii : fGe S (.int i) (.int j) z = (z = .bl (decide (i ≥ j))) := rfl
@[simp] theorem fNeg_i : fNeg S (.int i) z = (z = .int (-i)) := propext ⟨fun ⟨_, e, h⟩ => by cases e; exact h, fun h => ⟨i, rfl, h⟩⟩
theorem eqD_int : (i == j) = decide (i = j) := rfl
@[simp] theorem fEq_ii : fEq S (.int i) (.int j) z = (z = .bl (decide (i = j))) := propext ⟨fun ⟨_, _, h⟩ => h.trans (by rw [← eqD_int]; simp [dres, lsv, pd, PyData.eqv]), fun h => ⟨rfl, rfl, h.trans (by rw [← eqD_int]; simp [dres, lsv, pd, PyData.eqv])⟩⟩
@[simp] theorem fNe_ii : fNe S (.int i) (.int j) z = (z = .bl (!decide (i = j))) := propext ⟨fun ⟨_, _, h⟩ => h.trans (by rw [← eqD_int]; simp [dres, lsv, pd, PyData.eqv]), fun h => ⟨rfl, rfl, h.trans (by rw [← eqD_int]; simp [dres, lsv, pd, PyData.eqv])⟩⟩
@[simp] theorem fEq_bb : fEq S (.bl p) (.bl q) z = (z = .bl (p == q)) := propext ⟨fun ⟨_, _, h⟩ => h.trans (by simp [dres, lsv, pd, PyData.eqv]), fun h => ⟨rfl, rfl, h.trans (by simp [dres, lsv, pd, PyData.eqv])⟩⟩
@[simp] theorem fNe_bb : fNe S (.bl p) (.bl q) z = (z = .bl (!(p == q))) := propext ⟨fun ⟨_, _, h⟩ => h.trans (by simp [dres, lsv, pd, PyData.eqv]), fun h => ⟨rfl, rfl, h.trans (by simp [dres, lsv, pd, PyData.eqv])⟩⟩
@[simp] theorem fIsN_n : fIsN S x .non z = (z = .bl (isNon x)) := propext ⟨fun ⟨_, h⟩ => h, fun h => ⟨rfl, h⟩⟩
@[simp] theorem fNotN_n : fNotN S x .non z = (z = .bl (!isNon x)) := propext ⟨fun ⟨_, h⟩ => h, fun h => ⟨rfl, h⟩⟩
@[simp] theorem fIx_i : fIx S x (.int i) z = (itemD S x i = some z) := propext ⟨fun ⟨_, e, h⟩ => by cases e; exact h, fun h => ⟨i, rfl, h⟩⟩
@[simp] theorem itemD_tup : itemD S (.tup es) i = atI es i := rfl
@[simp] theorem itemD_lst : itemD S (.lst es) i = atI es i := rfl
theorem itemD_ref {n : Nat} (h : S[n]? = some (.lst es)) : itemD S (.ref n) i = atI es i := by simp [itemD, lsv, h]
@[simp] theorem bInt_i : bInt S [.int i] z = (z = .int i) := rfl
@[simp] theorem bInt_b : bInt S [.bl p] z = (z = .int (if p then 1 else 0)) := rfl
@[simp] theorem bMax2_ii : bMax2 S [.int i, .int j] z = (z = .int (if j > i then j else i)) := propext ⟨fun ⟨_, _, e, h⟩ => by cases e; exact h, fun h => ⟨i, j, rfl, h⟩⟩
@[simp] theorem bMin2_ii : bMin2 S [.int i, .int j] z = (z = .int (if j < i then j else i)) := propext ⟨fun ⟨_, _, e, h⟩ => by cases e; exact h, fun h => ⟨i, j, rfl, h⟩⟩
@[simp] theorem bTuple_l : bTuple S [.lst es] z = (z = .tup es) := propext ⟨fun ⟨_, e, h⟩ => (by
  cases e
  rcases h with ⟨_, h1, h2⟩ | ⟨_, h1, _⟩
  · cases h1; exact h2
  · cases h1), fun h => ⟨_, rfl, .inl ⟨_, rfl, h⟩⟩⟩
@[simp] theorem bTuple_t : bTuple S [.tup es] z = (z = .tup es) := propext ⟨fun ⟨_, e, h⟩ => by
  cases e
  rcases h with ⟨_, h1, h2⟩ | ⟨_, h1, h2⟩
  · cases h1
  · exact h2, fun h => ⟨_, rfl, .inr ⟨_, rfl, h⟩⟩⟩
theorem bTuple_ref {n : Nat} (hS : S[n]? = some (.lst es)) : bTuple S [.ref n] (.tup es) := ⟨_, rfl, .inl ⟨es, by simp [lsv, hS], rfl⟩⟩
@[simp] theorem bList_l : bList S [.lst es] z = (z = .lst es) := propext ⟨fun ⟨_, _, e, h, h2⟩ => (by
  cases e
  rcases h with h1 | h1 | h1
  · cases h1; exact h2
  · cases h1
  · cases h1), fun h => ⟨_, _, rfl, .inl rfl, h⟩⟩
@[simp] theorem bList_t : bList S [.tup es] z = (z = .lst es) := propext ⟨fun ⟨_, _, e, h, h2⟩ => (by
  cases e
  rcases h with h1 | h1 | h1
  · cases h1
  · cases h1; exact h2
  · cases h1), fun h => ⟨_, _, rfl, .inr (.inl rfl), h⟩⟩
@[simp] theorem bLen_l : bLen S [.lst es] z = (z = .int (es.length : Nat)) := propext ⟨fun ⟨_, _, e, h, h2⟩ => by cases e; cases h; exact h2, fun h => ⟨_, _, rfl, rfl, h⟩⟩
@[simp] theorem bLen_t : bLen S [.tup es] z = (z = .int (es.length : Nat)) := propext ⟨fun ⟨_, _, e, h, h2⟩ => by cases e; cases h; exact h2, fun h => ⟨_, _, rfl, rfl, h⟩⟩
theorem bLen_s (h : a.length ≤ sizeLine) : bLen S [.str a] z = (z = .int (a.length : Nat)) := propext ⟨fun ⟨_, n, e, h1, h2⟩ => by
  cases e
  have h1' : (if a.length ≤ sizeLine then some a.length else none) = some n := h1
  rw [if_pos h] at h1'; cases h1'; exact h2, fun h2 => ⟨_, _, rfl, by show (if a.length ≤ sizeLine then some a.length else none) = _; rw [if_pos h], h2⟩⟩
@[simp] theorem fSl_fz {lo hi : Option Int} : fSl S (.fz es) lo hi z = (z = .lst (cutD es lo hi)) := rfl
@[simp] theorem fSl_t {lo hi : Option Int} : fSl S (.tup es) lo hi z = (z = .tup (cutD es lo hi)) := rfl
@[simp] theorem itv_l : itv (.lst es) = some es := rfl
@[simp] theorem itv_t : itv (.tup es) = some es := rfl
@[simp] theorem itv_s : itv (.str a) = some (a.cps.toList.map chr1) := rfl
end
end DL
namespace DL
open PySem PySem.Spec PyProof.Rows L2
theorem seq_gen {t u : DTS} {d : DEnds} {r : Sl} {S : Store} (h : ∀ Kk : Sl → Store → Prop, Kk = u d → t { d with nx := Kk } r S) : dSeq t u d r S := h (u d) rfl
theorem seq_cut {t u : DTS} {d : DEnds} {r : Sl} {S : Store} (M : Sl → Store → Prop) (h1 : ∀ Kk : Sl → Store → Prop, (∀ r' S', M r' S' → Kk r' S') → t { d with nx := Kk } r S) (h2 : ∀ r' S', M r' S' → u d r' S') : dSeq t u d r S := h1 (u d) h2
/-! ### the laws' own drawing: what every law leans upon -/
def RngO (o : O) : Prop := ∃ (cs : List Int) (i b s c : Int), 0 ≤ i ∧ o = .lst [.lst (cs.map D.int), .int i, .int b, .int s, .int c]
def RngAt (S : Store) (n : Nat) : Prop := ∃ o, S[n]? = some o ∧ RngO o
def spDraw : DSp := fun ds S Q _ => ∃ (n : Nat) (m : Int), ds = [.ref n, .int m] ∧ 0 < m ∧ m < 2 ^ 62 ∧ RngAt S n ∧ ∀ x o, 0 ≤ x → x < m → RngO o → Q (.int x) (S.set n o)
def spDraws : DSp := fun ds S Q _ => ∃ ns : List Int, ds = [.fz (ns.map D.int)] ∧ ∀ o, RngO o → Q (.ref S.length) (S ++ [o])
/-- things: a list of at least one -/
def spPick : DSp := fun ds S Q _ => ∃ (n : Nat) (xs : List D), ds = [.ref n, .lst xs] ∧ 0 < xs.length ∧ xs.length < 1000000 ∧ RngAt S n ∧ ∀ x o, x ∈ xs → RngO o → Q x (S.set n o)
@[simp] theorem lsv_set {S : Store} {n : Nat} {es : List D} (hn : n < S.length) : lsv (S.set n (.lst es)) (.ref n) = some es := by
  show (match (S.set n (.lst es))[n]? with | some (.lst ds) => some ds | _ => none) = some es
  rw [List.getElem?_set_self hn]
@[simp] theorem itemD_set {S : Store} {n : Nat} {es : List D} {i : Int} (hn : n < S.length) : itemD (S.set n (.lst es)) (.ref n) i = atI es i := by
  show (lsv (S.set n (.lst es)) (.ref n)).bind _ = _
  rw [lsv_set hn]; rfl
theorem RngAt.ex {S : Store} {n : Nat} (h : RngAt S n) : ∃ (S0 : Store) (cs : List Int) (i b s c : Int), n < S0.length ∧ 0 ≤ i ∧ S = S0.set n (.lst [.lst (cs.map D.int), .int i, .int b, .int s, .int c]) := by
  obtain ⟨o, hS, cs, i, b, s, c, hi, rfl⟩ := h
  obtain ⟨hn, e⟩ := List.getElem?_eq_some_iff.mp hS
  exact ⟨S, cs, i, b, s, c, hn, hi, by rw [← e, List.set_getElem_self]⟩
@[simp] theorem lsv_lst {S : Store} {ds : List D} : lsv S (.lst ds) = some ds := rfl
theorem divOk_small {j : Int} (h : 0 < j) (h2 : j < 2 ^ 62) : DivOk j := by
  refine ⟨h, ?_⟩
  have : j.natAbs.log2 < 63 := by
    by_cases h0 : j.natAbs = 0
    · simp [h0]
    · exact (Nat.log2_lt h0).mpr (by omega)
  omega
theorem mulOk_r {i j : Int} (h : -(2 ^ 64) < j ∧ j < 2 ^ 64) : MulOk i j := .inl (.inr h)
theorem mulOk_l {i j : Int} (h : -(2 ^ 64) < i ∧ i < 2 ^ 64) : MulOk i j := .inl (.inl h)
theorem atI_nat {xs : List D} {k : Nat} {d : D} (h : xs[k]? = some d) : atI xs (k : Int) = some d := by
  have hl := (List.getElem?_eq_some_iff.mp h).1
  unfold atI ixN
  rw [if_pos (by omega), if_pos (by omega)]
  simpa using h
@[simp] theorem mulOk_rT {i j : Int} (h : -(2 ^ 64) < j ∧ j < 2 ^ 64) : MulOk i j = True := eq_true (mulOk_r h)
@[simp] theorem mulOk_lT {i j : Int} (h : -(2 ^ 64) < i ∧ i < 2 ^ 64) : MulOk i j = True := eq_true (mulOk_l h)
@[simp] theorem divOk_T {j : Int} (h : 0 < j) (h2 : j < 2 ^ 62) : DivOk j = True := eq_true (divOk_small h h2)
@[simp] theorem ex_and_eq {α : Type} {A : Prop} {t : α} {P : α → Prop} : (∃ z, (A ∧ z = t) ∧ P z) = (A ∧ P t) := propext ⟨fun ⟨_, ⟨h, e⟩, p⟩ => ⟨h, e ▸ p⟩, fun ⟨h, p⟩ => ⟨t, ⟨h, rfl⟩, p⟩⟩
@[simp] theorem ex_pair {α : Type} {x y : α} {P : α → α → Prop} : (∃ v w, (x = v ∧ y = w) ∧ P v w) = P x y := propext ⟨fun ⟨_, _, ⟨e1, e2⟩, p⟩ => by cases e1; cases e2; exact p, fun p => ⟨x, y, ⟨rfl, rfl⟩, p⟩⟩
section
variable {a b c d e : D} {l : List D}
@[simp] theorem at2_0 : atI [a, b] 0 = some a := rfl
@[simp] theorem at2_1 : atI [a, b] 1 = some b := rfl
@[simp] theorem at3_0 : atI [a, b, c] 0 = some a := rfl
@[simp] theorem at3_1 : atI [a, b, c] 1 = some b := rfl
@[simp] theorem at3_2 : atI [a, b, c] 2 = some c := rfl
@[simp] theorem at4_0 : atI [a, b, c, d] 0 = some a := rfl
@[simp] theorem at4_1 : atI [a, b, c, d] 1 = some b := rfl
@[simp] theorem at4_2 : atI [a, b, c, d] 2 = some c := rfl
@[simp] theorem at4_3 : atI [a, b, c, d] 3 = some d := rfl
@[simp] theorem at5_0 : atI [a, b, c, d, e] 0 = some a := rfl
@[simp] theorem at5_1 : atI [a, b, c, d, e] 1 = some b := rfl
@[simp] theorem at5_2 : atI [a, b, c, d, e] 2 = some c := rfl
@[simp] theorem at5_3 : atI [a, b, c, d, e] 3 = some d := rfl
@[simp] theorem at5_4 : atI [a, b, c, d, e] 4 = some e := rfl
end
theorem atI_ints {cs : List Int} {i : Int} (h0 : 0 ≤ i) (h1 : i < cs.length) : ∃ v : Int, atI (cs.map D.int) i = some (.int v) := by
  have hl : i.toNat < cs.length := by omega
  refine ⟨cs[i.toNat], ?_⟩
  have := atI_nat (xs := cs.map D.int) (k := i.toNat) (d := .int cs[i.toNat]) (by rw [List.getElem?_map, List.getElem?_eq_getElem hl]; rfl)
  rwa [Int.toNat_of_nonneg h0] at this
theorem RngAt.lt {S : Store} {n : Nat} (h : RngAt S n) : n < S.length := by
  obtain ⟨o, h, _⟩ := h
  exact (List.getElem?_eq_some_iff.mp h).1
theorem RngAt.set {S : Store} {n : Nat} {o : O} (h : RngAt S n) (ho : RngO o) : RngAt (S.set n o) n := ⟨o, by rw [List.getElem?_set_self h.lt], ho⟩
theorem atI_mem {xs : List D} {i : Int} (h0 : 0 ≤ i) (h1 : i < xs.length) : ∃ d, d ∈ xs ∧ atI xs i = some d := by
  have hl : i.toNat < xs.length := by omega
  refine ⟨xs[i.toNat], List.getElem_mem hl, ?_⟩
  have := atI_nat (List.getElem?_eq_getElem hl)
  rwa [Int.toNat_of_nonneg h0] at this
theorem RngO.rlt {o : O} (h : RngO o) (n : Nat) : rltO n o = true := by
  obtain ⟨cs, i, b, s, c, _, rfl⟩ := h
  show rlts n [.lst (cs.map D.int), .int i, .int b, .int s, .int c] = true
  simp [rlts, DL.rlt, rlts_ints]
/-! ### the kinds that are drawn -/
def kindCps (f s : Int) (k : Nat) : List Nat := (List.range k).map fun t => (97 + (f + s * (t : Nat)) % 26).toNat
def kindStr (f s : Int) (k : Nat) : Str := ⟨(kindCps f s k).toArray⟩
theorem kindStr_len {f s : Int} {k : Nat} : (kindStr f s k).length = k := by simp [kindStr, kindCps, Str.length]
def spKinds : DSp := fun ds S Q _ => ∃ (n : Nat) (m : Int), ds = [.ref n, .int m] ∧ 2 ≤ m ∧ m < 100 ∧ RngAt S n ∧ ∀ (f s : Int) (k : Nat) (o : O), 0 ≤ f → f < 26 → s ∈ ([1, 3, 5, 7, 9, 11, 15, 25] : List Int) → 2 ≤ k → (k : Int) ≤ m → RngO o → Q (.str (kindStr f s k)) (S.set n o)
def spBag : DSp := fun ds S Q _ => ∃ (n : Nat) (a : Str) (m : Int), ds = [.ref n, .str a, .int m] ∧ a.length ≤ 1000 ∧ 0 ≤ m ∧ m < 1000000 ∧ RngAt S n ∧ ∀ (cs : List Int) (o : O), cs.length = a.length → (∀ c ∈ cs, 0 ≤ c ∧ c ≤ m) → RngO o → Q (.tup (cs.map D.int)) (S.set n o)
def spGreat : DSp := fun ds S Q _ => ∃ (n : Nat) (a : Str) (m : Int), ds = [.ref n, .str a, .int m] ∧ a.length ≤ 1000 ∧ 0 ≤ m ∧ m < 1000000 ∧ RngAt S n ∧ ∀ (cs : List Int) (o : O), cs.length = a.length → (∀ c ∈ cs, 0 ≤ c ∧ c ≤ m + 10 ^ 20 + 1000) → RngO o → Q (.tup (cs.map D.int)) (S.set n o)
theorem joinL_ones : ∀ cs : List Nat, TL.joinL [] (cs.map fun c => [c]) = cs
  | [] => rfl
  | [_] => rfl
  | c :: d :: r => by
    show [c] ++ ([] ++ TL.joinL [] ((d :: r).map fun c => [c])) = _
    rw [joinL_ones (d :: r)]; rfl
@[simp] theorem tyM_s {S : Store} {a : Str} : tyM S (.str a) = some "str" := rfl
theorem letters_cps : (Str.ofString "abcdefghijklmnopqrstuvwxyz").cps.toList = List.range' 97 26 := by decide +kernel
theorem letters_len : (Str.ofString "abcdefghijklmnopqrstuvwxyz").length ≤ sizeLine := by decide +kernel
theorem itemD_letters {S : Store} {i : Int} (h0 : 0 ≤ i) (h1 : i < 26) : itemD S (.str (Str.ofString "abcdefghijklmnopqrstuvwxyz")) i = some (chr1 (97 + i).toNat) := by
  show (if (Str.ofString "abcdefghijklmnopqrstuvwxyz").length ≤ sizeLine then (atI (Str.ofString "abcdefghijklmnopqrstuvwxyz").cps.toList i).map chr1 else none) = _
  rw [if_pos letters_len, letters_cps]
  unfold atI ixN
  rw [if_pos h0, if_pos (by simpa using h1)]
  have e : (List.range' 97 26)[i.toNat]? = some (97 + i).toNat := by
    rw [List.getElem?_range' (by omega)]
    congr 1
    omega
  show Option.map chr1 ((List.range' 97 26)[i.toNat]?) = _
  rw [e]; rfl
theorem sum_ones {α : Type} : ∀ l : List α, (l.map fun _ => 1).sum = l.length
  | [] => rfl
  | _ :: l => by simp [sum_ones l, Nat.add_comm]
theorem tl_inj {a b : Str} (h : TL.tl a = TL.tl b) : a = b := by
  obtain ⟨⟨a⟩⟩ := a; obtain ⟨⟨b⟩⟩ := b
  have h' : a = b := h
  rw [h']
theorem join_ones (cs : List Nat) : Txt.join (Str.ofString "") (cs.map fun c => (⟨#[c]⟩ : Str)) = ⟨cs.toArray⟩ := by
  apply tl_inj
  rw [TL.join_eq, TL.tl_join, List.map_map]
  have e : TL.tl (Str.ofString "") = [] := by decide +kernel
  rw [e]
  exact joinL_ones cs
end DL
namespace DL
open PySem PySem.Spec PyProof.Rows L2
/-! ### _law_same, by data -/
@[simp] theorem kit_NoneType_list : kitB "NoneType" "list" = some false := by decide +kernel
@[simp] theorem kit_NoneType_tuple : kitB "NoneType" "tuple" = some false := by decide +kernel
@[simp] theorem kit_NoneType_bool : kitB "NoneType" "bool" = some false := by decide +kernel
@[simp] theorem kit_NoneType_int : kitB "NoneType" "int" = some false := by decide +kernel
@[simp] theorem kit_NoneType_str : kitB "NoneType" "str" = some false := by decide +kernel
@[simp] theorem kit_bool_list : kitB "bool" "list" = some false := by decide +kernel
@[simp] theorem kit_bool_tuple : kitB "bool" "tuple" = some false := by decide +kernel
@[simp] theorem kit_bool_bool : kitB "bool" "bool" = some true := by decide +kernel
@[simp] theorem kit_bool_int : kitB "bool" "int" = some true := by decide +kernel
@[simp] theorem kit_bool_str : kitB "bool" "str" = some false := by decide +kernel
@[simp] theorem kit_int_list : kitB "int" "list" = some false := by decide +kernel
@[simp] theorem kit_int_tuple : kitB "int" "tuple" = some false := by decide +kernel
@[simp] theorem kit_int_bool : kitB "int" "bool" = some false := by decide +kernel
@[simp] theorem kit_int_int : kitB "int" "int" = some true := by decide +kernel
@[simp] theorem kit_int_str : kitB "int" "str" = some false := by decide +kernel
@[simp] theorem kit_str_list : kitB "str" "list" = some false := by decide +kernel
@[simp] theorem kit_str_tuple : kitB "str" "tuple" = some false := by decide +kernel
@[simp] theorem kit_str_bool : kitB "str" "bool" = some false := by decide +kernel
@[simp] theorem kit_str_int : kitB "str" "int" = some false := by decide +kernel
@[simp] theorem kit_str_str : kitB "str" "str" = some true := by decide +kernel
@[simp] theorem kit_tuple_list : kitB "tuple" "list" = some false := by decide +kernel
@[simp] theorem kit_tuple_tuple : kitB "tuple" "tuple" = some true := by decide +kernel
@[simp] theorem kit_tuple_bool : kitB "tuple" "bool" = some false := by decide +kernel
@[simp] theorem kit_tuple_int : kitB "tuple" "int" = some false := by decide +kernel
@[simp] theorem kit_tuple_str : kitB "tuple" "str" = some false := by decide +kernel
@[simp] theorem kit_list_list : kitB "list" "list" = some true := by decide +kernel
@[simp] theorem kit_list_tuple : kitB "list" "tuple" = some false := by decide +kernel
@[simp] theorem kit_list_bool : kitB "list" "bool" = some false := by decide +kernel
@[simp] theorem kit_list_int : kitB "list" "int" = some false := by decide +kernel
@[simp] theorem kit_list_str : kitB "list" "str" = some false := by decide +kernel
section
variable {S : Store} {x z : D} {c : String} {es fs : List D} {b : Bool} {i : Int} {a a2 : Str}
@[simp] theorem bIsi_c : bIsi S [x, .ty c] z = (∃ n b, tyD S x = some n ∧ kitB n c = some b ∧ z = .bl b) := propext ⟨fun ⟨_, _, n, b, e, h⟩ => by cases e; exact ⟨n, b, h⟩, fun ⟨n, b, h⟩ => ⟨_, _, n, b, rfl, h⟩⟩
@[simp] theorem ty_non : tyD S .non = some "NoneType" := rfl
@[simp] theorem ty_bl : tyD S (.bl b) = some "bool" := rfl
@[simp] theorem ty_int : tyD S (.int i) = some "int" := rfl
@[simp] theorem ty_str : tyD S (.str a) = some "str" := rfl
@[simp] theorem ty_tup : tyD S (.tup es) = some "tuple" := rfl
@[simp] theorem ty_lst : tyD S (.lst es) = some "list" := rfl
@[simp] theorem isNon_non : isNon .non = true := rfl
@[simp] theorem isNon_bl : isNon (.bl b) = false := rfl
@[simp] theorem isNon_int : isNon (.int i) = false := rfl
@[simp] theorem isNon_str : isNon (.str a) = false := rfl
@[simp] theorem isNon_tup : isNon (.tup es) = false := rfl
@[simp] theorem isNon_lst : isNon (.lst es) = false := rfl
theorem fEq_ss (h1 : PyData.strOk a = true) (h2 : PyData.strOk a2 = true) : fEq S (.str a) (.str a2) z = (z = .bl (a == a2)) := propext ⟨fun ⟨_, _, h⟩ => h.trans (by simp [dres, lsv, pd, PyData.eqv]), fun h => ⟨h1, h2, h.trans (by simp [dres, lsv, pd, PyData.eqv])⟩⟩
end
section
variable {S : Store} {es fs : List D} {b : Bool}
theorem fEq_tt (h1 : sh 60 (.tup es) = true) (h2 : sh 60 (.tup fs) = true) (h3 : PyData.eqv (pd (.tup es)) (pd (.tup fs)) = b) : fEq S (.tup es) (.tup fs) (.bl b) := ⟨h1, h2, by rw [← h3]; rfl⟩
theorem fEq_ll (h1 : sh 60 (.lst es) = true) (h2 : sh 60 (.lst fs) = true) (h3 : PyData.eqv (pd (.lst es)) (pd (.lst fs)) = b) : fEq S (.lst es) (.lst fs) (.bl b) := ⟨h1, h2, by rw [← h3]; rfl⟩
theorem fNe_tt (h1 : sh 60 (.tup es) = true) (h2 : sh 60 (.tup fs) = true) (h3 : PyData.eqv (pd (.tup es)) (pd (.tup fs)) = !b) : fNe S (.tup es) (.tup fs) (.bl b) := ⟨h1, h2, by rw [show b = !!b by simp, ← h3]; rfl⟩
theorem fNe_ll (h1 : sh 60 (.lst es) = true) (h2 : sh 60 (.lst fs) = true) (h3 : PyData.eqv (pd (.lst es)) (pd (.lst fs)) = !b) : fNe S (.lst es) (.lst fs) (.bl b) := ⟨h1, h2, by rw [show b = !!b by simp, ← h3]; rfl⟩
end
/-- plain data, at most n deep -/
def wd : Nat → D → Bool
  | _ + 1, .non => true
  | _ + 1, .bl _ => true
  | _ + 1, .int _ => true
  | _ + 1, .str x => PyData.strOk x
  | n + 1, .tup ds => decide (ds.length ≤ 1000000) && ds.all (wd n)
  | n + 1, .lst ds => decide (ds.length ≤ 1000000) && ds.all (wd n)
  | _, _ => false
def spSame (k : Nat) : DSp := fun ds S Q _ => ∃ a b : D, ds = [a, b] ∧ wd k a = true ∧ wd k b = true ∧ ∀ r : Bool, (r = true ↔ a = b) → Q (.bl r) S
theorem spSame0 {ds : List D} {S : Store} {Q : DQ} {E : DX} (h : spSame 0 ds S Q E) : False := by
  obtain ⟨a, b, _, h, _⟩ := h
  cases a <;> simp [wd] at h
/-- a promise that is never asked -/
theorem fnD_none {P : Program} {w : World} {K : PySem.W.Frag} {mg : Str → Option Value} {base : Heap} {T : List (Addr × Str)} {k : Nat} {f : Addr} {fd : FuncData} {ps : List Str} {sp : DSp} (h : ∀ ds S Q E, ¬ sp ds S Q E) : FnD P w K mg base T k f fd ps sp :=
  ⟨fun vs H Q E ⟨_, _, _, _, _, _, _, _, z, _⟩ => (h _ _ _ _ z).elim, fun A outer s H args us vs Q E _ _ _ _ ⟨_, _, _, _, _, _, _, _, z, _⟩ => (h _ _ _ _ z).elim⟩
end DL
/-! ### set(text), its length -/
namespace DL
open PySem PySem.Spec PyProof.Rows L2
def stepS (σ : List Nat) (c : Nat) : List Nat := if c ∈ σ then σ else σ ++ [c]
/-- the signs, each once -/
def metS (l : List Nat) : List Nat := l.foldl stepS []
theorem metS_snoc (l : List Nat) (c : Nat) : metS (l ++ [c]) = stepS (metS l) c := by unfold metS; rw [List.foldl_append]; rfl
theorem stepS_mem {σ : List Nat} {c k : Nat} : k ∈ stepS σ c ↔ k ∈ σ ∨ k = c := by
  unfold stepS
  split
  · rename_i h
    exact ⟨.inl, fun z => z.elim id fun e => e ▸ h⟩
  · simp
theorem stepS_len {σ : List Nat} {c : Nat} : (stepS σ c).length = if c ∈ σ then σ.length else σ.length + 1 := by
  unfold stepS
  split <;> simp
theorem metS_foldl : ∀ (l σ : List Nat) (k : Nat), k ∈ l.foldl stepS σ ↔ k ∈ σ ∨ k ∈ l
  | [], σ, k => by simp
  | c :: l, σ, k => by rw [List.foldl_cons, metS_foldl l, stepS_mem, List.mem_cons, or_assoc]
theorem metS_mem {l : List Nat} {k : Nat} : k ∈ metS l ↔ k ∈ l := by unfold metS; rw [metS_foldl]; simp
theorem metS_len : ∀ (l σ : List Nat), (l.foldl stepS σ).length ≤ σ.length + l.length ∧ ((l.foldl stepS σ).length = σ.length + l.length ↔ l.Nodup ∧ ∀ c ∈ l, c ∉ σ)
  | [], σ => by simp
  | c :: l, σ => by
    obtain ⟨h1, h2⟩ := metS_len l (stepS σ c)
    rw [List.foldl_cons]
    by_cases hc : c ∈ σ
    · have e : stepS σ c = σ := by unfold stepS; rw [if_pos hc]
      rw [e] at h1 ⊢
      refine ⟨by simp; omega, ⟨fun z => ?_, fun z => absurd hc (z.2 c (by simp))⟩⟩
      simp at z; omega
    · have e : (stepS σ c).length = σ.length + 1 := by rw [stepS_len, if_neg hc]
      rw [e] at h1 h2
      refine ⟨by simp; omega, ?_⟩
      have e3 : σ.length + (c :: l).length = σ.length + 1 + l.length := by simp; omega
      rw [e3, h2, List.nodup_cons]
      constructor
      · rintro ⟨n1, n2⟩
        exact ⟨⟨fun z => n2 c z (stepS_mem.mpr (.inr rfl)), n1⟩, fun d hd => by
          rcases List.mem_cons.mp hd with rfl | hd
          · exact hc
          · exact fun z => n2 d hd (stepS_mem.mpr (.inl z))⟩
      · rintro ⟨⟨n1, n2⟩, n3⟩
        refine ⟨n2, fun d hd z => ?_⟩
        rcases stepS_mem.mp z with z | rfl
        · exact n3 d (by simp [hd]) z
        · exact n1 hd
theorem metS_le (l : List Nat) : (metS l).length ≤ l.length := by have := (metS_len l []).1; simpa [metS] using this
theorem metS_nodup (l : List Nat) : (metS l).length = l.length ↔ l.Nodup := by have := (metS_len l []).2; simpa [metS] using this
def sg (c : Nat) : Str := ⟨#[c]⟩
theorem sg_inj {c d : Nat} (h : sg c = sg d) : c = d := by
  have h2 : ([c] : List Nat) = [d] := congrArg (fun y : Str => y.cps.toList) h
  exact (List.cons.inj h2).1
/-- which texts of one sign are met -/
def inS (l : List Nat) (k : Str) : Bool := (metS l).any fun c => decide (k = sg c)
theorem inS_sg {l : List Nat} {c : Nat} : inS l (sg c) = decide (c ∈ metS l) := by
  unfold inS
  rw [Bool.eq_iff_iff, List.any_eq_true, decide_eq_true_eq]
  exact ⟨fun ⟨d, hd, e⟩ => (sg_inj (of_decide_eq_true e)) ▸ hd, fun h => ⟨c, h, decide_eq_true rfl⟩⟩
theorem inS_snoc {l : List Nat} {c : Nat} {k : Str} : inS (l ++ [c]) k = (inS l k || decide (k = sg c)) := by
  unfold inS
  rw [Bool.eq_iff_iff, metS_snoc, Bool.or_eq_true, List.any_eq_true, List.any_eq_true, decide_eq_true_eq]
  constructor
  · rintro ⟨d, hd, e⟩
    rcases stepS_mem.mp hd with hd | rfl
    · exact .inl ⟨d, hd, e⟩
    · exact .inr (of_decide_eq_true e)
  · rintro (⟨d, hd, e⟩ | e)
    · exact ⟨d, stepS_mem.mpr (.inl hd), e⟩
    · exact ⟨c, stepS_mem.mpr (.inr rfl), decide_eq_true e⟩
section
variable {prog : Program} {w : World} {A : Around} {R : Result → Shared → Prop} {I : Addr} {fp wr : List Addr} {n : Nat} {x : Str} {St : Nat → Heap → Prop}
theorem upd_loop (W : PySem.Walks prog w A.in1 I fp wr n (SignAt x) St) (hn : n = x.cps.size) (Z : Addr) (hZ : Z ∉ fp) (hb : n + 1 < scanBound) : ∀ (m i : Nat) (s : Shared), n - i = m → i ≤ n → St i s.heap →
    s.heap.SetOf (strKind prog w) Z (inS (x.cps.toList.take i)) (metS (x.cps.toList.take i)).length →
    (∀ h' tk, (∀ b o, b ∉ Z :: wr → s.heap.get? b = some o → h'.get? b = some o) → h'.SetOf (strKind prog w) Z (inS x.cps.toList) (metS x.cps.toList).length → R (.ok (.ret .none)) { s with heap := h', toks := tk }) →
    codeAny (model prog w) A (.builtin "set.update.loop" ⟨[.ref Z, .ref I], []⟩) R s := by
  have hZw : Z ∉ wr := fun z => hZ (W.sub _ z)
  intro m
  induction m with
  | zero =>
    intro i s hm hi st hS hR
    have e : i = n := by omega
    subst e
    refine codeAny_builtin PyProof.Rows.F.entry_set_update_loop ?_
    rw [Around.under_plainId PyProof.Rows.F.plain_set_update_loop _]
    show wpAny _ A.in1 (pyNext (.ref I) >>= _) _ _ s
    refine wpAny_bind (W.done s _ _ st fun h' tk hk => ?_)
    show wpAny _ A.in1 (ret Value.none) _ _ _
    have et : x.cps.toList.take i = x.cps.toList := by rw [hn]; exact List.take_of_length_le (by simp)
    rw [et] at hS
    refine wpAny_pure (hR h' tk (fun b o hb e => hk b o (fun z => hb (List.mem_cons_of_mem _ z)) e) ?_)
    obtain ⟨o, es, ep, t, ho, rest⟩ := hS
    exact ⟨o, es, ep, t, hk Z o hZw ho, rest⟩
  | succ m ih =>
    intro i s hm hi st hS hR
    refine codeAny_builtin PyProof.Rows.F.entry_set_update_loop ?_
    rw [Around.under_plainId PyProof.Rows.F.plain_set_update_loop _]
    show wpAny _ A.in1 (pyNext (.ref I) >>= _) _ _ s
    refine wpAny_bind (W.item i s _ _ (by omega) st fun v h1 tk hP st1 hk => ?_)
    obtain ⟨c, u, hc, rfl⟩ := hP
    have hS1 : h1.SetOf (strKind prog w) Z (inS (x.cps.toList.take i)) (metS (x.cps.toList.take i)).length := by
      obtain ⟨o, es, ep, t, ho, rest⟩ := hS
      exact ⟨o, es, ep, t, hk Z o hZw ho, rest⟩
    have hkey : (strKind prog w).is (sg c) (.str ⟨#[c]⟩ u) = true := PySem.Froz.is_str (sg c) u
    show wpAny _ A.in1 (holding [Value.str ⟨#[c]⟩ u] (setAdd Z (.str ⟨#[c]⟩ u)) >>= _) _ _ _
    refine wpAny_bind (wpAny_holding ?_)
    unfold setAdd
    refine wpAny_holding ?_
    refine wpAny_bind ((strKind prog w).pyHash (k := sg c) hkey ?_)
    have hroom : (metS (x.cps.toList.take i)).length + 1 < scanBound := by
      have := metS_le (x.cps.toList.take i)
      have h2 : (x.cps.toList.take i).length ≤ i := by simp; omega
      omega
    refine wpAny_setAddHashed_of (knd := strKind prog w) (s := { s with heap := h1, toks := tk + 1 }) hkey rfl hS1 hroom fun h2 hsb hS2 => ?_
    have et : x.cps.toList.take (i + 1) = x.cps.toList.take i ++ [c] := by
      rw [List.take_succ, Array.getElem?_toList, hc]; rfl
    have hS3 : h2.SetOf (strKind prog w) Z (inS (x.cps.toList.take (i + 1))) (metS (x.cps.toList.take (i + 1))).length := by
      refine SetOf_congr hS2 (fun k => by rw [et, inS_snoc]) ?_
      rw [et, metS_snoc, stepS_len, inS_sg]
      by_cases q : c ∈ metS (x.cps.toList.take i) <;> simp [q]
    refine wpAny_pure ⟨plainId_quiet PyProof.Rows.F.plain_set_update_loop _, ih (i + 1) _ (by omega) (by omega) (W.frame _ h1 h2 st1 fun b hb o e => ?_) hS3 fun h' tk' hk' hS' => ?_⟩
    · rw [hsb.2 b (fun z : b = Z => hZ (by rw [← z]; exact hb))]; exact e
    · refine hR h' tk' (fun b o hb e => hk' b o hb ?_) hS'
      show h2.get? b = some o
      rw [hsb.2 b (fun z : b = Z => hb (by rw [z]; exact List.mem_cons_self))]
      exact hk b o (fun z => hb (List.mem_cons_of_mem _ z)) e
end
section
variable {prog : Program} {w : World} {A : Around} {E : Value → Shared → Prop} {s : Shared} {x : Str} {t : Tok} {Q : Value → Shared → Prop}
theorem call_set_text (hh : A.handled = none) (hb : x.cps.size + 1 < scanBound)
    (h : ∀ (h' : Heap) (tk : Nat), h'.SetOf (strKind prog w) s.heap.objs.size (inS x.cps.toList) (metS x.cps.toList).length → (∀ b o, s.heap.get? b = some o → h'.get? b = some o) → Q (.ref s.heap.objs.size) { s with heap := h', toks := tk }) :
    wpAny (model prog w) A (call (.type "set") [.str x t]) Q E s := by
  obtain ⟨c0, tl, hmro⟩ := F.called_set.mro
  have hmade := F.called_set.made
  have hsub := F.called_set.sub
  refine wpAny_call (codeAny_of_tree ?_)
  show wpAny _ _ (callAny (.type "set") _) _ _ _
  refine wpAny_pure ⟨Code.quiet_builtin _ (by decide +kernel), codeAny_builtin F.entry_type_call ?_⟩
  rw [Around.under_plain (weight_type_call_type "set" [.str x t] []) rfl]
  have n1 := F.called_set.notType
  have n2 := F.called_set.canCreate
  have n3 := PySem.F.typeCall_set_1 (.str x t)
  repeat (any_goals (first | assumption | wp_step))
  refine codeAny_mono (PySem.code_set_new_1 (.str x t) (E := E) (Q₁ := fun obj s1 => ∃ led : Bool, obj = .ref s.heap.objs.size ∧ s1 = { s with heap := s.heap.push { cls := .type "set", dict := none, data := .set #[] 0 (.fresh 0 0 led) } }) fun led => ⟨led, rfl, rfl⟩) fun r s1 hr => ?_
  cases r with
  | error e => exact hr
  | ok fl =>
    cases fl with
    | ret obj =>
      obtain ⟨led, rfl, rfl⟩ := hr
      have gS : (s.heap.push { cls := .type "set", dict := none, data := .set #[] 0 (.fresh 0 0 led) }).get? s.heap.objs.size = some { cls := .type "set", dict := none, data := .set #[] 0 (.fresh 0 0 led) } := Heap.get?_push_size _ rfl
      have tS : Shared.TypeIs { s with heap := s.heap.push { cls := .type "set", dict := none, data := .set #[] 0 (.fresh 0 0 led) } } (.ref s.heap.objs.size) "set" := ⟨_, gS, rfl⟩
      have i1 := F.called_set.init.lookup
      have i2 := F.called_set.init.bind (.ref s.heap.objs.size)
      repeat (any_goals (first | assumption | wp_step))
      refine codeAny_mono (codeAny_call_builtin (R := wants (fun r s2 => r = .none ∧ ∃ h' tk, s2 = { s with heap := h', toks := tk } ∧
          h'.SetOf (strKind prog w) s.heap.objs.size (inS x.cps.toList) (metS x.cps.toList).length ∧ (∀ b o, s.heap.get? b = some o → h'.get? b = some o)) E) F.called_set.init.plain F.entry_set_init (PySem.check_set_init_1 tS ?_)) fun r2 s2 hr2 => ?_
      · have b1 : isSubtype (.type "str") (.type "set") = pure false := by rw [isSubtype_type]; kernel_rfl
        have b2 : isSubtype (.type "str") (.type "frozenset") = pure false := by rw [isSubtype_type]; kernel_rfl
        have b3 : (Value.type "str" == Value.type "dict") = false := by decide
        unfold Builtin.«set.__init__» noKeywords Builtin.Frozenset.updateFrom
        generalize hPI : pyIter = PI
        wp_walk
        subst hPI
        refine wpAny_pyIter_str fun oi St hW st => ?_
        refine wpAny_bind (wpAny_runValue ?_)
        refine upd_loop (hW _ (by simp [hh])) rfl s.heap.objs.size ?_ hb _ 0 _ rfl (Nat.zero_le _) st ?_ fun h' tk' hk hS' => ?_
        · rw [Heap.size_push]; simp
        · exact SetOf_congr ((PyProof.Rows.setObjOf_fresh (knd := strKind prog w) led).setOf (Heap.get?_push_of_some _ gS) (by unfold scanBound; omega)) (fun _ => rfl) rfl
        · show wpAny _ _ _ _ _ _
          refine wpAny_pure ?_
          show wpAny _ _ (ret Value.none) _ _ _
          refine wpAny_pure ⟨rfl, h', tk', rfl, hS', fun b o e => ?_⟩
          have hl := Heap.lt_size e
          refine hk b o ?_ (Heap.get?_push_of_some _ (Heap.get?_push_of_some _ e))
          rw [Heap.size_push]
          simp only [List.mem_cons, List.not_mem_nil, or_false, not_or]
          exact ⟨Nat.ne_of_lt hl, Nat.ne_of_lt (Nat.lt_succ_of_lt hl)⟩
      · cases r2 with
        | error e => exact hr2
        | ok fl2 =>
          cases fl2 with
          | ret r =>
            obtain ⟨rfl, h', tk, rfl, hS', hk'⟩ := hr2
            repeat (any_goals (first | assumption | wp_step))
            exact h _ _ hS' hk'
          | _ => exact hr2.elim
    | _ => exact hr.elim
end
end DL
namespace DL
open PySem PySem.Spec PyProof.Rows L2
/-- the set of the signs of x, at a -/
def SetX (P : Program) (w : World) (a : Addr) (x : Str) : HO := .ext fun h => h.SetOf (strKind P w) a (inS x.cps.toList) (metS x.cps.toList).length
section
variable {X : Cx} {T : List (Addr × Str)} {W : WX}
theorem call_setX (hc : X.calm = true) : CallR X (.type "set") (fun xs H Q => ∃ x : Str, xs = [.str x] ∧ x.cps.size + 1 < scanBound ∧ ∀ a, H a = none → Q (.ref a) (upd H a (SetX X.prog X.w a x))) := by
  intro pins s σ H xs us Q I r ⟨x, e, hb, q⟩
  subst e
  obtain ⟨u, rfl, rx⟩ := vals1 r
  obtain ⟨t, rfl⟩ := rx
  refine call_set_text (I.ok.hd hc) hb fun h' tk hS k => ?_
  have big : s.heap.objs.size ≤ s.heap.objs.size := Nat.le_refl _
  obtain ⟨hp, g1, d1, t1, o1⟩ := s
  refine ⟨.ref hp.objs.size, _, I.laid (t' := tk) (a := hp.objs.size) (o := SetX X.prog X.w hp.objs.size x) (h' := h') k big ?_, rfl, q _ (I.hok.fresh big)⟩
  have hS0 := hS
  obtain ⟨o, es, ep, tb, ho, rest⟩ := hS
  exact ⟨hS0, ⟨o, ho⟩, fun h1 h2 p1 kk => by
    obtain ⟨o, es, ep, tb, ho, rest⟩ := p1
    exact ⟨o, es, ep, tb, kk o ho, rest⟩⟩
theorem call_lenX : CallR X (.builtin "len") (fun xs H Q => ∃ (a : Addr) (x : Str), xs = [.ref a] ∧ H a = some (SetX X.prog X.w a x) ∧ Q (.int (metS x.cps.toList).length) H) := by
  intro pins s σ H xs us Q I r ⟨a, x, e, ha, q⟩
  subst e
  obtain ⟨u, rfl, rx⟩ := vals1 r
  cases rx
  have ok : ObjOk X.prog X.w H s.heap a (SetX X.prog X.w a x) := I.hok a _ ha
  obtain ⟨p, _, _⟩ := ok
  obtain ⟨o, es, ep, tb, ho, hex, hd, hel, hmem, hb, hf, hn⟩ := p
  refine call_len_set ho hex hd hf ?_ ?_
  · unfold scanBound at hb; omega
  · rw [hn]
    exact ⟨.int _, H, I.tok _, ⟨_, rfl⟩, q⟩
/-- len(set(text)) -/
def dLenSet (t : DTE) : DTE := fun r S Q E => t r S (fun d S1 => ∃ x : Str, d = .str x ∧ x.length < 4000 ∧ Q (.int ((metS x.cps.toList).length : Nat)) S1) E
theorem de_lenset {e : Expr} {te : DTE} {p p2 pos pos2 : Pos} (hc : X.calm = true) (hml : X.mg "len" = none) (hms : X.mg "set" = none) (he : DE X T W e te) (hg : Gl X "len") (hg2 : Gl X "set")
    (h1 : starEach [Expr.Call (.Name "set" p2) [e] [] pos2] X.env = [(false, eval (Expr.Call (.Name "set" p2) [e] [] pos2) X.env)]) (h2 : starEach [e] X.env = [(false, eval e X.env)]) :
    DE X T W (.Call (.Name "len" p) [.Call (.Name "set" p2) [e] [] pos2] [] pos) (dLenSet te) := by
  have a1 : PE X (.Call (.Name "set" p2) [e] [] pos2) _ := pe_callTy (call_setX hc) hg2 hms (by decide +kernel) (pa_cons he pa_nil h2) (by decide) (by decide) h2 rfl
  refine PE.imp (pe_callB call_lenX hg hml (by decide +kernel) (pa_cons a1 pa_nil h1) (by decide) (by decide) h1 rfl) fun σ H Q ⟨g, r, S, Qd, Ed, rl, h, hq, hx⟩ => ?_
  refine ⟨g, r, S, _, Ed, rl, h, fun d S1 g1 H1 v ⟨x, e1, hl, q⟩ x1 rl1 rp1 => ?_, hx⟩
  subst e1
  have ev : v = .str x := rp1
  subst ev
  refine ⟨x, rfl, by unfold scanBound; have : x.cps.size < 4000 := hl; omega, fun a ha => ⟨a, x, rfl, upd_same, ?_⟩⟩
  exact hq _ S1 g1 _ _ q (x1.trans (Ext.same (same_upd ha))) (rl1.same (same_upd ha)) rfl
end
end DL
/-! ### enumerate(text) -/
namespace DL
open PySem PySem.Spec PyProof.Rows L2
/-- each sign of x in a new pair with its place -/
def Itx (x : Str) : It := ⟨fun i _ => i < x.cps.size, fun i H v H' => ∃ T c, v = .ref T ∧ H T = none ∧ H' = upd H T (.tup [.int (i : Nat), .str ⟨#[c]⟩]) ∧ x.cps[i]? = some c, fun i _ => x.cps.size ≤ i⟩
theorem turn_enumX {P : Program} {w : World} {K : PySem.W.Frag} {elts : List Expr} {kk : Nat} {tpos : Pos} (x : Str) (t : Tok) (e it : Addr) :
    Turn P w K (.Tuple elts kk tpos) (Itx x) [e, it] e (fun i h => (∃ old, IsEnum h e it ((i : Nat) : Int) old) ∧ h.IsStrIter it (strIterType x) x t i ∧ e ≠ it ∧ i ≤ x.cps.size) where
  mem := by simp
  obj := fun i h st b hb => by
    obtain ⟨⟨old, he⟩, ⟨o, ho, hc, hd⟩, _⟩ := st
    have z : b = e ∨ b = it := by simpa using hb
    rcases z with rfl | rfl
    · exact ⟨_, he, fun v q => nomatch q⟩
    · exact ⟨o, ho, fun v q => by rw [hd] at q; cases q⟩
  keep := fun i h h' st k => let ⟨⟨old, he⟩, ⟨o, ho, r⟩, hne, hi⟩ := st; ⟨⟨old, k e (by simp) _ he⟩, ⟨o, k it (by simp) o ho, r⟩, hne, hi⟩
  item := by
    intro X hP hw hK hc i pins s σ H E I hf st hg
    subst hP hw hK
    obtain ⟨⟨old, he⟩, hit, hne, _⟩ := st
    have hel : e < s.heap.objs.size := Heap.lt_size he
    have hil : it < s.heap.objs.size := by obtain ⟨_, q, _⟩ := hit; exact Heap.lt_size q
    have hhd : X.A.in1.handled = none := by have := I.ok.hd hc; simpa using this
    refine wpAny_pyNext_enum_itemC (Draws.text hhd it x t) he hit hg hne (by simpa using hne) fun u h' tk hP ho hit' hT hsz hk => ?_
    obtain ⟨c, v, hcx, rfl⟩ := hP
    refine ⟨_, rfl, wpAny_letOwnedTupleGo_enum (s := { s with heap := h', toks := tk + 1 }) ho fun h2 he2 sb => ?_⟩
    have gT : h2.get? s.heap.objs.size = some { cls := .type "tuple", data := .seq #[.int i tk, .str ⟨#[c]⟩ v] } := (sb.2 _ (Nat.ne_of_gt hel)).trans hT
    have nw : ObjOk X.prog X.w (upd H s.heap.objs.size (.tup [.int (i : Nat), .str ⟨#[c]⟩])) h2 s.heap.objs.size (.tup [.int (i : Nat), .str ⟨#[c]⟩]) :=
      ⟨by show 2 ≤ sizeLine; decide, [.int i tk, .str ⟨#[c]⟩ v], .cons ⟨_, rfl⟩ (.cons ⟨_, rfl⟩ .nil), ⟨_, gT, rfl, _, rfl⟩⟩
    have J : Inv X pins σ (upd H s.heap.objs.size (.tup [.int (i : Nat), .str ⟨#[c]⟩])) { s with heap := h2, toks := tk + 1 } :=
      I.turnedNew (ch := [e, it]) (fun b ob hb q => (sb.2 b (fun z => hb (by simp [z]))).trans (hk b ob (fun z => hb (by simp [z])) (fun z => hb (by simp [z])) q)) hf (Nat.le_refl _) nw
    refine ⟨.ref s.heap.objs.size, _, J, rfl, ⟨_, c, rfl, I.hok.fresh (Nat.le_refl _), rfl, hcx⟩, ⟨⟨.str ⟨#[c]⟩ v, ?_⟩, ?_, hne, hg⟩, fun b hb => ?_⟩
    · have q : ((i + 1 : Nat) : Int) = (i : Int) + 1 := by omega
      rw [q]; exact he2
    · obtain ⟨o, q, r⟩ := hit'
      exact ⟨o, (sb.2 it (Ne.symm hne)).trans q, r⟩
    · have hb2 : b < s.heap.objs.size := by
        have z : b = e ∨ b = it := by simpa using hb
        rcases z with rfl | rfl
        · exact hel
        · exact hil
      rw [upd_ne (Nat.ne_of_lt hb2)]
      exact (hf b hb).1
  done := by
    intro X hP hw hK hc i pins s σ H E I hf st hg
    subst hP hw hK
    obtain ⟨⟨old, he⟩, hit, hne, hi⟩ := st
    obtain ⟨f0, f1, f2, f3, f4, f5⟩ := hf it (by simp)
    have q : i = x.cps.size := Nat.le_antisymm hi hg
    subst q
    have hhd : X.A.in1.handled = none := by have := I.ok.hd hc; simpa using this
    exact wpAny_pyNext_enum_endD (Draws.text hhd it x t) he hit fun h' eb => ⟨rfl, I.turned (t' := s.toks) (fun b o hb q => eb b o hb q) f0 f1 f3 f4 f5⟩
  self := fun A i s Q E st h => let ⟨⟨_, he⟩, _⟩ := st; wpAny_pyIter_enum he h
def enumX (x : Str) : List D := x.cps.toList.zipIdx.map fun p => .tup [.int ((p.2 : Nat) : Int), chr1 p.1]
theorem enumX_get {x : Str} {i : Nat} {d : D} (h : (enumX x)[i]? = some d) : ∃ c, x.cps[i]? = some c ∧ d = .tup [.int (i : Nat), chr1 c] := by
  unfold enumX at h
  rw [List.getElem?_map, List.getElem?_zipIdx] at h
  cases q : x.cps.toList[i]? with
  | none => rw [q] at h; cases h
  | some c =>
    rw [q] at h
    rw [Array.getElem?_toList] at q
    refine ⟨c, q, ?_⟩
    simpa using h.symm
theorem enumX_len (x : Str) : (enumX x).length = x.cps.size := by simp [enumX]
theorem walks_enumX {K : PySem.W.Frag} {g : Gh} {H : Hp} (x : Str) : Walks K g H (enumX x) (Itx x) := fun g2 H2 _ => by
  refine ⟨fun i d hd => ?_, show x.cps.size ≤ _ by rw [enumX_len]; exact Nat.le_refl _⟩
  obtain ⟨c, hc, rfl⟩ := enumX_get hd
  refine ⟨(Array.getElem?_eq_some_iff.mp hc).1, fun v H' ⟨a, c2, e1, hn, e2, hc2⟩ => ?_⟩
  subst e1 e2
  rw [hc] at hc2
  cases hc2
  exact ⟨same_upd hn, fun S T gd => Rep.tupNew (ds := [.int (i : Nat), chr1 c]) gd ⟨_, _, rfl, rfl, Reps.one rfl⟩ hn⟩
section
variable {X : Cx} {T : List (Addr × Str)} {W : WX} {a : Expr} {ta : DTE} {tes : DTA} {pos p tpos : Pos} {elts : List Expr} {kk : Nat}
def diEnumX (t : DTA) : DTI := fun r S Q E => t r S (fun ds S1 => ∃ x : Str, ds = [.str x] ∧ Q (enumX x) S1) E
theorem pi_enumX {ta : TA} (hg : Gl X "enumerate") (hm : X.mg "enumerate" = none) (ha : PA X [a] ta) (hs : starEach [a] X.env = [(false, eval a X.env)]) :
    PI X (.Tuple elts kk tpos) (.Call (.Name "enumerate" p) [a] [] pos) (fun σ H R => ta σ H fun vs H1 => ∃ x : Str, vs = [.str x] ∧ R (Itx x) H1) := by
  refine ⟨fun pins s σ H R I h => ?_⟩
  refine Call_ (ld_blt I hg hm boot_enumerate (PyProof.Rows.callWith_type1 (thn (ha.run pos pins s σ H _ I h) fun us s1 ⟨vs, H1, J, r1, q1⟩ => ?_) hs rfl))
  obtain ⟨x, ex, q⟩ := q1
  subst ex
  obtain ⟨u, rfl, t, rfl⟩ := vals1 r1
  refine call_enumerate_str fun h' he hit hsz hk => wpAny_pyIter_enum he ?_
  have J2 : Inv X pins σ H1 { s1 with heap := h' } := J.kept (t' := s1.toks) hk
  refine ⟨s1.heap.objs.size + 1, [s1.heap.objs.size + 1, s1.heap.objs.size], _, _, H1, rfl, J2, turn_enumX x t (s1.heap.objs.size + 1) s1.heap.objs.size, ⟨⟨.none, he⟩, hit, Nat.succ_ne_self _, Nat.zero_le _⟩, fun b hb => ?_, q⟩
  have z : b = s1.heap.objs.size + 1 ∨ b = s1.heap.objs.size := by simpa using hb
  have hle : s1.heap.objs.size ≤ b := by
    rcases z with rfl | rfl
    · exact Nat.le_succ _
    · exact Nat.le_refl _
  exact J.fpOk hle (J.hok.fresh hle)
theorem di_enumX (hg : Gl X "enumerate") (hm : X.mg "enumerate" = none) (ha : DA X T W [a] tes) (hs : starEach [a] X.env = [(false, eval a X.env)] := by rfl) :
    DI X T W (.Tuple elts kk tpos) (.Call (.Name "enumerate" p) [a] [] pos) (diEnumX tes) := PI.imp (pi_enumX hg hm ha hs) fun σ H R ⟨g, r, S, Qd, Ed, rl, h, hq, hx⟩ => by
  refine ⟨g, r, S, _, Ed, rl, h, fun ds S1 g1 H1 vs ⟨x, e, h3⟩ x1 rl1 rp1 => ?_, hx⟩
  subst e
  obtain ⟨v, q, rfl, e1, rfl⟩ := rp1
  exact ⟨x, by rw [show v = .str x from e1], hq _ S1 g1 H1 _ h3 x1 rl1 (walks_enumX x)⟩
@[simp] theorem diEnumX_rd {r : Sl} {S : Store} {Q : List D → Store → Prop} {E : DX} {t : DTA} : diEnumX t r S Q E = (t r S (fun ds S1 => ∃ x : Str, ds = [.str x] ∧ Q (enumX x) S1) E) := rfl
/-- a.index(b): the text b stands in a -/
def mfIndex : MF := fun S x ds z S' => ∃ (a b : Str) (i : Nat) (rest : List Nat), x = .str a ∧ ds = [.str b] ∧ Builtin.Str.occurrences a b 0 a.length 1 = i :: rest ∧ z = .int (i : Nat) ∧ S' = S
theorem mtd_index : MtR X "str.index" (rDM X.K T mfIndex) := fun pins s σ H x xs v us Q I rx rv ⟨g, S, dx, ds, dz, S', gd, r1, r2, ⟨a, b, i, rest, e1, e2, ho, e3, e4⟩, q⟩ => by
  subst e1 e2 e3 e4
  obtain ⟨w, q', rfl, rw', rfl⟩ := r2
  have ex : x = .str a := r1
  have ew : w = .str b := rw'
  subst ex ew
  exact mt_sindex pins s σ H _ _ v us Q I rx rv ⟨a, b, i, rest, rfl, rfl, ho, q _ H g (Ext.refl g H) gd rfl⟩
end
end DL
namespace DL
open PySem PySem.Spec PyProof.Rows L2
/-! ### _law_try(lambda: ..) at any place, within a comprehension too -/
theorem de_tryG {X : Cx} {T : List (Addr × Str)} {okc : Str → Prop} {q : Str} {cd : Addr} {W : WX} {j : Nat} {params : Arguments} {body : Expr} {scope : Scope} {t : DTE} {p lpos pos : Pos} (TC : TryC X.prog X.w X.K X.mg X.base T okc q cd) (hcode : X.env.code = .ref cd) (hr : Room (j + 4) X.A) (L : LamX.LamS X.env.scope scope)
    (hbody : ∀ (A1 : Around) (outer1 : List Env) (s1 : Shared) (H1 : Hp) (E1 : XK) (f1 c' : Addr), Room (j + 2) (A1.deeper (LamX.lamEnv X scope s1.heap.objs.size f1 c')) → DE (LamX.lamCx X A1 outer1 s1 H1 E1 scope f1 c') T (WD E1) body t)
    (hg : Gl X "_law_try") (hq : X.env.qual = q ++ ".<locals>.") (hdef : defaultsOf params X.env = ([], [])) (hbind : ∀ (q : Str) (cl : List (Str × Addr)) (pm cv ctv : Value), bindArgs (PySem.W.kla_fn "<lambda>" q params body scope cl pm cv ctv) ⟨[], []⟩ = pure []) :
    DE X T W (.Call (.Name "_law_try" p) [.Lambda params body scope lpos] [] pos) (dTry okc t) := by
  obtain ⟨st, g, fd, c1, c2, fF, fdF, B⟩ := TC.bas
  obtain ⟨Pt, tb, tm, tu⟩ := TC.tab
  obtain ⟨oc, od, dV, kV, doc, pm, an, cdg, ct, osl, rfl, lk, hcd, _, _⟩ := B.fn.ex
  obtain ⟨j0, k1, k2, k3, p1, p2, p3, p4, p5, p6, p7, p8, p9, p10, p11, p12, p13, p14, p15, p16, p17, hb⟩ := B.body
  have hG := try_gives (X := X) (q := X.env.qual ++ "<lambda>") (x := "_law_try") (g := g) (cdg := cdg) (j := j0) (k1 := k1) (k2 := k2) (k3 := k3) (p1 := p1) (p2 := p2) (p3 := p3) (p4 := p4) (p5 := p5) (p6 := p6) (p7 := p7) (p8 := p8) (p9 := p9) (p10 := p10) (p11 := p11) (p12 := p12) (p13 := p13) (p14 := p14) (p15 := p15) (p16 := p16) (p17 := p17)
    hr B.sc.nd rfl rfl (by decide) B.ne B.nb1 B.nb2 B.nf B.m1 B.m2 B.mf (by decide) (by decide) (by decide) (by decide) (by decide) B.kf B.bf (B.FF.mono (by omega))
  rw [← hb] at hG
  exact de_try B.ok hg B.gl B.fn.kp lk hcd B.bd B.sc rfl (.inl B.na) hG tb hcode (by rw [hq]; exact tm) (by rw [hq]; exact tu) hr L hdef hbind hbody
end DL
/-! ### zip of two of: list, tuple, text -/
namespace DL
open PySem PySem.Spec PyProof.Rows L2
inductive Sk where
  | L (a : Addr) | T (a : Addr) | X (x : Str)
def Sk.ads : Sk → List Addr
  | .L a => [a] | .T a => [a] | .X _ => []
def Sk.itr (k : Sk) (it : Addr) (i : Nat) (h : Heap) : Prop := match k with
  | .L a => h.IsListIter it a i | .T a => h.IsTupleIter it a i | .X x => ∃ t, h.IsStrIter it (strIterType x) x t i
def Sk.its (K : PySem.W.Frag) (k : Sk) (H : Hp) (xs : List V) : Prop := match k with
  | .L a => SqL K H a xs | .T a => SqT K H a xs | .X x => xs = x.cps.toList.map fun c => V.str ⟨#[c]⟩
theorem Sk.itr_at {k : Sk} {it : Addr} {i : Nat} {h h' : Heap} (st : k.itr it i h) (hk : ∀ o, h.get? it = some o → h'.get? it = some o) : k.itr it i h' := by
  cases k with
  | L a => exact Heap.IsListIter.at st hk
  | T a => exact Heap.IsTupleIter.at st hk
  | X x => obtain ⟨t, o, ho, r⟩ := st; exact ⟨t, o, hk o ho, r⟩
theorem Sk.itr_obj {k : Sk} {it : Addr} {i : Nat} {h : Heap} (st : k.itr it i h) : ∃ o, h.get? it = some o ∧ ∀ v, o.data ≠ .cell v := by
  cases k with
  | L a => obtain ⟨o, ho, _, hd⟩ := st; exact ⟨o, ho, fun v q => by rw [hd] at q; cases q⟩
  | T a => obtain ⟨o, ho, _, hd⟩ := st; exact ⟨o, ho, fun v q => by rw [hd] at q; cases q⟩
  | X x => obtain ⟨t, o, ho, _, hd⟩ := st; exact ⟨o, ho, fun v q => by rw [hd] at q; cases q⟩
theorem Vals.back : ∀ {xs : List V} {us : List Value} {i : Nat} {u : Value}, Vals xs us → us[i]? = some u → ∃ x, xs[i]? = some x ∧ RelV x u
  | _, _, _, _, .nil, e => by simp at e
  | _, _, 0, _, .cons r _, e => by simp at e; subst e; exact ⟨_, rfl, r⟩
  | _, _, i + 1, u, .cons _ t, e => by
    obtain ⟨x, h1, h2⟩ := Vals.back (i := i) (u := u) t (by simpa using e)
    exact ⟨x, by simpa using h1, h2⟩
section
variable {X : Cx} {pins : List (Addr × Obj)} {σ : L2.St} {H : Hp} {s : Shared}
theorem Sk.draws (I : Inv X pins σ H s) {A : Around} (hh : A.handled = none) {k : Sk} {it : Addr} {xs : List V} {i : Nat} (hk : k.its X.K H xs) (hne : ∀ a ∈ k.ads, a ≠ it) (h0 : k.itr it i s.heap) :
    ∃ (P : Nat → Value → Prop) (St : Nat → Heap → Prop), Draws X.prog X.w A it (it :: k.ads) xs.length P St ∧ St i s.heap ∧ (∀ j h, St j h → k.itr it j h) ∧ ∀ j v, P j v → ∃ x, xs[j]? = some x ∧ RelV x v := by
  cases k with
  | L a =>
    obtain ⟨its, rv, pl, hz⟩ := I.list (show SqL X.K H a xs from hk)
    have D := Draws.list (prog := X.prog) (w := X.w) hh it a (hne a (by simp [Sk.ads])) its.toArray
    have hl : its.toArray.size = xs.length := by rw [List.size_toArray]; exact rv.length.symm
    rw [hl] at D
    exact ⟨_, _, D, ⟨h0, pl.isList⟩, fun j h st => st.1, fun j v e => Vals.back rv (by simpa using e)⟩
  | T a =>
    obtain ⟨its, rv, pl, hz⟩ := I.tuple (show SqT X.K H a xs from hk)
    have D := Draws.tuple (prog := X.prog) (w := X.w) hh it a (hne a (by simp [Sk.ads])) its.toArray
    have hl : its.toArray.size = xs.length := by rw [List.size_toArray]; exact rv.length.symm
    rw [hl] at D
    exact ⟨_, _, D, ⟨h0, pl⟩, fun j h st => st.1, fun j v e => Vals.back rv (by simpa using e)⟩
  | X x =>
    obtain ⟨t, h0⟩ := h0
    have D := Draws.text (prog := X.prog) (w := X.w) hh it x t
    have e : xs = x.cps.toList.map fun c => V.str ⟨#[c]⟩ := hk
    have hl : x.cps.size = xs.length := by rw [e]; simp
    rw [hl] at D
    refine ⟨_, _, D, h0, fun j h st => ⟨t, st⟩, fun j v ⟨c, u, hc, ev⟩ => ⟨.str ⟨#[c]⟩, ?_, u, ev⟩⟩
    rw [e]
    simp [hc]
theorem Sk.inj (I : Inv X pins σ H s) {k : Sk} {xs ys : List V} (h : k.its X.K H xs) (h' : k.its X.K H ys) : xs = ys := by
  cases k with
  | L a => exact I.list_inj h h'
  | T a => exact I.tuple_inj h h'
  | X x => exact (show xs = _ from h).trans (show ys = _ from h').symm
end
def Itg (K : PySem.W.Frag) (k1 k2 : Sk) : It :=
  ⟨fun i H => ∃ xs ys, k1.its K H xs ∧ k2.its K H ys ∧ i < xs.length ∧ i < ys.length,
   fun i H v H' => ∃ T x y, v = .ref T ∧ H T = none ∧ H' = upd H T (.tup [x, y]) ∧ (∀ xs, k1.its K H xs → xs[i]? = some x) ∧ ∀ ys, k2.its K H ys → ys[i]? = some y,
   fun i H => ∃ xs ys, k1.its K H xs ∧ k2.its K H ys ∧ i ≤ xs.length ∧ i ≤ ys.length ∧ (i = xs.length ∨ i = ys.length)⟩
theorem turn_zipG {P : Program} {w : World} {K : PySem.W.Frag} {elts : List Expr} {kk : Nat} {tpos : Pos} {k1 k2 : Sk} {z TI TO i1 i2 : Addr} (D : ZipSep2 z TI TO i1 i2 (i1 :: k1.ads) (i2 :: k2.ads)) (n1 : ∀ a ∈ k1.ads, a ≠ i1) (n2 : ∀ a ∈ k2.ads, a ≠ i2) :
    Turn P w K (.Tuple elts kk tpos) (Itg K k1 k2) [z, TI, TO, i1, i2] z (fun i h => IsZip h z TI TO .none ∧ IsTupOf2 h TI (.ref i1) (.ref i2) ∧ (∃ x y, IsTupOf2 h TO x y) ∧ k1.itr i1 i h ∧ k2.itr i2 i h) where
  mem := by simp
  obj := fun i h st c hc => by
    obtain ⟨hz, hTI, ⟨x, y, hTO⟩, h1, h2⟩ := st
    have e' : c = z ∨ c = TI ∨ c = TO ∨ c = i1 ∨ c = i2 := by simpa using hc
    rcases e' with q | q | q | q | q
    · rw [q]; exact ⟨_, hz, fun v q => nomatch q⟩
    · rw [q]; exact ⟨_, hTI, fun v q => nomatch q⟩
    · rw [q]; exact ⟨_, hTO, fun v q => nomatch q⟩
    · rw [q]; exact (Sk.itr_obj h1)
    · rw [q]; exact (Sk.itr_obj h2)
  keep := fun i h h' st k => by
    obtain ⟨hz, hTI, ⟨x, y, hTO⟩, h1, h2⟩ := st
    exact ⟨k z (by simp) _ hz, k TI (by simp) _ hTI, ⟨x, y, k TO (by simp) _ hTO⟩, Sk.itr_at h1 fun o q => k i1 (by simp) o q, Sk.itr_at h2 fun o q => k i2 (by simp) o q⟩
  item := by
    intro X hP hw hK hc i pins s σ H E I hf st hg
    subst hP hw hK
    obtain ⟨hz, hTI, ⟨x0, y0, hTO⟩, h1, h2⟩ := st
    obtain ⟨xs, ys, hqx, hqy, hx, hy⟩ := hg
    have hhd : X.A.in1.handled = none := by have := I.ok.hd hc; simpa using this
    obtain ⟨P1, St1, D1, s1, b1, p1⟩ := Sk.draws I hhd hqx n1 h1
    obtain ⟨P2, St2, D2, s2, b2, p2⟩ := Sk.draws I hhd hqy n2 h2
    have hzl : z < s.heap.objs.size := Heap.lt_size hz
    refine wpAny_pyNext_zipD2_item D D1 D2 hz hTI hTO s1 s2 hx hy fun u u2 h' tk q1 q2 z' TO' h1' h2' hT hsz hk => ?_
    obtain ⟨x, ex, ru⟩ := p1 i u q1
    obtain ⟨y, ey, ru2⟩ := p2 i u2 q2
    refine ⟨_, rfl, wpAny_letOwnedTupleGo_zip (s := { s with heap := h', toks := tk }) z' fun h'' z'' sb => ?_⟩
    have hT2 : h''.get? s.heap.objs.size = some { cls := .type "tuple", data := .seq #[u, u2] } := (sb.2 _ (Nat.ne_of_gt hzl)).trans hT
    have new : ObjOk X.prog X.w (upd H s.heap.objs.size (.tup [x, y])) h'' s.heap.objs.size (.tup [x, y]) :=
      ⟨by show 2 ≤ sizeLine; decide, [u, u2], .cons ru (.cons ru2 .nil), ⟨_, hT2, rfl, _, rfl⟩⟩
    have I1 : Inv X pins σ (upd H s.heap.objs.size (.tup [x, y])) { s with heap := h'', toks := tk } :=
      I.turnedNew (t' := tk) (ch := [z, TI, TO, i1, i2]) (fun c o hb q => (sb.2 c (fun q' => hb (by simp [q']))).trans (hk c o (fun q' => hb (by simp [q'])) (fun q' => hb (by simp [q'])) (fun q' => hb (by simp [q'])) (fun q' => hb (by simp [q'])) q)) hf (Nat.le_refl _) new
    refine ⟨.ref s.heap.objs.size, _, I1, rfl, ⟨_, x, y, rfl, I.hok.fresh (Nat.le_refl _), rfl, fun l hl => by rw [Sk.inj I hl hqx]; exact ex, fun l hl => by rw [Sk.inj I hl hqy]; exact ey⟩, ⟨z'', ?_, ⟨u, u2, ?_⟩, ?_, ?_⟩, fun c hcm => ?_⟩
    · exact (sb.2 _ D.TIz).trans (hk _ _ D.TIz D.TITO D.TIi1 D.TIi2 hTI)
    · exact (sb.2 _ D.TOz).trans TO'
    · exact Sk.itr_at (b1 _ _ h1') fun o q => (sb.2 _ (Ne.symm D.zi1)).trans q
    · exact Sk.itr_at (b2 _ _ h2') fun o q => (sb.2 _ (Ne.symm D.zi2)).trans q
    · have hlt : c < s.heap.objs.size := by
        have e' : c = z ∨ c = TI ∨ c = TO ∨ c = i1 ∨ c = i2 := by simpa using hcm
        rcases e' with q | q | q | q | q
        · rw [q]; exact hzl
        · rw [q]; exact Heap.lt_size hTI
        · rw [q]; exact Heap.lt_size hTO
        · rw [q]; obtain ⟨_, e1, _⟩ := (Sk.itr_obj h1); exact Heap.lt_size e1
        · rw [q]; obtain ⟨_, e2, _⟩ := (Sk.itr_obj h2); exact Heap.lt_size e2
      rw [upd_ne (Nat.ne_of_lt hlt)]
      exact (hf c hcm).1
  done := by
    intro X hP hw hK hc i pins s σ H E I hf st hg
    subst hP hw hK
    obtain ⟨hz, hTI, ⟨x0, y0, hTO⟩, h1, h2⟩ := st
    obtain ⟨xs, ys, hqx, hqy, l1, l2, hend⟩ := hg
    have hhd : X.A.in1.handled = none := by have := I.ok.hd hc; simpa using this
    obtain ⟨P1, St1, D1, s1, b1, p1⟩ := Sk.draws I hhd hqx n1 h1
    obtain ⟨P2, St2, D2, s2, b2, p2⟩ := Sk.draws I hhd hqy n2 h2
    exact wpAny_pyNext_zipD2_end D D1 D2 hz hTI hTO s1 s2 l1 l2 hend fun h' tk hk => ⟨rfl, I.turnedL (t' := tk) (ch := [z, TI, TO, i1, i2]) (fun c o hb q =>
      hk c o (fun q' => hb (by simp [q'])) (fun q' => hb (by simp [q'])) (fun q' => hb (by simp [q'])) (fun q' => hb (by simp [q'])) q) hf⟩
  self := fun A i s Q E st h => wpAny_pyIter_zip st.1 h
/-- the kind of a value -/
inductive SkV (K : PySem.W.Frag) (H : Hp) : V → Sk → List V → Prop
  | L {a xs} : SqL K H a xs → SkV K H (.ref a) (.L a) xs
  | T {a xs} : SqT K H a xs → SkV K H (.ref a) (.T a) xs
  | X {x} : SkV K H (.str x) (.X x) (x.cps.toList.map fun c => V.str ⟨#[c]⟩)
theorem SkV.its {K : PySem.W.Frag} {H : Hp} {v : V} {k : Sk} {xs : List V} (h : SkV K H v k xs) : k.its K H xs := by
  cases h with
  | L h => exact h
  | T h => exact h
  | X => rfl
section
variable {X : Cx} {pins : List (Addr × Obj)} {σ : L2.St} {H : Hp} {s : Shared}
theorem SkV.begins (I : Inv X pins σ H s) {v : V} {u : Value} {k : Sk} {xs : List V} (h : SkV X.K H v k xs) (r : RelV v u) : ∃ (o : Obj) (B : Heap → Prop), Begins u o B ∧ B s.heap ∧ (∀ b ∈ k.ads, b < s.heap.objs.size) ∧ ∀ (h' : Heap) (it : Addr), h'.get? it = some o → k.itr it 0 h' := by
  cases h with
  | L h =>
    rename_i a
    obtain ⟨its, rv, pl, hz⟩ := I.list h
    cases (show u = Value.ref a from r)
    refine ⟨_, _, begins_list a its.toArray, pl.isList, fun b hb => ?_, fun h' it e => ⟨_, e, rfl, rfl⟩⟩
    have : b = a := by simpa [Sk.ads] using hb
    rw [this]; exact pl.lt
  | T h =>
    rename_i a
    obtain ⟨its, rv, pl, hz⟩ := I.tuple h
    cases (show u = Value.ref a from r)
    refine ⟨_, _, begins_tuple a its.toArray, pl, fun b hb => ?_, fun h' it e => ⟨_, e, rfl, rfl⟩⟩
    have : b = a := by simpa [Sk.ads] using hb
    rw [this]
    obtain ⟨o1, ho1, _⟩ := id pl
    exact Heap.lt_size ho1
  | X =>
    obtain ⟨t, rfl⟩ := r
    exact ⟨_, _, begins_text _ t, trivial, fun b hb => by simp [Sk.ads] at hb, fun h' it e => ⟨t, _, e, rfl, rfl⟩⟩
def iZipG (K : PySem.W.Frag) (ta : TA) : TI := fun σ H R => ta σ H fun vs H1 => ∃ x y k1 k2 xs ys, vs = [x, y] ∧ SkV K H1 x k1 xs ∧ SkV K H1 y k2 ys ∧ R (Itg K k1 k2) H1
theorem pi_zipG {e e2 : Expr} {ta : TA} {p pos tpos : Pos} {elts : List Expr} {kk : Nat} (hg : Gl X "zip") (hm : X.mg "zip" = none) (ha : PA X [e, e2] ta)
    (hs : starEach [e, e2] X.env = (false, eval e X.env) :: starEach [e2] X.env := by rfl) (hpl : (backTo pos (starEach [e2] X.env)).any (·.1) = false := by rfl) :
    PI X (.Tuple elts kk tpos) (.Call (.Name "zip" p) [e, e2] [] pos) (iZipG X.K ta) := by
  refine ⟨fun pins s σ H R I h => ?_⟩
  refine Call_ (ld_blt I hg hm PyProof.Rows.boot_zip (PyProof.Rows.callWith_type1 (thn (ha.run pos pins s σ H _ I h) fun us s1 ⟨vs, H1, I1, r1, q1⟩ => ?_) hs hpl))
  obtain ⟨x, y, k1, k2, xs, ys, ex, sx, sy, q⟩ := q1
  subst ex
  cases r1 with
  | cons r rr =>
    cases rr with
    | cons r' rr =>
      cases rr
      have fresh5 : ∀ c, c ∈ [s1.heap.objs.size + 4, s1.heap.objs.size + 2, s1.heap.objs.size + 3, s1.heap.objs.size, s1.heap.objs.size + 1] → FpOk X pins H1 c := fun c hcm => by
        have e' : c = s1.heap.objs.size + 4 ∨ c = s1.heap.objs.size + 2 ∨ c = s1.heap.objs.size + 3 ∨ c = s1.heap.objs.size ∨ c = s1.heap.objs.size + 1 := by simpa using hcm
        have hle : s1.heap.objs.size ≤ c := by
          rcases e' with z | z | z | z | z
          · rw [z]; exact Nat.le_add_right _ _
          · rw [z]; exact Nat.le_add_right _ _
          · rw [z]; exact Nat.le_add_right _ _
          · rw [z]; exact Nat.le_refl _
          · rw [z]; exact Nat.le_add_right _ _
        exact I1.fpOk hle (I1.hok.fresh hle)
      obtain ⟨o1, B1, bg1, hb1, a1, t1⟩ := sx.begins I1 r
      obtain ⟨o2, B2, bg2, hb2, a2, t2⟩ := sy.begins I1 r'
      refine zip_begins2 bg1 bg2 hb1 hb2 fun h' hz hTI hTO g1 g2 hsz hk => wpAny_pyIter_zip hz ?_
      have I2 : Inv X pins σ H1 { s1 with heap := h' } := I1.kept (t' := s1.toks) hk
      exact ⟨s1.heap.objs.size + 4, [s1.heap.objs.size + 4, s1.heap.objs.size + 2, s1.heap.objs.size + 3, s1.heap.objs.size, s1.heap.objs.size + 1], _, _, H1, rfl, I2,
        turn_zipG (zip_sep2 a1 a2) (fun a ha => Nat.ne_of_lt (a1 a ha)) (fun a ha => Nat.ne_of_lt (Nat.lt_succ_of_lt (a2 a ha))), ⟨hz, hTI, ⟨_, _, hTO⟩, t1 _ _ g1, t2 _ _ g2⟩, fresh5, q⟩
end
/-! by data -/
def sqD (S : Store) (d : D) : Option (List D) := match d with
  | .lst ds => some ds | .tup ds => some ds | .str x => some (x.cps.toList.map chr1) | _ => none
theorem sqD_kind {K : PySem.W.Frag} {T : List (Addr × Str)} {g : Gh} {S : Store} {H : Hp} {d : D} {v : V} {ds : List D} (h : sqD S d = some ds) (r : Rep K g H d v) : ∃ k xs, SkV K H v k xs ∧ Reps K g H ds xs ∧ ∀ g2 H2, Ex0 g H g2 H2 → k.its K H2 xs ∧ Reps K g2 H2 ds xs := by
  cases d with
  | lst es =>
    cases h
    obtain ⟨a, vs, e, hl, rs⟩ := r
    subst e
    exact ⟨.L a, vs, .L (.inl (.inl hl.1)), rs, fun g2 H2 x => ⟨.inl (.inl (x.keep a _ hl.1 hl.2 (fun _ => nofun)).1), Reps.ex0 x _ _ rs⟩⟩
  | tup es =>
    cases h
    obtain ⟨a, vs, e, hl, rs⟩ := r
    subst e
    exact ⟨.T a, vs, .T (.inl (.inl hl.1)), rs, fun g2 H2 x => ⟨.inl (.inl (x.keep a _ hl.1 hl.2 (fun _ => nofun)).1), Reps.ex0 x _ _ rs⟩⟩
  | str x =>
    cases h
    cases (show v = .str x from r)
    have rs : ∀ (g : Gh) (H : Hp) (l : List Nat), Reps K g H (l.map chr1) (l.map fun c => V.str ⟨#[c]⟩) := fun g H l => by
      induction l with
      | nil => exact rfl
      | cons c l ih => exact ⟨_, _, rfl, rfl, ih⟩
    exact ⟨.X x, _, .X, rs _ _ _, fun g2 H2 _ => ⟨rfl, rs _ _ _⟩⟩
  | _ => cases h
theorem walks_zipG {K : PySem.W.Frag} {g : Gh} {H : Hp} {k1 k2 : Sk} {xs ys : List V} {ds es : List D} (h1 : ∀ g2 H2, Ex0 g H g2 H2 → k1.its K H2 xs ∧ Reps K g2 H2 ds xs) (h2 : ∀ g2 H2, Ex0 g H g2 H2 → k2.its K H2 ys ∧ Reps K g2 H2 es ys) : Walks K g H (zipD ds es) (Itg K k1 k2) := fun g2 H2 x => by
  obtain ⟨i1, r1⟩ := h1 g2 H2 x
  obtain ⟨i2, r2⟩ := h2 g2 H2 x
  have l1 := r1.length
  have l2 := r2.length
  refine ⟨fun i d hd => ?_, ⟨xs, ys, i1, i2, ?_, ?_, ?_⟩⟩
  · obtain ⟨a, b, ha, hb, rfl⟩ := zipD_get hd
    obtain ⟨v, hv, rv⟩ := r1.get ha
    obtain ⟨u, hu, ru⟩ := r2.get hb
    refine ⟨⟨xs, ys, i1, i2, (List.getElem?_eq_some_iff.mp hv).1, (List.getElem?_eq_some_iff.mp hu).1⟩, fun z H' ⟨t, p, q, e1, hn, e2, f1, f2⟩ => ?_⟩
    subst e1 e2
    have e3 := f1 xs i1
    have e4 := f2 ys i2
    rw [hv] at e3
    rw [hu] at e4
    cases e3
    cases e4
    exact ⟨same_upd hn, fun S T gd => Rep.tupNew (ds := [a, b]) gd ⟨_, _, rfl, rv, Reps.one ru⟩ hn⟩
  · rw [zipD_len]; omega
  · rw [zipD_len]; omega
  · rw [zipD_len]; omega
section
variable {X : Cx} {T : List (Addr × Str)} {W : WX} {a b : Expr} {tes : DTA} {pos p tpos : Pos} {elts : List Expr} {kk : Nat}
def diZipG (t : DTA) : DTI := fun r S Q E => t r S (fun ds S1 => ∃ x y xs ys, ds = [x, y] ∧ sqD S1 x = some xs ∧ sqD S1 y = some ys ∧ Q (zipD xs ys) S1) E
theorem di_zipG (hg : Gl X "zip") (hm : X.mg "zip" = none) (ha : DA X T W [a, b] tes) (hs : starEach [a, b] X.env = (false, eval a X.env) :: starEach [b] X.env := by rfl) (hpl : (backTo pos (starEach [b] X.env)).any (·.1) = false := by rfl) :
    DI X T W (.Tuple elts kk tpos) (.Call (.Name "zip" p) [a, b] [] pos) (diZipG tes) := PI.imp (pi_zipG hg hm ha hs hpl) fun σ H R ⟨g, r, S, Qd, Ed, rl, h, hq, hx⟩ => by
  refine ⟨g, r, S, _, Ed, rl, h, fun ds S1 g1 H1 vs ⟨x, y, xs, ys, e, sx, sy, h3⟩ x1 rl1 rp1 => ?_, hx⟩
  subst e
  obtain ⟨v, q, rfl, p1, u, q2, rfl, p2, rfl⟩ := rp1
  obtain ⟨k1, as, w1, r1, f1⟩ := sqD_kind (T := T) sx p1
  obtain ⟨k2, bs, w2, r2, f2⟩ := sqD_kind (T := T) sy p2
  exact ⟨v, u, k1, k2, as, bs, rfl, w1, w2, hq _ S1 g1 H1 _ h3 x1 rl1 (walks_zipG f1 f2)⟩
end
end DL
namespace DL
open PySem PySem.Spec PyProof.Rows L2
/-! ### lambdas as values: closed, each parameter with the default 0 -/
def zerosD (F : LFn) : List D := F.ps.map fun _ => .int 0
structure LamOk (P : Program) (w : World) (K : PySem.W.Frag) (mg : Str → Option Value) (base : Heap) (T : List (Addr × Str)) (k : Nat) (F : LFn) (t : DTE) : Prop where
  sc : FnScope F.ps F.ps F.scope
  bd0 : F.ps = [] → ∀ (doc pm cv ctv : Value), bindArgs (F.fd .none doc pm cv ctv) ⟨[], []⟩ = pure []
  bd1 : ∀ (a : Addr) (doc pm cv ctv : Value), F.ps ≠ [] → ∃ kk : Option (Array Value) → Sem (List (Str × Value)), bindArgs (F.fd (.ref a) doc pm cv ctv) ⟨[], []⟩ = seqItems? (.ref a) >>= kk ∧ ∀ us : List Value, us.length = F.ps.length → kk (some us.toArray) = pure (F.ps.zip us)
  body : ∀ (cdv : Value) (A : Around) (outer : List Env) (s : Shared) (H : Hp) (E : XK) (f : Addr), Room k (A.deeper (envOfC F.qual F.scope s.heap.objs.size f cdv)) → DE (cxD P w K mg base F.ps F.qual F.scope f cdv A outer s H E) T (WD E) F.body t
theorem zeros_reps {K : PySem.W.Frag} {g : Gh} {H : Hp} : ∀ ps : List Str, Reps K g H (ps.map fun _ => D.int 0) (ps.map fun _ => V.int 0)
  | [] => rfl
  | _ :: ps => ⟨_, _, rfl, rfl, zeros_reps ps⟩
theorem lam_run {P : Program} {w : World} {K : PySem.W.Frag} {mg : Str → Option Value} {base : Heap} {T : List (Addr × Str)} {k : Nat} {F : LFn} {t : DTE} {A : Around} {outer : List Env} {s : Shared} {H : Hp} {g : Gh} {S : Store} {f : Addr} {Q : VK} {E : XK} {Qd : D → Store → Prop} {Ed : DX}
    (L : LamOk P w K mg base T k F t) (hr : Room (k + 1) A) (e0 : Env0 P w K mg base A outer s H) (gd : GoodS K T g S H) (fr : FnR g H F f) (h : t (startD F.ps (zerosD F)) S Qd Ed)
    (hq : ∀ d S' g' H' v, Qd d S' → Ext g H g' H' → GoodS K T g' S' H' → Rep K g' H' d v → Q v H') (hx : ∀ y S' g' H' c dd, Ed y S' → Ext g H g' H' → GoodS K T g' S' H' → XRep K g' H' y c dd → E c dd H') :
    codeAny (model P w) A (.call (.ref f) ⟨[], []⟩) (CR (L2.CX P w) outer P w H s Q E) s := by
  obtain ⟨dV, c, ⟨h1, _⟩, ⟨h2, _⟩, h3⟩ := fr
  have lim : s.heap.NoLimit := e0.mod.nolimit.keeps fun b o e => (e0.bs b o e).1
  obtain ⟨⟨od, sl, doc, pm, ctv, ho⟩, _, _⟩ := e0.hok f _ h1
  have hcd : s.heap.CodeRec (.ref c) F.qual := by
    obtain ⟨⟨oc, vs, t, e1, e2, e3⟩, _, _⟩ := e0.hok c _ h2
    exact ⟨c, oc, vs, t, rfl, e1, e2, e3⟩
  have hb : ∃ us, Vals (F.ps.map fun _ => V.int 0) us ∧ BindsTo s (F.fd dV doc pm (.ref c) ctv) ⟨[], []⟩ (F.ps.zip us) := by
    rcases h3 with ⟨e, rfl⟩ | ⟨a, ne, rfl, ht, _⟩
    · refine ⟨[], by rw [e]; exact .nil, ?_⟩
      rw [e]; exact .of_eq (L.bd0 e _ _ _ _)
    · obtain ⟨hz, us, r, o, eo, ec, n, ed⟩ := e0.hok a _ ht
      obtain ⟨kk, b1, b2⟩ := L.bd1 a doc pm (.ref c) ctv ne
      exact ⟨us, r, BindsTo.of_defaults rfl eo ed b1 (b2 us (by rw [← r.length]; simp))⟩
  obtain ⟨us, rv, hb⟩ := hb
  have kinds : ∀ y ∈ F.ps.zip us, F.scope.names.lookup y.1 = some .local ∨ (F.scope.names.lookup y.1 = some .cell ∧ ((cellsFrom (s.heap.objs.size + 1) F.scope.names []).lookup y.1).isSome = true) := fun ⟨n, v⟩ hy =>
    (L.sc.par n (List.of_mem_zip hy).1).imp id fun q => ⟨q, PySem.W.cellsFrom_some _ _ _ (.inl q)⟩
  refine PySem.W.kla_callFunE hr.depth ho rfl L.sc.co L.sc.gen rfl hcd (hb _ _ _ _ ?_)
  refine wpAny_newFunctionEnv_cells L.sc.kind kinds fun env he s1 x => ?_
  subst he
  refine ⟨lim.keeps x.toInCall.keep, ?_⟩
  have I : Inv (cxD P w K mg base F.ps F.qual F.scope f (.ref c) A outer s H E) [] (L2.start F.ps (F.ps.map fun _ => V.int 0)) H s1 := inv_start L.sc hr.hd e0 (by simp) rv x
  refine PySem.W.kla_codeExpr (wpAny_mono (PE.run (L.body (.ref c) A outer s H E f (hr.deeper _)) [] s1 _ H Q I ⟨g, _, S, Qd, Ed, Rel.start gd (zeros_reps F.ps), h, fun d S' g' H' v q x rl rp => hq d S' g' H' v q x rl.good rp, fun y S' g' H' c dd q x rl xr => hx y S' g' H' c dd q x rl.good xr⟩) (fun v s' hs => ?_) fun e s' hs => hs)
  obtain ⟨w', H', J', rv, q⟩ := hs
  exact ⟨w', H', J'.os, J'.bare, J'.base, J'.hok, rv, q⟩
/-- _law_try(e), e a lambda -/
def dTryV (okc : Str → Prop) (dom : LFn → Prop) (tb : LFn → DTE) (te : DTE) : DTE := fun r S Q E =>
  te r S (fun d S1 => ∃ F, d = .fn F ∧ dom F ∧ tb F (startD F.ps (zerosD F)) S1 (fun d S2 => Q (.tup [.str "value", d]) S2) (fun x S2 => okc x.cls ∧ ∃ c f, tellD x c f ∧ Q (.tup [c, f]) S2)) E
/-- what a call of the lambda F at f is worth -/
def tlV (K : PySem.W.Frag) (T : List (Addr × Str)) (F : LFn) (f : Addr) (t : DTE) : XK → Hp → VK → Prop := fun E H Q => ∃ g S Qd Ed, GoodS K T g S H ∧ FnR g H F f ∧ t (startD F.ps (zerosD F)) S Qd Ed ∧
  (∀ d S' g' H' v, Qd d S' → Ext g H g' H' → GoodS K T g' S' H' → Rep K g' H' d v → Q v H') ∧ (∀ y S' g' H' c dd, Ed y S' → Ext g H g' H' → GoodS K T g' S' H' → XRep K g' H' y c dd → E c dd H')
theorem actV {X : Cx} {T : List (Addr × Str)} {Ng : List Str} {qg a : Str} {sg : Scope} {g f c' : Addr} {cdg : Value} {F : LFn} {t : DTE} {k : Nat} {s : Shared} {H : Hp} {pn : List (Addr × Obj)} {xe : Value → Shared → Prop} {W : WX} {E : XK} {p1 p2 : Pos}
    (L : LamOk X.prog X.w X.K X.mg X.base T k F t) (tk : Takes ((cxOf C8.CX0 X.prog X.w X.K X.mg X.base Ng qg sg g cdg X.A X.stack s H C8.E0).tr pn xe) W) (hW : ∀ cls d σ' H', E cls d H' → W cls d σ' H')
    (hr : Room (k + 1) (X.A.deeper (envOfC qg sg s.heap.objs.size g cdg))) (hN : Ng[0]? = some a) (hv : Vis sg a) (hd : (a == ("__debug__" : Str)) = false) (hcd : (a == ("__classdict__" : Str)) = false) :
    PE ((cxOf C8.CX0 X.prog X.w X.K X.mg X.base Ng qg sg g cdg X.A X.stack s H C8.E0).tr pn xe) (.Call (.Name a p1) [] [] p2)
      (fun σZ HZ Q => σZ[0]? = some (some (.ref f)) ∧ HZ c' = some (LamX.CodeO c' F.qual) ∧ tlV X.K T F f t E HZ Q) := by
  refine ⟨fun pinsZ sZ σZ HZ Q IZ h => ?_⟩
  obtain ⟨hs, hc, gZ, SZ, Qd, Ed, gd, fr, ht, hq', hx'⟩ := h
  refine wpAny_Call_Name_kw (thn ((pe_var (pos := p1) (i := 0) hN hv hd hcd).run pinsZ sZ σZ HZ (fun v H1 => v = .ref f ∧ H1 = HZ) IZ ⟨.ref f, hs, rfl, rfl⟩) fun u s1 ⟨v, H1, I1, r1, q1⟩ => ?_)
  obtain ⟨ev, eH⟩ := q1
  subst ev
  rw [eH] at I1
  obtain rfl : u = Value.ref f := r1
  have hat : PySem.W.FnAt f s1.heap := by
    obtain ⟨dV, c, ⟨h1, _⟩, _⟩ := fr
    obtain ⟨⟨od, sl, doc, pm, ctv, ho⟩, _, _⟩ := I1.hok f _ h1
    exact ⟨_, _, _, _, ho⟩
  refine PySem.W.callWith_F0 hat ?_
  have rc : codeAny (model X.prog X.w) (X.A.deeper (envOfC qg sg s.heap.objs.size g cdg)) (.call (.ref f) ⟨[], []⟩) (CR (L2.CX X.prog X.w) (envOfC qg sg s.heap.objs.size g cdg :: X.stack) X.prog X.w HZ s1 Q E) s1 := lam_run L hr I1.env0 gd fr ht hq' hx'
  have hx : Passes (L2.CX X.prog X.w) ((cxOf C8.CX0 X.prog X.w X.K X.mg X.base Ng qg sg g cdg X.A X.stack s H C8.E0).tr pn xe) E := passes_call tk hW
  refine wpAny_call (codeAny_mono rc fun r s' hq => ?_)
  cases r with
  | error e => exact hx pinsZ σZ HZ s1 e s' I1 hq
  | ok fl =>
    cases fl with
    | ret u => exact I1.after hq
    | next => exact False.elim hq
    | brk => exact False.elim hq
    | cont => exact False.elim hq
theorem de_tryV {X : Cx} {T : List (Addr × Str)} {okc : Str → Prop} {q : Str} {cd : Addr} {W : WX} {j : Nat} {e : Expr} {te : DTE} {dom : LFn → Prop} {tb : LFn → DTE} {p pos : Pos} (TC : TryC X.prog X.w X.K X.mg X.base T okc q cd) (hr : Room (j + 4) X.A) (hg : Gl X "_law_try") (he : DE X T W e te)
    (LT : ∀ F, dom F → LamOk X.prog X.w X.K X.mg X.base T (j + 2) F (tb F)) (hs : starEach [e] X.env = (false, eval e X.env) :: starEach [] X.env := by rfl) :
    DE X T W (.Call (.Name "_law_try" p) [e] [] pos) (dTryV okc dom tb te) := by
  obtain ⟨st, gf, fd, c1, c2, fF, fdF, B⟩ := TC.bas
  obtain ⟨oc, od, dV, kV, doc, pm, an, cdg, ct, osl, rfl, lk, hcd, _, _⟩ := B.fn.ex
  obtain ⟨j0, k1, k2, k3, p1, p2, p3, p4, p5, p6, p7, p8, p9, p10, p11, p12, p13, p14, p15, p16, p17, hb⟩ := B.body
  have hG : ∀ q, _ := fun q => try_gives (X := X) (q := q) (x := "_law_try") (g := gf) (cdg := cdg) (j := j0) (k1 := k1) (k2 := k2) (k3 := k3) (p1 := p1) (p2 := p2) (p3 := p3) (p4 := p4) (p5 := p5) (p6 := p6) (p7 := p7) (p8 := p8) (p9 := p9) (p10 := p10) (p11 := p11) (p12 := p12) (p13 := p13) (p14 := p14) (p15 := p15) (p16 := p16) (p17 := p17)
    hr B.sc.nd rfl rfl (by decide) B.ne B.nb1 B.nb2 B.nf B.m1 B.m2 B.mf (by decide) (by decide) (by decide) (by decide) (by decide) B.kf B.bf (B.FF.mono (by omega))
  rw [← hb] at hG
  refine ⟨fun pins s σ H Q I h => ?_⟩
  obtain ⟨g, r, S, Qd, Ed, rl, h, hq, hx⟩ := h
  refine wpAny_Call_Name_kw (ld_glob I hg B.gl ?_ (by decide))
  have hA : PA X [e] (tCons (lift X.K T W te) tNil) := pa_cons he pa_nil hs
  refine PySem.W.callWith_K (h₀ := X.base) I.ok.mod.kin B.fn.kp (thn (hA.run pos pins s σ H (fun vs H1 => ∃ F f g1 S1, vs = [.ref f] ∧ FnR g1 H1 F f ∧ dom F ∧ Ext g H g1 H1 ∧ Rel X.K T g1 r S1 σ H1 ∧
      tb F (startD F.ps (zerosD F)) S1 (fun d S2 => Qd (.tup [.str "value", d]) S2) (fun x S2 => okc x.cls ∧ ∃ c f, tellD x c f ∧ Qd (.tup [c, f]) S2)) I ⟨g, r, S, _, Ed, rl, h, fun d S1 g1 H1 v ⟨F, ed, dF, ht⟩ x1 rl1 rp1 => ?_, hx⟩) fun us s1 ⟨vs, H1, J, r1, F, f, g1, S1, ev, fr, dF, x1, rl1, ht⟩ => ⟨J.kIn, ?_⟩) hs rfl
  · subst ed
    obtain ⟨f, rfl, fr⟩ := rp1
    exact ⟨F, f, g1, S1, rfl, fr, dF, x1, rl1, ht⟩
  subst ev
  have hl : us.length = 1 := by rw [← r1.length]; rfl
  obtain ⟨fdV, fc, f1, f2, f3⟩ := id fr
  have rc : codeAny (model X.prog X.w) X.A (.call (.ref gf) ⟨us, []⟩) (CR C8.CX0 X.stack X.prog X.w H1 s1 Q C8.E0) s1 := by
    have bd := B.bd s1 us J.kIn (by rw [List.append_nil]; exact hl)
    rw [List.append_nil] at bd
    refine LamX.run_ofS (ps := ["_law_ask"]) (us := us) (vs := [.ref f]) lk hcd B.sc hr J.env0 bd r1 rfl fun hr' => ?_
    suffices z : TTry X.K c1 c2 (tlV X.K T F f (tb F)) H1 Q by
      obtain ⟨t', ht', hq'⟩ := hG F.qual f fc s1 H1 Q (tlV X.K T F f (tb F)) (fun W pn xe E p1 p2 tk hW => actV (LT F dF) tk hW hr' rfl (.inl B.na) (by decide) (by decide)) f2.1 z
      exact ⟨t', ht'.nox, hq'⟩
    refine ⟨g1, S1, _, _, rl1.good, fr, ht, fun d S2 g2 H2 v q2 x2 gd2 rp2 => ⟨by show 2 ≤ sizeLine; decide, fun p hp => ?_⟩, fun y S2 g2 H2 cc dd q2 x2 gd2 xr => ?_⟩
    · have rl2 := rl1.good' gd2 x2
      exact hq _ S2 g2 _ _ q2 ((x1.trans x2).trans (Ext.same (same_upd hp))) (rl2.same (same_upd hp)) (Rep.tupNew (ds := [.str "value", d]) rl2.good ⟨_, _, rfl, rfl, Reps.one rp2⟩ hp)
    · have rl2 := rl1.good' gd2 x2
      obtain ⟨hC, cD, fD, ⟨s, ec, hcl, hf⟩, hQ⟩ := q2
      obtain ⟨e1, d0, vs, e2, ⟨hd0, hoff, hl⟩, rs⟩ := xr
      obtain ⟨xa, hm2⟩ := B.ok _ hC
      subst ec
      obtain ⟨vc, hvc, rvc⟩ := rs.lookup hcl
      have evc : vc = .str s := rvc
      subst evc
      have fin : ∀ vf, Rep X.K g2 H2 fD vf → ∀ H', Same H2 H' → ∀ p, H' p = none → Q (.ref p) (upd H' p (.tup [.str s, vf])) := fun vf rf H' sm p hp =>
        hq _ S2 g2 _ _ hQ (((x1.trans x2).trans (Ext.same sm)).trans (Ext.same (same_upd hp))) ((rl2.same sm).same (same_upd hp)) (Rep.tupNew (ds := [.str s, fD]) (rl2.good.same sm) ⟨_, _, rfl, rfl, Reps.one (Rep.ext (Ext.same sm) _ _ rf)⟩ hp)
      rcases hf with ⟨hf, ef⟩ | ⟨n, hf, hn⟩
      · subst ef
        exact ⟨He.ga X.K y.cls, d0, _, s, .non, e1, e2, hm2, xa, hd0, hvc, .inl ⟨hf, rfl⟩, fin _ rfl⟩
      · obtain ⟨vf, hvf, rvf⟩ := rs.lookup hn
        exact ⟨He.ga X.K y.cls, d0, _, s, vf, e1, e2, hm2, xa, hd0, hvc, .inr ⟨n, hf, hvf⟩, fin _ rvf⟩
  refine wpAny_call (codeAny_mono rc fun r s2 hq => ?_)
  cases r with
  | error e => exact (show False from hq).elim
  | ok fl =>
    cases fl with
    | ret u => exact J.after hq
    | next => exact False.elim hq
    | brk => exact False.elim hq
    | cont => exact False.elim hq
end DL
namespace DL
open PySem PySem.Spec PyProof.Rows L2
/-! ### a lambda is made -/
section
variable {X : Cx} {pins : List (Addr × Obj)} {σ : L2.St} {H : Hp} {s : Shared}
theorem inv_fnL {F : LFn} {dV : Value} {c : Addr} {o : Obj} {t' : Nat} {doc pm ctv : Value} (I : Inv X pins σ H s) (ho : o = { cls := .type "function", data := .func (F.fd dV doc pm (.ref c) ctv) }) :
    Inv X pins σ (upd H s.heap.objs.size (FnL s.heap.objs.size F dV c)) { s with heap := s.heap.push o, toks := t' } := by
  subst ho
  refine I.laid (a := s.heap.objs.size) (fun b u e => Heap.get?_push_of_some _ e) (Nat.le_refl _) ?_
  have e : (s.heap.push ({ cls := .type "function", data := .func (F.fd dV doc pm (.ref c) ctv) } : Obj)).get? s.heap.objs.size = some ({ cls := .type "function", data := .func (F.fd dV doc pm (.ref c) ctv) } : Obj) := Heap.get?_push_size _ rfl
  exact ⟨⟨_, _, doc, pm, ctv, e⟩, ⟨_, e⟩, fun h1 h2 ⟨od, sl, d, p, t, z⟩ st => ⟨od, sl, d, p, t, st _ z⟩⟩
theorem lam_mk {T : List (Addr × Str)} {c P : Addr} {params : Arguments} {body : Expr} {scope : Scope} {pos : Pos} {ix : Nat} {ps : List Str} {dV : Value} {E : Value → Shared → Prop} {Q : Value → Shared → Prop} (I : Inv X pins σ H s) (TB : LamX.TabB X.base X.mg c P) (hcode : X.env.code = .ref c)
    (hm : (P, X.env.qual ++ "<lambda>") ∈ T) (hu : ∀ p ∈ T, p.1 = P → p.2 = X.env.qual ++ "<lambda>") (hT : LamX.Tabs T H) (hcl : closureFor scope X.env = pure [])
    (h : ∀ (f c' : Addr) (H1 : Hp) (s' : Shared), Inv X pins σ H1 s' → LamX.ExtN H H1 → LamX.Tabs T H1 → H f = none → (H c' = none ∨ H c' = some (LamX.CodeO c' (X.env.qual ++ "<lambda>"))) → H1 f = some (FnL f ⟨ix, X.env.qual ++ "<lambda>", params, body, scope, ps⟩ dV c') → H1 c' = some (LamX.CodeO c' (X.env.qual ++ "<lambda>")) → Q (.ref f) s') :
    wpAny (model X.prog X.w) X.A (makeTail "<lambda>" (X.env.qual ++ "<lambda>") params (.expr body) scope X.env dV .none none pos pos.line) Q E s := by
  obtain ⟨tb, hP, ht, ha⟩ := hT _ hm
  have bP : s.heap.BuiltinsAt X.mg P := TB.bm.keeps I.bk
  have hP' : s.heap.get? P = some { cls := .none, data := .fields tb } := I.hok P _ hP
  cases hc : codeAmong pos tb.toList with
  | none =>
    refine PySem.W.kdv_makeTail (mg := X.mg) (c := c) (P := P) (ps := tb) hcl I.ok.glob (I.mod.glob.keeps I.bk) hcode (TB.code.keeps I.bk) hP' ht hc TB.gP bP fun c' ctv doc h' tk hx hge hlt hrec htb => ?_
    obtain ⟨c2, oc, vs, t, e2, hoc, hd, hv⟩ := hrec
    cases e2
    have nC : H c' = none := I.hok.fresh hge
    have I1 := LamX.inv_table (t' := tk) (more := #[rawInt pos.line, rawInt pos.col, .ref c']) (h' := h') I hP (fun b o hb e => hx b o hb e) htb hge ⟨oc, vs, t, hoc, hd, hv⟩
    have hE : LamX.ExtN H (upd (upd H P (.tbl (tb ++ #[rawInt pos.line, rawInt pos.col, .ref c']))) c' (LamX.CodeO c' (X.env.qual ++ "<lambda>"))) := fun b o e n => by
      rw [upd_ne (ne_of_none e nC), upd_ne (fun z => n tb (Option.some.inj (e.symm.trans (by rw [z]; exact hP))))]
      exact e
    have eL : (tb ++ #[rawInt pos.line, rawInt pos.col, .ref c']).toList = tb.toList ++ [rawInt pos.line, rawInt pos.col, .ref c'] := by simp
    have T1 : LamX.Tabs T (upd (upd H P (.tbl (tb ++ #[rawInt pos.line, rawInt pos.col, .ref c']))) c' (LamX.CodeO c' (X.env.qual ++ "<lambda>"))) := fun p hp => by
      by_cases hb : p.1 = P
      · rw [hu p hp hb, hb]
        refine ⟨_, by rw [upd_ne (ne_of_none hP nC), upd_same], by rw [eL]; exact PySem.TriplesOk_snoc _ _ _ _ ht, fun p' cv hcv => ?_⟩
        rw [eL] at hcv
        rcases LamX.among_app _ ht hcv with z | z
        · obtain ⟨c0, e1, e2⟩ := ha p' cv z
          exact ⟨c0, e1, hE _ _ e2 LamX.codeO_ne⟩
        · exact ⟨c', z, upd_same⟩
      · obtain ⟨ps', a1, a2, a3⟩ := hT p hp
        refine ⟨ps', by rw [upd_ne (ne_of_none a1 nC), upd_ne hb]; exact a1, a2, fun p' cv hcv => ?_⟩
        obtain ⟨c0, e1, e2⟩ := a3 p' cv hcv
        exact ⟨c0, e1, hE _ _ e2 LamX.codeO_ne⟩
    have nF := I1.hok.fresh (Nat.le_refl _)
    have I2 := inv_fnL (F := ⟨ix, X.env.qual ++ "<lambda>", params, body, scope, ps⟩) (c := c') (t' := tk) (doc := doc) (pm := (X.mg "__name__").getD .none) (ctv := ctv) (dV := dV) I1 rfl
    refine h h'.objs.size c' _ _ I2 (fun b o e n => ?_) (T1.ext fun b o e => ?_) (I.hok.fresh (Nat.le_trans hge (Nat.le_of_lt hlt))) (.inl nC) upd_same ?_
    · have e1 := hE b o e n
      exact (upd_ne (ne_of_none e1 nF)).trans e1
    · exact (upd_ne (ne_of_none e nF)).trans e
    · exact (upd_ne (Nat.ne_of_lt hlt)).trans upd_same
  | some cv =>
    obtain ⟨c', e, hco⟩ := ha pos cv hc
    subst e
    refine PySem.W.kdv_makeTailHit (mg := X.mg) (c := c) (P := P) (ps := tb) hcl I.ok.glob (I.mod.glob.keeps I.bk) hcode (TB.code.keeps I.bk) hP' ht hc bP fun ctv doc h' tk hx hsz => ?_
    have I1 : Inv X pins σ H { s with heap := h', toks := tk } := I.kept hx
    have nF : H h'.objs.size = none := I1.hok.fresh (Nat.le_refl _)
    have I2 := inv_fnL (F := ⟨ix, X.env.qual ++ "<lambda>", params, body, scope, ps⟩) (c := c') (t' := tk) (doc := doc) (pm := (X.mg "__name__").getD .none) (ctv := ctv) (dV := dV) I1 rfl
    refine h h'.objs.size c' _ _ I2 (fun b o e n => ?_) (hT.ext fun b o e => ?_) nF (.inr hco) upd_same ?_
    · exact (upd_ne (ne_of_none e nF)).trans e
    · exact (upd_ne (ne_of_none e nF)).trans e
    · exact (upd_ne (ne_of_none hco nF)).trans hco
end
theorem notOffExt {K : PySem.W.Frag} {T : List (Addr × Str)} {g : Gh} {S : Store} {H : Hp} (gd : GoodS K T g S H) {a : Addr} {p : Heap → Prop} (e : H a = some (.ext p)) : ¬ g.off a := by
  rintro (z | z)
  · obtain ⟨n, hn⟩ := List.getElem?_of_mem z
    have hl : n < S.length := by rw [← gd.len]; exact (List.getElem?_eq_some_iff.mp hn).1
    have q := gd.st n a _ hn (List.getElem?_eq_getElem hl)
    cases ho : S[n] with
    | lst ds => rw [ho] at q; obtain ⟨vs, h, _⟩ := q; rw [e] at h; cases h
    | dK ds => rw [ho] at q; obtain ⟨vs, h, _⟩ := q; rw [e] at h; cases h
    | dT ds => rw [ho] at q; obtain ⟨vs, h, _⟩ := q; rw [e] at h; cases h
    | ins C ns ds => rw [ho] at q; obtain ⟨dx, vs, h, _⟩ := q; rw [e] at h; cases h
  · obtain ⟨o, q, _, ne⟩ := gd.hid a z
    rw [e] at q
    cases q
    exact ne _ rfl
theorem clo_none {scope : Scope} {env : Env} (nf : ∀ y ∈ scope.names, y.2 ≠ .free) : closureFor scope env = pure [] := by
  rw [closure_ok fun y hy e => absurd e (nf y hy)]
  have z : cloFrom env.cells scope.names [] = [] := List.eq_nil_iff_forall_not_mem.mpr fun p hp => by
    obtain ⟨n, a⟩ := p
    rcases cloFrom_mem hp with hm | ⟨h1, h2⟩
    · cases hm
    · exact nf _ h1 rfl
  rw [z]
theorem de_lamV {X : Cx} {T : List (Addr × Str)} {W : WX} {c P : Addr} {params : Arguments} {body : Expr} {scope : Scope} {pos : Pos} (ix : Nat) (ps : List Str) (TB : LamX.TabB X.base X.mg c P) (hcode : X.env.code = .ref c)
    (hm : (P, X.env.qual ++ "<lambda>") ∈ T) (hu : ∀ p ∈ T, p.1 = P → p.2 = X.env.qual ++ "<lambda>") (nf : ∀ y ∈ scope.names, y.2 ≠ .free)
    (hd : (ps = [] ∧ defaultsOf params X.env = ([], [])) ∨ (∃ n j p, ps = [n] ∧ params.defaults = [.Constant (.int 0) j p] ∧ params.kw_defaults = [])) :
    DE X T W (.Lambda params body scope pos) (dC (.fn ⟨ix, X.env.qual ++ "<lambda>", params, body, scope, ps⟩)) := by
  refine ⟨fun pins s σ H Q I h => ?_⟩
  obtain ⟨g, r, S, Qd, Ed, rl, h, hq, hx⟩ := h
  have hcl := clo_none (env := X.env) nf
  rcases hd with ⟨rfl, hdef⟩ | ⟨n, j, p, rfl, hdf, hk⟩
  · refine PySem.W.kla_eval hdef ?_
    rw [makeFunction_eq]
    simp only [List.zip_nil_right, List.filterMap_nil, List.isEmpty_nil, if_true, pure_bind]
    refine lam_mk (ix := ix) (ps := []) I TB hcode hm hu rl.good.tabs hcl fun f c' H1 s' I1 eN T1 nf0 hc0 h1 h2 => ?_
    obtain ⟨gd1, x1⟩ := lamGood rl.good eN T1
    exact ⟨.ref f, H1, I1, rfl, hq _ S g H1 (.ref f) h x1 (rl.good' gd1 x1) ⟨f, rfl, .none, c', ⟨h1, notOffExt gd1 h1⟩, ⟨h2, notOffExt gd1 h2⟩, .inl ⟨rfl, rfl⟩⟩⟩
  · refine PySem.W.kdv_lam (by rw [hdf]; rfl) hk ?_
    rw [hdf]
    refine PySem.W.kdv_all1 (thn ((pe_int (X := X)).run pins s σ H (fun v H1 => v = .int 0 ∧ H1 = H) I ⟨rfl, rfl⟩) fun u s1 ⟨v, H1, I1, rv, ev, eH⟩ => PySem.W.kdv_all0 ?_)
    subst ev
    rw [eH] at I1
    rw [makeFunction_eq]
    simp only [List.zip_nil_right, List.filterMap_nil, List.isEmpty_nil, List.isEmpty_cons, Bool.false_eq_true, if_false, if_true, pure_bind]
    refine wpAny_bind (wpAny_newTextTuple ?_)
    have It : Inv X pins σ (upd H s1.heap.objs.size (.tup [.int 0])) { s1 with heap := s1.heap.push { cls := .type "tuple", data := .seq [u].toArray } } :=
      I1.laid (t' := s1.toks) (fun b u e => Heap.get?_push_of_some _ e) (Nat.le_refl _) ⟨by show 1 ≤ sizeLine; decide, [u], .cons rv .nil, ⟨_, Heap.get?_push_size _ rfl, rfl, _, rfl⟩⟩
    have nt : H s1.heap.objs.size = none := I1.hok.fresh (Nat.le_refl _)
    have rl0 := rl.same (same_upd (o := .tup [.int 0]) nt)
    refine lam_mk (ix := ix) (ps := [n]) It TB hcode hm hu rl0.good.tabs hcl fun f c' H1 s' I2 eN T1 nf0 hc0 h1 h2 => ?_
    obtain ⟨gd1, x1⟩ := lamGood rl0.good eN T1
    have ht : H1 s1.heap.objs.size = some (.tup [.int 0]) := eN _ _ upd_same fun _ => nofun
    exact ⟨.ref f, H1, I2, rfl, hq _ S g H1 (.ref f) h ((Ext.same (same_upd nt)).trans x1) (rl0.good' gd1 x1) ⟨f, rfl, .ref s1.heap.objs.size, c', ⟨h1, notOffExt gd1 h1⟩, ⟨h2, notOffExt gd1 h2⟩, .inr ⟨_, nofun, rfl, ht, x1.off upd_same (fun _ => nofun) (rl.good.notOff nt)⟩⟩⟩
end DL
namespace DL
open PySem PySem.Spec PyProof.Rows L2
/-! ### list comprehensions of two clauses -/
section
variable {X : Cx} {T : List (Addr × Str)} {W : WX} {a b c tg : Expr} {pos : Pos}
def dLc2 (ti : DTI) (tg : DTG) (tt : DTT) (ti1 : DTI) (tg1 : DTG) (tt1 : DTT) (te : DTE) (vs vs1 : List Nat) : DTE := fun r S Q E => ti r S (fun ds S1 => ∃ Iv : Nat → List D → Store → Prop, Iv 0 [] S1 ∧
  (∀ (i : Nat) x acc S, ds[i]? = some x → Iv i acc S → tg x (wipeD r vs) S fun r2 S2 => tt r2 S2 (fun b S3 => if b = true then ti1 r2 S3 (fun es S4 => ∃ Jv : Nat → List D → Store → Prop, Jv 0 acc S4 ∧
    (∀ (j : Nat) y acc S, es[j]? = some y → Jv j acc S → tg1 y (wipeD r2 vs1) S fun r3 S5 => tt1 r3 S5 (fun c S6 => if c = true then te r3 S6 (fun z S7 => acc.length < sizeLine ∧ Jv (j + 1) (acc ++ [z]) S7) EF else Jv (j + 1) acc S6) EF) ∧
    (∀ acc S, Jv es.length acc S → Iv (i + 1) acc S)) EF else Iv (i + 1) acc S3) EF) ∧
  (∀ acc S, Iv ds.length acc S → Q (.lst acc) S)) E
theorem lift_lc2 {K : PySem.W.Frag} {ti ti1 : DTI} {gv gv1 : TG} {dg dg1 : DTG} {tt tt1 : DTT} {te : DTE} {vs vs1 : List Nat} (ok : TgOk K T vs gv dg) (ok1 : TgOk K T vs1 gv1 dg1) {σ : L2.St} {H : Hp} {Q : VK} (h : lift K T W (dLc2 ti dg tt ti1 dg1 tt1 te vs vs1) σ H Q) :
    tLc2 (liftI K T W ti) gv (liftT K T WF tt) (liftI K T WF ti1) gv1 (liftT K T WF tt1) (lift K T WF te) vs vs1 σ H Q := by
  obtain ⟨g, r, S, Qd, Ed, rl, h, hq, hx⟩ := h
  refine ⟨g, r, S, _, Ed, rl, h, fun ds S1 g1 H1 J ⟨Iv, h0, hst, hen⟩ x1 rl1 wk D hD => ?_, hx⟩
  refine ⟨fun i m H2 => m = ds.length - i ∧ i ≤ ds.length ∧ ∃ g2 S2 acc vs2, Rel K T g2 r S2 σ H2 ∧ Iv i acc S2 ∧ H2 D = some (.lst vs2) ∧ Reps K g2 H2 acc vs2 ∧ Hx g1 H1 D g2 H2, ?_, ?_⟩
  · obtain ⟨rh, xh⟩ := rl1.hide (o := .lst []) (fun _ => nofun) hD
    exact ⟨ds.length, by simp, Nat.zero_le _, ⟨g1.ps, D :: g1.hs⟩, S1, [], [], rh, h0, upd_same, rfl, ⟨hD, rfl, by rw [upd_upd]; exact Ext.refl _ _⟩⟩
  rintro i m H2 ⟨rfl, hi, g2, S2, acc, vs2, rl2, iv, hD2, rs, xx⟩
  have nl : ∀ xs : List V, NT (.lst xs) := fun _ _ => nofun
  obtain ⟨w1, w2⟩ := wk g2 H2 xx.ex0
  by_cases hlt : i < ds.length
  · obtain ⟨go, yl⟩ := w1 i ds[i] (List.getElem?_eq_getElem hlt)
    refine .inr ⟨go, fun H3 => ∃ g3 S3 acc3 vs3, Rel K T g3 r S3 σ H3 ∧ Iv (i + 1) acc3 S3 ∧ H3 D = some (.lst vs3) ∧ Reps K g3 H3 acc3 vs3 ∧ Hx g1 H1 D g3 H3, fun H3 q => ⟨ds.length - (i + 1), by omega, rfl, hlt, q⟩, fun x H3 y => ?_⟩
    obtain ⟨sm, rp⟩ := yl x H3 y
    have rp := rp S2 T rl2.good
    have e23 : Ext g2 H2 g2 H3 := Ext.same sm
    have hD3 : H3 D = some (.lst vs2) := sm _ _ hD2
    have rlw : Rel K T g2 (wipeD r vs) S2 (L2.wipe σ vs) H3 := (rl2.wipe vs).same sm
    refine ok g2 _ S2 _ H3 ds[i] x _ _ rlw rp (hst i ds[i] acc S2 (List.getElem?_eq_getElem hlt) iv) fun r4 S4 σ4 q4 rl4 hσ hl4 => ⟨?_, ?_⟩
    · refine wipe_ext (by rw [hl4, wipe_length]) vs fun k hk => ?_
      rw [hσ k hk, wipe_get hk]
    · refine ⟨g2, r4, S4, _, _, rl4, q4, fun b S5 g5 H5 q5 x5 rl5 => ?_, fun _ _ _ _ _ _ z => z.elim⟩
      have nn := nd_not rl2.good.nd xx.hs
      have hD5 : H5 D = some (.lst vs2) := x5.keep D _ hD3 nn.1 (fun _ => nofun)
      cases b with
      | false => exact ⟨g5, S5, acc, vs2, rl2.slots rl5 (e23.trans x5).ex0, q5, hD5, Reps.ext (e23.trans x5) _ _ rs, xx.stay hD2 (nl _) (e23.trans x5)⟩
      | true =>
        simp only [if_true] at q5 ⊢
        refine ⟨g5, r4, S5, _, _, rl5, q5, fun es S6 g6 H6 J1 ⟨Jv, j0, jst, jen⟩ x6 rl6 wk1 => ?_, fun _ _ _ _ _ _ z => z.elim⟩
        have e26 := (e23.trans x5).trans x6
        have nn5 : D ∉ g5.ps := (nd_not (hs := g1.hs) rl5.good.nd (x5.hs.trans xx.hs)).1
        have hD6 : H6 D = some (.lst vs2) := x6.keep D _ hD5 nn5 (fun _ => nofun)
        refine ⟨fun j k H7 => k = es.length - j ∧ j ≤ es.length ∧ ∃ g7 S7 acc7 vs7, Rel K T g7 r4 S7 σ4 H7 ∧ Rel K T g7 r S7 σ H7 ∧ Jv j acc7 S7 ∧ H7 D = some (.lst vs7) ∧ Reps K g7 H7 acc7 vs7 ∧ Hx g1 H1 D g7 H7 ∧ Ex0 g6 H6 g7 H7, ?_, ?_⟩
        · exact ⟨es.length, by simp, Nat.zero_le _, g6, S6, acc, vs2, rl6, rl2.slots rl6 e26.ex0, j0, hD6, Reps.ext e26 _ _ rs, xx.stay hD2 (nl _) e26, Ex0.refl _ _⟩
        rintro j k H7 ⟨rfl, hj, g7, S7, acc7, vs7, rl7, rlo7, jv, hD7, rs7, xx7, x67⟩
        obtain ⟨u1, u2⟩ := wk1 g7 H7 x67
        by_cases hlj : j < es.length
        · obtain ⟨go1, yl1⟩ := u1 j es[j] (List.getElem?_eq_getElem hlj)
          refine .inr ⟨go1, fun H8 => ∃ g8 S8 acc8 vs8, Rel K T g8 r4 S8 σ4 H8 ∧ Rel K T g8 r S8 σ H8 ∧ Jv (j + 1) acc8 S8 ∧ H8 D = some (.lst vs8) ∧ Reps K g8 H8 acc8 vs8 ∧ Hx g1 H1 D g8 H8 ∧ Ex0 g6 H6 g8 H8, fun H8 q => ⟨es.length - (j + 1), by omega, rfl, hlj, q⟩, fun y1 H8 yy => ?_⟩
          obtain ⟨sm1, rp1⟩ := yl1 y1 H8 yy
          have rp1 := rp1 S7 T rl7.good
          have e78 : Ext g7 H7 g7 H8 := Ext.same sm1
          have hD8 : H8 D = some (.lst vs7) := sm1 _ _ hD7
          have rlw1 : Rel K T g7 (wipeD r4 vs1) S7 (L2.wipe σ4 vs1) H8 := (rl7.wipe vs1).same sm1
          refine ok1 g7 _ S7 _ H8 es[j] y1 _ _ rlw1 rp1 (jst j es[j] acc7 S7 (List.getElem?_eq_getElem hlj) jv) fun r9 S9 σ9 q9 rl9 hσ9 hl9 => ⟨?_, ?_⟩
          · refine wipe_ext (by rw [hl9, wipe_length]) vs1 fun k hk => ?_
            rw [hσ9 k hk, wipe_get hk]
          · refine ⟨g7, r9, S9, _, _, rl9, q9, fun c S10 g10 H10 q10 x10 rl10 => ?_, fun _ _ _ _ _ _ z => z.elim⟩
            have nn7 := nd_not rl7.good.nd xx7.hs
            have hD10 : H10 D = some (.lst vs7) := x10.keep D _ hD8 nn7.1 (fun _ => nofun)
            have e710 := e78.trans x10
            cases c with
            | false => exact ⟨g10, S10, acc7, vs7, rl7.slots rl10 e710.ex0, rlo7.slots rl10 e710.ex0, q10, hD10, Reps.ext e710 _ _ rs7, xx7.stay hD7 (nl _) e710, x67.trans e710.ex0⟩
            | true =>
              refine ⟨g10, r9, S10, _, _, rl10, q10, fun d11 S11 g11 H11 v11 ⟨hz, q11⟩ x11 rl11 rp11 => ?_, fun _ _ _ _ _ _ z => z.elim⟩
              have e711 := e710.trans x11
              have nn10 : D ∉ g10.ps := (nd_not (hs := g1.hs) rl10.good.nd (x10.hs.trans xx7.hs)).1
              have nn11 := nd_not (hs := g1.hs) rl11.good.nd (x11.hs.trans (x10.hs.trans xx7.hs))
              have hh11 : D ∈ g11.hs := by rw [x11.hs, x10.hs, xx7.hs]; exact List.mem_cons_self
              have hD11 : H11 D = some (.lst vs7) := x11.keep D _ hD10 nn10 (fun _ => nofun)
              have w : ∀ b, ¬ g11.off b → upd H11 D (.lst (vs7 ++ [v11])) b = H11 b := fun b n => upd_ne fun z => n (.inr (by rw [z]; exact hh11))
              refine ⟨vs7, hD11, by rw [← rs7.length]; exact hz, g11, S11, acc7 ++ [d11], vs7 ++ [v11], ?_, ?_, q11, upd_same, ?_, xx7.step hD7 (nl _) e711 _, (x67.trans e711.ex0).trans (Ex0.wr w)⟩
              · exact (rl7.slots rl11 e711.ex0).wrHid (nl _) hh11 nn11.1 (fun t z => by rw [hD11] at z; cases z) (fun c q z => by rw [hD11] at z; exact codeO_lst (Option.some.inj z))
              · exact (rlo7.slots rl11 e711.ex0).wrHid (nl _) hh11 nn11.1 (fun t z => by rw [hD11] at z; cases z) (fun c q z => by rw [hD11] at z; exact codeO_lst (Option.some.inj z))
              · exact Reps.append (Reps.wr w _ _ (Reps.ext e711 _ _ rs7)) (Reps.one (Rep.wr w _ _ rp11))
        · have ej : j = es.length := by omega
          subst ej
          exact .inl ⟨u2, g7, S7, acc7, vs7, rlo7, jen _ _ jv, hD7, rs7, xx7⟩
  · have e2 : i = ds.length := by omega
    subst e2
    obtain ⟨ru, xu⟩ := rl2.unhide xx.hs
    refine .inl ⟨w2, ?_⟩
    have nn := nd_not rl2.good.nd xx.hs
    refine hq _ S2 ⟨g2.ps, g1.hs⟩ H2 _ (hen acc S2 iv) (x1.trans xx.out) ru ⟨D, vs2, rfl, ⟨hD2, fun z => ?_⟩, Reps.ex0 xu _ _ rs⟩
    exact z.elim nn.1 nn.2
theorem de_lc2 {elt iter tg1 iter1 : Expr} {ifs ifs1 : List Expr} {scope : Scope} {own : List (Str × Nat)} {vs1 : List Nat} {ti ti1 : DTI} {gv gv1 : TG} {dg dg1 : DTG} {tt tt1 : DTT} {te : DTE} (hc : X.calm = true) (hN : X.N.Nodup) (hi : DI X T W tg iter ti) (ok : BlkOk X.N X.env.scope scope own) (hv : ∀ i ∈ vs1, i ∈ own.map (·.2)) (tok : TgOk X.K T (own.map (·.2)) gv dg) (tok1 : TgOk X.K T vs1 gv1 dg1)
    (hg : ∀ (s : Shared) (H : Hp) (C : Addr) (cl : List (Str × Addr)) (fp : List Addr), PG (X.blk s H scope (compEnvC scope cl C X.env) fp) tg gv) (ht : ∀ (s : Shared) (H : Hp) (C : Addr) (cl : List (Str × Addr)) (fp : List Addr), PTs (X.blk s H scope (compEnvC scope cl C X.env) fp) ifs (liftT X.K T WF tt))
    (hi1 : ∀ (s : Shared) (H : Hp) (C : Addr) (cl : List (Str × Addr)) (fp : List Addr), DI (X.blk s H scope (compEnvC scope cl C X.env) fp) T WF tg1 iter1 ti1)
    (hg1 : ∀ (s : Shared) (H : Hp) (C : Addr) (cl : List (Str × Addr)) (fp : List Addr), PG (X.blk s H scope (compEnvC scope cl C X.env) fp) tg1 gv1) (ht1 : ∀ (s : Shared) (H : Hp) (C : Addr) (cl : List (Str × Addr)) (fp : List Addr), PTs (X.blk s H scope (compEnvC scope cl C X.env) fp) ifs1 (liftT X.K T WF tt1))
    (he : ∀ (s : Shared) (H : Hp) (C : Addr) (cl : List (Str × Addr)) (fp : List Addr), DE (X.blk s H scope (compEnvC scope cl C X.env) fp) T WF elt te) (hs : ∀ x, foldedSetIterable iter X.env x = pure x := by intro _; rfl) (hs1 : ∀ env x, foldedSetIterable iter1 env x = pure x := by intro _ _; rfl) :
    DE X T W (.ListComp elt [⟨tg, iter, ifs, 0⟩, ⟨tg1, iter1, ifs1, 0⟩] scope pos) (dLc2 ti dg tt ti1 dg1 tt1 te (own.map (·.2)) vs1) := PE.imp (pe_lc2 (te := lift X.K T WF te) (wi1 := liftI X.K T WF ti1) hc hN hi ok hv hg ht hi1 hg1 ht1 he hs hs1) fun σ H Q h => lift_lc2 tok tok1 h
theorem ds_setLc2 {i : Nat} {y : Str} {py spos : Pos} {elt iter tg1 iter1 : Expr} {ifs ifs1 : List Expr} {scope : Scope} {own : List (Str × Nat)} {vs1 : List Nat} {ti ti1 : DTI} {gv gv1 : TG} {dg dg1 : DTG} {tt tt1 : DTT} {te : DTE} (hc : X.calm = true) (hN : X.N.Nodup) (hy : X.N[i]? = some y) (hyl : X.env.scope.names.lookup y = some .local)
    (hsw : swapsWith (.ListComp elt [⟨tg, iter, ifs, 0⟩, ⟨tg1, iter1, ifs1, 0⟩] scope pos) (some (.Name y py)) spos.line X.env = pure true) (hi : DI X T W tg iter ti) (ok : BlkOk X.N X.env.scope scope own) (hv : ∀ i ∈ vs1, i ∈ own.map (·.2)) (tok : TgOk X.K T (own.map (·.2)) gv dg) (tok1 : TgOk X.K T vs1 gv1 dg1)
    (hg : ∀ (s : Shared) (H : Hp) (C : Addr) (cl : List (Str × Addr)) (fp : List Addr), PG (X.blk s H scope (compEnvC scope cl C X.env) fp) tg gv) (ht : ∀ (s : Shared) (H : Hp) (C : Addr) (cl : List (Str × Addr)) (fp : List Addr), PTs (X.blk s H scope (compEnvC scope cl C X.env) fp) ifs (liftT X.K T WF tt))
    (hi1 : ∀ (s : Shared) (H : Hp) (C : Addr) (cl : List (Str × Addr)) (fp : List Addr), DI (X.blk s H scope (compEnvC scope cl C X.env) fp) T WF tg1 iter1 ti1)
    (hg1 : ∀ (s : Shared) (H : Hp) (C : Addr) (cl : List (Str × Addr)) (fp : List Addr), PG (X.blk s H scope (compEnvC scope cl C X.env) fp) tg1 gv1) (ht1 : ∀ (s : Shared) (H : Hp) (C : Addr) (cl : List (Str × Addr)) (fp : List Addr), PTs (X.blk s H scope (compEnvC scope cl C X.env) fp) ifs1 (liftT X.K T WF tt1))
    (he : ∀ (s : Shared) (H : Hp) (C : Addr) (cl : List (Str × Addr)) (fp : List Addr), DE (X.blk s H scope (compEnvC scope cl C X.env) fp) T WF elt te) (hs : ∀ x, foldedSetIterable iter X.env x = pure x := by intro _; rfl) (hs1 : ∀ env x, foldedSetIterable iter1 env x = pure x := by intro _ _; rfl) :
    DS X T W (.Assign [.Name y py] (.ListComp elt [⟨tg, iter, ifs, 0⟩, ⟨tg1, iter1, ifs1, 0⟩] scope pos) spos) (dAsg (dLc2 ti dg tt ti1 dg1 tt1 te (own.map (·.2)) vs1) (dgName i)) := PS.imp (ps_setLc2 (te := lift X.K T WF te) (wi1 := liftI X.K T WF ti1) hc hN hy hyl hsw hi ok hv hg ht hi1 hg1 ht1 he hs hs1) fun N σ H ⟨g, r, S, d, rl, h, e⟩ =>
  lift_lc2 tok tok1 ⟨g, r, S, _, _, rl, h, fun d1 S1 g1 H1 v h1 x1 rl1 rp1 => e.nx _ S1 g1 _ H1 h1 x1 (rl1.set rp1 i), e.wok r σ⟩
end
end DL
/-! The M layer: readings as (partial) functions of slots and store. -/
namespace DL
open PySem PySem.Spec PyProof.Rows L2
inductive R (α : Type) where
  | ok (a : α) (S : Store) | ex (x : Xc) (S : Store) | no
namespace R
variable {α β : Type}
def bind : R α → (α → Store → R β) → R β
  | .ok a S, f => f a S | .ex x S, _ => .ex x S | .no, _ => .no
@[simp] theorem bind_ok {a : α} {S : Store} {f : α → Store → R β} : (R.ok a S).bind f = f a S := rfl
@[simp] theorem bind_ex {x : Xc} {S : Store} {f : α → Store → R β} : (R.ex x S : R α).bind f = .ex x S := rfl
@[simp] theorem bind_no {f : α → Store → R β} : (R.no : R α).bind f = .no := rfl
def wp : R α → (α → Store → Prop) → DX → Prop
  | .ok a S, Q, _ => Q a S | .ex x S, _, E => E x S | .no, _, _ => False
@[simp] theorem wp_ok {a : α} {S : Store} {Q : α → Store → Prop} {E : DX} : (R.ok a S).wp Q E = Q a S := rfl
@[simp] theorem wp_ex {x : Xc} {S : Store} {Q : α → Store → Prop} {E : DX} : (R.ex x S : R α).wp Q E = E x S := rfl
@[simp] theorem wp_no {Q : α → Store → Prop} {E : DX} : (R.no : R α).wp Q E = False := rfl
theorem wp_bind {m : R α} {f : α → Store → R β} {Q : β → Store → Prop} {E : DX} : (m.bind f).wp Q E = m.wp (fun a S => (f a S).wp Q E) E := by cases m <;> rfl
theorem wp.imp {m : R α} {Q Q' : α → Store → Prop} {E : DX} (h : m.wp Q E) (i : ∀ a S, Q a S → Q' a S) : m.wp Q' E := by
  cases m with
  | ok a S => exact i a S h
  | ex x S => exact h
  | no => exact h
theorem wp.imp2 {m : R α} {Q Q' : α → Store → Prop} {E E' : DX} (h : m.wp Q E) (i : ∀ a S, Q a S → Q' a S) (j : ∀ x S, E x S → E' x S) : m.wp Q' E' := by
  cases m with
  | ok a S => exact i a S h
  | ex x S => exact j x S h
  | no => exact h
/-- nothing is raised -/
def nox : R α → R α
  | .ok a S => .ok a S | _ => .no
@[simp] theorem nox_ok {a : α} {S : Store} : (R.ok a S).nox = .ok a S := rfl
@[simp] theorem nox_ex {x : Xc} {S : Store} : (R.ex x S : R α).nox = .no := rfl
@[simp] theorem nox_no : (R.no : R α).nox = .no := rfl
theorem wp_nox {m : R α} {Q : α → Store → Prop} {E : DX} (h : m.nox.wp Q E) : m.wp Q EF := by cases m <;> simp_all
end R
/-- what a relation tells -/
noncomputable def pk {α : Type} (P : α → Store → Prop) : R α := open Classical in if h : ∃ p : α × Store, P p.1 p.2 then .ok h.choose.1 h.choose.2 else .no
theorem pk_wp {α : Type} {P : α → Store → Prop} {Q : α → Store → Prop} {E : DX} (h : (pk P).wp Q E) : ∃ a S, P a S ∧ Q a S := by
  unfold pk at h
  split at h
  · rename_i e; exact ⟨_, _, e.choose_spec, h⟩
  · exact h.elim
theorem pk_eq {α : Type} {P : α → Store → Prop} {a : α} {S : Store} (h : P a S) (u : ∀ b S', P b S' → b = a ∧ S' = S) : pk P = .ok a S := by
  have e : ∃ p : α × Store, P p.1 p.2 := ⟨(a, S), h⟩
  unfold pk
  rw [dif_pos e]
  obtain ⟨h1, h2⟩ := u _ _ e.choose_spec
  rw [h1, h2]
/-- a relation that leaves the store -/
noncomputable def pk1 {α : Type} (P : α → Prop) (S : Store) : R α := pk fun a S' => P a ∧ S' = S
theorem pk1_wp {α : Type} {P : α → Prop} {S : Store} {Q : α → Store → Prop} {E : DX} (h : (pk1 P S).wp Q E) : ∃ a, P a ∧ Q a S := by
  obtain ⟨a, S', ⟨h1, rfl⟩, h2⟩ := pk_wp h
  exact ⟨a, h1, h2⟩
theorem pk1_eq {α : Type} {P : α → Prop} {a : α} {S : Store} (h : P a) (u : ∀ b, P b → b = a) : pk1 P S = .ok a S := pk_eq ⟨h, rfl⟩ fun b S' h => ⟨u b h.1, h.2⟩
/-- z is told outright -/
theorem pk1_is {α : Type} {a : α} {S : Store} : pk1 (fun z => z = a) S = .ok a S := pk1_eq rfl fun _ h => h
theorem pk1_cond {α : Type} {P : Prop} {a : α} {S : Store} (h : P) : pk1 (fun z => P ∧ z = a) S = .ok a S := pk1_eq ⟨h, rfl⟩ fun _ h => h.2

abbrev MR (α : Type) := Sl → Store → R α
abbrev ME := MR D
abbrev MA := MR (List D)
abbrev MT := MR Bool
def toR {α : Type} (m : MR α) : Sl → Store → (α → Store → Prop) → DX → Prop := fun r S Q E => (m r S).wp Q E
inductive Fl where
  | nx (r : Sl) (S : Store) | rt (d : D) (S : Store) | ex (x : Xc) (r : Sl) (S : Store) | bk (r : Sl) (S : Store) | ct (r : Sl) (S : Store) | no
abbrev MS := Sl → Store → Fl
def Fl.wp : Fl → DEnds → Prop
  | .nx r S, d => d.nx r S | .rt v S, d => d.rt v S | .ex x r S, d => d.ex x r S | .bk r S, d => d.bk r S | .ct r S, d => d.ct r S | .no, _ => False
def toS (m : MS) : DTS := fun d r S => (m r S).wp d
/-- an expression's result goes on into a statement -/
def R.fl {α : Type} (m : R α) (r : Sl) (k : α → Store → Fl) : Fl := match m with
  | .ok a S => k a S | .ex x S => .ex x r S | .no => .no
@[simp] theorem R.fl_ok {α : Type} {a : α} {S : Store} {r : Sl} {k : α → Store → Fl} : (R.ok a S).fl r k = k a S := rfl
@[simp] theorem R.fl_ex {α : Type} {x : Xc} {S : Store} {r : Sl} {k : α → Store → Fl} : (R.ex x S : R α).fl r k = .ex x r S := rfl
@[simp] theorem R.fl_no {α : Type} {r : Sl} {k : α → Store → Fl} : (R.no : R α).fl r k = .no := rfl
theorem wp_fl {α : Type} {m : R α} {r : Sl} {k : α → Store → Fl} {d : DEnds} : (m.fl r k).wp d = m.wp (fun a S => (k a S).wp d) (fun x S => d.ex x r S) := by cases m <;> rfl
abbrev MG := D → Sl → Store → R Sl
abbrev MGs := List D → Sl → Store → R Sl
def toG (m : MG) : DTG := fun d r S Q => (m d r S).wp Q EF
def toGs (m : MGs) : List D → Sl → Store → (Sl → Store → Prop) → Prop := fun d r S Q => (m d r S).wp Q EF
abbrev MF1 := List D → Store → R D
def toSp (m : MF1) : DSp := fun ds S Q E => (m ds S).wp Q E

/-! ### the judgements go down along readings -/
section
variable {X : Cx} {T : List (Addr × Str)} {W : WX} {e : Expr} {es : List Expr} {st : Stmt} {sts : List Stmt}
theorem lift_imp {K : PySem.W.Frag} {t t' : DTE} (i : ∀ r S Q E, t' r S Q E → t r S Q E) {σ : L2.St} {H : Hp} {Q : VK} (h : lift K T W t' σ H Q) : lift K T W t σ H Q :=
  let ⟨g, r, S, Qd, Ed, rl, h, hq, hx⟩ := h; ⟨g, r, S, Qd, Ed, rl, i _ _ _ _ h, hq, hx⟩
theorem liftA_imp {K : PySem.W.Frag} {t t' : DTA} (i : ∀ r S Q E, t' r S Q E → t r S Q E) {σ : L2.St} {H : Hp} {Q : List V → Hp → Prop} (h : liftA K T W t' σ H Q) : liftA K T W t σ H Q :=
  let ⟨g, r, S, Qd, Ed, rl, h, hq, hx⟩ := h; ⟨g, r, S, Qd, Ed, rl, i _ _ _ _ h, hq, hx⟩
theorem liftT_imp {K : PySem.W.Frag} {t t' : DTT} (i : ∀ r S Q E, t' r S Q E → t r S Q E) {σ : L2.St} {H : Hp} {Q : Bool → Hp → Prop} (h : liftT K T W t' σ H Q) : liftT K T W t σ H Q :=
  let ⟨g, r, S, Qd, Ed, rl, h, hq, hx⟩ := h; ⟨g, r, S, Qd, Ed, rl, i _ _ _ _ h, hq, hx⟩
theorem liftI_imp {K : PySem.W.Frag} {t t' : DTI} (i : ∀ r S Q E, t' r S Q E → t r S Q E) {σ : L2.St} {H : Hp} {Q : It → Hp → Prop} (h : liftI K T W t' σ H Q) : liftI K T W t σ H Q :=
  let ⟨g, r, S, Qd, Ed, rl, h, hq, hx⟩ := h; ⟨g, r, S, Qd, Ed, rl, i _ _ _ _ h, hq, hx⟩
theorem liftO_imp {K : PySem.W.Frag} {t t' : DTO} (i : ∀ r S Q E, t' r S Q E → t r S Q E) {σ : L2.St} {H : Hp} {Q : Option Int → Hp → Prop} (h : liftO K T W t' σ H Q) : liftO K T W t σ H Q :=
  let ⟨g, r, S, Qd, Ed, rl, h, hq, hx⟩ := h; ⟨g, r, S, Qd, Ed, rl, i _ _ _ _ h, hq, hx⟩
theorem liftS_imp {K : PySem.W.Frag} {t t' : DTS} (i : ∀ d r S, t' d r S → t d r S) {N : Ends} {σ : L2.St} {H : Hp} (h : liftS K T W t' N σ H) : liftS K T W t N σ H :=
  let ⟨g, r, S, d, rl, h, hq⟩ := h; ⟨g, r, S, d, rl, i _ _ _ h, hq⟩
theorem DE.imp {t t' : DTE} (h : DE X T W e t) (i : ∀ r S Q E, t' r S Q E → t r S Q E) : DE X T W e t' := PE.imp h fun _ _ _ z => lift_imp i z
theorem DA.imp {t t' : DTA} (h : DA X T W es t) (i : ∀ r S Q E, t' r S Q E → t r S Q E) : DA X T W es t' := PA.imp h fun _ _ _ z => liftA_imp i z
theorem DT.imp {t t' : DTT} (h : DT X T W e t) (i : ∀ r S Q E, t' r S Q E → t r S Q E) : DT X T W e t' := PT.imp h fun _ _ _ z => liftT_imp i z
theorem DW.imp {t t' : DTT} (h : DW X T W e t) (i : ∀ r S Q E, t' r S Q E → t r S Q E) : DW X T W e t' := PW.imp h fun _ _ _ z => liftT_imp i z
theorem DI.imp {tg : Expr} {t t' : DTI} (h : DI X T W tg e t) (i : ∀ r S Q E, t' r S Q E → t r S Q E) : DI X T W tg e t' := PI.imp h fun _ _ _ z => liftI_imp i z
theorem DO.imp {o : Option Expr} {t t' : DTO} (h : DO X T W o t) (i : ∀ r S Q E, t' r S Q E → t r S Q E) : DO X T W o t' := PO.imp h fun _ _ _ z => liftO_imp i z
theorem DS.imp {t t' : DTS} (h : DS X T W st t) (i : ∀ d r S, t' d r S → t d r S) : DS X T W st t' := PS.imp h fun _ _ _ z => liftS_imp i z
theorem DSs.imp {t t' : DTS} (h : DSs X T W sts t) (i : ∀ d r S, t' d r S → t d r S) : DSs X T W sts t' := PSs.imp h fun _ _ _ z => liftS_imp i z
theorem DG.imp {t t' : DTG} (h : DG X T e t) (i : ∀ d r S Q, t' d r S Q → t d r S Q) : DG X T e t' := PG.imp h fun _ _ _ _ ⟨g, r, S, d, Qd, rl, rp, h, hq⟩ => ⟨g, r, S, d, Qd, rl, rp, i _ _ _ _ h, hq⟩
theorem DGs.imp {t t' : List D → Sl → Store → (Sl → Store → Prop) → Prop} (h : DGs X T es t) (i : ∀ d r S Q, t' d r S Q → t d r S Q) : DGs X T es t' := PGs.imp h fun _ _ _ _ ⟨g, r, S, d, Qd, rl, rp, h, hq⟩ => ⟨g, r, S, d, Qd, rl, rp, i _ _ _ _ h, hq⟩
theorem DK.imp {kws : List Keyword} {t t' : DTA} (h : DK X T W kws t) (i : ∀ r S Q E, t' r S Q E → t r S Q E) : DK X T W kws t' := PK.imp h fun _ _ _ z => liftA_imp i z
end

/-! ### expressions -/
section
variable {X : Cx} {T : List (Addr × Str)} {W : WX} {a b c : Expr} {ma mb mc : ME} {pos : Pos} {es rest : List Expr} {mes : MA} {mA mA2 : MT}
def mVar (i : Nat) : ME := fun r S => match r[i]? with
  | some (some d) => .ok d S | _ => .no
def mC (d : D) : ME := fun _ S => .ok d S
theorem me_var {i : Nat} (h : DE X T W a (dVar i)) : DE X T W a (toR (mVar i)) := h.imp fun r S Q E h => by
  unfold toR mVar at h
  split at h
  · rename_i d e; exact ⟨d, e, h⟩
  · exact h.elim
theorem me_c {d : D} (h : DE X T W a (dC d)) : DE X T W a (toR (mC d)) := h
theorem mv (i : Nat) {x : Str} (hN : X.N[i]? = some x := by rfl) (hv : Vis X.env.scope x := by first | exact Or.inl rfl | exact Or.inr (Or.inl rfl) | exact Or.inr (Or.inr rfl)) (hd : (x == ("__debug__" : Str)) = false := by decide)
    (hcd : (x == ("__classdict__" : Str)) = false := by decide) : DE X T W (.Name x pos) (toR (mVar i)) := me_var (dv i hN hv hd hcd)
theorem me_int {i j} : DE X T W (.Constant (.int i) j pos) (toR (mC (.int i))) := me_c de_int
theorem me_bl {i j} : DE X T W (.Constant (.bool i) j pos) (toR (mC (.bl i))) := me_c de_bl
theorem me_non {j} : DE X T W (.Constant .none j pos) (toR (mC .non)) := me_c de_non
theorem me_str {i j} : DE X T W (.Constant (.str i) j pos) (toR (mC (.str i))) := me_c de_str
theorem me_adr {x : Str} (hg : Gl X x) (hm : X.mg x = some (.ref (He.ga X.K x))) (hd : (x == ("__debug__" : Str)) = false := by decide) : DE X T W (.Name x pos) (toR (mC (.adr x))) := me_c (de_adr hg hm hd)
theorem me_ty {x : Str} {n : String} (hg : Gl X x) (hm : X.mg x = none) (hv : bootBuiltins x = some (.type n)) (hn : x ≠ "__name__" := by decide) (hd : (x == ("__debug__" : Str)) = false := by decide) : DE X T W (.Name x pos) (toR (mC (.ty n))) := me_c (de_ty hg hm hv hn hd)
theorem me_gint {x : Str} {i : Int} {t : Tok} (hg : Gl X x) (hm : X.mg x = some (.int i t)) (hd : (x == ("__debug__" : Str)) = false := by decide) : DE X T W (.Name x pos) (toR (mC (.int i))) := me_c (de_gint hg hm hd)
theorem me_gstr {x : Str} {i : Str} {t : Tok} (hg : Gl X x) (hm : X.mg x = some (.str i t)) (hd : (x == ("__debug__" : Str)) = false := by decide) : DE X T W (.Name x pos) (toR (mC (.str i))) := me_c (de_gstr hg hm hd)
/-- an operator -/
noncomputable def mOp (f : Store → D → D → D → Prop) (ma mb : ME) : ME := fun r S => (ma r S).bind fun x S1 => (mb r S1).bind fun y S2 => pk1 (f S2 x y) S2
theorem mOp_wp {f : Store → D → D → D → Prop} {r : Sl} {S : Store} {Q : DQ} {E : DX} (h : toR (mOp f ma mb) r S Q E) : dOp f (toR ma) (toR mb) r S Q E := by
  unfold toR mOp at h
  rw [R.wp_bind] at h
  refine h.imp fun x S1 h => ?_
  rw [R.wp_bind] at h
  exact h.imp fun y S2 h => pk1_wp h
theorem me_op {op : Operator} {f : Store → D → D → D → Prop} (ho : OpR X (binaryOp op) (rD X.K T f)) (ha : DE X T W a (toR ma)) (hb : DE X T W b (toR mb)) : DE X T W (.BinOp a op b pos) (toR (mOp f ma mb)) := (de_op ho ha hb).imp fun _ _ _ _ h => mOp_wp h
theorem me_cmp {op : CmpOp} {f : Store → D → D → D → Prop} (ho : OpR X (compareOp op) (rD X.K T f)) (ha : DE X T W a (toR ma)) (hb : DE X T W b (toR mb)) (hm : behindInMarks op b = false) : DE X T W (.Compare a [op] [b] pos) (toR (mOp f ma mb)) := (de_cmp ho ha hb hm).imp fun _ _ _ _ h => mOp_wp h
theorem me_ix (ha : DE X T W a (toR ma)) (hb : DE X T W b (toR mb)) (hs : PlainIx b) : DE X T W (.Subscript a b pos) (toR (mOp fIx ma mb)) := (de_ix ha hb hs).imp fun _ _ _ _ h => mOp_wp h
/-- one operand -/
noncomputable def mUn (f : Store → D → D → Prop) (ma : ME) : ME := fun r S => (ma r S).bind fun x S1 => pk1 (f S1 x) S1
theorem me_un {op : UnaryOp} {f : Store → D → D → Prop} (ho : UnR X (unaryOp op) (rDU X.K T f)) (ha : DE X T W a (toR ma)) : DE X T W (.UnaryOp op a pos) (toR (mUn f ma)) := (de_un ho ha).imp fun r S Q E h => by
  unfold toR mUn at h
  rw [R.wp_bind] at h
  exact h.imp fun x S1 h => pk1_wp h
/-! tests -/
def asB (d : D) (S : Store) : R Bool := match d with
  | .bl c => .ok c S | _ => .no
@[simp] theorem asB_bl {c : Bool} {S : Store} : asB (.bl c) S = .ok c S := rfl
theorem asB_wp {d : D} {S : Store} {Q : Bool → Store → Prop} {E : DX} (h : (asB d S).wp Q E) : ∃ c, d = .bl c ∧ Q c S := by
  cases d <;> first | exact ⟨_, rfl, h⟩ | exact h.elim
def mB (m : ME) : MT := fun r S => (m r S).bind asB
theorem mB_wp {m : ME} {r : Sl} {S : Store} {Q : Bool → Store → Prop} {E : DX} (h : toR (mB m) r S Q E) : dB (toR m) r S Q E := by
  unfold toR mB at h
  rw [R.wp_bind] at h
  exact h.imp fun x S1 h => asB_wp h
theorem mt_val (h : DE X T W a (toR ma)) (he : ∀ whole, isTrue a X.env whole = (do let v ← whole; standAt a.pos; holding [v] (truthy v)) := by intro _; rfl) : DT X T W a (toR (mB ma)) := (dt_val h he).imp fun _ _ _ _ h => mB_wp h
theorem mt_cmp {op : CmpOp} {f : Store → D → D → D → Prop} (ho : OpR X (compareOp op) (rD X.K T f)) (ha : DE X T W a (toR ma)) (hb : DE X T W b (toR mb)) (hm : behindInMarks op b = false) : DT X T W (.Compare a [op] [b] pos) (toR (mB (mOp f ma mb))) :=
  (dt_cmp ho ha hb hm).imp fun r S Q E h => (show dB (toR (mOp f ma mb)) r S Q E from mB_wp h) |> fun h => mOp_wp h
def mAnd (t u : MT) : MT := fun r S => (t r S).bind fun c S1 => if c = true then u r S1 else .ok false S1
def mOr (t u : MT) : MT := fun r S => (t r S).bind fun c S1 => if c = true then .ok true S1 else u r S1
def mNot (t : MT) : MT := fun r S => (t r S).bind fun c S1 => .ok (!c) S1
theorem mw_and1 (ha : DT X T W a (toR mA)) : DW X T W (.BoolOp .And [a] pos) (toR mA) := dw_and1 ha
theorem mw_or1 (ha : DT X T W a (toR mA)) : DW X T W (.BoolOp .Or [a] pos) (toR mA) := dw_or1 ha
theorem mw_and (ha : DT X T W a (toR mA)) (hb : DW X T W (.BoolOp .And (b :: rest) pos) (toR mA2)) : DW X T W (.BoolOp .And (a :: b :: rest) pos) (toR (mAnd mA mA2)) := (dw_and ha hb).imp fun r S Q E h => by
  unfold toR mAnd at h
  rw [R.wp_bind] at h
  refine h.imp fun x S1 h => ?_
  cases x <;> simpa [toR] using h
theorem mw_or (ha : DT X T W a (toR mA)) (hb : DW X T W (.BoolOp .Or (b :: rest) pos) (toR mA2)) : DW X T W (.BoolOp .Or (a :: b :: rest) pos) (toR (mOr mA mA2)) := (dw_or ha hb).imp fun r S Q E h => by
  unfold toR mOr at h
  rw [R.wp_bind] at h
  refine h.imp fun x S1 h => ?_
  cases x <;> simpa [toR] using h
theorem mt_not (ha : DT X T W a (toR mA)) : DT X T W (.UnaryOp .Not a pos) (toR (mNot mA)) := (dt_not ha).imp fun r S Q E h => by
  unfold toR mNot at h
  rw [R.wp_bind] at h
  exact h
theorem mw_dt {e : Expr} {t : MT} (h : DW X T W e (toR t)) : DT X T W e (toR t) := h.dt
def mAndV (t u : ME) : ME := fun r S => (t r S).bind fun x S1 => (asB x S1).bind fun c S1 => if c = true then u r S1 else .ok (.bl false) S1
def mOrV (t u : ME) : ME := fun r S => (t r S).bind fun x S1 => (asB x S1).bind fun c S1 => if c = true then .ok (.bl true) S1 else u r S1
def mNotV (t : ME) : ME := fun r S => (t r S).bind fun x S1 => (asB x S1).bind fun c S1 => .ok (.bl (!c)) S1
theorem me_one {op} (h : DE X T W a (toR ma)) : DE X T W (.BoolOp op [a] pos) (toR ma) := de_one h
theorem me_and (ha : DE X T W a (toR ma)) (hb : DE X T W (.BoolOp .And (b :: rest) pos) (toR mb)) : DE X T W (.BoolOp .And (a :: b :: rest) pos) (toR (mAndV ma mb)) := (de_and ha hb).imp fun r S Q E h => by
  unfold toR mAndV at h
  rw [R.wp_bind] at h
  refine h.imp fun x S1 h => ?_
  rw [R.wp_bind] at h
  obtain ⟨c, rfl, h⟩ := asB_wp h
  exact ⟨c, rfl, by cases c <;> simpa [toR] using h⟩
theorem me_or (ha : DE X T W a (toR ma)) (hb : DE X T W (.BoolOp .Or (b :: rest) pos) (toR mb)) : DE X T W (.BoolOp .Or (a :: b :: rest) pos) (toR (mOrV ma mb)) := (de_or ha hb).imp fun r S Q E h => by
  unfold toR mOrV at h
  rw [R.wp_bind] at h
  refine h.imp fun x S1 h => ?_
  rw [R.wp_bind] at h
  obtain ⟨c, rfl, h⟩ := asB_wp h
  exact ⟨c, rfl, by cases c <;> simpa [toR] using h⟩
theorem me_not (ha : DE X T W a (toR ma)) : DE X T W (.UnaryOp .Not a pos) (toR (mNotV ma)) := (de_not ha).imp fun r S Q E h => by
  unfold toR mNotV at h
  rw [R.wp_bind] at h
  refine h.imp fun x S1 h => ?_
  rw [R.wp_bind] at h
  exact asB_wp h
def mIf (t : MT) (u v : ME) : ME := fun r S => (t r S).bind fun c S1 => if c = true then u r S1 else v r S1
theorem me_ifExp (hc : DT X T W c (toR mA)) (ha : DE X T W a (toR ma)) (hb : DE X T W b (toR mb)) : DE X T W (.IfExp c a b pos) (toR (mIf mA ma mb)) := (de_ifExp hc ha hb).imp fun r S Q E h => by
  unfold toR mIf at h
  rw [R.wp_bind] at h
  refine h.imp fun x S1 h => ?_
  cases x <;> simpa [toR] using h
noncomputable def mChain (f f' : Store → D → D → D → Prop) (ma mb mc : ME) : ME := fun r S => (ma r S).bind fun x S1 => (mb r S1).bind fun y S2 => (pk1 (f S2 x y) S2).bind fun k S2 => (asB k S2).bind fun k S2 =>
  if k = true then (mc r S2).bind fun z S3 => pk1 (f' S3 y z) S3 else .ok (.bl false) S2
theorem mChain_wp {f f' : Store → D → D → D → Prop} {r : Sl} {S : Store} {Q : DQ} {E : DX} (h : toR (mChain f f' ma mb mc) r S Q E) : dChain f f' (toR ma) (toR mb) (toR mc) r S Q E := by
  unfold toR mChain at h
  rw [R.wp_bind] at h
  refine h.imp fun x S1 h => ?_
  rw [R.wp_bind] at h
  refine h.imp fun y S2 h => ?_
  rw [R.wp_bind] at h
  obtain ⟨z, hz, h⟩ := pk1_wp h
  rw [R.wp_bind] at h
  obtain ⟨k, rfl, h2⟩ := asB_wp h
  refine ⟨k, hz, ?_⟩
  cases k with
  | false => simpa using h2
  | true =>
    simp only [if_true] at h2 ⊢
    rw [R.wp_bind] at h2
    exact h2.imp fun z S3 h => pk1_wp h
theorem me_chain {op op' : CmpOp} {f f' : Store → D → D → D → Prop} (ho : OpR X (compareOp op) (rD X.K T f)) (ho' : OpR X (compareOp op') (rD X.K T f')) (ha : DE X T W a (toR ma)) (hb : DE X T W b (toR mb)) (hc : DE X T W c (toR mc))
    (hm : lastMarks [op, op'] [b, c] = false := by with_unfolding_all rfl) : DE X T W (.Compare a [op, op'] [b, c] pos) (toR (mChain f f' ma mb mc)) := (de_chain ho ho' ha hb hc hm).imp fun _ _ _ _ h => mChain_wp h
theorem mt_chain {op op' : CmpOp} {f f' : Store → D → D → D → Prop} (ho : OpR X (compareOp op) (rD X.K T f)) (ho' : OpR X (compareOp op') (rD X.K T f')) (ha : DE X T W a (toR ma)) (hb : DE X T W b (toR mb)) (hc : DE X T W c (toR mc))
    (hm : lastMarks [op, op'] [b, c] = false := by with_unfolding_all rfl) : DT X T W (.Compare a [op, op'] [b, c] pos) (toR (mB (mChain f f' ma mb mc))) := (dt_chain ho ho' ha hb hc hm).imp fun r S Q E h => (show dB (toR (mChain f f' ma mb mc)) r S Q E from mB_wp h) |> fun h => mChain_wp h
/-! lists of arguments, displays -/
def mNil : MA := fun _ S => .ok [] S
def mCons (t : ME) (u : MA) : MA := fun r S => (t r S).bind fun d S1 => (u r S1).bind fun ds S2 => .ok (d :: ds) S2
theorem ma_nil : DA X T W [] (toR mNil) := da_nil
theorem mCons_wp {r : Sl} {S : Store} {Q : List D → Store → Prop} {E : DX} (h : toR (mCons ma mes) r S Q E) : dCons (toR ma) (toR mes) r S Q E := by
  unfold toR mCons at h
  rw [R.wp_bind] at h
  refine h.imp fun x S1 h => ?_
  rw [R.wp_bind] at h
  exact h
theorem ma_cons (ha : DE X T W a (toR ma)) (hr : DA X T W es (toR mes)) (hs : starEach (a :: es) X.env = (false, eval a X.env) :: starEach es X.env := by rfl) : DA X T W (a :: es) (toR (mCons ma mes)) := (da_cons ha hr hs).imp fun _ _ _ _ h => mCons_wp h
theorem mk_nil : DK X T W [] (toR mNil) := dk_nil
theorem mk_cons {kws : List Keyword} {nm : Option Str} {kpos : Pos} (ha : DE X T W a (toR ma)) (hr : DK X T W kws (toR mes)) : DK X T W (⟨nm, a, kpos⟩ :: kws) (toR (mCons ma mes)) := (dk_cons ha hr).imp fun _ _ _ _ h => mCons_wp h
def fitR {α : Type} (n : Nat) (a : α) (S : Store) : R α := if n ≤ sizeLine then .ok a S else .no
theorem fitR_ok {α : Type} {n : Nat} {a : α} {S : Store} (h : n ≤ sizeLine) : fitR n a S = .ok a S := if_pos h
theorem fitR_wp {α : Type} {n : Nat} {a : α} {S : Store} {Q : α → Store → Prop} {E : DX} (h : (fitR n a S).wp Q E) : n ≤ sizeLine ∧ Q a S := by
  unfold fitR at h
  split at h
  · exact ⟨by assumption, h⟩
  · exact h.elim
def mTup (t : MA) : ME := fun r S => (t r S).bind fun ds S1 => fitR ds.length (.tup ds) S1
def mLst (t : MA) : ME := fun r S => (t r S).bind fun ds S1 => fitR ds.length (.lst ds) S1
def mLstS (t : MA) : ME := fun r S => (t r S).bind fun ds S1 => fitR ds.length (.ref S1.length) (S1 ++ [.lst ds])
theorem me_tup {x1} (h : DA X T W es (toR mes)) : DE X T W (.Tuple es x1 pos) (toR (mTup mes)) := (de_tup h).imp fun r S Q E h => by
  unfold toR mTup at h
  rw [R.wp_bind] at h
  exact h.imp fun _ _ h => fitR_wp h
theorem me_lst (h : DA X T W es (toR mes)) : DE X T W (.List es pos) (toR (mLst mes)) := (de_lst h).imp fun r S Q E h => by
  unfold toR mLst at h
  rw [R.wp_bind] at h
  exact h.imp fun _ _ h => fitR_wp h
theorem me_lstS (h : DA X T W es (toR mes)) : DE X T W (.List es pos) (toR (mLstS mes)) := (de_lstS h).imp fun r S Q E h => by
  unfold toR mLstS at h
  rw [R.wp_bind] at h
  exact h.imp fun _ _ h => fitR_wp h
/-! built-ins by data -/
noncomputable def mCB (f : Store → List D → D → Prop) (t : MA) : ME := fun r S => (t r S).bind fun ds S1 => pk1 (f S1 ds) S1
theorem mCB_wp {f : Store → List D → D → Prop} {r : Sl} {S : Store} {Q : DQ} {E : DX} (h : toR (mCB f mes) r S Q E) : dCB f (toR mes) r S Q E := by
  unfold toR mCB at h
  rw [R.wp_bind] at h
  exact h.imp fun _ _ h => pk1_wp h
noncomputable def mBM (ty : String) (f : MF) (to : ME) (t : MA) : ME := fun r S => (to r S).bind fun x S1 => if tyM S1 x = some ty then (t r S1).bind fun ds S2 => pk (f S2 x ds) else .no
theorem mBM_wp {ty : String} {f : MF} {r : Sl} {S : Store} {Q : DQ} {E : DX} (h : toR (mBM ty f ma mes) r S Q E) : dBM ty f (toR ma) (toR mes) r S Q E := by
  unfold toR mBM at h
  rw [R.wp_bind] at h
  refine h.imp fun x S1 h => ?_
  split at h
  · rename_i e
    rw [R.wp_bind] at h
    exact ⟨e, h.imp fun ds S2 h => let ⟨z, S3, h1, h2⟩ := pk_wp h; ⟨z, S3, h1, h2⟩⟩
  · exact h.elim
/-! slices -/
abbrev MO := MR (Option Int)
def mNoPart : MO := fun _ S => .ok none S
def asI (d : D) (S : Store) : R (Option Int) := match d with
  | .int i => .ok (some i) S | _ => .no
@[simp] theorem asI_int {i : Int} {S : Store} : asI (.int i) S = .ok (some i) S := rfl
def mPart (t : ME) : MO := fun r S => (t r S).bind asI
theorem mo_none : DO X T W none (toR mNoPart) := do_none
theorem mo_some (h : DE X T W a (toR ma)) : DO X T W (some a) (toR (mPart ma)) := (do_some h).imp fun r S Q E h => by
  unfold toR mPart at h
  rw [R.wp_bind] at h
  exact h.imp fun x S1 h => by
    cases x <;> first | exact ⟨_, rfl, h⟩ | exact h.elim
noncomputable def mSl (t : ME) (tl th : MO) : ME := fun r S => (t r S).bind fun x S1 => (tl r S1).bind fun l S2 => (th r S2).bind fun u S3 => pk1 (fSl S3 x l u) S3
theorem me_slice {lo hi : Option Expr} {p2 : Pos} {tl th : MO} (he : DE X T W a (toR ma)) (hl : DO X T W lo (toR tl)) (hu : DO X T W hi (toR th)) : DE X T W (.Subscript a (.Slice lo hi none p2) pos) (toR (mSl ma tl th)) := (de_slice he hl hu).imp fun r S Q E h => by
  unfold toR mSl at h
  rw [R.wp_bind] at h
  refine h.imp fun x S1 h => ?_
  rw [R.wp_bind] at h
  refine h.imp fun x S1 h => ?_
  rw [R.wp_bind] at h
  exact h.imp fun x S1 h => pk1_wp h
/-! calls of defs -/
def mCall (mf : MF1) (n : Nat) (t : MA) : ME := fun r S => (t r S).bind fun ds S1 => if ds.length = n then mf ds S1 else .no
theorem mCall_wp {mf : MF1} {n : Nat} {r : Sl} {S : Store} {Q : DQ} {E : DX} (h : toR (mCall mf n mes) r S Q E) : dCall (toSp mf) n (toR mes) r S Q E := by
  unfold toR mCall at h
  rw [R.wp_bind] at h
  refine h.imp fun x S1 h => ?_
  split at h
  · exact ⟨by assumption, h⟩
  · exact h.elim
def mCallK (mf : MF1) (m n l : Nat) (ix : List Nat) (t tk : MA) : ME := fun r S => (t r S).bind fun ds S1 => (tk r S1).bind fun zs S2 => if ds.length = n ∧ zs.length = l ∧ (pick ix (ds ++ zs)).length = m then mf (pick ix (ds ++ zs)) S2 else .no
theorem mCallK_wp {mf : MF1} {m n l : Nat} {ix : List Nat} {mk : MA} {r : Sl} {S : Store} {Q : DQ} {E : DX} (h : toR (mCallK mf m n l ix mes mk) r S Q E) : dCallK (toSp mf) m n l ix (toR mes) (toR mk) r S Q E := by
  unfold toR mCallK at h
  rw [R.wp_bind] at h
  refine h.imp fun x S1 h => ?_
  rw [R.wp_bind] at h
  refine h.imp fun x S1 h => ?_
  split at h
  · rename_i e; exact ⟨e.1, e.2.1, e.2.2, h⟩
  · exact h.elim
/-! _law_try(lambda: e) -/
def tellX (x : Xc) : Option (D × D) := match xlook x "code" with
  | some (.str s) => (match fldA s with
    | some none => some (.str s, .non)
    | some (some n) => (xlook x n).map fun f => (.str s, f)
    | none => none)
  | _ => none
theorem tellX_ok {x : Xc} {c f : D} (h : tellX x = some (c, f)) : tellD x c f := by
  unfold tellX at h
  split at h
  · rename_i s e
    split at h
    · rename_i e2; cases h; exact ⟨s, rfl, e, .inl ⟨e2, rfl⟩⟩
    · rename_i n e2
      cases q : xlook x n with
      | none => rw [q] at h; cases h
      | some y => rw [q] at h; cases h; exact ⟨s, rfl, e, .inr ⟨n, e2, q⟩⟩
    · cases h
  · cases h
def mTry (ok : List Str) (m : ME) : ME := fun r S => match m r S with
  | .ok d S1 => .ok (.tup [.str "value", d]) S1
  | .ex x S1 => if x.cls ∈ ok then (match tellX x with
    | some (c, f) => .ok (.tup [c, f]) S1
    | none => .no) else .no
  | .no => .no
theorem mTry_wp {ok : List Str} {r : Sl} {S : Store} {Q : DQ} {E : DX} (h : toR (mTry ok ma) r S Q E) : dTry (fun c => c ∈ ok) (toR ma) r S Q E := by
  unfold toR mTry at h
  unfold dTry toR
  cases q : ma r S with
  | ok d S1 => rw [q] at h; exact h
  | ex x S1 =>
    rw [q] at h
    simp only at h
    split at h
    · rename_i hc
      split at h
      · rename_i c f e; exact ⟨hc, c, f, tellX_ok e, h⟩
      · exact h.elim
    · exact h.elim
  | no => rw [q] at h; exact h.elim
end
end DL
namespace DL
open PySem PySem.Spec PyProof.Rows L2
section
variable {X : Cx} {T : List (Addr × Str)} {W : WX} {a b c tg : Expr} {ma mb mc : ME} {pos : Pos} {es rest : List Expr} {mes : MA} {mA mA2 : MT} {st : Stmt} {sts sts' : List Stmt} {ms mt mu : MS} {g : MG} {gs : MGs}
/-! ### what is walked -/
noncomputable def mSeqI (t : ME) : MA := fun r S => (t r S).bind fun d S1 => pk1 (fun ds => itv d = some ds) S1
theorem mi_seq (h : DE X T W a (toR ma)) : DI X T W tg a (toR (mSeqI ma)) := (di_seq h).imp fun r S Q E h => by
  unfold toR mSeqI at h
  rw [R.wp_bind] at h
  exact h.imp fun d S1 h => pk1_wp h
noncomputable def mIA (f : Store → List D → List D → Prop) (t : MA) : MA := fun r S => (t r S).bind fun ds S1 => pk1 (f S1 ds) S1
theorem mIA_wp {f : Store → List D → List D → Prop} {r : Sl} {S : Store} {Q : List D → Store → Prop} {E : DX} (h : toR (mIA f mes) r S Q E) : (mes r S).wp (fun ds S1 => ∃ z, f S1 ds z ∧ Q z S1) E := by
  unfold toR mIA at h
  rw [R.wp_bind] at h
  exact h.imp fun d S1 h => pk1_wp h
def fRng1 (S : Store) (ds : List D) (z : List D) : Prop := ∃ j : Int, ds = [.int j] ∧ -(2 ^ 62) ≤ j ∧ j < 2 ^ 62 ∧ z = rngD 0 j.toNat
def fRng2 (S : Store) (ds : List D) (z : List D) : Prop := ∃ i j : Int, ds = [.int i, .int j] ∧ (-(2 ^ 62) ≤ i ∧ i < 2 ^ 62 ∧ -(2 ^ 62) ≤ j ∧ j < 2 ^ 62) ∧ z = rngD i (j - i).toNat
def fEnum (S : Store) (ds : List D) (z : List D) : Prop := ∃ xs, ds = [.lst xs] ∧ z = enumD xs
def fEnumX (S : Store) (ds : List D) (z : List D) : Prop := ∃ x : Str, ds = [.str x] ∧ z = enumX x
def fZip (S : Store) (ds : List D) (z : List D) : Prop := ∃ xs ys, (ds = [.lst xs, .lst ys] ∨ ds = [.tup xs, .tup ys]) ∧ z = zipD xs ys
theorem mi_rng1 {p : Pos} (hg : Gl X "range") (hm : X.mg "range" = none) (ha : DA X T W [a] (toR mes)) (hs : starEach [a] X.env = [(false, eval a X.env)] := by rfl) : DI X T W tg (.Call (.Name "range" p) [a] [] pos) (toR (mIA fRng1 mes)) := (di_rng1 hg hm ha hs).imp fun r S Q E h => (mIA_wp h).imp fun ds S1 ⟨z, ⟨j, e, h1, h2, e2⟩, q⟩ => ⟨j, e, h1, h2, e2 ▸ q⟩
theorem mi_rng2 {p : Pos} (hg : Gl X "range") (hm : X.mg "range" = none) (ha : DA X T W [a, b] (toR mes)) (hs : starEach [a, b] X.env = [(false, eval a X.env), (false, eval b X.env)] := by rfl) (hs2 : starEach [b] X.env = [(false, eval b X.env)] := by rfl) : DI X T W tg (.Call (.Name "range" p) [a, b] [] pos) (toR (mIA fRng2 mes)) := (di_rng2 hg hm ha hs hs2).imp fun r S Q E h => (mIA_wp h).imp fun ds S1 ⟨z, ⟨i, j, e, h1, e2⟩, q⟩ => ⟨i, j, e, h1, e2 ▸ q⟩
/-! ### targets -/
def mgName (i : Nat) : MG := fun d r S => .ok (r.set i (some d)) S
def mgNil : MGs := fun ds r S => match ds with
  | [] => .ok r S | _ => .no
def mgCons (g : MG) (gs : MGs) : MGs := fun ds r S => match ds with
  | d :: q => (g d r S).bind fun r' S' => gs q r' S' | [] => .no
def mgTup (n : Nat) (gs : MGs) : MG := fun d r S => match d with
  | .tup ds => if ds.length = n then gs ds r S else .no | _ => .no
theorem mg_name {i : Nat} {x : Str} (hN : X.N.Nodup) (hi : X.N[i]? = some x) (hx : Loc X.env.scope x) (hf : X.fn x = true ∨ X.env.scope.names.lookup x = some .local := by first | exact .inl rfl | exact .inr rfl | assumption) : DG X T (.Name x pos) (toG (mgName i)) := dg_name hN hi hx hf
theorem mgs_nil : DGs X T [] (toGs mgNil) := dgs_nil.imp fun ds r S Q h => by
  unfold toGs mgNil at h
  cases ds with
  | nil => exact ⟨rfl, h⟩
  | cons d q => exact h.elim
theorem mgs_cons {e : Expr} (h1 : DG X T e (toG g)) (h2 : DGs X T es (toGs gs)) (hs : (assignEach (e :: es) X.env).map (·.2) = assign e X.env :: (assignEach es X.env).map (·.2) := by rfl) : DGs X T (e :: es) (toGs (mgCons g gs)) := (dgs_cons h1 h2 hs).imp fun ds r S Q h => by
  unfold toGs mgCons at h
  cases ds with
  | nil => exact h.elim
  | cons d q =>
    simp only at h
    rw [R.wp_bind] at h
    exact ⟨d, q, rfl, h⟩
theorem mgTup_wp {n : Nat} {d : D} {r : Sl} {S : Store} {Q : Sl → Store → Prop} (h : toG (mgTup n gs) d r S Q) : dgTup n (toGs gs) d r S Q := by
  unfold toG mgTup at h
  cases d with
  | tup ds =>
    simp only at h
    split at h
    · rename_i e; exact ⟨ds, rfl, e, h⟩
    · exact h.elim
  | _ => exact h.elim
theorem mg_tup {k n : Nat} (hc : X.calm = true) (h : DGs X T es (toGs gs)) (hn : (assignEach es X.env).length = n := by rfl) (hst : (assignEach es X.env).findIdx? (·.1) = none := by rfl) : DG X T (.Tuple es k pos) (toG (mgTup n gs)) := (dg_tup hc h hn hst).imp fun _ _ _ _ h => mgTup_wp h
/-- xs[i] = .. of a list of the store -/
def setIx (x y d : D) (S : Store) : R Unit := match x, y with
  | .ref n, .int k => (match S[n]? with
    | some (.lst ds) => (match ixN ds.length k with
      | some j => .ok () (S.set n (.lst (ds.set j d)))
      | none => .no)
    | _ => .no)
  | _, _ => .no
theorem setIx_wp {x y d : D} {S : Store} {Q : Unit → Store → Prop} {E : DX} (h : (setIx x y d S).wp Q E) : ∃ (n : Nat) (ds : List D) (k : Int) (j : Nat), x = .ref n ∧ y = .int k ∧ S[n]? = some (.lst ds) ∧ ixN ds.length k = some j ∧ Q () (S.set n (.lst (ds.set j d))) := by
  unfold setIx at h
  split at h
  · rename_i n k
    split at h
    · rename_i ds e
      split at h
      · rename_i j e2; exact ⟨n, ds, k, j, rfl, rfl, e, e2, h⟩
      · exact h.elim
    · exact h.elim
  · exact h.elim
def mgSub (to ti : ME) : MG := fun d r S => ((to r S).nox.bind fun x S1 => (ti r S1).nox.bind fun y S2 => (setIx x y d S2)).bind fun _ S3 => .ok r S3
theorem mgSub_wp {to ti : ME} {d : D} {r : Sl} {S : Store} {Q : Sl → Store → Prop} (h : toG (mgSub to ti) d r S Q) : dgSub (toR to) (toR ti) d r S Q := by
  unfold toG mgSub at h
  rw [R.wp_bind, R.wp_bind] at h
  refine (R.wp_nox h).imp fun x S1 h => ?_
  rw [R.wp_bind] at h
  exact (R.wp_nox h).imp fun y S2 h => setIx_wp h
/-! ### statements -/
def mNext : MS := fun r S => .nx r S
def mSeq (t u : MS) : MS := fun r S => match t r S with
  | .nx r' S' => u r' S' | f => f
theorem mSeq_wp {d : DEnds} {r : Sl} {S : Store} (h : toS (mSeq mt mu) d r S) : dSeq (toS mt) (toS mu) d r S := by
  unfold toS mSeq at h
  unfold dSeq toS
  cases q : mt r S <;> rw [q] at h <;> exact h
theorem mss_nil : DSs X T W [] (toS mNext) := dss_nil
theorem mss_cons (h1 : DS X T W st (toS mt)) (h2 : DSs X T W sts (toS mu)) : DSs X T W (st :: sts) (toS (mSeq mt mu)) := (dss_cons h1 h2).imp fun _ _ _ h => mSeq_wp h
theorem mss_one (h1 : DS X T W st (toS mt)) : DSs X T W [st] (toS mt) := dss_one h1
theorem ms_pass : DS X T W (.Pass pos) (toS mNext) := ds_pass
def mBreak : MS := fun r S => .bk r S
def mCont : MS := fun r S => .ct r S
theorem ms_break : DS X T W (.Break pos) (toS mBreak) := ds_break
theorem ms_continue : DS X T W (.Continue pos) (toS mCont) := ds_continue
def mExpr (t : ME) : MS := fun r S => (t r S).fl r fun _ S1 => .nx r S1
theorem ms_expr (h : DE X T W a (toR ma)) (hs : swapsWith a none pos.line X.env = pure false := by rfl) : DS X T W (.Expr a pos) (toS (mExpr ma)) := (ds_expr h hs).imp fun d r S h => by
  unfold toS mExpr at h
  rw [wp_fl] at h; exact h
def mRet (t : ME) : MS := fun r S => (t r S).fl r fun x S1 => .rt x S1
theorem ms_ret (h : DE X T W a (toR ma)) : DS X T W (.Return (some a) pos) (toS (mRet ma)) := (ds_ret h).imp fun d r S h => by
  unfold toS mRet at h
  rw [wp_fl] at h; exact h
def mIfS (c : MT) (t u : MS) : MS := fun r S => (c r S).fl r fun b S1 => if b = true then t r S1 else u r S1
theorem ms_if (hc : DT X T W c (toR mA)) (ha : DSs X T W sts (toS mt)) (hb : DSs X T W sts' (toS mu)) : DS X T W (.If c sts sts' pos) (toS (mIfS mA mt mu)) := (ds_if hc ha hb).imp fun d r S h => by
  unfold toS mIfS at h
  rw [wp_fl] at h
  refine h.imp fun b S1 h => ?_
  cases b <;> simpa [toS] using h
def gFl (m : R Sl) : Fl := match m with
  | .ok r S => .nx r S | _ => .no
theorem gFl_wp {m : R Sl} {d : DEnds} (h : (gFl m).wp d) : m.wp d.nx EF := by cases m <;> first | exact h | exact h.elim
def mAsg (t : ME) (g : MG) : MS := fun r S => (t r S).fl r fun x S1 => gFl (g x r S1)
theorem mAsg_wp {d : DEnds} {r : Sl} {S : Store} (h : toS (mAsg ma g) d r S) : dAsg (toR ma) (toG g) d r S := by
  unfold toS mAsg at h
  rw [wp_fl] at h
  exact h.imp fun x S1 h => gFl_wp h
theorem ms_asg {tg : Expr} (he : DE X T W a (toR ma)) (hg : DG X T tg (toG g)) (hs : swapsWithSole [tg] a pos.line X.env = pure false := by rfl) (hw : swappedStores [tg] a X.env = pure none := by rfl)
    (h1 : (assignEach [tg] X.env).map (·.2) = [assign tg X.env] := by rfl) : DS X T W (.Assign [tg] a pos) (toS (mAsg ma g)) := (ds_asg he hg hs hw h1).imp fun _ _ _ h => mAsg_wp h
def mSet (i : Nat) (t : ME) : MS := fun r S => (t r S).fl r fun x S1 => .nx (r.set i (some x)) S1
theorem mSet_wp {i : Nat} {d : DEnds} {r : Sl} {S : Store} (h : toS (mSet i ma) d r S) : dAsg (toR ma) (dgName i) d r S := by
  unfold toS mSet at h
  rw [wp_fl] at h
  exact h
theorem ms_set {i : Nat} {x : Str} {pos' : Pos} (hN : X.N.Nodup) (hi : X.N[i]? = some x) (hx : Loc X.env.scope x) (he : DE X T W a (toR ma)) (hs : swapsWith a (some (.Name x pos')) pos.line X.env = pure false := by rfl) (hf : X.fn x = true ∨ X.env.scope.names.lookup x = some .local := by first | exact .inl rfl | exact .inr rfl | assumption) :
    DS X T W (.Assign [.Name x pos'] a pos) (toS (mSet i ma)) := (ds_set hN hi hx he hs hf).imp fun _ _ _ h => mSet_wp h
def mPar (i j : Nat) (t : MA) : MS := fun r S => (t r S).fl r fun ds S1 => match ds with
  | [v, w] => .nx ((r.set i (some v)).set j (some w)) S1 | _ => .no
theorem ms_par {i j : Nat} {x y : Str} {px py pt : Pos} {kt k2 pt2} (hc : X.calm = true) (hN : X.N.Nodup) (hi : X.N[i]? = some x) (hj : X.N[j]? = some y) (hij : i ≠ j)
    (hx : X.env.scope.names.lookup x = some .local) (hy : X.env.scope.names.lookup y = some .local) (ha : DA X T W [a, b] (toR mes))
    (hw : swappedStores [.Tuple [.Name x px, .Name y py] kt pt] (.Tuple [a, b] k2 pt2) X.env = pure (some [x, y]))
    (hs : swapsWithSole [.Tuple [.Name x px, .Name y py] kt pt] (.Tuple [a, b] k2 pt2) pos.line X.env = pure false := by rfl) :
    DS X T W (.Assign [.Tuple [.Name x px, .Name y py] kt pt] (.Tuple [a, b] k2 pt2) pos) (toS (mPar i j mes)) := (ds_par hc hN hi hj hij hx hy ha hw hs).imp fun d r S h => by
  unfold toS mPar at h
  rw [wp_fl] at h
  refine h.imp fun ds S1 h => ?_
  match ds, h with
  | [v, w], h => exact ⟨v, w, rfl, h⟩
  | [], h => exact h.elim
  | [_], h => exact h.elim
  | _ :: _ :: _ :: _, h => exact h.elim
noncomputable def mAug (i : Nat) (t : ME) (f : Store → D → D → D → Prop) : MS := fun r S => match r[i]? with
  | some (some x) => (t r S).fl r fun y S1 => (pk1 (f S1 x y) S1).fl r fun z S2 => .nx (r.set i (some z)) S2
  | _ => .no
theorem ms_aug {i : Nat} {x : Str} {op : Operator} {pos' : Pos} {f : Store → D → D → D → Prop} (hN : X.N.Nodup) (hi : X.N[i]? = some x) (hx : Loc X.env.scope x) (he : DE X T W a (toR ma)) (ho : OpR X (inplaceOp op) (rD X.K T f)) (hf : X.fn x = true ∨ X.env.scope.names.lookup x = some .local := by first | exact .inl rfl | exact .inr rfl | assumption) :
    DS X T W (.AugAssign (.Name x pos') op a pos) (toS (mAug i ma f)) := (ds_aug hN hi hx he ho hf).imp fun d r S h => by
  unfold toS mAug at h
  split at h
  · rename_i x e
    rw [wp_fl] at h
    refine ⟨x, e, h.imp fun y S1 h => ?_⟩
    rw [wp_fl] at h
    obtain ⟨z, h1, h2⟩ := pk1_wp h
    exact ⟨z, h1, h2⟩
  · exact h.elim
def mRaise (C : Str) (c : Str) (fs : List Str) (t : MA) : MS := fun r S => (t r S).fl r fun ds S1 => if ds.length = fs.length then .ex ⟨C, xns fs, .str c :: ds.reverse⟩ r S1 else .no
theorem mRaise_wp {C : Str} {c : Str} {fs : List Str} {d : DEnds} {r : Sl} {S : Store} (h : toS (mRaise C c fs mes) d r S) : dRaise C c fs (toR mes) d r S := by
  unfold toS mRaise at h
  rw [wp_fl] at h
  refine h.imp fun ds S1 h => ?_
  split at h
  · exact ⟨by assumption, h⟩
  · exact h.elim
/-! ### forgetting slots -/
def Fl.wipe (w : List Nat) : Fl → Fl
  | .nx r S => .nx (wipeD r w) S | .bk r S => .bk (wipeD r w) S | .ct r S => .ct (wipeD r w) S | f => f
def mWipe (w : List Nat) (t : MS) : MS := fun r S => (t r S).wipe w
theorem Rel.forget {K : PySem.W.Frag} {g : Gh} {r : Sl} {S : Store} {σ : L2.St} {H : Hp} (h : Rel K T g r S σ H) (vs : List Nat) : Rel K T g (wipeD r vs) S σ H :=
  ⟨h.good, by rw [wipeD_len, h.len], fun i d e => h.sl i d (wipeD_some e).1⟩
theorem dss_wipe {t : DTS} (h : DSs X T W sts t) (w : List Nat) : DSs X T W sts (fun d r S => t { d with nx := fun r' S' => d.nx (wipeD r' w) S', bk := fun r' S' => d.bk (wipeD r' w) S', ct := fun r' S' => d.ct (wipeD r' w) S' } r S) := PSs.imp h fun N σ H ⟨g, r, S, d, rl, h, e⟩ =>
  ⟨g, r, S, _, rl, h, ⟨fun r' S' g' σ' H' q x rl' => e.nx _ S' g' σ' H' q x (rl'.forget w), e.rt, e.ex, fun r' S' g' σ' H' q x rl' => e.bk _ S' g' σ' H' q x (rl'.forget w), fun r' S' g' σ' H' q x rl' => e.ct _ S' g' σ' H' q x (rl'.forget w)⟩⟩
theorem mWipe_wp {w : List Nat} {d : DEnds} {r : Sl} {S : Store} (h : toS (mWipe w mt) d r S) : toS mt { d with nx := fun r' S' => d.nx (wipeD r' w) S', bk := fun r' S' => d.bk (wipeD r' w) S', ct := fun r' S' => d.ct (wipeD r' w) S' } r S := by
  unfold toS mWipe at h
  unfold toS
  cases q : mt r S <;> rw [q] at h <;> exact h
theorem mss_wipe (w : List Nat) (h : DSs X T W sts (toS mt)) : DSs X T W sts (toS (mWipe w mt)) := (dss_wipe h w).imp fun _ _ _ h => mWipe_wp h
theorem ds_wipe {t : DTS} (h : DS X T W st t) (w : List Nat) : DS X T W st (fun d r S => t { d with nx := fun r' S' => d.nx (wipeD r' w) S', bk := fun r' S' => d.bk (wipeD r' w) S', ct := fun r' S' => d.ct (wipeD r' w) S' } r S) := PS.imp h fun N σ H ⟨g, r, S, d, rl, h, e⟩ =>
  ⟨g, r, S, _, rl, h, ⟨fun r' S' g' σ' H' q x rl' => e.nx _ S' g' σ' H' q x (rl'.forget w), e.rt, e.ex, fun r' S' g' σ' H' q x rl' => e.bk _ S' g' σ' H' q x (rl'.forget w), fun r' S' g' σ' H' q x rl' => e.ct _ S' g' σ' H' q x (rl'.forget w)⟩⟩
theorem ms_wipe (w : List Nat) (h : DS X T W st (toS mt)) : DS X T W st (toS (mWipe w mt)) := (ds_wipe h w).imp fun _ _ _ h => mWipe_wp h
/-- forgotten ahead -/
def mFore (w : List Nat) (t : MS) : MS := fun r S => t (wipeD r w) S
theorem ms_fore (w : List Nat) (h : DS X T W st (toS mt)) : DS X T W st (toS (mFore w mt)) := PS.imp h fun N σ H ⟨g, r, S, d, rl, h, e⟩ => ⟨g, wipeD r w, S, d, rl.forget w, h, e⟩
/-! ### for -/
def mForL (g : MG) (b : MS) : List D → Sl → Store → Fl
  | [], r, S => .nx r S
  | x :: xs, r, S => match g x r S with
    | .ok r1 S1 => (match b r1 S1 with
      | .nx r2 S2 => mForL g b xs r2 S2
      | .ct r2 S2 => mForL g b xs r2 S2
      | .bk r2 S2 => .nx r2 S2
      | f => f)
    | _ => .no
def mFor (it : MA) (g : MG) (b : MS) : MS := fun r S => (it r S).fl r fun ds S1 => mForL g b ds r S1
theorem mFor_wp {d : DEnds} {r : Sl} {S : Store} (h : toS (mFor mes g mt) d r S) : dFor (toR mes) (toG g) (toS mt) d r S := by
  unfold toS mFor at h
  rw [wp_fl] at h
  refine h.imp fun ds S1 h => ⟨fun i r S => (mForL g mt (ds.drop i) r S).wp d, h, fun i x r S hx hi => ?_, fun r S h => ?_⟩
  · have e : ds.drop i = x :: ds.drop (i + 1) := by
      obtain ⟨hl, e⟩ := List.getElem?_eq_some_iff.mp hx
      rw [List.drop_eq_getElem_cons hl, e]
    replace hi : (mForL g mt (ds.drop i) r S).wp d := hi
    rw [e] at hi
    unfold mForL at hi
    unfold toG
    cases q : g x r S with
    | ok r1 S1 =>
      rw [q] at hi
      simp only at hi
      show (mt r1 S1).wp _
      cases q2 : mt r1 S1 <;> rw [q2] at hi <;> exact hi
    | ex y S1 => rw [q] at hi; exact hi.elim
    | no => rw [q] at hi; exact hi.elim
  · replace h : (mForL g mt (ds.drop ds.length) r S).wp d := h
    rw [List.drop_length] at h
    exact h
theorem ms_for (hp : PassesOwn (model X.prog X.w) X.A X.env X.xe) (hc : X.calm = true) (hi : DI X T W tg a (toR mes)) (hg : DG X T tg (toG g)) (hb : DSs X T W sts (toS mt))
    (hs : ∀ x, foldedSetIterable a X.env x = pure x := by intro _; rfl) : DS X T W (.For tg a sts [] pos) (toS (mFor mes g mt)) := (ds_for hp hc hi hg hb hs).imp fun _ _ _ h => mFor_wp h
/-! the slots w are forgotten behind the iterator's making and behind each turn -/
def dForW (w : List Nat) (ti : DTI) (tg : DTG) (tb : DTS) : DTS := fun d r S => ti r S (fun ds S1 => ∃ Iv : Nat → Sl → Store → Prop, Iv 0 (wipeD r w) S1 ∧
  (∀ (i : Nat) x r S, ds[i]? = some x → Iv i r S → tg x r S fun r2 S2 => tb { d with nx := fun r' S' => Iv (i + 1) (wipeD r' w) S', ct := fun r' S' => Iv (i + 1) (wipeD r' w) S', bk := fun r' S' => d.nx (wipeD r' w) S' } r2 S2) ∧ (∀ r S, Iv ds.length r S → d.nx r S)) (fun x S1 => d.ex x r S1)
theorem ds_forW (w : List Nat) {ti : DTI} {dg : DTG} {ts : DTS} (hp : PassesOwn (model X.prog X.w) X.A X.env X.xe) (hc : X.calm = true) (hi : DI X T W tg a ti) (hg : DG X T tg dg) (hb : DSs X T W sts ts)
    (hs : ∀ x, foldedSetIterable a X.env x = pure x := by intro _; rfl) : DS X T W (.For tg a sts [] pos) (dForW w ti dg ts) := PS.imp (ps_for hp hc hi hg hb hs) fun N σ H ⟨g, r, S, d, rl, h, e⟩ => by
  refine ⟨g, r, S, _, _, rl, h, fun ds S1 g1 H1 J ⟨Iv, h0, hst, hen⟩ x1 rl1 wk => ?_, e.wok r σ⟩
  refine ⟨fun i m σ H => m = ds.length - i ∧ i ≤ ds.length ∧ ∃ g' r' S', Rel X.K T g' r' S' σ H ∧ Iv i r' S' ∧ Ext g1 H1 g' H, ⟨ds.length, by simp, Nat.zero_le _, g1, _, S1, rl1.forget w, h0, Ext.refl _ _⟩, ?_⟩
  rintro i m σ' H' ⟨rfl, hi, g', r', S', rl', iv, x'⟩
  obtain ⟨w1, w2⟩ := wk g' H' x'.ex0
  by_cases hlt : i < ds.length
  · obtain ⟨go, yl⟩ := w1 i ds[i] (List.getElem?_eq_getElem hlt)
    refine .inr ⟨go, fun σ2 H2 => ∃ g2 r2 S2, Rel X.K T g2 r2 S2 σ2 H2 ∧ Iv (i + 1) r2 S2 ∧ Ext g1 H1 g2 H2, fun σ2 H2 q => ⟨ds.length - (i + 1), by omega, rfl, hlt, q⟩, fun x H2 y => ?_⟩
    obtain ⟨sm, rp⟩ := yl x H2 y
    have rp := rp S' T rl'.good
    have x2 := x'.trans (Ext.same (g := g') sm)
    refine ⟨g', r', S', ds[i], _, rl'.same sm, rp, hst i ds[i] r' S' (List.getElem?_eq_getElem hlt) iv, fun r3 S3 g3 σ3 H3 q3 x3 rl3 => ?_⟩
    have x13 := x2.trans x3
    refine ⟨g3, r3, S3, _, rl3, q3, ⟨fun r4 S4 g4 σ4 H4 q4 x4 rl4 => ⟨g4, _, S4, rl4.forget w, q4, x13.trans x4⟩, fun d0 S4 g4 H4 v q4 x4 gd rp4 => e.rt d0 S4 g4 H4 v q4 ((x1.trans x13).trans x4) gd rp4,
      fun y r4 S4 g4 σ4 H4 c dd q4 x4 rl4 xr => e.ex y r4 S4 g4 σ4 H4 c dd q4 ((x1.trans x13).trans x4) rl4 xr, fun r4 S4 g4 σ4 H4 q4 x4 rl4 => e.nx _ S4 g4 σ4 H4 q4 ((x1.trans x13).trans x4) (rl4.forget w), fun r4 S4 g4 σ4 H4 q4 x4 rl4 => ⟨g4, _, S4, rl4.forget w, q4, x13.trans x4⟩⟩⟩
  · have e2 : i = ds.length := by omega
    subst e2
    exact .inl ⟨w2, e.nx r' S' g' σ' H' (hen r' S' iv) (x1.trans x') rl'⟩
def mForW (w : List Nat) (it : MA) (g : MG) (b : MS) : MS := fun r S => (it r S).fl r fun ds S1 => mForL g (mWipe w b) ds (wipeD r w) S1
theorem mForW_wp {w : List Nat} {d : DEnds} {r : Sl} {S : Store} (h : toS (mForW w mes g mt) d r S) : dForW w (toR mes) (toG g) (toS mt) d r S := by
  unfold toS mForW at h
  rw [wp_fl] at h
  refine h.imp fun ds S1 h => ⟨fun i r S => (mForL g (mWipe w mt) (ds.drop i) r S).wp d, h, fun i x r S hx hi => ?_, fun r S h => ?_⟩
  · have e : ds.drop i = x :: ds.drop (i + 1) := by
      obtain ⟨hl, e⟩ := List.getElem?_eq_some_iff.mp hx
      rw [List.drop_eq_getElem_cons hl, e]
    replace hi : (mForL g (mWipe w mt) (ds.drop i) r S).wp d := hi
    rw [e] at hi
    unfold mForL at hi
    unfold toG
    cases q : g x r S with
    | ok r1 S1 =>
      rw [q] at hi
      simp only [mWipe] at hi
      show (mt r1 S1).wp _
      cases q2 : mt r1 S1 <;> rw [q2] at hi <;> exact hi
    | ex y S1 => rw [q] at hi; exact hi.elim
    | no => rw [q] at hi; exact hi.elim
  · replace h : (mForL g (mWipe w mt) (ds.drop ds.length) r S).wp d := h
    rw [List.drop_length] at h
    exact h
theorem ms_forW (w : List Nat) (hp : PassesOwn (model X.prog X.w) X.A X.env X.xe) (hc : X.calm = true) (hi : DI X T W tg a (toR mes)) (hg : DG X T tg (toG g)) (hb : DSs X T W sts (toS mt))
    (hs : ∀ x, foldedSetIterable a X.env x = pure x := by intro _; rfl) : DS X T W (.For tg a sts [] pos) (toS (mForW w mes g mt)) := (ds_forW w hp hc hi hg hb hs).imp fun _ _ _ h => mForW_wp h
/-! ### while -/
def mWhN (c : MT) (b : MS) : Nat → MS
  | 0 => fun _ _ => .no
  | n + 1 => fun r S => (c r S).fl r fun t S1 => if t = true then (match b r S1 with
      | .nx r2 S2 => mWhN c b n r2 S2
      | .ct r2 S2 => mWhN c b n r2 S2
      | .bk r2 S2 => .nx r2 S2
      | f => f) else .nx r S1
noncomputable def mWhile (c : MT) (b : MS) : MS := fun r S => open Classical in if h : ∃ n, mWhN c b n r S ≠ .no then mWhN c b h.choose r S else .no
theorem mWhN_mono {c : MT} {b : MS} : ∀ {n : Nat} {r : Sl} {S : Store}, mWhN c b n r S ≠ .no → mWhN c b (n + 1) r S = mWhN c b n r S
  | 0, _, _, h => absurd rfl h
  | n + 1, r, S, h => by
    unfold mWhN at h ⊢
    cases q : c r S with
    | ok t S1 =>
      rw [q] at h
      simp only [R.fl_ok] at h ⊢
      cases t with
      | false => rfl
      | true =>
        simp only [if_true] at h ⊢
        cases q2 : b r S1 with
        | nx r2 S2 => rw [q2] at h; exact mWhN_mono h
        | ct r2 S2 => rw [q2] at h; exact mWhN_mono h
        | _ => rfl
    | ex x S1 => rfl
    | no => rfl
theorem mWhN_le {c : MT} {b : MS} {n : Nat} {r : Sl} {S : Store} (h : mWhN c b n r S ≠ .no) : ∀ k, mWhN c b (n + k) r S = mWhN c b n r S
  | 0 => rfl
  | k + 1 => by
    have e := mWhN_le h k
    rw [← Nat.add_assoc, mWhN_mono (by rw [e]; exact h), e]
theorem mWhile_of {c : MT} {b : MS} {n : Nat} {r : Sl} {S : Store} (h : mWhN c b n r S ≠ .no) : mWhile c b r S = mWhN c b n r S := by
  have e : ∃ n, mWhN c b n r S ≠ .no := ⟨n, h⟩
  unfold mWhile
  rw [dif_pos e]
  have h1 := mWhN_le e.choose_spec n
  have h2 := mWhN_le h e.choose
  rw [Nat.add_comm] at h1
  rw [← h1, h2]
theorem mWhile_at {c : MT} {b : MS} {r : Sl} {S : Store} (h : mWhile c b r S ≠ .no) : ∃ n, mWhile c b r S = mWhN c b n r S := by
  unfold mWhile at h ⊢
  split at h
  · rename_i e; rw [dif_pos e]; exact ⟨_, rfl⟩
  · exact absurd rfl h
/-- one turn -/
theorem mWhile_eq (c : MT) (b : MS) (r : Sl) (S : Store) : mWhile c b r S = ((c r S).fl r fun t S1 => if t = true then (match b r S1 with
      | .nx r2 S2 => mWhile c b r2 S2
      | .ct r2 S2 => mWhile c b r2 S2
      | .bk r2 S2 => .nx r2 S2
      | f => f) else .nx r S1) := by
  by_cases h : ∃ n, mWhN c b n r S ≠ .no
  · obtain ⟨n, h⟩ := h
    cases n with
    | zero => exact absurd rfl h
    | succ n =>
      rw [mWhile_of h]
      unfold mWhN at h ⊢
      cases q : c r S with
      | ok t S1 =>
        rw [q] at h
        simp only [R.fl_ok] at h ⊢
        cases t with
        | false => rfl
        | true =>
          simp only [if_true] at h ⊢
          cases q2 : b r S1 with
          | nx r2 S2 => rw [q2] at h; exact (mWhile_of h).symm
          | ct r2 S2 => rw [q2] at h; exact (mWhile_of h).symm
          | _ => rfl
      | ex x S1 => rfl
      | no => rfl
  · have e : mWhile c b r S = .no := by unfold mWhile; rw [dif_neg h]
    rw [e]
    have all : ∀ n, mWhN c b (n + 1) r S = .no := fun n => Classical.byContradiction fun z => h ⟨_, z⟩
    have none : ∀ r2 S2, (∀ n, mWhN c b n r2 S2 = .no) → mWhile c b r2 S2 = .no := fun r2 S2 z => by
      unfold mWhile; rw [dif_neg]; rintro ⟨n, q⟩; exact q (z n)
    unfold mWhN at all
    cases q : c r S with
    | ok t S1 =>
      rw [q] at all
      simp only [R.fl_ok] at all ⊢
      cases t with
      | false => exact (all 0).symm
      | true =>
        simp only [if_true] at all ⊢
        cases q2 : b r S1 with
        | nx r2 S2 => rw [q2] at all; exact (none _ _ all).symm
        | ct r2 S2 => rw [q2] at all; exact (none _ _ all).symm
        | bk r2 S2 => rw [q2] at all; exact (all 0).symm
        | rt r2 S2 => rw [q2] at all; exact (all 0).symm
        | ex x r2 S2 => rw [q2] at all; exact (all 0).symm
        | no => rfl
    | ex x S1 => rw [q] at all; exact (all 0).symm
    | no => rfl
theorem mWhile_wp {d : DEnds} {r : Sl} {S : Store} (h : toS (mWhile mA mt) d r S) : dWhile (toR mA) (toS mt) d r S := by
  unfold toS at h
  have h0 : mWhile mA mt r S ≠ .no := fun z => by rw [z] at h; exact h.elim
  obtain ⟨n, e⟩ := mWhile_at h0
  rw [e] at h
  refine ⟨fun m r S => (mWhN mA mt m r S).wp d, ⟨n, h⟩, fun m r S h => ?_⟩
  cases m with
  | zero => exact h.elim
  | succ m =>
    unfold mWhN at h
    rw [wp_fl] at h
    refine h.imp fun t S1 h => ?_
    cases t with
    | false => exact h
    | true =>
      simp only [if_true] at h ⊢
      show (mt r S1).wp _
      cases q2 : mt r S1 <;> rw [q2] at h <;> first | exact h | exact ⟨m, Nat.lt_succ_self m, h⟩
theorem ms_while (hp : PassesOwn (model X.prog X.w) X.A X.env X.xe) (hc : DT X T W c (toR mA)) (hb : DSs X T W sts (toS mt)) : DS X T W (.While c sts [] pos) (toS (mWhile mA mt)) := (ds_while hp hc hb).imp fun _ _ _ h => mWhile_wp h
/-! ### list comprehensions -/
def mLcL (g : MG) (t : MT) (e : ME) (r0 : Sl) : List D → Store → R (List D)
  | [], S => .ok [] S
  | x :: xs, S => (g x r0 S).bind fun r1 S1 => (t r1 S1).bind fun k S2 => if k = true then (e r1 S2).bind fun y S3 => (mLcL g t e r0 xs S3).bind fun ys S4 => .ok (y :: ys) S4 else mLcL g t e r0 xs S2
def mLc (it : MA) (g : MG) (t : MT) (e : ME) (vs : List Nat) : ME := fun r S => (it r S).bind fun ds S1 => (mLcL g t e (wipeD r vs) ds S1).nox.bind fun ys S2 => fitR ys.length (.lst ys) S2
theorem mLc_wp {me : ME} {vs : List Nat} {r : Sl} {S : Store} {Q : DQ} {E : DX} (h : toR (mLc mes g mA me vs) r S Q E) : dLc (toR mes) (toG g) (toR mA) (toR me) vs r S Q E := by
  unfold toR mLc at h
  rw [R.wp_bind] at h
  refine h.imp fun ds S1 h => ⟨fun i acc S => (mLcL g mA me (wipeD r vs) (ds.drop i) S).wp (fun ys S' => (acc ++ ys).length ≤ sizeLine ∧ Q (.lst (acc ++ ys)) S') EF, ?_, fun i x acc S hx hi => ?_, fun acc S h => ?_⟩
  · rw [R.wp_bind] at h
    exact (R.wp_nox h).imp fun ys S2 h => fitR_wp h
  · have e : ds.drop i = x :: ds.drop (i + 1) := by
      obtain ⟨hl, e⟩ := List.getElem?_eq_some_iff.mp hx
      rw [List.drop_eq_getElem_cons hl, e]
    replace hi : (mLcL g mA me (wipeD r vs) (ds.drop i) S).wp (fun ys S' => (acc ++ ys).length ≤ sizeLine ∧ Q (.lst (acc ++ ys)) S') EF := hi
    rw [e] at hi
    unfold mLcL at hi
    rw [R.wp_bind] at hi
    unfold toG
    refine hi.imp fun r1 S1 hi => ?_
    rw [R.wp_bind] at hi
    refine hi.imp fun k S2 hi => ?_
    cases k with
    | false => simpa using hi
    | true =>
      simp only [if_true] at hi ⊢
      rw [R.wp_bind] at hi
      refine hi.imp fun y S3 hi => ?_
      rw [R.wp_bind] at hi
      refine ⟨?_, hi.imp fun ys S4 hi => ?_⟩
      · cases q : mLcL g mA me (wipeD r vs) (ds.drop (i + 1)) S3 with
        | ok ys S4 =>
          rw [q] at hi
          have := hi.1
          simp at this
          omega
        | ex x S4 => rw [q] at hi; exact hi.elim
        | no => rw [q] at hi; exact hi.elim
      · simpa using hi
  · replace h : (mLcL g mA me (wipeD r vs) (ds.drop ds.length) S).wp (fun ys S' => (acc ++ ys).length ≤ sizeLine ∧ Q (.lst (acc ++ ys)) S') EF := h
    rw [List.drop_length] at h
    simpa using h.2
def mYes : MT := fun _ S => .ok true S
theorem mts_nil {Y : Cx} : PTs Y [] (liftT Y.K T WF (toR mYes)) := dts_nil
theorem mts_one {Y : Cx} {t : MT} (h : DT Y T WF c (toR t)) : PTs Y [c] (liftT Y.K T WF (toR t)) := dts_one h
theorem TgOk.imp {K : PySem.W.Frag} {vs : List Nat} {gv : TG} {t t' : DTG} (h : TgOk K T vs gv t) (i : ∀ d r S Q, t' d r S Q → t d r S Q) : TgOk K T vs gv t' := fun g r S σ H d v Qd k rl rp h1 hk => h g r S σ H d v Qd k rl rp (i _ _ _ _ h1) hk
theorem mtg_name {K : PySem.W.Frag} {vs : List Nat} {i : Nat} (hi : i ∈ vs) : TgOk K T vs (gName i) (toG (mgName i)) := tgOk_name hi
theorem mtg_pair {K : PySem.W.Frag} {vs : List Nat} {i j : Nat} (hi : i ∈ vs) (hj : j ∈ vs) : TgOk K T vs (gTup K 2 (gCons (gName i) (gCons (gName j) gNil))) (toG (mgTup 2 (mgCons (mgName i) (mgCons (mgName j) mgNil)))) := (tgOk_pair hi hj).imp fun d r S Q h => by
  obtain ⟨ds, rfl, hl, h⟩ := mgTup_wp h
  match ds, hl, h with
  | [x, y], _, h => exact ⟨_, rfl, rfl, x, [y], rfl, y, [], rfl, rfl, h⟩
theorem me_lc {elt iter : Expr} {ifs : List Expr} {scope : Scope} {own : List (Str × Nat)} {gv : TG} {me : ME} (hc : X.calm = true) (hN : X.N.Nodup) (hi : DI X T W tg iter (toR mes)) (ok : BlkOk X.N X.env.scope scope own) (tok : TgOk X.K T (own.map (·.2)) gv (toG g))
    (hg : ∀ (s : Shared) (H : Hp) (C : Addr) (cl : List (Str × Addr)) (fp : List Addr), PG (X.blk s H scope (compEnvC scope cl C X.env) fp) tg gv) (ht : ∀ (s : Shared) (H : Hp) (C : Addr) (cl : List (Str × Addr)) (fp : List Addr), PTs (X.blk s H scope (compEnvC scope cl C X.env) fp) ifs (liftT X.K T WF (toR mA)))
    (he : ∀ (s : Shared) (H : Hp) (C : Addr) (cl : List (Str × Addr)) (fp : List Addr), DE (X.blk s H scope (compEnvC scope cl C X.env) fp) T WF elt (toR me)) (hs : ∀ x, foldedSetIterable iter X.env x = pure x := by intro _; rfl) :
    DE X T W (.ListComp elt [⟨tg, iter, ifs, 0⟩] scope pos) (toR (mLc mes g mA me (own.map (·.2)))) := (de_lc hc hN hi ok tok hg ht he hs).imp fun _ _ _ _ h => mLc_wp h
theorem ms_setLc {i : Nat} {y : Str} {py spos : Pos} {elt iter : Expr} {ifs : List Expr} {scope : Scope} {own : List (Str × Nat)} {gv : TG} {me : ME} (hc : X.calm = true) (hN : X.N.Nodup) (hy : X.N[i]? = some y) (hyl : X.env.scope.names.lookup y = some .local)
    (hsw : swapsWith (.ListComp elt [⟨tg, iter, ifs, 0⟩] scope pos) (some (.Name y py)) spos.line X.env = pure true) (hi : DI X T W tg iter (toR mes)) (ok : BlkOk X.N X.env.scope scope own) (tok : TgOk X.K T (own.map (·.2)) gv (toG g))
    (hg : ∀ (s : Shared) (H : Hp) (C : Addr) (cl : List (Str × Addr)) (fp : List Addr), PG (X.blk s H scope (compEnvC scope cl C X.env) fp) tg gv) (ht : ∀ (s : Shared) (H : Hp) (C : Addr) (cl : List (Str × Addr)) (fp : List Addr), PTs (X.blk s H scope (compEnvC scope cl C X.env) fp) ifs (liftT X.K T WF (toR mA)))
    (he : ∀ (s : Shared) (H : Hp) (C : Addr) (cl : List (Str × Addr)) (fp : List Addr), DE (X.blk s H scope (compEnvC scope cl C X.env) fp) T WF elt (toR me)) (hs : ∀ x, foldedSetIterable iter X.env x = pure x := by intro _; rfl) :
    DS X T W (.Assign [.Name y py] (.ListComp elt [⟨tg, iter, ifs, 0⟩] scope pos) spos) (toS (mSet i (mLc mes g mA me (own.map (·.2))))) := (ds_setLc hc hN hy hyl hsw hi ok tok hg ht he hs).imp fun d r S h => by
  unfold toS mSet at h
  rw [wp_fl] at h
  exact mLc_wp h
end
/-! ### defs -/
def Fl.fin : Fl → R D
  | .nx _ S => .ok .non S | .rt d S => .ok d S | .ex x _ S => .ex x S | _ => .no
theorem frz_fun (n : Nat) (S : Store) : (∀ d e, Frz n S d e → ∀ e', Frz n S d e' → e' = e) := by
  have key : ∀ d, (∀ e e', Frz n S d e → Frz n S d e' → e' = e) := by
    intro d
    induction d using D.rec (motive_2 := fun ds => (∀ es es', FrzAll n S ds es → FrzAll n S ds es' → es' = es) ∧ (rlts n ds = true → ∀ es, FrzAll n S ds es → es = ds)) with
    | tup ds ih =>
      intro e e' h h'
      cases h with
      | keep h1 =>
        cases h' with
        | keep h2 => rfl
        | tup f => rw [ih.2 (by simpa [rlt] using h1) _ f]
      | tup f =>
        cases h' with
        | keep h2 => rw [ih.2 (by simpa [rlt] using h2) _ f]
        | tup f' => rw [ih.1 _ _ f f']
    | ref m =>
      intro e e' h h'
      cases h with
      | keep h1 =>
        have h1' : m < n := by simpa [rlt] using h1
        cases h' with
        | keep h2 => rfl
        | lst hm _ _ => omega
        | ins hm _ _ => omega
      | lst hm hS hl =>
        cases h' with
        | keep h2 => have h1' : m < n := by simpa [rlt] using h2
                     omega
        | lst _ hS' _ => rw [hS] at hS'; cases hS'; rfl
        | ins _ hS' _ => rw [hS] at hS'; cases hS'
      | ins hm hS hl =>
        cases h' with
        | keep h2 => have h1' : m < n := by simpa [rlt] using h2
                     omega
        | lst _ hS' _ => rw [hS] at hS'; cases hS'
        | ins _ hS' _ => rw [hS] at hS'; cases hS'; rfl
    | nil =>
      refine ⟨fun es es' h h' => ?_, fun _ es h => ?_⟩
      · cases h; cases h'; rfl
      · cases h; rfl
    | cons d ds ih1 ih2 =>
      refine ⟨fun es es' h h' => ?_, fun hr es h => ?_⟩
      · cases h with | cons f fs => cases h' with | cons f' fs' => rw [ih1 _ _ f f', ih2.1 _ _ fs fs']
      · have hr' : rlt n d = true ∧ rlts n ds = true := by simpa [rlts] using hr
        cases h with | cons f fs => rw [ih1 _ _ (.keep hr'.1) f, ih2.2 hr'.2 _ fs]
    | _ => intro e e' h h'; cases h; cases h'; rfl
  exact fun d e h e' h' => key d e e' h h'
theorem Left.eq {S S' S1 : Store} (h : Left S S' S1) : S1 = S'.take S.length := by
  obtain ⟨L, e⟩ := h.app
  rw [e, ← h.len]; simp
/-- what a def made in the store is let go or stands still from now on -/
noncomputable def exitR (S : Store) : Fl → R D
  | .nx _ S' => pk fun d S1 => Left S S' S1 ∧ d = .non
  | .rt d S' => pk fun e S1 => Left S S' S1 ∧ Frz S.length S' d e
  | .ex x _ S' => (pk fun (_ : Unit) S1 => Left S S' S1 ∧ rlts S.length x.ds = true).bind fun _ S1 => .ex x S1
  | _ => .no
theorem exit_nx {S S' S1 : Store} {r : Sl} (h : Left S S' S1) : exitR S (.nx r S') = .ok .non S1 := pk_eq (P := fun (d : D) S1 => Left S S' S1 ∧ d = D.non) ⟨h, rfl⟩ fun b S2 h2 => ⟨h2.2, by rw [h2.1.eq, h.eq]⟩
theorem exit_rt {S S' S1 : Store} {d e : D} (h : Left S S' S1) (f : Frz S.length S' d e) : exitR S (.rt d S') = .ok e S1 := pk_eq (P := fun e S1 => Left S S' S1 ∧ Frz S.length S' d e) ⟨h, f⟩ fun b S2 h2 => ⟨frz_fun _ _ _ _ f _ h2.2, by rw [h2.1.eq, h.eq]⟩
theorem exit_ex {S S' S1 : Store} {x : Xc} {r : Sl} (h : Left S S' S1) (f : rlts S.length x.ds = true) : exitR S (.ex x r S') = .ex x S1 := by
  show (pk _).bind _ = _
  rw [pk_eq (a := ()) (S := S1) ⟨h, f⟩ fun b S2 h2 => ⟨rfl, by rw [h2.1.eq, h.eq]⟩]
  rfl
section
variable {P : Program} {w : World} {K : PySem.W.Frag} {mg : Str → Option Value} {base : Heap} {T : List (Addr × Str)}
theorem fnM_of {x qual : Str} {st : Stmt} {f : Addr} {fd : FuncData} {N ps : List Str} {k : Nat} {m : MS} {dvs : List V} {kws : List (Str × V)} (F : FunS K x qual st dvs kws f fd) (Sc : FnScope N ps (defScope st))
    (hb : ∀ (cdv : Value) (A : Around) (outer : List Env) (s : Shared) (H : Hp) (E : XK), fd.code = cdv → Room k (A.deeper (envOfC qual (defScope st) s.heap.objs.size f cdv)) → DSs (cxD P w K mg base N qual (defScope st) f cdv A outer s H E) T (WD E) (defBody st) (toS m)) :
    FnD P w K mg base T (k + 1) f fd ps (toSp fun ds S => (m (startD N ds) S).fin) := fnD_of F Sc hb fun ds S Qd Ed hl h => by
  unfold toSp at h
  unfold toS
  cases q : m (startD N ds) S <;> simp only [q, Fl.fin] at h <;> first | exact h | exact h.elim
theorem fnM_ofE {x qual : Str} {st : Stmt} {f : Addr} {fd : FuncData} {N ps : List Str} {k : Nat} {m : MS} {dvs : List V} {kws : List (Str × V)} (F : FunS K x qual st dvs kws f fd) (Sc : FnScope N ps (defScope st))
    (hb : ∀ (cdv : Value) (A : Around) (outer : List Env) (s : Shared) (H : Hp) (E : XK), fd.code = cdv → Room k (A.deeper (envOfC qual (defScope st) s.heap.objs.size f cdv)) → DSs (cxD P w K mg base N qual (defScope st) f cdv A outer s H E) T (WD E) (defBody st) (toS m)) :
    FnD P w K mg base T (k + 1) f fd ps (toSp fun ds S => exitR S (m (startD N ds) S)) := fnD_ofE F Sc hb fun ds S Qd Ed hl h => by
  unfold toSp at h
  unfold toS
  cases q : m (startD N ds) S with
  | nx r S' =>
    simp only [q, exitR] at h
    obtain ⟨d, S1, ⟨h1, rfl⟩, h2⟩ := pk_wp h
    exact ⟨S1, h1, h2⟩
  | rt d S' =>
    simp only [q, exitR] at h
    obtain ⟨e, S1, ⟨h1, h3⟩, h2⟩ := pk_wp h
    exact ⟨S1, e, h1, h3, h2⟩
  | ex x r S' =>
    simp only [q, exitR] at h
    rw [R.wp_bind] at h
    obtain ⟨_, S1, ⟨h1, h3⟩, h2⟩ := pk_wp h
    exact ⟨S1, h1, h3, h2⟩
  | _ => simp only [q, exitR] at h; exact h.elim
end
end DL
namespace DL
open PySem PySem.Spec PyProof.Rows L2
section
variable {X : Cx} {T : List (Addr × Str)} {W : WX} {a b c e o tg : Expr} {ma mb mc mo : ME} {pos p apos cpos tpos : Pos} {es elts : List Expr} {mes mk : MA} {mA : MT} {x : Str} {k j kk : Nat} {f : Addr} {fd : FuncData} {ps : List Str} {mf : MF1} {bid : String} {fB : Store → List D → D → Prop}
theorem me_calE (F : Cal X.prog X.w X.K X.mg X.base T x k f fd ps (toSp mf)) (tk : Takes X W) (hr : Room j X.A) (ha : DA X T W (e :: es) (toR mes)) (hj : k ≤ j) (hg : Gl X x) (hdb : (x == ("__debug__" : Str)) = false)
    (he : starEach (e :: es) X.env = (false, eval e X.env) :: starEach es X.env) (hpl : (backTo pos (starEach es X.env)).any (·.1) = false) {n : Nat} (hn : ps.length = n) :
    DE X T W (.Call (.Name x p) (e :: es) [] pos) (toR (mCall mf n mes)) := (de_calE F tk hr ha hj hg hdb he hpl hn).imp fun _ _ _ _ h => mCall_wp h
theorem me_calKE {kws : List Keyword} {ks : List Str} {ix : List Nat} {n m l : Nat} (F : Cal X.prog X.w X.K X.mg X.base T x k f fd ps (toSp mf)) (hb : KBd X.K fd ps n ks ix) (tkk : Takes X W) (hr : Room j X.A) (ha : DA X T W (e :: es) (toR mes)) (hkw : DK X T W kws (toR mk)) (hj : k ≤ j) (hg : Gl X x) (hall : (backToKw pos (keywordEach kws X.env)).all (·.1.isSome) = true) (hks : (backToKw pos (keywordEach kws X.env)).filterMap (·.1) = ks)
    (hdb : (x == ("__debug__" : Str)) = false) (he : starEach (e :: es) X.env = (false, eval e X.env) :: starEach es X.env)
    (hpl : ((backTo pos (starEach (e :: es) X.env)).any (·.1) || (backToKw pos (keywordEach kws X.env)).any (·.1.isNone)) = false) (hm : ps.length = m) (hl : ks.length = l) :
    DE X T W (.Call (.Name x p) (e :: es) kws pos) (toR (mCallK mf m n l ix mes mk)) := (de_calKE F hb tkk hr ha hkw hj hg hall hks hdb he hpl hm hl).imp fun _ _ _ _ h => mCallK_wp h
theorem me_calK0E {kws : List Keyword} {ks : List Str} {ix : List Nat} {m l : Nat} (F : Cal X.prog X.w X.K X.mg X.base T x k f fd ps (toSp mf)) (hb : KBd X.K fd ps 0 ks ix) (tkk : Takes X W) (hr : Room j X.A) (hkw : DK X T W kws (toR mk)) (hj : k ≤ j) (hg : Gl X x) (hall : (backToKw pos (keywordEach kws X.env)).all (·.1.isSome) = true) (hks : (backToKw pos (keywordEach kws X.env)).filterMap (·.1) = ks)
    (hdb : (x == ("__debug__" : Str)) = false) (hpl : ((backTo pos (starEach [] X.env)).any (·.1) || (backToKw pos (keywordEach kws X.env)).any (·.1.isNone)) = false) (hm : ps.length = m) (hl : ks.length = l) :
    DE X T W (.Call (.Name x p) [] kws pos) (toR (mCallK mf m 0 l ix mNil mk)) := (de_calK0E F hb tkk hr hkw hj hg hall hks hdb hpl hm hl).imp fun _ _ _ _ h => mCallK_wp h
theorem me_callB (hc : CallR X (.builtin bid) (rDA X.K T fB)) (hg : Gl X x) (hm : X.mg x = none) (hv : bootBuiltins x = some (.builtin bid)) (ha : DA X T W (a :: es) (toR mes)) (hn : x ≠ "__name__" := by decide) (hdb : (x == ("__debug__" : Str)) = false := by decide)
    (he : starEach (a :: es) X.env = (false, eval a X.env) :: starEach es X.env := by rfl) (hpl : (backTo pos (starEach es X.env)).any (·.1) = false := by rfl) : DE X T W (.Call (.Name x p) (a :: es) [] pos) (toR (mCB fB mes)) := (de_callB hc hg hm hv ha hn hdb he hpl).imp fun _ _ _ _ h => mCB_wp h
theorem me_callTy (hc : CallR X (.type bid) (rDA X.K T fB)) (hg : Gl X x) (hm : X.mg x = none) (hv : bootBuiltins x = some (.type bid)) (ha : DA X T W (a :: es) (toR mes)) (hn : x ≠ "__name__" := by decide) (hdb : (x == ("__debug__" : Str)) = false := by decide)
    (he : starEach (a :: es) X.env = (false, eval a X.env) :: starEach es X.env := by rfl) (hpl : (backTo pos (starEach es X.env)).any (·.1) = false := by rfl) : DE X T W (.Call (.Name x p) (a :: es) [] pos) (toR (mCB fB mes)) := (de_callTy hc hg hm hv ha hn hdb he hpl).imp fun _ _ _ _ h => mCB_wp h
theorem me_bm {ty bid : String} {name : Str} {f : MF} (pa : PlainAttrs ty) (slot : Slot ty name bid) (hty : typeOf (.builtin bid) = pure (.type "method_descriptor")) (hm : MtR X bid (rDM X.K T f)) (ho : DE X T W o (toR mo)) (ha : DA X T W (e :: es) (toR mes))
    (hbase : attributeBase o name X.env (eval o X.env) = eval o X.env := by rfl)
    (hfew : ((backTo cpos (starEach (e :: es) X.env)).all (fun x => !x.1) && (backToKw cpos (keywordEach [] X.env)).all (fun x => x.1.isSome)
      && decide ((e :: es).length + ([] : List Keyword).length + (if ([] : List Keyword).isEmpty then 0 else 1) < 30)) = true := by rfl)
    (hline : (apos.endLine == cpos.line) = true := by rfl) (he : starEach (e :: es) X.env = (false, eval e X.env) :: starEach es X.env := by rfl) (hpl : (backTo cpos (starEach es X.env)).any (·.1) = false := by rfl) :
    DE X T W (.Call (.Attribute o name apos) (e :: es) [] cpos) (toR (mBM ty f mo mes)) := (de_bm pa slot hty hm ho ha hbase hfew hline he hpl).imp fun _ _ _ _ h => mBM_wp h
theorem me_bm0 {ty bid : String} {name : Str} {f : MF} (pa : PlainAttrs ty) (slot : Slot ty name bid) (hty : typeOf (.builtin bid) = pure (.type "method_descriptor")) (hm : MtR X bid (rDM X.K T f)) (ho : DE X T W o (toR mo))
    (hbase : attributeBase o name X.env (eval o X.env) = eval o X.env := by rfl) (hline : (apos.endLine == cpos.line) = true := by rfl) :
    DE X T W (.Call (.Attribute o name apos) [] [] cpos) (toR (mBM ty f mo mNil)) := (de_bm0 pa slot hty hm ho hbase hline).imp fun _ _ _ _ h => mBM_wp h
def fIsi2 (c1 c2 : String) (S : Store) (x z : D) : Prop := ∃ n b1 b2, tyD S x = some n ∧ kitB n c1 = some b1 ∧ kitB n c2 = some b2 ∧ z = .bl (b1 || b2)
theorem me_isi2 {x1 x2 : Str} {c1 c2 : String} {p1 p2 p3 : Pos} {kk : Nat} (hm : X.mg "isinstance" = none) (m1 : X.mg x1 = none) (m2 : X.mg x2 = none) (v1 : bootBuiltins x1 = some (.type c1)) (v2 : bootBuiltins x2 = some (.type c2)) (ha : DE X T W a (toR ma))
    (hg : Gl X "isinstance" := by rfl) (g1 : Gl X x1 := by rfl) (g2 : Gl X x2 := by rfl) (n1 : x1 ≠ "__name__" := by decide) (n2 : x2 ≠ "__name__" := by decide) (b1 : (x1 == ("__debug__" : Str)) = false := by decide) (b2 : (x2 == ("__debug__" : Str)) = false := by decide)
    (s1 : starEach [.Name x1 p1, .Name x2 p2] X.env = (false, eval (.Name x1 p1) X.env) :: starEach [.Name x2 p2] X.env := by rfl) (s2 : starEach [.Name x2 p2] X.env = (false, eval (.Name x2 p2) X.env) :: starEach [] X.env := by rfl)
    (s3 : starEach [a, .Tuple [.Name x1 p1, .Name x2 p2] kk p3] X.env = (false, eval a X.env) :: starEach [.Tuple [.Name x1 p1, .Name x2 p2] kk p3] X.env := by rfl) (s4 : starEach [.Tuple [.Name x1 p1, .Name x2 p2] kk p3] X.env = (false, eval (.Tuple [.Name x1 p1, .Name x2 p2] kk p3) X.env) :: starEach [] X.env := by rfl)
    (hpl : (backTo pos (starEach [.Tuple [.Name x1 p1, .Name x2 p2] kk p3] X.env)).any (·.1) = false := by rfl) :
    DE X T W (.Call (.Name "isinstance" p) [a, .Tuple [.Name x1 p1, .Name x2 p2] kk p3] [] pos) (toR (mUn (fIsi2 c1 c2) ma)) := (de_isi2 hm m1 m2 v1 v2 ha hg g1 g2 n1 n2 b1 b2 s1 s2 s3 s4 hpl).imp fun r S Q E h => by
  unfold toR mUn at h
  rw [R.wp_bind] at h
  exact h.imp fun x S1 h => by
    obtain ⟨z, ⟨n, b1, b2, h1, h2, h3, rfl⟩, q⟩ := pk1_wp h
    exact ⟨n, b1, b2, h1, h2, h3, q⟩
def fLenSet (S : Store) (d z : D) : Prop := ∃ x : Str, d = .str x ∧ x.length < 4000 ∧ z = .int ((metS x.cps.toList).length : Nat)
theorem me_lenset {e : Expr} {p p2 pos pos2 : Pos} (hc : X.calm = true) (hml : X.mg "len" = none) (hms : X.mg "set" = none) (he : DE X T W e (toR ma)) (hg : Gl X "len") (hg2 : Gl X "set")
    (h1 : starEach [Expr.Call (.Name "set" p2) [e] [] pos2] X.env = [(false, eval (Expr.Call (.Name "set" p2) [e] [] pos2) X.env)]) (h2 : starEach [e] X.env = [(false, eval e X.env)]) :
    DE X T W (.Call (.Name "len" p) [.Call (.Name "set" p2) [e] [] pos2] [] pos) (toR (mUn fLenSet ma)) := (de_lenset hc hml hms he hg hg2 h1 h2).imp fun r S Q E h => by
  unfold toR mUn at h
  rw [R.wp_bind] at h
  exact h.imp fun x S1 h => by
    obtain ⟨z, ⟨y, h1, h2, rfl⟩, q⟩ := pk1_wp h
    exact ⟨y, h1, h2, q⟩
theorem mi_enum (hg : Gl X "enumerate") (hm : X.mg "enumerate" = none) (ha : DA X T W [a] (toR mes)) (hs : starEach [a] X.env = [(false, eval a X.env)] := by rfl) :
    DI X T W (.Tuple elts kk tpos) (.Call (.Name "enumerate" p) [a] [] pos) (toR (mIA fEnum mes)) := (di_enum hg hm ha hs).imp fun r S Q E h => (mIA_wp h).imp fun ds S1 ⟨z, ⟨xs, e, e2⟩, q⟩ => ⟨xs, e, e2 ▸ q⟩
theorem mi_enumX (hg : Gl X "enumerate") (hm : X.mg "enumerate" = none) (ha : DA X T W [a] (toR mes)) (hs : starEach [a] X.env = [(false, eval a X.env)] := by rfl) :
    DI X T W (.Tuple elts kk tpos) (.Call (.Name "enumerate" p) [a] [] pos) (toR (mIA fEnumX mes)) := (di_enumX hg hm ha hs).imp fun r S Q E h => (mIA_wp h).imp fun ds S1 ⟨z, ⟨xs, e, e2⟩, q⟩ => ⟨xs, e, e2 ▸ q⟩
theorem mi_zip (hg : Gl X "zip") (hm : X.mg "zip" = none) (ha : DA X T W [a, b] (toR mes)) (hs : starEach [a, b] X.env = (false, eval a X.env) :: starEach [b] X.env := by rfl) (hpl : (backTo pos (starEach [b] X.env)).any (·.1) = false := by rfl) :
    DI X T W (.Tuple elts kk tpos) (.Call (.Name "zip" p) [a, b] [] pos) (toR (mIA fZip mes)) := (di_zip hg hm ha hs hpl).imp fun r S Q E h => (mIA_wp h).imp fun ds S1 ⟨z, ⟨xs, ys, e, e2⟩, q⟩ => ⟨xs, ys, e, e2 ▸ q⟩
theorem ms_raise {fI : Addr} {c : Str} {fs ps : List Str} (Tx : XCls X.prog X.w X.K X.mg X.base x (He.ga X.K x) fI fd c fs ps k) (hc : X.calm = true) (tk : Takes X W) (hr : Room (k + 1) X.A) (hg : Gl X x) (ha : DA X T W (e :: es) (toR mes)) (hf : fs.length ≤ 1000 := by decide)
    (hdb : (x == ("__debug__" : Str)) = false := by decide) (he : starEach (e :: es) X.env = (false, eval e X.env) :: starEach es X.env := by rfl) (hpl : (backTo pos (starEach es X.env)).any (·.1) = false := by rfl) {pos2 : Pos} :
    DS X T W (.Raise (some (.Call (.Name x p) (e :: es) [] pos)) none pos2) (toS (mRaise x c fs mes)) := (ds_raise Tx hc tk hr hg ha hf hdb he hpl).imp fun _ _ _ h => mRaise_wp h
theorem ms_raise0 {fI : Addr} {c : Str} {ps : List Str} (Tx : XCls X.prog X.w X.K X.mg X.base x (He.ga X.K x) fI fd c [] ps k) (hc : X.calm = true) (tk : Takes X W) (hr : Room (k + 1) X.A) (hg : Gl X x) (hdb : (x == ("__debug__" : Str)) = false := by decide) {pos2 : Pos} :
    DS X T W (.Raise (some (.Call (.Name x p) [] [] pos)) none pos2) (toS (mRaise x c [] mNil)) := (ds_raise0 Tx hc tk hr hg hdb).imp fun _ _ _ h => mRaise_wp h
theorem mg_sub (ho : DE X T WF o (toR ma)) (hi : DE X T WF a (toR mb))
    (h : ∀ v, assign (.Subscript o a pos) X.env v = (do
      let ov ← holding [v] (eval o X.env)
      let iv ← holding [v, ov] (eval a X.env)
      standAt pos
      holding [v, ov, iv] (setItem ov iv v)
      release [v, ov, iv] []) := by intro _; rfl) : DG X T (.Subscript o a pos) (toG (mgSub ma mb)) := (dg_sub ho hi h).imp fun _ _ _ _ h => mgSub_wp h
/-! _law_try -/
theorem me_tryX {P : Program} {w : World} {K : PySem.W.Frag} {mg : Str → Option Value} {base : Heap} {T : List (Addr × Str)} {okl : List Str} {N : List Str} {q : Str} {sc : Scope} {f cd : Addr} {cdv : Value} {A : Around} {outer : List Env} {s : Shared} {H : Hp} {E : XK} {W : WX} {j : Nat}
    {params : Arguments} {body : Expr} {scope : Scope} {t : ME} {p lpos pos : Pos} (TC : TryC P w K mg base T (fun c => c ∈ okl) q cd) (hcode : cdv = .ref cd) (hr : Room (j + 4) (A.deeper (envOfC q sc s.heap.objs.size f cdv))) (L : LamX.LamS sc scope)
    (hbody : ∀ (A1 : Around) (outer1 : List Env) (s1 : Shared) (H1 : Hp) (E1 : XK) (f1 c' : Addr), Room (j + 2) (A1.deeper (LamX.lamEnv (cxD P w K mg base N q sc f cdv A outer s H E) scope s1.heap.objs.size f1 c')) → DE (LamX.lamCx (cxD P w K mg base N q sc f cdv A outer s H E) A1 outer1 s1 H1 E1 scope f1 c') T (WD E1) body (toR t))
    (hg : Gl (cxD P w K mg base N q sc f cdv A outer s H E) "_law_try")
    (hdef : defaultsOf params (cxD P w K mg base N q sc f cdv A outer s H E).env = ([], [])) (hbind : ∀ (q : Str) (cl : List (Str × Addr)) (pm cv ctv : Value), bindArgs (PySem.W.kla_fn "<lambda>" q params body scope cl pm cv ctv) ⟨[], []⟩ = pure []) :
    DE (cxD P w K mg base N q sc f cdv A outer s H E) T W (.Call (.Name "_law_try" p) [.Lambda params body scope lpos] [] pos) (toR (mTry okl t)) := (de_tryX TC hcode hr L hbody hg hdef hbind).imp fun _ _ _ _ h => mTry_wp h
theorem me_tryG {X : Cx} {T : List (Addr × Str)} {okl : List Str} {q : Str} {cd : Addr} {W : WX} {j : Nat} {params : Arguments} {body : Expr} {scope : Scope} {t : ME} {p lpos pos : Pos} (TC : TryC X.prog X.w X.K X.mg X.base T (fun c => c ∈ okl) q cd) (hcode : X.env.code = .ref cd) (hr : Room (j + 4) X.A) (L : LamX.LamS X.env.scope scope)
    (hbody : ∀ (A1 : Around) (outer1 : List Env) (s1 : Shared) (H1 : Hp) (E1 : XK) (f1 c' : Addr), Room (j + 2) (A1.deeper (LamX.lamEnv X scope s1.heap.objs.size f1 c')) → DE (LamX.lamCx X A1 outer1 s1 H1 E1 scope f1 c') T (WD E1) body (toR t))
    (hg : Gl X "_law_try") (hq : X.env.qual = q ++ ".<locals>.") (hdef : defaultsOf params X.env = ([], [])) (hbind : ∀ (q : Str) (cl : List (Str × Addr)) (pm cv ctv : Value), bindArgs (PySem.W.kla_fn "<lambda>" q params body scope cl pm cv ctv) ⟨[], []⟩ = pure []) :
    DE X T W (.Call (.Name "_law_try" p) [.Lambda params body scope lpos] [] pos) (toR (mTry okl t)) := (de_tryG TC hcode hr L hbody hg hq hdef hbind).imp fun _ _ _ _ h => mTry_wp h
end
end DL
namespace DL
open PySem PySem.Spec PyProof.Rows L2
/-! ### lambdas as values, read -/
open Classical in
/-- _law_try(e): e is one of the lambdas ls, told by their index; mb: what each reads -/
noncomputable def mTryV (okl : List Str) (ls : List LFn) (mb : Nat → ME) (te : ME) : ME := fun r S => (te r S).bind fun d S1 => match d with
  | .fn F => if ls[F.ix]? = some F then mTry okl (mb F.ix) (startD F.ps (zerosD F)) S1 else .no
  | _ => .no
open Classical in
theorem mTryV_wp {okl : List Str} {ls : List LFn} {mb : Nat → ME} {te : ME} {r : Sl} {S : Store} {Q : D → Store → Prop} {E : DX} (h : (mTryV okl ls mb te r S).wp Q E) : dTryV (fun c => c ∈ okl) (fun F => ls[F.ix]? = some F) (fun F => toR (mb F.ix)) (toR te) r S Q E := by
  unfold mTryV at h
  rw [R.wp_bind] at h
  unfold dTryV
  show (te r S).wp _ _
  cases q : te r S with
  | ok d S1 =>
    rw [q] at h
    show ∃ F, _
    cases d with
    | fn F =>
      have h : (if ls[F.ix]? = some F then mTry okl (mb F.ix) (startD F.ps (zerosD F)) S1 else R.no).wp Q E := h
      split at h
      · rename_i e
        exact ⟨F, rfl, e, mTry_wp h⟩
      · exact h.elim
    | _ => exact (show False from h).elim
  | ex x S1 => rw [q] at h; exact h
  | no => rw [q] at h; exact h
theorem me_tryV {X : Cx} {T : List (Addr × Str)} {okl : List Str} {q : Str} {cd : Addr} {W : WX} {j : Nat} {e : Expr} {te : ME} {ls : List LFn} {mb : Nat → ME} {p pos : Pos} (TC : TryC X.prog X.w X.K X.mg X.base T (fun c => c ∈ okl) q cd) (hr : Room (j + 4) X.A) (hg : Gl X "_law_try") (he : DE X T W e (toR te))
    (LT : ∀ F, ls[F.ix]? = some F → LamOk X.prog X.w X.K X.mg X.base T (j + 2) F (toR (mb F.ix))) (hs : starEach [e] X.env = (false, eval e X.env) :: starEach [] X.env := by rfl) :
    DE X T W (.Call (.Name "_law_try" p) [e] [] pos) (toR (mTryV okl ls mb te)) := (de_tryV TC hr hg he LT hs).imp fun _ _ _ _ h => mTryV_wp h
def nfB (sc : Scope) : Bool := sc.names.all fun y => !decide (y.2 = .free)
theorem me_lamV {X : Cx} {T : List (Addr × Str)} {okc : Str → Prop} {q : Str} {cd : Addr} {W : WX} {params : Arguments} {body : Expr} {scope : Scope} {pos : Pos} (F : LFn) (TC : TryC X.prog X.w X.K X.mg X.base T okc q cd) (hcode : X.env.code = .ref cd) (hq : X.env.qual = q ++ ".<locals>.") (nf : nfB scope = true)
    (hd : (F.ps = [] ∧ defaultsOf params X.env = ([], [])) ∨ (∃ n j p, F.ps = [n] ∧ params.defaults = [.Constant (.int 0) j p] ∧ params.kw_defaults = [])) (hF : F = ⟨F.ix, X.env.qual ++ "<lambda>", params, body, scope, F.ps⟩) :
    DE X T W (.Lambda params body scope pos) (toR (mC (.fn F))) := by
  obtain ⟨Pt, tb, tm, tu⟩ := TC.tab
  rw [← hq] at tm tu
  have z := de_lamV (W := W) (pos := pos) (body := body) (params := params) (scope := scope) F.ix F.ps tb hcode tm tu (fun y hy e => by
    unfold nfB at nf
    have := List.all_eq_true.mp nf y hy
    simp [e] at this) hd
  rw [← hF] at z
  exact z.imp fun _ _ _ _ h => h
/-! where a lambda stands -/
def aSt (l : List Stmt) (i : Nat) : Stmt := l.getD i default
def aVal : Stmt → Expr
  | .Assign _ v _ => v
  | .Return (some v) _ => v
  | _ => default
def aElt (e : Expr) (i : Nat) : Expr := match e with
  | .List es _ => es.getD i default
  | .Tuple es _ _ => es.getD i default
  | _ => default
def aR : Expr → Expr
  | .BinOp _ _ b _ => b
  | _ => default
def aL : Expr → Expr
  | .BinOp a _ _ _ => a
  | _ => default
def lfOf (i : Nat) (q : Str) (ps : List Str) : Expr → LFn
  | .Lambda a b sc _ => ⟨i, q, a, b, sc, ps⟩
  | _ => ⟨i, q, default, default, default, ps⟩
/-- each of the lambdas is as it reads -/
def LamAll (Pr : LFn → Nat → Prop) : Nat → List LFn → Prop
  | _, [] => True
  | i, F :: r => Pr F i ∧ LamAll Pr (i + 1) r
theorem LamAll.get {Pr : LFn → Nat → Prop} : ∀ {ls : List LFn} {i n : Nat} {F : LFn}, LamAll Pr i ls → ls[n]? = some F → Pr F (i + n)
  | [], _, _, _, _, e => by simp at e
  | _ :: _, _, 0, _, h, e => by simp at e; rw [← e]; exact h.1
  | _ :: r, i, n + 1, _, h, e => by
    have := LamAll.get (ls := r) (i := i + 1) (n := n) h.2 (by simpa using e)
    rwa [show i + (n + 1) = i + 1 + n from by omega]
theorem me_tryVL {X : Cx} {T : List (Addr × Str)} {okl : List Str} {q : Str} {cd : Addr} {W : WX} {j : Nat} {e : Expr} {te : ME} {ls : List LFn} {mb : Nat → ME} {p pos : Pos} (TC : TryC X.prog X.w X.K X.mg X.base T (fun c => c ∈ okl) q cd) (hr : Room (j + 4) X.A) (hg : Gl X "_law_try") (he : DE X T W e (toR te))
    (LT : LamAll (fun F i => LamOk X.prog X.w X.K X.mg X.base T (j + 2) F (toR (mb i))) 0 ls) (hs : starEach [e] X.env = (false, eval e X.env) :: starEach [] X.env := by rfl) :
    DE X T W (.Call (.Name "_law_try" p) [e] [] pos) (toR (mTryV okl ls mb te)) := me_tryV TC hr hg he (fun F h => by have := LT.get h; rwa [Nat.zero_add] at this) hs
end DL
namespace DL
open PySem PySem.Spec PyProof.Rows L2
/-! ### two clauses -/
def mLc2L (g : MG) (t : MT) (it1 : MA) (g1 : MG) (t1 : MT) (e : ME) (vs1 : List Nat) (r0 : Sl) : List D → Store → R (List D)
  | [], S => .ok [] S
  | x :: xs, S => (g x r0 S).bind fun r1 S1 => (t r1 S1).bind fun k S2 => if k = true then (it1 r1 S2).bind fun es S3 => (mLcL g1 t1 e (wipeD r1 vs1) es S3).bind fun ys S4 => (mLc2L g t it1 g1 t1 e vs1 r0 xs S4).bind fun zs S5 => .ok (ys ++ zs) S5 else mLc2L g t it1 g1 t1 e vs1 r0 xs S2
def mLc2 (it : MA) (g : MG) (t : MT) (it1 : MA) (g1 : MG) (t1 : MT) (e : ME) (vs vs1 : List Nat) : ME := fun r S => (it r S).bind fun ds S1 => (mLc2L g t it1 g1 t1 e vs1 (wipeD r vs) ds S1).nox.bind fun ys S2 => fitR ys.length (.lst ys) S2
section
variable {X : Cx} {T : List (Addr × Str)} {W : WX} {tg : Expr} {pos : Pos} {mes mes1 : MA} {mA mA1 : MT} {g g1 : MG} {me : ME}
theorem mLcL_acc {g : MG} {t : MT} {e : ME} {r0 : Sl} {ds : List D} {i : Nat} {x : D} {acc : List D} {S : Store} {Qf : List D → Store → Prop} (hx : ds[i]? = some x) (fit : ∀ l S, Qf l S → l.length ≤ sizeLine)
    (hi : (mLcL g t e r0 (ds.drop i) S).wp (fun ys S' => Qf (acc ++ ys) S') EF) :
    (g x r0 S).wp (fun r1 S1 => (t r1 S1).wp (fun k S2 => if k = true then (e r1 S2).wp (fun y S3 => acc.length < sizeLine ∧ (mLcL g t e r0 (ds.drop (i + 1)) S3).wp (fun ys S' => Qf ((acc ++ [y]) ++ ys) S') EF) EF else (mLcL g t e r0 (ds.drop (i + 1)) S2).wp (fun ys S' => Qf (acc ++ ys) S') EF) EF) EF := by
  have e0 : ds.drop i = x :: ds.drop (i + 1) := by
    obtain ⟨hl, e⟩ := List.getElem?_eq_some_iff.mp hx
    rw [List.drop_eq_getElem_cons hl, e]
  rw [e0] at hi
  unfold mLcL at hi
  rw [R.wp_bind] at hi
  refine hi.imp fun r1 S1 hi => ?_
  rw [R.wp_bind] at hi
  refine hi.imp fun k S2 hi => ?_
  cases k with
  | false => simpa using hi
  | true =>
    simp only [if_true] at hi ⊢
    rw [R.wp_bind] at hi
    refine hi.imp fun y S3 hi => ?_
    rw [R.wp_bind] at hi
    refine ⟨?_, hi.imp fun ys S4 hi => by simpa using hi⟩
    cases q : mLcL g t e r0 (ds.drop (i + 1)) S3 with
    | ok ys S4 =>
      rw [q] at hi
      have := fit _ _ hi
      simp at this
      omega
    | ex x S4 => rw [q] at hi; exact hi.elim
    | no => rw [q] at hi; exact hi.elim
theorem mLc2_wp {vs vs1 : List Nat} {r : Sl} {S : Store} {Q : DQ} {E : DX} (h : toR (mLc2 mes g mA mes1 g1 mA1 me vs vs1) r S Q E) : dLc2 (toR mes) (toG g) (toR mA) (toR mes1) (toG g1) (toR mA1) (toR me) vs vs1 r S Q E := by
  unfold toR mLc2 at h
  rw [R.wp_bind] at h
  refine h.imp fun ds S1 h => ⟨fun i acc S => (mLc2L g mA mes1 g1 mA1 me vs1 (wipeD r vs) (ds.drop i) S).wp (fun ys S' => (acc ++ ys).length ≤ sizeLine ∧ Q (.lst (acc ++ ys)) S') EF, ?_, fun i x acc S hx hi => ?_, fun acc S h => ?_⟩
  · rw [R.wp_bind] at h
    exact (R.wp_nox h).imp fun ys S2 h => fitR_wp h
  · have e : ds.drop i = x :: ds.drop (i + 1) := by
      obtain ⟨hl, e⟩ := List.getElem?_eq_some_iff.mp hx
      rw [List.drop_eq_getElem_cons hl, e]
    replace hi : (mLc2L g mA mes1 g1 mA1 me vs1 (wipeD r vs) (ds.drop i) S).wp (fun ys S' => (acc ++ ys).length ≤ sizeLine ∧ Q (.lst (acc ++ ys)) S') EF := hi
    rw [e] at hi
    unfold mLc2L at hi
    rw [R.wp_bind] at hi
    unfold toG
    refine hi.imp fun r1 S1 hi => ?_
    rw [R.wp_bind] at hi
    refine hi.imp fun k S2 hi => ?_
    cases k with
    | false => simpa using hi
    | true =>
      simp only [if_true] at hi ⊢
      rw [R.wp_bind] at hi
      refine hi.imp fun es S3 hi => ?_
      rw [R.wp_bind] at hi
      refine ⟨fun j acc' S => (mLcL g1 mA1 me (wipeD r1 vs1) (es.drop j) S).wp (fun ys S4 => (mLc2L g mA mes1 g1 mA1 me vs1 (wipeD r vs) (ds.drop (i + 1)) S4).wp (fun zs S5 => (acc' ++ ys ++ zs).length ≤ sizeLine ∧ Q (.lst (acc' ++ ys ++ zs)) S5) EF) EF, ?_, fun j y acc' S hy hj => ?_, fun acc' S hj => ?_⟩
      · show (mLcL g1 mA1 me (wipeD r1 vs1) es S3).wp _ _
        refine hi.imp fun ys S4 hi => ?_
        rw [R.wp_bind] at hi
        exact hi.imp fun zs S5 hi => by simpa using hi
      · exact mLcL_acc (Qf := fun l S4 => (mLc2L g mA mes1 g1 mA1 me vs1 (wipeD r vs) (ds.drop (i + 1)) S4).wp (fun zs S5 => (l ++ zs).length ≤ sizeLine ∧ Q (.lst (l ++ zs)) S5) EF) hy (fun l S4 z => by
          cases q : mLc2L g mA mes1 g1 mA1 me vs1 (wipeD r vs) (ds.drop (i + 1)) S4 with
          | ok zs S5 =>
            rw [q] at z
            have := z.1
            simp at this
            omega
          | ex x S5 => rw [q] at z; exact z.elim
          | no => rw [q] at z; exact z.elim) hj
      · replace hj : (mLcL g1 mA1 me (wipeD r1 vs1) (es.drop es.length) S).wp (fun ys S4 => (mLc2L g mA mes1 g1 mA1 me vs1 (wipeD r vs) (ds.drop (i + 1)) S4).wp (fun zs S5 => (acc' ++ ys ++ zs).length ≤ sizeLine ∧ Q (.lst (acc' ++ ys ++ zs)) S5) EF) EF := hj
        rw [List.drop_length] at hj
        have hj : (mLc2L g mA mes1 g1 mA1 me vs1 (wipeD r vs) (ds.drop (i + 1)) S).wp (fun zs S5 => (acc' ++ [] ++ zs).length ≤ sizeLine ∧ Q (.lst (acc' ++ [] ++ zs)) S5) EF := hj
        simpa using hj
  · replace h : (mLc2L g mA mes1 g1 mA1 me vs1 (wipeD r vs) (ds.drop ds.length) S).wp (fun ys S' => (acc ++ ys).length ≤ sizeLine ∧ Q (.lst (acc ++ ys)) S') EF := h
    rw [List.drop_length] at h
    have h : (acc ++ []).length ≤ sizeLine ∧ Q (.lst (acc ++ [])) S := h
    simpa using h.2
theorem me_lc2 {elt iter tg1 iter1 : Expr} {ifs ifs1 : List Expr} {scope : Scope} {own : List (Str × Nat)} {vs1 : List Nat} {gv gv1 : TG} (hc : X.calm = true) (hN : X.N.Nodup) (hi : DI X T W tg iter (toR mes)) (ok : BlkOk X.N X.env.scope scope own) (hv : ∀ i ∈ vs1, i ∈ own.map (·.2)) (tok : TgOk X.K T (own.map (·.2)) gv (toG g)) (tok1 : TgOk X.K T vs1 gv1 (toG g1))
    (hg : ∀ (s : Shared) (H : Hp) (C : Addr) (cl : List (Str × Addr)) (fp : List Addr), PG (X.blk s H scope (compEnvC scope cl C X.env) fp) tg gv) (ht : ∀ (s : Shared) (H : Hp) (C : Addr) (cl : List (Str × Addr)) (fp : List Addr), PTs (X.blk s H scope (compEnvC scope cl C X.env) fp) ifs (liftT X.K T WF (toR mA)))
    (hi1 : ∀ (s : Shared) (H : Hp) (C : Addr) (cl : List (Str × Addr)) (fp : List Addr), DI (X.blk s H scope (compEnvC scope cl C X.env) fp) T WF tg1 iter1 (toR mes1))
    (hg1 : ∀ (s : Shared) (H : Hp) (C : Addr) (cl : List (Str × Addr)) (fp : List Addr), PG (X.blk s H scope (compEnvC scope cl C X.env) fp) tg1 gv1) (ht1 : ∀ (s : Shared) (H : Hp) (C : Addr) (cl : List (Str × Addr)) (fp : List Addr), PTs (X.blk s H scope (compEnvC scope cl C X.env) fp) ifs1 (liftT X.K T WF (toR mA1)))
    (he : ∀ (s : Shared) (H : Hp) (C : Addr) (cl : List (Str × Addr)) (fp : List Addr), DE (X.blk s H scope (compEnvC scope cl C X.env) fp) T WF elt (toR me)) (hs : ∀ x, foldedSetIterable iter X.env x = pure x := by intro _; rfl) (hs1 : ∀ env x, foldedSetIterable iter1 env x = pure x := by intro _ _; rfl) :
    DE X T W (.ListComp elt [⟨tg, iter, ifs, 0⟩, ⟨tg1, iter1, ifs1, 0⟩] scope pos) (toR (mLc2 mes g mA mes1 g1 mA1 me (own.map (·.2)) vs1)) := (de_lc2 hc hN hi ok hv tok tok1 hg ht hi1 hg1 ht1 he hs hs1).imp fun _ _ _ _ h => mLc2_wp h
theorem ms_setLc2 {i : Nat} {y : Str} {py spos : Pos} {elt iter tg1 iter1 : Expr} {ifs ifs1 : List Expr} {scope : Scope} {own : List (Str × Nat)} {vs1 : List Nat} {gv gv1 : TG} (hc : X.calm = true) (hN : X.N.Nodup) (hy : X.N[i]? = some y) (hyl : X.env.scope.names.lookup y = some .local)
    (hsw : swapsWith (.ListComp elt [⟨tg, iter, ifs, 0⟩, ⟨tg1, iter1, ifs1, 0⟩] scope pos) (some (.Name y py)) spos.line X.env = pure true) (hi : DI X T W tg iter (toR mes)) (ok : BlkOk X.N X.env.scope scope own) (hv : ∀ i ∈ vs1, i ∈ own.map (·.2)) (tok : TgOk X.K T (own.map (·.2)) gv (toG g)) (tok1 : TgOk X.K T vs1 gv1 (toG g1))
    (hg : ∀ (s : Shared) (H : Hp) (C : Addr) (cl : List (Str × Addr)) (fp : List Addr), PG (X.blk s H scope (compEnvC scope cl C X.env) fp) tg gv) (ht : ∀ (s : Shared) (H : Hp) (C : Addr) (cl : List (Str × Addr)) (fp : List Addr), PTs (X.blk s H scope (compEnvC scope cl C X.env) fp) ifs (liftT X.K T WF (toR mA)))
    (hi1 : ∀ (s : Shared) (H : Hp) (C : Addr) (cl : List (Str × Addr)) (fp : List Addr), DI (X.blk s H scope (compEnvC scope cl C X.env) fp) T WF tg1 iter1 (toR mes1))
    (hg1 : ∀ (s : Shared) (H : Hp) (C : Addr) (cl : List (Str × Addr)) (fp : List Addr), PG (X.blk s H scope (compEnvC scope cl C X.env) fp) tg1 gv1) (ht1 : ∀ (s : Shared) (H : Hp) (C : Addr) (cl : List (Str × Addr)) (fp : List Addr), PTs (X.blk s H scope (compEnvC scope cl C X.env) fp) ifs1 (liftT X.K T WF (toR mA1)))
    (he : ∀ (s : Shared) (H : Hp) (C : Addr) (cl : List (Str × Addr)) (fp : List Addr), DE (X.blk s H scope (compEnvC scope cl C X.env) fp) T WF elt (toR me)) (hs : ∀ x, foldedSetIterable iter X.env x = pure x := by intro _; rfl) (hs1 : ∀ env x, foldedSetIterable iter1 env x = pure x := by intro _ _; rfl) :
    DS X T W (.Assign [.Name y py] (.ListComp elt [⟨tg, iter, ifs, 0⟩, ⟨tg1, iter1, ifs1, 0⟩] scope pos) spos) (toS (mSet i (mLc2 mes g mA mes1 g1 mA1 me (own.map (·.2)) vs1))) := (ds_setLc2 hc hN hy hyl hsw hi ok hv tok tok1 hg ht hi1 hg1 ht1 he hs hs1).imp fun d r S h => by
  have h2 : dAsg (toR (mLc2 mes g mA mes1 g1 mA1 me (own.map (·.2)) vs1)) (dgName i) d r S := mSet_wp h
  exact mLc2_wp h2
end
end DL
namespace DL
open PySem PySem.Spec PyProof.Rows L2
/-! ### calls, uniformly: values by place, values by keyword -/
abbrev MF2 := List D → List D → Store → R D
def kcD (K : PySem.W.Frag) (T : List (Addr × Str)) (m : MF2) (vs zs : List V) (H : Hp) (Q : VK) (E : XK) : Prop := ∃ g S ds es Qd Ed, GoodS K T g S H ∧ Reps K g H ds vs ∧ Reps K g H es zs ∧ (m ds es S).wp Qd Ed ∧
  (∀ d S' g' H' v, Qd d S' → Ext g H g' H' → GoodS K T g' S' H' → Rep K g' H' d v → Q v H') ∧ (∀ x S' g' H' c dd, Ed x S' → Ext g H g' H' → GoodS K T g' S' H' → XRep K g' H' x c dd → E c dd H')
/-- the def at f, called with keywords named ks, reads m -/
def KC (P : Program) (w : World) (K : PySem.W.Frag) (mg : Str → Option Value) (base : Heap) (T : List (Addr × Str)) (k : Nat) (f : Addr) (ks : List Str) (m : MF2) : Prop :=
  ∀ (A : Around) (outer : List Env) (s : Shared) (H : Hp) (us ws : List Value) (vs zs : List V) (Q : VK) (E : XK), Room k A → Env0 P w K mg base A outer s H → Vals vs us → Vals zs ws → zs.length = ks.length →
    kcD K T m vs zs H Q E → codeAny (model P w) A (.call (.ref f) ⟨us, ks.zip ws⟩) (CR (L2.CX P w) outer P w H s Q E) s
section
variable {P : Program} {w : World} {K : PySem.W.Frag} {mg : Str → Option Value} {base : Heap} {T : List (Addr × Str)} {k : Nat} {f : Addr} {fd : FuncData} {ps ks : List Str} {mf : MF1} {n : Nat} {ix : List Nat} {dfl : List D}
theorem KC.mono {j : Nat} {m : MF2} (F : KC P w K mg base T j f ks m) (h : j ≤ k) : KC P w K mg base T k f ks m := fun A outer s H us ws vs zs Q E hr => F A outer s H us ws vs zs Q E (hr.mono h)
/-- how n values and those of the keywords ks become the parameters' values; dfl: the defaults -/
def KBN (K : PySem.W.Frag) (fd : FuncData) (ps : List Str) (n : Nat) (ks : List Str) (ix : List Nat) (dfl : List D) : Prop := ∃ (fl : List Value) (dv : List V), Vals dv fl ∧ (∀ g H, Reps K g H dfl dv) ∧
  ∀ (s : Shared) (us ws : List Value), K.In s.heap → us.length = n → ws.length = ks.length → BindsTo s fd ⟨us, ks.zip ws⟩ (ps.zip (pick ix (us ++ ws ++ fl)))
theorem pick_length {α : Type} : ∀ (ix : List Nat) (l : List α), (∀ i ∈ ix, i < l.length) → (pick ix l).length = ix.length
  | [], _, _ => rfl
  | i :: ix, l, h => by
    have hi := h i (List.mem_cons_self ..)
    have ih := pick_length ix l fun j hj => h j (List.mem_cons_of_mem _ hj)
    unfold pick at *
    rw [List.filterMap_cons, List.getElem?_eq_getElem hi]
    simp [ih]
theorem KC.of (F : FnD P w K mg base T k f fd ps (toSp mf)) (hb : KBN K fd ps n ks ix dfl) (hi : ∀ i ∈ ix, i < n + ks.length + dfl.length) (hl : ix.length = ps.length) :
    KC P w K mg base T k f ks (fun ds es S => if ds.length = n then mf (pick ix (ds ++ es ++ dfl)) S else .no) := by
  intro A outer s H us ws vs zs Q E hr e0 r rz lz ⟨g, S, ds, es, Qd, Ed, gd, rd, re, h, hq, hx⟩
  have KX : K.In s.heap := e0.mod.kin.keeps fun b o e => (e0.bs b o e).1
  obtain ⟨fl, dv, rf, rr, to⟩ := hb
  by_cases hn : ds.length = n
  · simp only [hn, if_true] at h
    have hvs : vs.length = n := by rw [← rd.length]; exact hn
    have r2 := pick_vals ((r.append rz).append rf) ix
    refine F.run A outer s H ⟨us, ks.zip ws⟩ _ _ Q E hr e0 (to s us ws KX (by rw [← r.length]; exact hvs) (by rw [← rz.length]; exact lz)) r2 ⟨g, S, pick ix (ds ++ es ++ dfl), Qd, Ed, gd, pick_reps ((rd.append re).append (rr g H)) ix, ?_, h, hq, hx⟩
    rw [pick_length ix _ (fun i hi' => by
      have := hi i hi'
      have e1 : es.length = ks.length := by rw [re.length]; exact lz
      simp only [List.length_append, hn, e1]; exact this)]
    exact hl
  · simp only [hn, if_false] at h
    exact h.elim
/-! how parameters are bound -/
theorem FunS.kbn {x qual : Str} {st : Stmt} {kws : List (Str × V)} (F : FunS K x qual st [] kws f fd)
    (h : ∀ (kV doc pm : Value) (an : Option Addr) (cdv ct : Value) (us ws : List Value), us.length = n → ws.length = ks.length → bindArgs (PySem.W.fnOf x qual (defArgs st) (defBody st) (defScope st) .none kV doc pm an cdv ct) ⟨us, ks.zip ws⟩ = pure (ps.zip (pick ix (us ++ ws)))) : KBN K fd ps n ks ix [] :=
  ⟨[], [], .nil, fun _ _ => rfl, fun s us ws X h1 h2 => by rw [List.append_nil]; exact FunS.kbd F h s us ws X h1 h2⟩
/-- positional defaults -/
theorem FunS.kbnD {x qual : Str} {st : Stmt} {dvs : List V} {kws : List (Str × V)} (F : FunS K x qual st dvs kws f fd) (hd : dvs ≠ []) (rr : ∀ g H, Reps K g H dfl dvs)
    (h : ∀ (T : Addr) (kV doc pm : Value) (an : Option Addr) (cdv ct : Value) (us its ws : List Value), us.length = n → its.length = dvs.length → ws.length = ks.length →
      ∃ k, bindArgs (PySem.W.fnOf x qual (defArgs st) (defBody st) (defScope st) (.ref T) kV doc pm an cdv ct) ⟨us, ks.zip ws⟩ = seqItems? (.ref T) >>= k ∧ k (some its.toArray) = pure (ps.zip (pick ix (us ++ ws ++ its)))) : KBN K fd ps n ks ix dfl := by
  obtain ⟨oc, od, dV, kV, doc, pm, an, cdv, ct, osl, rfl, lk, hcd, hD, hK⟩ := F.ex
  rcases hD with ⟨e, _⟩ | ⟨_, T, o, its, m, rfl, lT, oT, rT⟩
  · exact absurd e hd
  · refine ⟨its, dvs, rT, rr, fun s us ws X l1 l2 => ?_⟩
    obtain ⟨k, e1, e2⟩ := h T kV doc pm an cdv ct us its ws l1 rT.length.symm l2
    refine BindsTo.of_looks fun M => ?_
    rw [e1]
    exact looks_items X lT oT (.of_pure e2)
/-- keyword-only defaults; ms: those that lack -/
theorem FunS.kbn0 {x qual : Str} {st : Stmt} {kws : List (Str × V)} (F : FunS K x qual st [] kws f fd) (ms : List (Str × V)) (hk : kws ≠ []) (hms : ∀ q ∈ ms, q ∈ kws) (rr : ∀ g H, Reps K g H dfl (ms.map (·.2)))
    (h : ∀ (D : Addr) (doc pm : Value) (an : Option Addr) (cdv ct : Value) (us mv ws : List Value), us.length = n → mv.length = ms.length → ws.length = ks.length →
      KwChain D ((ms.map (·.1)).zip mv) (bindArgs (PySem.W.fnOf x qual (defArgs st) (defBody st) (defScope st) .none (.ref D) doc pm an cdv ct) ⟨us, ks.zip ws⟩) (ps.zip (pick ix (us ++ ws ++ mv)))) : KBN K fd ps n ks ix dfl := by
  obtain ⟨oc, od, dV, kV, doc, pm, an, cdv, ct, osl, rfl, lk, hcd, hD, hK⟩ := F.ex
  rcases hD with ⟨_, rfl⟩ | ⟨e, _⟩
  · rcases hK with e | ⟨D, rfl, hq⟩
    · exact absurd e hk
    · obtain ⟨mv, hl, rk, hks⟩ := kwd_vals (ms := ms) fun q hm => hq q (hms q hm)
      exact ⟨mv, ms.map (·.2), rk, rr, fun s us ws X l1 l2 => BindsTo.of_looks fun M => KwChain.looks X hks (h D doc pm an cdv ct us mv ws l1 hl l2)⟩
  · exact absurd rfl e
/-! a def with *rest -/
/-- binding that makes the tuple of what is left over, last -/
def StarTo (K : PySem.W.Frag) (t : Sem (List (Str × Value))) (rest : List Value) (b : Value → List (Str × Value)) : Prop :=
  ∀ (M : Model) (A : Around) (Q : List (Str × Value) → Shared → Prop) (E : Value → Shared → Prop) (s : Shared), K.In s.heap → wpAny M A (newTuple rest >>= fun v => pure (b v)) Q E s → wpAny M A t Q E s
def KBS (K : PySem.W.Frag) (fd : FuncData) (ps : List Str) (pv : Str) (n : Nat) (ks : List Str) (ix : List Nat) (dfl : List D) : Prop := ∃ (fl : List Value) (dv : List V), Vals dv fl ∧ (∀ g H, Reps K g H dfl dv) ∧
  ∀ (us rest ws : List Value), us.length = n → ws.length = ks.length → StarTo K (bindArgs fd ⟨us ++ rest, ks.zip ws⟩) rest fun t => ps.zip (pick ix (us ++ ws ++ fl)) ++ [(pv, t)]
theorem FunS.kbs {x qual : Str} {st : Stmt} {kws : List (Str × V)} {pv : Str} (F : FunS K x qual st [] kws f fd)
    (h : ∀ (kV doc pm : Value) (an : Option Addr) (cdv ct : Value) (us rest ws : List Value), us.length = n → ws.length = ks.length → bindArgs (PySem.W.fnOf x qual (defArgs st) (defBody st) (defScope st) .none kV doc pm an cdv ct) ⟨us ++ rest, ks.zip ws⟩ = (newTuple rest >>= fun t => pure (ps.zip (pick ix (us ++ ws)) ++ [(pv, t)]))) : KBS K fd ps pv n ks ix [] := by
  obtain ⟨oc, od, dV, kV, doc, pm, an, cdv, ct, osl, rfl, lk, hcd, hD, hK⟩ := F.ex
  rcases hD with ⟨_, rfl⟩ | ⟨e, _⟩
  · refine ⟨[], [], .nil, fun _ _ => rfl, fun us rest ws h1 h2 M A Q E s X q => ?_⟩
    rw [h kV doc pm an cdv ct us rest ws h1 h2]
    simpa using q
  · exact absurd rfl e
theorem FunS.kbs1 {x qual : Str} {st : Stmt} {kws : List (Str × V)} {pv : Str} (F : FunS K x qual st [] kws f fd) (q : Str) (v : V) (d : D) (hm : (q, v) ∈ kws) (rr : ∀ g H, Rep K g H d v)
    (h : ∀ (D : Addr) (doc pm : Value) (an : Option Addr) (cdv ct : Value) (us rest ws : List Value) (u : Value), us.length = n → ws.length = ks.length →
      ∃ (β γ : Type) (k1 : Option Value → Sem β) (k2 : β → Sem γ) (k3 : γ → Sem (List (Str × Value))) (a : β), bindArgs (PySem.W.fnOf x qual (defArgs st) (defBody st) (defScope st) .none (.ref D) doc pm an cdv ct) ⟨us ++ rest, ks.zip ws⟩ = ((nsGet D q >>= k1) >>= k2) >>= k3 ∧ k1 (some u) = pure a ∧ (k2 a >>= k3) = (newTuple rest >>= fun t => pure (ps.zip (pick ix (us ++ ws ++ [u])) ++ [(pv, t)]))) : KBS K fd ps pv n ks ix [d] := by
  obtain ⟨oc, od, dV, kV, doc, pm, an, cdv, ct, osl, rfl, lk, hcd, hD, hK⟩ := F.ex
  rcases hD with ⟨_, rfl⟩ | ⟨e, _⟩
  · rcases hK with e | ⟨D, rfl, hq⟩
    · rw [e] at hm; cases hm
    · obtain ⟨u, hu, ru⟩ := hq (q, v) hm
      refine ⟨[u], [v], .cons ru .nil, fun g H => ⟨v, [], rfl, rr g H, rfl⟩, fun us rest ws h1 h2 M A Q E s X z => ?_⟩
      obtain ⟨β, γ, k1, k2, k3, a, e1, e2, e3⟩ := h D doc pm an cdv ct us rest ws u h1 h2
      have l1 : PySem.W.Looks M s.heap (nsGet D q >>= k1) a := (PySem.W.looks_nsIn X hu).andThen (PySem.W.Looks.of_pure e2)
      rw [e1, bind_assoc]
      refine wpAny_bind (l1.here ?_)
      rw [e3]
      exact z
  · exact absurd rfl e
theorem vals_take {vs : List V} {us : List Value} (r : Vals vs us) (n : Nat) : Vals (vs.take n) (us.take n) := by
  induction r generalizing n with
  | nil => simp; exact .nil
  | cons a r ih => cases n with
    | zero => simp; exact .nil
    | succ n => simp; exact .cons a (ih n)
/-- its promise from its body -/
theorem KC.star {x qual : Str} {st : Stmt} {N : List Str} {m : MS} {dvs : List V} {kws : List (Str × V)} {pv : Str} (F : FunS K x qual st dvs kws f fd) (Sc : FnScope N (ps ++ [pv]) (defScope st)) (hb : KBS K fd ps pv n ks ix dfl) (hi : ∀ i ∈ ix, i < n + ks.length + dfl.length) (hl : ix.length = ps.length)
    (hw : ∀ (cdv : Value) (A : Around) (outer : List Env) (s : Shared) (H : Hp) (E : XK), fd.code = cdv → Room k (A.deeper (envOfC qual (defScope st) s.heap.objs.size f cdv)) → DSs (cxD P w K mg base N qual (defScope st) f cdv A outer s H E) T (WD E) (defBody st) (toS m)) :
    KC P w K mg base T (k + 1) f ks (fun ds es S => if n ≤ ds.length ∧ ds.length ≤ 1000 then (m (startD N (pick ix (ds.take n ++ es ++ dfl) ++ [.tup (ds.drop n)])) S).fin else .no) := by
  intro A outer s H us ws vs zs Q E hr e0 r rz lz ⟨g, S, ds, es, Qd, Ed, gd, rd, re, h, hq, hx⟩
  have KX : K.In s.heap := e0.mod.kin.keeps fun b o e => (e0.bs b o e).1
  obtain ⟨fl, dv, rf, rr, to⟩ := hb
  by_cases hn : n ≤ ds.length ∧ ds.length ≤ 1000
  · simp only [hn, and_self, if_true] at h
    obtain ⟨oc, od, dV, kV, doc, pm, an, cdv, ct, osl, rfl, lk, hcd, _, _⟩ := F.ex
    have lv : vs.length = ds.length := rd.length.symm
    have lu : us.length = ds.length := by rw [← r.length]; exact lv
    have r1 := vals_take r n
    have r2 : Vals (vs.drop n) (us.drop n) := r.drop n
    have hf : H s.heap.objs.size = Option.none := e0.hok.fresh (Nat.le_refl _)
    have hz : (vs.drop n).length ≤ sizeLine := by rw [List.length_drop, lv, sizeLine_eq]; omega
    have hzu : (us.drop n).length ≤ sizeLine := by rw [List.length_drop, lu, sizeLine_eq]; omega
    have rp := pick_vals ((r1.append rz).append rf) ix
    have lp : (pick ix (vs.take n ++ zs ++ dv)).length = ps.length := by
      rw [pick_length ix _ fun i hi' => ?_]
      · exact hl
      · have := hi i hi'
        have e1 : dv.length = dfl.length := (rr g H).length.symm
        simp only [List.length_append, List.length_take, lv, lz, e1]
        omega
    have lpu : (pick ix (us.take n ++ ws ++ fl)).length = ps.length := by rw [← rp.length]; exact lp
    refine StX.run_bnd (N := N) (ps := ps ++ [pv]) lk hcd Sc hr e0 (G := fun xs H2 => ∃ p, H p = Option.none ∧ xs = pick ix (vs.take n ++ zs ++ dv) ++ [V.ref p] ∧ H2 = upd H p (.tup (vs.drop n))) (fun A' Ex Q' hh => ?_) fun s2 H2 xs ⟨p, hp, ex, eH⟩ hr' => ?_
    · have st0 := to (us.take n) (us.drop n) ws (by rw [List.length_take]; omega) (by rw [← rz.length]; exact lz) (model P w) A' Q' Ex s KX
      rw [List.take_append_drop] at st0
      refine st0 (wpAny_bind (wpAny_newTuple (wpAny_pure ?_) hzu))
      have new : ObjOk P w (upd H s.heap.objs.size (.tup (vs.drop n))) (s.heap.push ({ cls := .type "tuple", data := .seq (us.drop n).toArray } : Obj)) s.heap.objs.size (.tup (vs.drop n)) := ⟨hz, us.drop n, r2, ⟨_, Heap.get?_push_size _ rfl, rfl, _, rfl⟩⟩
      have un := StX.un_laid (fs := frs outer) (s := s) (o := ({ cls := .type "tuple", data := .seq (us.drop n).toArray } : Obj)) (u := .tup (vs.drop n)) hf
      have z := hh _ _ (pick ix (vs.take n ++ zs ++ dv) ++ [V.ref s.heap.objs.size]) (pick ix (us.take n ++ ws ++ fl) ++ [Value.ref s.heap.objs.size]) (StX.env0_laid e0 new) un rfl (fun e s' => StX.cxUp outer s H _ _ E e s' un (fun b o q => Heap.get?_push_of_some _ q) rfl) (rp.append (.cons rfl .nil))
        (by rw [List.length_append, List.length_append, lp] <;> rfl) ⟨_, hf, rfl, rfl⟩
      rw [List.zip_append lpu.symm] at z
      exact z
    · subst ex eH
      refine ⟨_, hw cdv A outer s2 _ E rfl hr', ?_⟩
      have sm := same_upd (o := .tup (vs.drop n)) hp
      have gd2 := gd.same sm
      have rs2 : Reps K g (upd H p (.tup (vs.drop n))) (pick ix (ds.take n ++ es ++ dfl) ++ [.tup (ds.drop n)]) (pick ix (vs.take n ++ zs ++ dv) ++ [V.ref p]) :=
        (Reps.ext (Ext.same sm) _ _ (pick_reps (((rd.take n).append re).append (rr g H)) ix)).append (Reps.one (Rep.tupNew gd (rd.drop n) hp))
      have x0 : Ext g H g (upd H p (.tup (vs.drop n))) := Ext.same sm
      refine ⟨g, _, S, { nx := fun _ S' => Qd .non S', rt := Qd, ex := fun x _ S' => Ed x S' }, Rel.start gd2 rs2, ?_, ⟨fun r' S' g' σ' H' q x1 rl1 => hq _ S' g' H' _ q (x0.trans x1) rl1.good rfl, fun d0 S' g' H' v q x1 gd1 rp1 => hq _ S' g' H' v q (x0.trans x1) gd1 rp1, fun y r' S' g' σ' H' c dd q x1 rl1 xr => hx y S' g' H' c dd q (x0.trans x1) rl1.good xr, fun _ _ _ _ _ z => z.elim, fun _ _ _ _ _ z => z.elim⟩⟩
      unfold toS
      cases q : m (startD N (pick ix (ds.take n ++ es ++ dfl) ++ [.tup (ds.drop n)])) S <;> simp only [q, Fl.fin] at h <;> first | exact h | exact h.elim
  · simp only [hn, if_false] at h
    exact h.elim
end
end DL
namespace DL
open PySem PySem.Spec PyProof.Rows L2
/-! ### instances -/
/-- an instance: of the store, or one that stands still -/
def insD (S : Store) : D → Option (Str × List Str × List D)
  | .obj C ns ds => some (C, ns, ds)
  | .ref n => match S[n]? with
    | some (.ins C ns ds) => some (C, ns, ds)
    | _ => none
  | _ => none
theorem ins_at {K : PySem.W.Frag} {T : List (Addr × Str)} {g : Gh} {S : Store} {H : Hp} {d : D} {v : V} {C : Str} {ns : List Str} {ds : List D} (gd : GoodS K T g S H) (rp : Rep K g H d v) (h : insD S d = some (C, ns, ds)) :
    ∃ a dx vs, v = .ref a ∧ H a = some (.ins (He.ga K C) dx (ns.zip vs)) ∧ ns.length = vs.length ∧ Reps K g H ds vs := by
  cases d with
  | obj C' ns' ds' =>
    simp only [insD, Option.some.injEq, Prod.mk.injEq] at h
    obtain ⟨rfl, rfl, rfl⟩ := h
    obtain ⟨a, dx, vs, e, ⟨h1, h2, h3⟩, rs⟩ := rp
    exact ⟨a, dx, vs, e, h1, h3, rs⟩
  | ref n =>
    simp only [insD] at h
    split at h
    · rename_i C' ns' ds' hS
      simp only [Option.some.injEq, Prod.mk.injEq] at h
      obtain ⟨rfl, rfl, rfl⟩ := h
      obtain ⟨a, e, _, dx, vs, h1, h2, rs⟩ := ref_at gd rp hS
      exact ⟨a, dx, vs, e, h1, h2, rs⟩
    · cases h
  | _ => simp [insD] at h
theorem lookup_none {f : Str} : ∀ {ns : List Str} {vs : List V}, ns.contains f = false → (ns.zip vs).lookup f = none
  | [], _, _ => rfl
  | n :: ns, [], _ => rfl
  | n :: ns, v :: vs, h => by
    simp only [List.contains_cons, Bool.or_eq_false_iff] at h
    simp only [List.zip_cons_cons, List.lookup_cons, h.1]
    exact lookup_none h.2
theorem lookup_rep {K : PySem.W.Frag} {g : Gh} {H : Hp} {f : Str} {d : D} : ∀ {ns : List Str} {ds : List D} {vs : List V}, Reps K g H ds vs → (ns.zip ds).lookup f = some d → ∃ v, (ns.zip vs).lookup f = some v ∧ Rep K g H d v
  | [], _, _, _, h => by simp at h
  | n :: ns, [], _, _, h => by simp at h
  | n :: ns, x :: ds, _, ⟨v, r, e, h1, h2⟩, h => by
    subst e
    simp only [List.zip_cons_cons, List.lookup_cons] at h ⊢
    split at h
    · cases h; exact ⟨v, rfl, h1⟩
    · exact lookup_rep h2 h
/-! ### the call's node -/
section
variable {M : Model} {A : Around} {E : Value → Shared → Prop} {s : Shared} {K : PySem.W.Frag} {env : Env} {pos : Pos} {f : Value} {first : List Value} {Q : Value → Shared → Prop}
theorem callWith_any {P : Heap → Prop} {args : List (Bool × Sem Value)} {keywords : List (Option Str × Sem Value)}
    (hk : ∀ h, P h → ∃ k, (k = Keeper.frame ∨ k = Keeper.machine ∨ k = Keeper.boundFrame) ∧ PySem.W.Looks M h (keeperOf f) k)
    (h : wpAny M A (evalArgs f true args keywords) (fun a s₁ => P s₁.heap ∧ wpAny M A (call f (first ++ a.pos) a.kw) Q E s₁) E s) : wpAny M A (callWith pos f first args keywords) Q E s := by
  unfold callWith
  refine wpAny_bind (wpAny_holding (wpAny_mono h (fun a s₁ h₁ => wpAny_bind (wpAny_standAt ?_)) fun _ _ x => x))
  obtain ⟨k, hk', L⟩ := hk _ h₁.1
  refine wpAny_bind (L.here ?_)
  have tail : ∀ {t : Sem Value}, wpAny M A t Q E s₁ → wpAny M A (t >>= fun r => holding [r] point >>= fun _ => pure r) Q E s₁ :=
    fun ht => wpAny_bind (wpAny_mono ht (fun r s₂ hr => wpAny_bind (wpAny_holding (wpAny_point (wpAny_pure hr)))) fun _ _ x => x)
  have marked (mk : Value) : wpAny M A (callMarked mk f (first ++ a.pos) a.kw) Q E s₁ := by unfold callMarked; exact Calls.wpAny_keep h₁.2
  cases hs : (args.any (·.1) || keywords.any (·.1.isNone)) with
  | false => rcases hk' with rfl | rfl | rfl <;> dsimp only <;> first | exact tail h₁.2 | (split <;> first | exact tail h₁.2 | exact tail (marked _))
  | true => rcases hk' with rfl | rfl | rfl <;> dsimp only <;> first | exact tail (marked _) | exact tail (wpAny_operating h₁.2)
/-- the arguments' shape: none, or the first is no star -/
def Shp (args : List Expr) (env : Env) : Prop := args = [] ∨ ∃ x rest, starEach args env = (false, x) :: rest
theorem evalArgs_gen {args : List Expr} {kws : List Keyword} {Q : Args → Shared → Prop} (sh : Shp args env) (hall : (backToKw pos (keywordEach kws env)).all (·.1.isSome) = true)
    (h : wpAny M A (spliced (backTo pos (starEach args env))) (fun vs s₁ => wpAny M A (evalAll ((backToKw pos (keywordEach kws env)).map (·.2))) (fun ks s₂ => Q ⟨vs, ((backToKw pos (keywordEach kws env)).filterMap (·.1)).zip ks⟩ s₂) E s₁) E s) :
    wpAny M A (evalArgs f true (backTo pos (starEach args env)) (backToKw pos (keywordEach kws env))) Q E s := by
  rcases sh with rfl | ⟨x, rest, e⟩
  · have e : backTo pos (starEach [] env) = [] := rfl
    rw [e] at h ⊢
    unfold evalArgs
    show wpAny M A (spliced [] >>= _) Q E s
    refine wpAny_bind (wpAny_mono h (fun vs s₁ h₁ => ?_) fun _ _ x => x)
    refine wpAny_bind (wpAny_pure (wpAny_holding ?_))
    simp only [hall, if_true]
    refine wpAny_bind (wpAny_mono h₁ (fun ks s₂ h₂ => ?_) fun _ _ x => x)
    exact wpAny_bind (wpAny_pure (wpAny_pure h₂))
  · rw [e] at h ⊢
    exact evalArgs_kw hall h
theorem callWith_gen {P : Heap → Prop} {args : List Expr} {kws : List Keyword} (hk : ∀ h, P h → ∃ k, (k = Keeper.frame ∨ k = Keeper.machine ∨ k = Keeper.boundFrame) ∧ PySem.W.Looks M h (keeperOf f) k) (sh : Shp args env) (hall : (backToKw pos (keywordEach kws env)).all (·.1.isSome) = true)
    (h : wpAny M A (spliced (backTo pos (starEach args env))) (fun vs s₁ => wpAny M A (evalAll ((backToKw pos (keywordEach kws env)).map (·.2))) (fun ks s₂ => P s₂.heap ∧ wpAny M A (call f (first ++ vs) (((backToKw pos (keywordEach kws env)).filterMap (·.1)).zip ks)) Q E s₂) E s₁) E s) :
    wpAny M A (callWith pos f first (backTo pos (starEach args env)) (backToKw pos (keywordEach kws env))) Q E s := callWith_any hk (evalArgs_gen sh hall h)
end
section
variable {X : Cx} {T : List (Addr × Str)} {W : WX} {e o : Expr} {args : List Expr} {mo mv : ME} {mes mk : MA} {pos p apos : Pos} {x f m : Str} {k j : Nat} {ks : List Str} {kws : List Keyword} {mf : MF2}
theorem run_kc {pins : List (Addr × Obj)} {σ : L2.St} {H : Hp} {s : Shared} {Q : VK} {us ws : List Value} {vs zs : List V} {f : Addr} (F : KC X.prog X.w X.K X.mg X.base T k f ks mf) (hr : Room k X.A) (tk : Takes X W) (I : Inv X pins σ H s) (r : Vals vs us) (rz : Vals zs ws) (lz : zs.length = ks.length)
    (h : kcD X.K T mf vs zs H Q (WE W σ)) : wpAny (model X.prog X.w) X.A (call (.ref f) us (ks.zip ws)) (EP X pins σ Q) X.xe s := by
  refine wpAny_call (codeAny_mono (F X.A X.stack s H us ws vs zs Q (WE W σ) hr I.env0 r rz lz h) fun r s' hq => ?_)
  cases r with
  | error e => exact passAt tk σ pins H s e s' I hq
  | ok fl =>
    cases fl with
    | ret u => exact I.after hq
    | _ => exact False.elim hq
/-- arguments and keywords, both, at the D level -/
theorem run_args {pins : List (Addr × Obj)} {σ : L2.St} {H : Hp} {s : Shared} {g : Gh} {r : Sl} {S : Store} {Qd : List D → List D → Store → Prop} {Ed : DX} {Q : List Value → List Value → Shared → Prop} (ha : DA X T W args (toR mes)) (hkw : DK X T W kws (toR mk)) (I : Inv X pins σ H s) (rl : Rel X.K T g r S σ H) (wk : WOk X.K T W g H r σ Ed)
    (h : ((mes r S).bind fun ds S2 => (mk r S2).bind fun es S3 => R.ok (ds, es) S3).wp (fun p S3 => Qd p.1 p.2 S3) Ed)
    (hq : ∀ ds es S' g' H' vs zs us ws s', Qd ds es S' → Ext g H g' H' → Rel X.K T g' r S' σ H' → Reps X.K g' H' ds vs → Reps X.K g' H' es zs → Inv X pins σ H' s' → Vals vs us → Vals zs ws → Q us ws s') :
    wpAny (model X.prog X.w) X.A (spliced (backTo pos (starEach args X.env))) (fun us s₁ => wpAny (model X.prog X.w) X.A (evalAll ((backToKw pos (keywordEach kws X.env)).map (·.2))) (fun ws s₂ => Q us ws s₂) X.xe s₁) X.xe s := by
  rw [R.wp_bind] at h
  refine thn (L2.PA.run ha pos pins s σ H (fun vs H1 => ∃ g1 ds S1, Ext g H g1 H1 ∧ Rel X.K T g1 r S1 σ H1 ∧ Reps X.K g1 H1 ds vs ∧ ((mk r S1).bind fun es S3 => R.ok (ds, es) S3).wp (fun p S3 => Qd p.1 p.2 S3) Ed) I ⟨g, r, S, _, Ed, rl, h, fun ds S1 g1 H1 vs h1 x1 rl1 rp1 => ⟨g1, ds, S1, x1, rl1, rp1, h1⟩, wk⟩) fun us s1 ⟨vs, H1, I1, rv, g1, ds, S1, x1, rl1, rp1, h1⟩ => ?_
  rw [R.wp_bind] at h1
  refine thn (L2.PK.run hkw pos pins s1 σ H1 (fun zs H2 => ∃ g2 es S2, Ext g1 H1 g2 H2 ∧ Rel X.K T g2 r S2 σ H2 ∧ Reps X.K g2 H2 es zs ∧ Qd ds es S2) I1 ⟨g1, r, S1, _, Ed, rl1, h1, fun es S2 g2 H2 zs h2 x2 rl2 rp2 => ⟨g2, es, S2, x2, rl2, rp2, h2⟩, wk.ext x1⟩) fun ws s2 ⟨zs, H2, I2, rz, g2, es, S2, x2, rl2, rp2, h2⟩ => ?_
  exact hq ds es S2 g2 H2 vs zs us ws s2 h2 (x1.trans x2) rl2 (Reps.ext x2 _ _ rp1) rp2 I2 rv rz
theorem len_kw {pins : List (Addr × Obj)} {σ : L2.St} {H : Hp} {s : Shared} {g : Gh} : True := trivial
/-- what is behind a call at the D level -/
theorem kc_of {K : PySem.W.Frag} {σ : L2.St} {g g' : Gh} {H H' : Hp} {r : Sl} {S' : Store} {Qd : DQ} {Ed : DX} {Q : VK} {ds es : List D} {vs zs : List V} (hq : ∀ d S' g' H' v, Qd d S' → Ext g H g' H' → Rel K T g' r S' σ H' → Rep K g' H' d v → Q v H') (wk : WOk K T W g H r σ Ed) (x1 : Ext g H g' H') (rl : Rel K T g' r S' σ H')
    (rp : Reps K g' H' ds vs) (rp2 : Reps K g' H' es zs) (h : (mf ds es S').wp Qd Ed) : kcD K T mf vs zs H' Q (WE W σ) :=
  ⟨g', S', ds, es, Qd, Ed, rl.good, rp, rp2, h, fun d S2 g2 H2 v q2 x2 gd rp => hq d S2 g2 H2 v q2 (x1.trans x2) (rl.good' gd x2) rp, fun y S2 g2 H2 c dd q2 x2 gd xr => wk y S2 g2 H2 c dd q2 (x1.trans x2) (rl.good' gd x2) xr⟩
/-! ### o.m(..) -/
structure MEnt (P : Program) (w : World) (K : PySem.W.Frag) (mg : Str → Option Value) (base : Heap) (T : List (Addr × Str)) (k : Nat) (m : Str) (ks : List Str) (C : Str) (mf : MF2) : Prop where
  ex : ∃ f, Cls K (He.ga K C) ∧ Meth K (He.ga K C) m f ∧ KC P w K mg base T k f ks mf
def MTab (P : Program) (w : World) (K : PySem.W.Frag) (mg : Str → Option Value) (base : Heap) (T : List (Addr × Str)) (k : Nat) (m : Str) (ks : List Str) (tbl : List (Str × MF2)) : Prop := ∀ C mf, tbl.lookup C = some mf → MEnt P w K mg base T k m ks C mf
theorem MTab.nil {P : Program} {w : World} {K : PySem.W.Frag} {mg : Str → Option Value} {base : Heap} : MTab P w K mg base T k m ks [] := fun C mf h => by cases h
theorem MTab.cons {P : Program} {w : World} {K : PySem.W.Frag} {mg : Str → Option Value} {base : Heap} {C : Str} {f : Addr} {tbl : List (Str × MF2)} (c : Cls K (He.ga K C)) (h : Meth K (He.ga K C) m f) (F : KC P w K mg base T j f ks mf) (hj : j ≤ k) (r : MTab P w K mg base T k m ks tbl) : MTab P w K mg base T k m ks ((C, mf) :: tbl) := fun D mg' hl => by
  simp only [List.lookup_cons] at hl
  split at hl
  · rename_i e
    cases hl
    rw [beq_iff_eq.mp e]
    exact ⟨f, c, h, F.mono hj⟩
  · exact r D mg' hl
def mMeth (m : Str) (n : Nat) (tbl : List (Str × MF2)) (mo : ME) (mes mk : MA) : ME := fun r S => (mo r S).bind fun o S1 => match insD S1 o with
  | some (C, ns, _) => if ns.contains m then .no else match tbl.lookup C with
    | some mf => (mes r S1).bind fun ds S2 => (mk r S2).bind fun es S3 => if es.length = n then mf (o :: ds) es S3 else .no
    | none => .no
  | none => .no
theorem me_meth {pl : Sem Bool} {n : Nat} {tbl : List (Str × MF2)} (mt : MTab X.prog X.w X.K X.mg X.base T k m ks tbl) (tk : Takes X W) (hr : Room j X.A) (ho : DE X T W o (toR mo)) (ha : DA X T W args (toR mes)) (hkw : DK X T W kws (toR mk)) (hj : k ≤ j) (sh : Shp args X.env) (hall : (backToKw pos (keywordEach kws X.env)).all (·.1.isSome) = true) (hks : (backToKw pos (keywordEach kws X.env)).filterMap (·.1) = ks) (hn : ks.length = n)
    (ht : eval (.Call (.Attribute o m apos) args kws pos) X.env = (do
      let ov ← eval o X.env
      standAt apos.atName
      let (f, first) ← holding [ov] (getMethod ov m pl)
      callWith pos f first (backTo pos (starEach args X.env)) (backToKw pos (keywordEach kws X.env)))) :
    DE X T W (.Call (.Attribute o m apos) args kws pos) (toR (mMeth m n tbl mo mes mk)) := ⟨fun pins s σ H Q I ⟨g, r, S, Qd, Ed, rl, h, hq, wk⟩ => by
  unfold toR mMeth at h
  rw [R.wp_bind] at h
  refine PySem.W.methodCall_KW (pl := pl) (thn (L2.PE.run ho pins s σ H (fun v H1 => ∃ g1 d S1, Ext g H g1 H1 ∧ Rel X.K T g1 r S1 σ H1 ∧ Rep X.K g1 H1 d v ∧ _) I ⟨g, r, S, _, Ed, rl, h, fun d S1 g1 H1 v h1 x1 rl1 rp1 => ⟨g1, d, S1, x1, rl1, rp1, h1⟩, wk⟩) fun u s1 ⟨v, H1, I1, rv, g1, d, S1, x1, rl1, rp1, h1⟩ => ?_) ht
  split at h1
  · rename_i C ns ds hi
    split at h1
    · exact h1.elim
    · rename_i hc
      split at h1
      · rename_i mf hl
        obtain ⟨f, c, hm, F⟩ := (mt C mf hl).ex
        obtain ⟨a, dx, vs, rfl, hH, _, _⟩ := ins_at rl1.good rp1 hi
        obtain rfl : u = Value.ref a := rv
        refine getmeth_ok I1 hH c hm (lookup_none (by simpa using hc)) ?_
        refine callWith_gen (first := [.ref a]) (P := X.K.In) (PySem.W.keeps_K hm.kp) sh hall ?_
        have h2 : ((mes r S1).bind fun ds S2 => (mk r S2).bind fun es S3 => R.ok (ds, es) S3).wp (fun p S3 => (if p.2.length = n then mf (d :: p.1) p.2 S3 else .no).wp Qd Ed) Ed := by
          rw [R.wp_bind] at h1 ⊢
          refine h1.imp fun ds2 S2 h1 => ?_
          rw [R.wp_bind] at h1 ⊢
          exact h1
        refine run_args (Qd := fun a b S3 => (if b.length = n then mf (d :: a) b S3 else .no).wp Qd Ed) ha hkw I1 rl1 (wk.ext x1) h2 fun ds2 es S' g' H' vs2 zs us ws s' hw x2 rl2 rp2 rp3 I2 rv2 rz => ⟨I2.kIn, ?_⟩
        rw [hks]
        split at hw
        · rename_i hle
          exact run_kc (vs := .ref a :: vs2) F (hr.mono hj) tk I2 (.cons rfl rv2) rz (by rw [← rp3.length, hle, hn]) (kc_of (ds := d :: ds2) hq wk (x1.trans x2) rl2 ⟨_, _, rfl, Rep.ext x2 _ _ rp1, rp2⟩ rp3 hw)
        · exact hw.elim
      · exact h1.elim
  · exact h1.elim⟩
/-! ### o.f: a field, a property -/
def PTab (P : Program) (w : World) (K : PySem.W.Frag) (mg : Str → Option Value) (base : Heap) (T : List (Addr × Str)) (k : Nat) (f : Str) (fl : List Str) (tbl : List (Str × MF2)) : Prop :=
  (∀ C mf, tbl.lookup C = some mf → ∃ p g, Cls K (He.ga K C) ∧ PropOf K (He.ga K C) f p g ∧ KC P w K mg base T k g [] mf) ∧ ∀ C, fl.contains C = true → Cls K (He.ga K C) ∧ NoAttr K (He.ga K C) f
theorem PTab.nil {P : Program} {w : World} {K : PySem.W.Frag} {mg : Str → Option Value} {base : Heap} : PTab P w K mg base T k f [] [] := ⟨(fun C mf h => by cases h), (fun C h => by simp at h)⟩
theorem PTab.fld {P : Program} {w : World} {K : PySem.W.Frag} {mg : Str → Option Value} {base : Heap} {C : Str} {fl : List Str} {tbl : List (Str × MF2)} (c : Cls K (He.ga K C)) (n : NoAttr K (He.ga K C) f) (r : PTab P w K mg base T k f fl tbl) : PTab P w K mg base T k f (C :: fl) tbl := ⟨r.1, fun D hD => by
  simp only [List.contains_cons, Bool.or_eq_true] at hD
  rcases hD with e | e
  · rw [beq_iff_eq.mp e]; exact ⟨c, n⟩
  · exact r.2 D e⟩
theorem PTab.prop {P : Program} {w : World} {K : PySem.W.Frag} {mg : Str → Option Value} {base : Heap} {C : Str} {q g : Addr} {fl : List Str} {tbl : List (Str × MF2)} (c : Cls K (He.ga K C)) (h : PropOf K (He.ga K C) f q g) (F : KC P w K mg base T j g [] mf) (hj : j ≤ k) (r : PTab P w K mg base T k f fl tbl) : PTab P w K mg base T k f fl ((C, mf) :: tbl) := ⟨fun D mg' hl => by
  simp only [List.lookup_cons] at hl
  split at hl
  · rename_i e
    cases hl
    rw [beq_iff_eq.mp e]
    exact ⟨q, g, c, h, F.mono hj⟩
  · exact r.1 D mg' hl, r.2⟩
def mAttr (f : Str) (fl : List Str) (tbl : List (Str × MF2)) (mo : ME) : ME := fun r S => (mo r S).bind fun o S1 => match insD S1 o with
  | some (C, ns, ds) => match tbl.lookup C with
    | some mf => (mf [o] [] S1).nox
    | none => if fl.contains C then (match (ns.zip ds).lookup f with
      | some d => .ok d S1
      | none => .no) else .no
  | none => .no
theorem getprop_kc {C p g a dx : Addr} {fs : List (Str × V)} {pins : List (Addr × Obj)} {σ : L2.St} {H : Hp} {s : Shared} {Q : VK} {b : Bool} {E' : Value → Shared → Prop} (I : Inv X pins σ H s) (ea : H a = some (.ins C dx fs)) (c : Cls X.K C) (hp : PropOf X.K C f p g)
    (F : KC X.prog X.w X.K X.mg X.base T k g [] mf) (hr : Room (k + 1) X.A) (h : kcD X.K T mf [.ref a] [] H Q (fun _ _ _ => False)) : wpAny (model X.prog X.w) X.A (getAttr (.ref a) f b) (EP X pins σ Q) E' s := by
  obtain ⟨mA, O, _, _, _, _⟩ := ins_get I.hok ea
  obtain ⟨od, J, _⟩ := O.look
  obtain ⟨rest, hrec⟩ := hp.rec_
  have I1 := I.tok (s.toks + 1)
  have hc : (PySem.W.clsIn X.K C).isSome = true := by
    obtain ⟨cd, hc, _⟩ := PySem.W.any_some c.hd
    rw [hc]
    rfl
  refine PySem.W.get_bind I.kIn J (PySem.W.plainGet_of (c.get f)).1 (PySem.W.findObj_data hc hp.at_ hp.get hp.tak) (PySem.W.plainGet_of (c.get f)).2 (wpAny_call (PySem.W.prop_get (s := { s with toks := s.toks + 1 }) I.kIn hrec ?_))
  refine codeAny_mono (F X.A.in1 X.stack { s with toks := s.toks + 1 } H [.ref a] [] [.ref a] [] Q _ hr.in1 I1.env0.in1 (.cons rfl .nil) .nil rfl h) fun r s' hq => ?_
  cases r with
  | error er => obtain ⟨_, _, _, _, _, _, _, _, _, _, _, _, z⟩ := hq; exact z.elim
  | ok fl =>
    cases fl with
    | ret u =>
      obtain ⟨v, H', I3, rv, q3⟩ := I1.after hq
      show wpAny _ _ (handedOut u) _ _ _
      rw [PySem.W.handedOut_of (handed_of rv)]
      exact wpAny_pure ⟨v, H', I3, rv, q3⟩
    | next => exact False.elim hq
    | brk => exact False.elim hq
    | cont => exact False.elim hq
theorem me_attr {fl : List Str} {tbl : List (Str × MF2)} (pt : PTab X.prog X.w X.K X.mg X.base T k f fl tbl) (hr : Room j X.A) (ho : DE X T W o (toR mo)) (hj : k + 1 ≤ j) (hab : attributeBase o f X.env (eval o X.env) = eval o X.env) : DE X T W (.Attribute o f pos) (toR (mAttr f fl tbl mo)) := ⟨fun pins s σ H Q I ⟨g, r, S, Qd, Ed, rl, h, hq, wk⟩ => by
  unfold toR mAttr at h
  rw [R.wp_bind] at h
  refine attr_of hab (thn (L2.PE.run ho pins s σ H (fun v H1 => ∃ g1 d S1, Ext g H g1 H1 ∧ Rel X.K T g1 r S1 σ H1 ∧ Rep X.K g1 H1 d v ∧ _) I ⟨g, r, S, _, Ed, rl, h, fun d S1 g1 H1 v h1 x1 rl1 rp1 => ⟨g1, d, S1, x1, rl1, rp1, h1⟩, wk⟩) fun u s1 ⟨v, H1, I1, rv, g1, d, S1, x1, rl1, rp1, h1⟩ => ?_)
  split at h1
  · rename_i C ns ds hi
    obtain ⟨a, dx, vs, rfl, hH, hl, rs⟩ := ins_at rl1.good rp1 hi
    obtain rfl : u = Value.ref a := rv
    split at h1
    · rename_i mf hlk
      obtain ⟨p, g0, c, hp, F⟩ := pt.1 C mf hlk
      refine getprop_kc I1 hH c hp F (hr.mono hj) ⟨g1, S1, [d], [], Qd, EF, rl1.good, Reps.one rp1, rfl, R.wp_nox h1, fun d2 S2 g2 H2 v q2 x2 gd rp => hq d2 S2 g2 H2 v q2 (x1.trans x2) (rl1.good' gd x2) rp, fun _ _ _ _ _ _ z => z.elim⟩
    · split at h1
      · rename_i hc
        obtain ⟨c, n⟩ := pt.2 C hc
        split at h1
        · rename_i d2 hd2
          obtain ⟨v2, hv2, rv2⟩ := lookup_rep rs hd2
          exact getattr_ok I1 hH c n hv2 fun u s' I2 ru => ⟨v2, H1, I2, ru, hq d2 S1 g1 H1 v2 h1 x1 rl1 rv2⟩
        · exact h1.elim
      · exact h1.elim
  · exact h1.elim⟩
/-! ### o.f = e -/
def putD (f : Str) (d : D) : List Str → List D → List Str × List D
  | n :: ns, x :: ds => if n = f then (n :: ns, d :: ds) else (n :: (putD f d ns ds).1, x :: (putD f d ns ds).2)
  | _, _ => ([f], [d])
theorem putD_rep {K : PySem.W.Frag} {g : Gh} {H : Hp} {f : Str} {d : D} {v : V} (rv : Rep K g H d v) : ∀ {ns : List Str} {ds : List D} {vs : List V}, Reps K g H ds vs → ns.length = vs.length → ∃ us, putF f v (ns.zip vs) = (putD f d ns ds).1.zip us ∧ Reps K g H (putD f d ns ds).2 us ∧ (putD f d ns ds).1.length = us.length
  | [], [], vs, h, hl => by
    cases h
    exact ⟨[v], by simp [putF, putD], by simp only [putD]; exact Reps.one rv, by simp [putD]⟩
  | [], x :: ds, vs, ⟨y, r, e, h1, h2⟩, hl => by subst e; simp at hl
  | n :: ns, [], vs, h, hl => by cases h; simp at hl
  | n :: ns, x :: ds, vs, ⟨y, r, e, h1, h2⟩, hl => by
    subst e
    simp only [List.zip_cons_cons, putF, putD]
    by_cases hn : n = f
    · rw [if_pos hn, if_pos hn]
      exact ⟨v :: r, by simp, ⟨v, r, rfl, rv, h2⟩, by simpa using hl⟩
    · rw [if_neg hn, if_neg hn]
      obtain ⟨us, e1, e2, e3⟩ := putD_rep rv (ns := ns) h2 (by simpa using hl)
      exact ⟨y :: us, by simp [e1], ⟨y, us, rfl, h1, e2⟩, by simp [e3]⟩
def mFld (f : Str) (fl : List Str) (mo mv : ME) : MS := fun r S => (mv r S).fl r fun y S1 => (mo r S1).fl r fun o S2 => match o with
  | .ref n => match S2[n]? with
    | some (.ins C ns ds) => if fl.contains C = true ∧ ns.length < 1000 then .nx r (S2.set n (.ins C (putD f y ns ds).1 (putD f y ns ds).2)) else .no
    | _ => .no
  | _ => .no
theorem codeO_ins {C dx : Addr} {fs : List (Str × V)} {c : Addr} {q : Str} : HO.ins C dx fs ≠ LamX.CodeO c q := by intro h; cases h
theorem ms_fld {value : Expr} {pos' : Pos} {fl : List Str} {tbl : List (Str × MF2)} (pt : PTab X.prog X.w X.K X.mg X.base T k f fl tbl) (ho : DE X T W o (toR mo)) (hv : DE X T W value (toR mv)) (hs : swapsWith value (some (.Attribute o f pos')) pos.line X.env = pure false) :
    DS X T W (.Assign [.Attribute o f pos'] value pos) (toS (mFld f fl mo mv)) := PS.imp (ps_fld ho hv hs) fun N σ H ⟨g, r, S, d, rl, h, e⟩ => by
  unfold toS mFld at h
  rw [wp_fl] at h
  refine ⟨g, r, S, _, _, rl, h, fun y S1 g1 H1 v h1 x1 rl1 rp1 => ?_, e.wok r σ⟩
  rw [wp_fl] at h1
  refine ⟨g1, r, S1, _, _, rl1, h1, fun o S2 g2 H2 v2 h2 x2 rl2 rp2 => ?_, (e.wok r σ).ext x1⟩
  split at h2
  · rename_i n
    split at h2
    · rename_i C ns ds hS
      split at h2
      · rename_i hc
        obtain ⟨c, na⟩ := pt.2 C hc.1
        obtain ⟨a, rfl, hp, dx, vs, hH, hl, rs⟩ := ref_at rl2.good rp2 hS
        have hlt : n < S2.length := (List.getElem?_eq_some_iff.mp hS).1
        obtain ⟨us, e1, e2, e3⟩ := putD_rep (f := f) (Rep.ext x2 _ _ rp1) rs hl
        refine ⟨a, _, dx, _, rfl, hH, c, na, ?_, ?_⟩
        · rw [List.length_zip, hl]; simpa [hl] using hc.2
        · rw [e1]
          have wr : ∀ b, ¬ g2.off b → upd H2 a (.ins (He.ga X.K C) dx ((putD f y ns ds).1.zip us)) b = H2 b := fun b nb => upd_ne fun z => nb (.inl (by rw [z]; exact List.mem_of_getElem? hp))
          obtain ⟨gd3, x3⟩ := rl2.good.write (u := .ins (He.ga X.K C) dx ((putD f y ns ds).1.zip us)) (o := .ins C (putD f y ns ds).1 (putD f y ns ds).2) (fun _ => nofun) hp hlt ⟨dx, us, upd_same, e3, Reps.wr wr _ _ e2⟩ (fun t z => by rw [hH] at z; cases z) (fun c q z => by rw [hH] at z; exact codeO_ins (Option.some.inj z))
          exact e.nx _ _ g2 _ _ h2 ((x1.trans x2).trans x3) (rl2.good' gd3 x3)
      · exact h2.elim
    · exact h2.elim
  · exact h2.elim
end
end DL
namespace DL
open PySem PySem.Spec PyProof.Rows L2
/-! ### C(..) -/
/-- a new instance, its __init__; fz: it stands still from then on -/
noncomputable def mkR (C : Str) (fz : Bool) (mf : MF2) (ds es : List D) (S : Store) : R D :=
  if fz = true then exitR S (match mf (.ref S.length :: ds) es (S ++ [.ins C [] []]) with
    | .ok .non S3 => .rt (.ref S.length) S3
    | .ex x S3 => .ex x [] S3
    | _ => .no)
  else match mf (.ref S.length :: ds) es (S ++ [.ins C [] []]) with
    | .ok .non S3 => .ok (.ref S.length) S3
    | .ex x S3 => .ex x S3
    | _ => .no
section
variable {X : Cx} {T : List (Addr × Str)} {W : WX} {e o : Expr} {args : List Expr} {mo mv : ME} {mes mk : MA} {pos p apos : Pos} {x f m : Str} {k j : Nat} {ks : List Str} {kws : List Keyword} {mf : MF2}
theorem run_mk {C f : Addr} {pins : List (Addr × Obj)} {σ : L2.St} {H : Hp} {s : Shared} {Q : VK} {us ws : List Value} {vs zs : List V} (M : Mk X.K C f) (F : KC X.prog X.w X.K X.mg X.base T k f ks mf) (hr : Room (k + 1) X.A) (tk : Takes X W) (I : Inv X pins σ H s) (r : Vals vs us) (rz : Vals zs ws) (lz : zs.length = ks.length)
    (h : ∀ x dx, H x = none → H dx = none → dx ≠ x → kcD X.K T mf (.ref x :: vs) zs (upd (upd H dx (.own x)) x (.ins C dx [])) (fun v H2 => v = .non ∧ Q (.ref x) H2) (WE W σ)) :
    wpAny (model X.prog X.w) X.A (call (.ref C) us (ks.zip ws)) (EP X pins σ Q) X.xe s := by
  have hq := h (s.heap.objs.size + 1) s.heap.objs.size (I.hok.fresh (Nat.le_succ _)) (I.hok.fresh (Nat.le_refl _)) (Nat.ne_of_lt (Nat.lt_succ_self _))
  have I2 := Inv.made (C := C) I
  refine wpAny_call (make_map (f := f) I.kIn M.makes M.init (beq_iff_eq.mp M.fn) (codeAny_mono (F _ X.stack _ _ (Value.ref (s.heap.objs.size + 1) :: us) ws (V.ref (s.heap.objs.size + 1) :: vs) zs _ (WE W σ) (hr.make C us (ks.zip ws))
    (I2.env0.make C us (ks.zip ws)) (.cons rfl r) rz lz hq) fun r s' hq' => ?_))
  cases r with
  | error e => exact passAt tk σ pins _ _ e s' I2 hq'
  | ok fl =>
    cases fl with
    | ret u =>
      obtain ⟨v, H', I3, rv, ev, q3⟩ := I2.after hq'
      subst ev
      exact ⟨rv, ⟨V.ref (s.heap.objs.size + 1), H', I3, rfl, q3⟩⟩
    | next => exact False.elim hq'
    | brk => exact False.elim hq'
    | cont => exact False.elim hq'
theorem mk_kc {K : PySem.W.Frag} {C : Str} {fz : Bool} {σ : L2.St} {g g' : Gh} {H H' : Hp} {r : Sl} {S' : Store} {Qd : DQ} {Ed : DX} {Q : VK} {ds es : List D} {vs zs : List V} (hq : ∀ d S' g' H' v, Qd d S' → Ext g H g' H' → Rel K T g' r S' σ H' → Rep K g' H' d v → Q v H') (wk : WOk K T W g H r σ Ed) (x1 : Ext g H g' H') (rl : Rel K T g' r S' σ H')
    (rp : Reps K g' H' ds vs) (rp2 : Reps K g' H' es zs) (h : (mkR C fz mf ds es S').wp Qd Ed) {x dx : Addr} (hx : H' x = none) (hdx : H' dx = none) (hne : dx ≠ x) :
    kcD K T mf (.ref x :: vs) zs (upd (upd H' dx (.own x)) x (.ins (He.ga K C) dx [])) (fun v H2 => v = .non ∧ Q (.ref x) H2) (WE W σ) := by
  have s1 := same_upd (o := .own x) hdx
  have hx1 : upd H' dx (.own x) x = none := by rw [upd_ne (Ne.symm hne)]; exact hx
  have g1 := (rl.good.same s1)
  have g2 := g1.new (u := .ins (He.ga K C) dx []) (o := .ins C [] []) hx1 ⟨dx, [], upd_same, rfl, rfl⟩
  have x2 : Ext g' H' ⟨g'.ps ++ [x], g'.hs⟩ (upd (upd H' dx (.own x)) x (.ins (He.ga K C) dx [])) := (Ext.same s1).trans (Ext.new hx1)
  have rself : Rep K ⟨g'.ps ++ [x], g'.hs⟩ (upd (upd H' dx (.own x)) x (.ins (He.ga K C) dx [])) (.ref S'.length) (.ref x) := ⟨x, rfl, by rw [← rl.good.len]; simp⟩
  refine ⟨⟨g'.ps ++ [x], g'.hs⟩, S' ++ [.ins C [] []], .ref S'.length :: ds, es, fun d S3 => d = .non ∧ (if fz = true then ∃ S1 e, Left S' S3 S1 ∧ Frz S'.length S3 (.ref S'.length) e ∧ Qd e S1 else Qd (.ref S'.length) S3), fun y S3 => (if fz = true then ∃ S1, Left S' S3 S1 ∧ rlts S'.length y.ds = true ∧ Ed y S1 else Ed y S3), g2, ⟨_, _, rfl, rself, Reps.ext x2 _ _ rp⟩, Reps.ext x2 _ _ rp2, ?_, fun d S3 g3 H3 v hd x3 gd3 rp3 => ?_, fun y S3 g3 H3 c dd hd x3 gd3 xr => ?_⟩
  · unfold mkR at h
    cases fz with
    | true =>
      simp only [if_true] at h ⊢
      cases q : mf (.ref S'.length :: ds) es (S' ++ [.ins C [] []]) with
      | ok d S3 =>
        rw [q] at h
        cases d with
        | non =>
          simp only [exitR] at h
          obtain ⟨e, S1, ⟨h1, h3⟩, h2⟩ := pk_wp h
          exact ⟨rfl, S1, e, h1, h3, h2⟩
        | _ => exact h.elim
      | ex y S3 =>
        rw [q] at h
        simp only [exitR] at h
        rw [R.wp_bind] at h
        obtain ⟨_, S1, ⟨h1, h3⟩, h2⟩ := pk_wp h
        exact ⟨S1, h1, h3, h2⟩
      | no => rw [q] at h; exact h.elim
    | false =>
      simp only [Bool.false_eq_true, if_false] at h ⊢
      cases q : mf (.ref S'.length :: ds) es (S' ++ [.ins C [] []]) with
      | ok d S3 =>
        rw [q] at h
        cases d with
        | non => exact ⟨rfl, h⟩
        | _ => exact h.elim
      | ex y S3 => rw [q] at h; exact h
      | no => rw [q] at h; exact h.elim
  · obtain ⟨e0, hd⟩ := hd
    subst e0
    refine ⟨rp3, ?_⟩
    have rs3 := Rep.ext x3 _ _ rself
    cases fz with
    | true =>
      simp only [if_true] at hd
      obtain ⟨S1, e, l, fz', q⟩ := hd
      have x23 := x2.trans x3
      obtain ⟨gd4, x4⟩ := l.good rl.good gd3 x23
      obtain ⟨new, hp, _⟩ := x23.ps
      rw [← rl.good.len] at fz'
      exact hq _ S1 g' H3 _ q (x1.trans x4) (rl.good' gd4 x4) (fz'.rep gd3 hp x23.hs (by rw [rl.good.len]; exact rs3))
    | false =>
      simp only [Bool.false_eq_true, if_false] at hd
      exact hq _ S3 g3 H3 _ hd ((x1.trans x2).trans x3) (rl.good' gd3 (x2.trans x3)) rs3
  · cases fz with
    | true =>
      simp only [if_true] at hd
      obtain ⟨S1, l, hr2, q⟩ := hd
      have x23 := x2.trans x3
      obtain ⟨gd4, x4⟩ := l.good rl.good gd3 x23
      obtain ⟨new, hp, _⟩ := x23.ps
      obtain ⟨e1, d, vs, e2, ⟨h3, h4, h5⟩, h6⟩ := xr
      refine wk y S1 g' H3 c dd q (x1.trans x4) (rl.good' gd4 x4) ⟨e1, d, vs, e2, ⟨h3, fun z => h4 (z.imp (fun y => by rw [hp]; exact List.mem_append_left _ y) fun y => by rw [x23.hs]; exact y), h5⟩, Reps.less hp x23.hs _ _ ?_ h6⟩
      rw [rl.good.len]; exact hr2
    | false =>
      simp only [Bool.false_eq_true, if_false] at hd
      exact wk y S3 g3 H3 c dd hd ((x1.trans x2).trans x3) (rl.good' gd3 (x2.trans x3)) xr
noncomputable def mMake (C : Str) (fz : Bool) (n : Nat) (mf : MF2) (mes mk : MA) : ME := fun r S => (mes r S).bind fun ds S2 => (mk r S2).bind fun es S3 => if es.length = n then mkR C fz mf ds es S3 else .no
/-- what is known of a class that is made -/
structure MkC (P : Program) (w : World) (K : PySem.W.Frag) (mg : Str → Option Value) (base : Heap) (T : List (Addr × Str)) (k : Nat) (C : Str) (ks : List Str) (mf : MF2) : Prop where
  ex : ∃ f, Mk K (He.ga K C) f ∧ KC P w K mg base T k f ks mf
  gl : mg C = some (.ref (He.ga K C))
theorem make_any {C : Str} {fz : Bool} {n : Nat} (mc : MkC X.prog X.w X.K X.mg X.base T k C ks mf) (tk : Takes X W) (hr : Room j X.A) (ha : DA X T W args (toR mes)) (hkw : DK X T W kws (toR mk)) (hj : k + 1 ≤ j) (sh : Shp args X.env) (hall : (backToKw pos (keywordEach kws X.env)).all (·.1.isSome) = true) (hks : (backToKw pos (keywordEach kws X.env)).filterMap (·.1) = ks) (hn : ks.length = n)
    {pins : List (Addr × Obj)} {s : Shared} {σ : L2.St} {H : Hp} {Q : VK} (I : Inv X pins σ H s) (h : lift X.K T W (toR (mMake C fz n mf mes mk)) σ H Q) :
    wpAny (model X.prog X.w) X.A (callWith pos (.ref (He.ga X.K C)) [] (backTo pos (starEach args X.env)) (backToKw pos (keywordEach kws X.env))) (EP X pins σ Q) X.xe s := by
  obtain ⟨g, r, S, Qd, Ed, rl, h, hq, wk⟩ := h
  unfold toR mMake at h
  obtain ⟨fI, M, F⟩ := mc.ex
  refine callWith_gen (first := []) (P := X.K.In) (PySem.W.keeps_K M.kp) sh hall ?_
  have h2 : ((mes r S).bind fun ds S2 => (mk r S2).bind fun es S3 => R.ok (ds, es) S3).wp (fun p S3 => (if p.2.length = n then mkR C fz mf p.1 p.2 S3 else .no).wp Qd Ed) Ed := by
    rw [R.wp_bind] at h ⊢
    refine h.imp fun ds2 S2 h1 => ?_
    rw [R.wp_bind] at h1 ⊢
    exact h1
  refine run_args (Qd := fun a b S3 => (if b.length = n then mkR C fz mf a b S3 else .no).wp Qd Ed) ha hkw I rl wk h2 fun ds2 es S' g' H' vs2 zs us ws s' hw x2 rl2 rp2 rp3 I2 rv2 rz => ⟨I2.kIn, ?_⟩
  rw [hks]
  split at hw
  · rename_i hle
    exact run_mk M F (hr.mono hj) tk I2 rv2 rz (by rw [← rp3.length, hle, hn]) fun x dx hx hdx hne => mk_kc hq wk x2 rl2 rp2 rp3 hw hx hdx hne
  · exact hw.elim
theorem me_make {C : Str} {fz : Bool} {n : Nat} (mc : MkC X.prog X.w X.K X.mg X.base T k C ks mf) (tk : Takes X W) (hr : Room j X.A) (ha : DA X T W args (toR mes)) (hkw : DK X T W kws (toR mk)) (hj : k + 1 ≤ j) (hg : Gl X C) (sh : Shp args X.env) (hall : (backToKw pos (keywordEach kws X.env)).all (·.1.isSome) = true) (hks : (backToKw pos (keywordEach kws X.env)).filterMap (·.1) = ks) (hn : ks.length = n) (hdb : (C == ("__debug__" : Str)) = false) :
    DE X T W (.Call (.Name C p) args kws pos) (toR (mMake C fz n mf mes mk)) := ⟨fun pins s σ H Q I h => wpAny_Call_Name_kw (ld_glob I hg mc.gl (make_any mc tk hr ha hkw hj sh hall hks hn I h) hdb)⟩
/-- cls(..), cls a name of the def -/
noncomputable def mMakeV (i : Nat) (C : Str) (fz : Bool) (n : Nat) (mf : MF2) (mes mk : MA) : ME := fun r S => match r[i]? with
  | some (some (.adr C')) => if C' = C then mMake C fz n mf mes mk r S else .no
  | _ => .no
theorem me_makeV {i : Nat} {C : Str} {fz : Bool} {n : Nat} (mc : MkC X.prog X.w X.K X.mg X.base T k C ks mf) (tk : Takes X W) (hr : Room j X.A) (ha : DA X T W args (toR mes)) (hkw : DK X T W kws (toR mk)) (hv : DE X T W (.Name x p) (toR (mVar i))) (hj : k + 1 ≤ j) (sh : Shp args X.env) (hall : (backToKw pos (keywordEach kws X.env)).all (·.1.isSome) = true) (hks : (backToKw pos (keywordEach kws X.env)).filterMap (·.1) = ks) (hn : ks.length = n) :
    DE X T W (.Call (.Name x p) args kws pos) (toR (mMakeV i C fz n mf mes mk)) := ⟨fun pins s σ H Q I ⟨g, r, S, Qd, Ed, rl, h, hq, wk⟩ => by
  unfold toR mMakeV at h
  split at h
  · rename_i C' e
    split at h
    · rename_i eC
      subst eC
      refine wpAny_Call_Name_kw (thn (L2.PE.run hv pins s σ H (fun v H1 => ∃ g1 S1, Ext g H g1 H1 ∧ Rel X.K T g1 r S1 σ H1 ∧ Rep X.K g1 H1 (.adr C') v ∧ (mMake C' fz n mf mes mk r S1).wp Qd Ed) I ⟨g, r, S, fun d S1 => d = .adr C' ∧ S1 = S, Ed, rl, ?_, fun d S1 g1 H1 v ⟨h1, h2⟩ x1 rl1 rp1 => ⟨g1, S1, x1, rl1, h1 ▸ rp1, by rw [h2]; exact h⟩, wk⟩) fun u s1 ⟨v, H1, I1, rv, g1, S1, x1, rl1, rp1, h1⟩ => ?_)
      · unfold toR mVar
        rw [e]
        exact ⟨rfl, rfl⟩
      · have ev : v = .ref (He.ga X.K C') := rp1
        subst ev
        obtain rfl : u = Value.ref (He.ga X.K C') := rv
        exact make_any mc tk hr ha hkw hj sh hall hks hn I1 ⟨g1, r, S1, Qd, Ed, rl1, h1, fun d S2 g2 H2 v q x2 rl2 rp2 => hq d S2 g2 H2 v q (x1.trans x2) rl2 rp2, wk.ext x1⟩
    · exact h.elim
  · exact h.elim⟩
/-! ### *e among the arguments -/
def sqOf (S : Store) : D → Option (List D)
  | .tup ds => some ds
  | .lst ds => some ds
  | .fz ds => some ds
  | .ref n => match S[n]? with
    | some (.lst ds) => some ds
    | _ => none
  | _ => none
def mStar (mo : ME) (mes : MA) : MA := fun r S => (mo r S).bind fun d S1 => match sqOf S1 d with
  | some xs => (mes r S1).bind fun ys S2 => .ok (xs ++ ys) S2
  | none => .no
theorem ma_star {sp : Pos} {es : List Expr} (he : DE X T W e (toR mo)) (hr : DA X T W es (toR mes)) (hs : starEach (.Starred e sp :: es) X.env = (true, eval e X.env) :: starEach es X.env := by rfl) : DA X T W (.Starred e sp :: es) (toR (mStar mo mes)) := PA.imp (StX.pa_star he hr hs) fun σ H Q ⟨g, r, S, Qd, Ed, rl, h, hq, wk⟩ => by
  unfold toR mStar at h
  rw [R.wp_bind] at h
  refine ⟨g, r, S, _, Ed, rl, h, fun d S1 g1 H1 v h1 x1 rl1 rp1 => ?_, wk⟩
  split at h1
  · rename_i xs hx
    have key : ∃ p vs, v = V.ref p ∧ (SqT X.K H1 p vs ∨ SqL X.K H1 p vs) ∧ Reps X.K g1 H1 xs vs := by
      cases d with
      | tup ds =>
        simp only [sqOf, Option.some.injEq] at hx
        subst hx
        obtain ⟨a, vs, rfl, hh, rs⟩ := rp1
        exact ⟨a, vs, rfl, .inl (.inl (.inl hh.1)), rs⟩
      | lst ds =>
        simp only [sqOf, Option.some.injEq] at hx
        subst hx
        obtain ⟨a, vs, rfl, hh, rs⟩ := rp1
        exact ⟨a, vs, rfl, .inr (.inl (.inl hh.1)), rs⟩
      | fz ds =>
        simp only [sqOf, Option.some.injEq] at hx
        subst hx
        obtain ⟨a, vs, rfl, hh, rs⟩ := rp1
        refine ⟨a, vs, rfl, .inr ?_, rs⟩
        rcases hh with hh | hh
        · exact .inl hh.1
        · exact .inr hh
      | ref n =>
        simp only [sqOf] at hx
        split at hx
        · rename_i ds hS
          cases hx
          obtain ⟨a, rfl, _, vs, hH, rs⟩ := ref_at rl1.good rp1 hS
          exact ⟨a, vs, rfl, .inr (.inl (.inl hH)), rs⟩
        · cases hx
      | _ => simp [sqOf] at hx
    obtain ⟨p, vs, e1, e2, e3⟩ := key
    rw [R.wp_bind] at h1
    refine ⟨p, vs, e1, e2, g1, r, S1, _, Ed, rl1, h1, fun ys S2 g2 H2 us h2 x2 rl2 rp2 => hq _ S2 g2 H2 _ h2 (x1.trans x2) rl2 ((Reps.ext x2 _ _ e3).append rp2), wk.ext x1⟩
  · exact h1.elim
/-! ### C.m(..), m a classmethod -/
structure CmC (P : Program) (w : World) (K : PySem.W.Frag) (mg : Str → Option Value) (base : Heap) (T : List (Addr × Str)) (k : Nat) (C m : Str) (ks : List Str) (mf : MF2) : Prop where
  ex : ∃ q g, ClX.CRead K (He.ga K C) (.type "type") ∧ ClX.CMet K (He.ga K C) (.type "type") m q g ∧ KC P w K mg base T k g ks mf
  gl : mg C = some (.ref (He.ga K C))
def mCm (C : Str) (n : Nat) (mf : MF2) (mes mk : MA) : ME := fun r S => (mes r S).bind fun ds S2 => (mk r S2).bind fun es S3 => if es.length = n then mf (.adr C :: ds) es S3 else .no
theorem run_cmK {C q g : Addr} {pins : List (Addr × Obj)} {σ : L2.St} {H : Hp} {s : Shared} {Q : VK} {us ws : List Value} {vs zs : List V} (F : KC X.prog X.w X.K X.mg X.base T k g ks mf) (hr : Room k X.A) (tk : Takes X W) (I : Inv X ((q, PySem.W.methodObj (.ref g) (.ref C)) :: pins) σ H s) (r : Vals vs us) (rz : Vals zs ws) (lz : zs.length = ks.length)
    (h : kcD X.K T mf (.ref C :: vs) zs H Q (WE W σ)) : wpAny (model X.prog X.w) X.A (call (.ref q) us (ks.zip ws)) (EP X pins σ Q) X.xe s := by
  have I0 := ClX.unpin I
  refine wpAny_call (PySem.W.method_call (ClX.pin_at I) (codeAny_mono (F X.A X.stack s H (.ref C :: us) ws (.ref C :: vs) zs Q (WE W σ) hr I.env0 (.cons rfl r) rz lz h) fun r s' hq => ?_))
  cases r with
  | error e => exact passAt tk σ pins H s e s' I0 hq
  | ok fl =>
    cases fl with
    | ret u => exact I0.after hq
    | _ => exact False.elim hq
theorem me_cm {pl : Sem Bool} {C : Str} {n : Nat} (cm : CmC X.prog X.w X.K X.mg X.base T k C m ks mf) (tk : Takes X W) (hr : Room j X.A) (ha : DA X T W args (toR mes)) (hkw : DK X T W kws (toR mk)) (hj : k ≤ j) (hg : Gl X C) (sh : Shp args X.env) (hall : (backToKw pos (keywordEach kws X.env)).all (·.1.isSome) = true) (hks : (backToKw pos (keywordEach kws X.env)).filterMap (·.1) = ks) (hn : ks.length = n) (hdb : (C == ("__debug__" : Str)) = false)
    (ht : eval (.Call (.Attribute (.Name C p) m apos) args kws pos) X.env = (do
      let ov ← eval (.Name C p) X.env
      standAt apos.atName
      let (f, first) ← holding [ov] (getMethod ov m pl)
      callWith pos f first (backTo pos (starEach args X.env)) (backToKw pos (keywordEach kws X.env)))) :
    DE X T W (.Call (.Attribute (.Name C p) m apos) args kws pos) (toR (mCm C n mf mes mk)) := ⟨fun pins s σ H Q I ⟨g, r, S, Qd, Ed, rl, h, hq, wk⟩ => by
  unfold toR mCm at h
  obtain ⟨q, fa, cr, ct, F⟩ := cm.ex
  refine PySem.W.methodCall_KW (pl := pl) (ld_glob I hg cm.gl ?_ hdb) ht
  refine ClX.getmethcm_ok I cr ct fun s2 I2 => ?_
  refine callWith_gen (first := []) (P := PySem.W.MethP X.K s.heap.objs.size fa (.ref (He.ga X.K C))) (PySem.W.keeps_M ct.fi) sh hall ?_
  have h2 : ((mes r S).bind fun ds S2 => (mk r S2).bind fun es S3 => R.ok (ds, es) S3).wp (fun p S3 => (if p.2.length = n then mf (.adr C :: p.1) p.2 S3 else .no).wp Qd Ed) Ed := by
    rw [R.wp_bind] at h ⊢
    refine h.imp fun ds2 S2 h1 => ?_
    rw [R.wp_bind] at h1 ⊢
    exact h1
  refine run_args (Qd := fun a b S3 => (if b.length = n then mf (.adr C :: a) b S3 else .no).wp Qd Ed) ha hkw I2 rl wk h2 fun ds2 es S' g' H' vs2 zs us ws s' hw x2 rl2 rp2 rp3 I3 rv2 rz => ⟨⟨ClX.pin_at I3, I3.kIn⟩, ?_⟩
  rw [hks]
  split at hw
  · rename_i hle
    exact run_cmK F (hr.mono hj) tk I3 rv2 rz (by rw [← rp3.length, hle, hn]) (kc_of (ds := .adr C :: ds2) hq wk x2 rl2 ⟨_, _, rfl, rfl, rp2⟩ rp3 hw)
  · exact hw.elim⟩
end
end DL
namespace DL
open PySem PySem.Spec PyProof.Rows L2
section
variable {X : Cx} {T : List (Addr × Str)} {W : WX} {a b : Expr} {mes : MA} {pos p tpos : Pos} {elts : List Expr} {kk : Nat}
def fZipG (S : Store) (ds z : List D) : Prop := ∃ x y xs ys, ds = [x, y] ∧ sqD S x = some xs ∧ sqD S y = some ys ∧ z = zipD xs ys
theorem mi_zipG (hg : Gl X "zip") (hm : X.mg "zip" = none) (ha : DA X T W [a, b] (toR mes)) (hs : starEach [a, b] X.env = (false, eval a X.env) :: starEach [b] X.env := by rfl) (hpl : (backTo pos (starEach [b] X.env)).any (·.1) = false := by rfl) :
    DI X T W (.Tuple elts kk tpos) (.Call (.Name "zip" p) [a, b] [] pos) (toR (mIA fZipG mes)) := (di_zipG hg hm ha hs hpl).imp fun r S Q E h => (mIA_wp h).imp fun ds S1 ⟨z, ⟨x, y, xs, ys, e, e1, e2, e3⟩, q⟩ => ⟨x, y, xs, ys, e, e1, e2, e3 ▸ q⟩
end
end DL
namespace DL
open PySem PySem.Spec PyProof.Rows L2 PySem.W
/-! ### x == y, x != y by an own __eq__ -/
section
variable {prog : Program} {w : World} {A : Around} {E : Value → Shared → Prop} {s : Shared} {K : Frag} {x C L f : Addr} {h₀ : Heap} {m : Str → Option Value} {ox : Obj} {od : Option Obj} {b tb : Value}
theorem ne_bind (self : Value) : bindSpecial (.builtin "object.__ne__") self = pure (.builtin "object.__ne__", [self]) := PySem.F.slot_object_ne.bind self
theorem ifBound_ne {M : Model} {args : List Value} {Q : Option Value → Shared → Prop} (X : K.In s.heap) (I : InstAt s.heap x ox C od) (hs : findIn K (.ref C) "__ne__" = some (some (.builtin "object.__ne__")))
    (h : wpAny M A (call (.builtin "object.__ne__") (.ref x :: args)) (fun v => Q (some v)) E s) : wpAny M A (callSpecialIfBound? (.ref x) "__ne__" args) Q E s := by
  simp only [callSpecialIfBound?, bindSpecialIfBound?]
  refine wpAny_holding (wpAny_bind (wpAny_bind (wpAny_bind (I.type.here ((looks_findIn X hs).here ?_)))))
  refine wpAny_bind (wpAny_askSetting (wpAny_ite ?_))
  have fin : wpAny M A (call (.builtin "object.__ne__") ([.ref x] ++ args) >>= fun v => pure (some v)) Q E s := wpAny_bind (wpAny_mono h (fun v s' h' => wpAny_pure h') fun _ _ h' => h')
  split
  · refine wpAny_bind ?_
    rw [ne_bind]
    exact wpAny_pure (wpAny_pure (by exact fin))
  · refine wpAny_tryCatch (wpAny_bind ?_)
    rw [ne_bind]
    exact wpAny_pure (wpAny_pure (by exact fin))
theorem objNe_run (X : K.In s.heap) (I : InstAt s.heap x ox C od) (hs : findIn K (.ref C) "__eq__" = some (some (.ref f))) (hf : isFn K (.ref f) = true) (hu : A.units < cLine) {Q : Fin → Shared → Prop}
    (hcall : wpAny (model prog w) A (call (.ref f) [.ref x, b]) (fun v s' => ∃ r, v = .bool r ∧ Q (.done (.ret (.bool (!r)))) s') E s) :
    wpAny (model prog w) A (Builtin.«object.__ne__» ⟨[.ref x, b], []⟩) Q E s := by
  obtain ⟨h, g, d, t, os⟩ := s
  unfold Builtin.«object.__ne__»
  repeat (first
    | with_reducible refine wpAny_cRoomFor hu ?_
    | (refine wpAny_bind (m := callSpecialIfBound? (.ref x) (Str.ofString "__eq__") [b])
        (ifBound_K X I hs hf (wpAny_mono hcall (fun r s' hr => by
          obtain ⟨b, rfl, hq⟩ := hr
          repeat (first | exact hq | exact wpAny_pure hq | exact wpAny_truthy_bool hq | (refine wpAny_bind (m := truthy (.bool _)) (wpAny_truthy_bool ?_)) | wp_step)) fun _ _ e => e)))
    | wp_step)
theorem ne_K {Q : Value → Shared → Prop} (hu : A.units + 1 < cLine) (F : Fr h₀ L s.heap m) (X₀ : K.In h₀) (I : InstAt s.heap x ox C od) (hb : Looks (model prog w) s.heap (typeOf b) tb) (hn : notFirst K C tb = true)
    (hne : findIn K (.ref C) "__ne__" = some (some (.builtin "object.__ne__"))) (hs : findIn K (.ref C) "__eq__" = some (some (.ref f))) (hf : isFn K (.ref f) = true) (top : mroIn K C (.type "object") = some true)
    (h : wpAny (model prog w) A.in1 (call (.ref f) [.ref x, b]) (fun v s' => ∃ r, v = .bool r ∧ Q (.bool (!r)) s') E s) : wpAny (model prog w) A (richCompare .NotEq (.ref x) b) Q E s := by
  have X := X₀.keeps F.keep
  have t2 : Looks (model prog w) s.heap (isInstance (.ref x) (.type "object")) true := I.type.andThen (looks_mroIn X top)
  have one : wpAny (model prog w) A (tryCompare (.ref x) (cmpInfo .NotEq).2.1 b) (fun r s' => ∃ v, r = some v ∧ Q v s') E s := by
    unfold tryCompare
    refine wpAny_bind (ifBound_ne X I hne (wpAny_call (codeAny_call_builtin (by decide +kernel) PySem.F.cmpEntry_ne (@check_slot (model prog w) _ _ _ "object.__ne__" "object" "__ne__" (.ref x) [b] [] _ PySem.F.cmpKind_ne PySem.F.cmpSplit_ne t2 (PySem.F.cmpArgs_ne _ _) ?_))))
    refine objNe_run X I hs hf hu (wpAny_mono h (fun v s' hv => ?_) fun _ _ e => e)
    obtain ⟨r, rfl, hq⟩ := hv
    exact ⟨r, rfl, wpAny_pure ⟨_, rfl, hq⟩⟩
  unfold richCompare
  simp only [oneThing_ref]
  refine wpAny_holding (wpAny_bind (wpAny_cRoomFor (by omega) ?_))
  refine wpAny_bind (I.type.here (wpAny_bind (hb.here ?_)))
  split
  · rename_i q
    have e : subIn K tb (.ref C) = some false := by
      rcases Bool.or_eq_true_iff.mp hn with e | e
      · rw [beq_iff_eq.mp e] at q; simp at q
      · exact beq_iff_eq.mp e
    refine wpAny_bind ((looks_subIn X e).here ?_)
    simp only [Bool.false_eq_true, if_false]
    refine wpAny_bind (wpAny_mono one (fun r s' z => ?_) fun _ _ e => e)
    obtain ⟨v, rfl, hq⟩ := z
    exact wpAny_pure hq
  · refine wpAny_bind (wpAny_pure ?_)
    simp only [Bool.false_eq_true, if_false]
    refine wpAny_bind (wpAny_mono one (fun r s' z => ?_) fun _ _ e => e)
    obtain ⟨v, rfl, hq⟩ := z
    exact wpAny_pure hq
end
def plainTys : List String := ["NoneType", "bool", "int", "str"]
def tyS : D → Option String
  | .non => some "NoneType"
  | .bl _ => some "bool"
  | .int _ => some "int"
  | .str _ => some "str"
  | _ => none
theorem tyS_looks {K : Frag} {g : Gh} {H : Hp} {d : D} {v : V} {u : Value} {n : String} {M : Model} {h : Heap} (r : Rep K g H d v) (rv : RelV v u) (e : tyS d = some n) : Looks M h (typeOf u) (.type n) ∧ n ∈ plainTys := by
  cases d with
  | non => cases e; cases r; cases rv; exact ⟨Looks.of_pure rfl, by decide⟩
  | bl b => cases e; cases r; cases rv; exact ⟨Looks.of_pure rfl, by decide⟩
  | int i => cases e; cases r; obtain ⟨t, rfl⟩ := rv; exact ⟨Looks.of_pure rfl, by decide⟩
  | str x => cases e; cases r; obtain ⟨t, rfl⟩ := rv; exact ⟨Looks.of_pure rfl, by decide⟩
  | _ => cases e
structure EqC (P : Program) (w : World) (K : Frag) (mg : Str → Option Value) (base : Heap) (T : List (Addr × Str)) (k : Nat) (owns : List Str) (C : Str) (mf : MF2) : Prop where
  ex : ∃ f, findIn K (.ref (He.ga K C)) "__eq__" = some (some (.ref f)) ∧ isFn K (.ref f) = true ∧ KC P w K mg base T k f [] mf
  ne : findIn K (.ref (He.ga K C)) "__ne__" = some (some (.builtin "object.__ne__"))
  top : mroIn K (He.ga K C) (.type "object") = some true
  tys : ∀ n ∈ plainTys, notFirst K (He.ga K C) (.type n) = true
  own : ∀ C', owns.contains C' = true → notFirst K (He.ga K C) (.ref (He.ga K C')) = true
def ETab (P : Program) (w : World) (K : Frag) (mg : Str → Option Value) (base : Heap) (T : List (Addr × Str)) (k : Nat) (owns : List Str) (tbl : List (Str × MF2)) : Prop := ∀ C mf, tbl.lookup C = some mf → EqC P w K mg base T k owns C mf
theorem ETab.nil {P : Program} {w : World} {K : Frag} {mg : Str → Option Value} {base : Heap} {T : List (Addr × Str)} {k : Nat} {owns : List Str} : ETab P w K mg base T k owns [] := fun C mf h => by cases h
theorem ETab.cons {P : Program} {w : World} {K : Frag} {mg : Str → Option Value} {base : Heap} {T : List (Addr × Str)} {k j : Nat} {owns : List Str} {C : Str} {f : Addr} {mf : MF2} {tbl : List (Str × MF2)} (h1 : findIn K (.ref (He.ga K C)) "__eq__" = some (some (.ref f))) (h2 : isFn K (.ref f) = true) (F : KC P w K mg base T j f [] mf) (hj : j ≤ k)
    (ne : findIn K (.ref (He.ga K C)) "__ne__" = some (some (.builtin "object.__ne__"))) (top : mroIn K (He.ga K C) (.type "object") = some true) (tys : ∀ n ∈ plainTys, notFirst K (He.ga K C) (.type n) = true) (own : ∀ C', owns.contains C' = true → notFirst K (He.ga K C) (.ref (He.ga K C')) = true)
    (r : ETab P w K mg base T k owns tbl) : ETab P w K mg base T k owns ((C, mf) :: tbl) := fun D mg' hl => by
  simp only [List.lookup_cons] at hl
  split at hl
  · rename_i e
    cases hl
    rw [beq_iff_eq.mp e]
    exact ⟨⟨f, h1, h2, F.mono hj⟩, ne, top, tys, own⟩
  · exact r D mg' hl
/-- may y stand on the right of an own == -/
def eqOkY (owns : List Str) (S : Store) (y : D) : Bool := match insD S y with
  | some (C, _, _) => owns.contains C
  | none => (tyS y).isSome
def notB (neg : Bool) (m : R D) : R D := m.bind fun d S => (asB d S).bind fun b S => .ok (.bl (if neg = true then !b else b)) S
noncomputable def eqO (neg : Bool) (owns : List Str) (tbl : List (Str × MF2)) (x y : D) (S : Store) : R D := match insD S x with
  | some (C, _, _) => (match tbl.lookup C with
    | some mf => if eqOkY owns S y = true then notB neg (mf [x, y] [] S) else .no
    | none => .no)
  | none => if neg = true then pk1 (fNe S x y) S else pk1 (fEq S x y) S
noncomputable def mEqO (neg : Bool) (owns : List Str) (tbl : List (Str × MF2)) (ma mb : ME) : ME := fun r S => (ma r S).bind fun x S1 => (mb r S1).bind fun y S2 => eqO neg owns tbl x y S2
def eqOp (neg : Bool) : CmpOp := if neg = true then .NotEq else .Eq
section
variable {X : Cx} {T : List (Addr × Str)} {W : WX} {a b : Expr} {ma mb : ME} {pos : Pos} {k j : Nat} {owns : List Str} {tbl : List (Str × MF2)} {neg : Bool}
theorem in1_room {k : Nat} {A : Around} (h : Room (k + 1) A) : Room k A.in1 := h.in1
theorem eqO_run (et : ETab X.prog X.w X.K X.mg X.base T k owns tbl) (tk : Takes X W) (hr : Room (k + 1) X.A) {pins : List (Addr × Obj)} {s : Shared} {σ : L2.St} {g : Gh} {r : Sl} {S : Store} {H : Hp} {x y : D} {vx vy : V} {u v : Value} {Qd : DQ} {Ed : DX} {Q : VK} (I : Inv X pins σ H s) (rl : Rel X.K T g r S σ H) (r1 : Rep X.K g H x vx) (r2 : Rep X.K g H y vy) (q1 : RelV vx u) (q2 : RelV vy v)
    (hq : ∀ d S' g' H' v, Qd d S' → Ext g H g' H' → Rel X.K T g' r S' σ H' → Rep X.K g' H' d v → Q v H') (wk : WOk X.K T W g H r σ Ed) (h : (eqO neg owns tbl x y S).wp Qd Ed) : wpAny (model X.prog X.w) X.A (compareOp (eqOp neg) u v) (EP X pins σ Q) X.xe s := by
  unfold eqO at h
  split at h
  · rename_i C ns ds hi
    split at h
    · rename_i mf hl
      split at h
      · rename_i hy
        have c := et C mf hl
        obtain ⟨f, f1, f2, F⟩ := c.ex
        obtain ⟨p, dx, vs, rfl, hH, _, _⟩ := ins_at rl.good r1 hi
        obtain rfl : u = Value.ref p := q1
        obtain ⟨mA, O, _⟩ := ins_get I.hok hH
        obtain ⟨od, J, _⟩ := O.look
        obtain ⟨mm, hF⟩ := I.fr
        have ty : ∃ tb, Looks (model X.prog X.w) s.heap (typeOf v) tb ∧ notFirst X.K (He.ga X.K C) tb = true := by
          unfold eqOkY at hy
          split at hy
          · rename_i C2 ns2 ds2 hi2
            obtain ⟨p2, dx2, vs2, rfl, hH2, _, _⟩ := ins_at rl.good r2 hi2
            obtain rfl : v = Value.ref p2 := q2
            obtain ⟨mB, O2, _⟩ := ins_get I.hok hH2
            obtain ⟨od2, J2, _⟩ := O2.look
            exact ⟨_, J2.type, c.own C2 hy⟩
          · obtain ⟨n, hn⟩ := Option.isSome_iff_exists.mp hy
            obtain ⟨l1, l2⟩ := tyS_looks (M := model X.prog X.w) (h := s.heap) r2 q2 hn
            exact ⟨_, l1, c.tys n l2⟩
        obtain ⟨tb, lt, nf⟩ := ty
        unfold notB at h
        rw [R.wp_bind] at h
        have kc : ∀ Q', (∀ b S' g' H', Qd (.bl (if neg = true then !b else b)) S' → Ext g H g' H' → GoodS X.K T g' S' H' → Q' (.bl b) H') → kcD X.K T mf [.ref p, vy] [] H Q' (WE W σ) := fun Q' hQ => by
          refine ⟨g, S, [x, y], [], _, Ed, rl.good, ⟨_, _, rfl, r1, _, _, rfl, r2, rfl⟩, rfl, h, fun d S' g' H' v hd x1 gd1 rp => ?_, fun z S2 g2 H2 c dd q2 x2 gd xr => wk z S2 g2 H2 c dd q2 x2 (rl.good' gd x2) xr⟩
          rw [R.wp_bind] at hd
          obtain ⟨b, rfl, hd⟩ := asB_wp hd
          have e : v = .bl b := rp
          subst e
          exact hQ b S' g' H' hd x1 gd1
        cases neg with
        | false =>
          show wpAny _ _ (richCompare .Eq (.ref p) v) _ _ _
          refine cmp_K (op := .Eq) (tb := tb) hr.units0 hF I.ok.mod.kin J lt nf f1 f2 ?_
          refine thn (run_kc (us := [.ref p, v]) (ws := []) (vs := [.ref p, vy]) (zs := []) (F.mono (Nat.le_succ k)) hr tk I (.cons rfl (.cons q2 .nil)) .nil rfl (kc (fun v H' => (∃ b, v = .bl b) ∧ Q v H') fun b S' g' H' hd x1 gd1 => ⟨⟨b, rfl⟩, hq _ S' g' H' _ hd x1 (rl.good' gd1 x1) rfl⟩)) fun w s' ⟨z, H', I', rz, ⟨b, ez⟩, qz⟩ => ?_
          subst ez
          cases rz
          exact ⟨.bl b, H', I', rfl, qz⟩
        | true =>
          show wpAny _ _ (richCompare .NotEq (.ref p) v) _ _ _
          have hun : X.A.units + 1 < cLine := by have := hr.units; omega
          refine ne_K (tb := tb) hun hF I.ok.mod.kin J lt nf c.ne f1 f2 c.top ?_
          refine wpAny_call (codeAny_mono (F X.A.in1 X.stack s H [.ref p, v] [] [.ref p, vy] [] (fun v H' => ∃ b, v = .bl b ∧ Q (.bl (!b)) H') (WE W σ) hr.in1 I.env0.in1 (.cons rfl (.cons q2 .nil)) .nil rfl (kc _ fun b S' g' H' hd x1 gd1 => ⟨b, rfl, hq _ S' g' H' _ hd x1 (rl.good' gd1 x1) rfl⟩)) fun r s' hq' => ?_)
          cases r with
          | error e => exact passAt tk σ pins H s e s' I hq'
          | ok fl =>
            cases fl with
            | ret w =>
              obtain ⟨z, H', I', rz, b, ez, qz⟩ := I.after hq'
              subst ez
              cases rz
              exact ⟨b, rfl, .bl (!b), H', I', rfl, qz⟩
            | _ => exact False.elim hq'
      · exact h.elim
    · exact h.elim
  · cases neg with
    | false =>
      simp only [Bool.false_eq_true, if_false] at h
      obtain ⟨z, hz, qz⟩ := pk1_wp h
      exact opd_eq hr pins s σ H vx vy u v Q I q1 q2 ⟨g, S, x, y, z, rl.good, r1, r2, hz, fun v' H' sm rp => hq z S g H' v' qz (Ext.same sm) (rl.same sm) rp⟩
    | true =>
      simp only [if_true] at h
      obtain ⟨z, hz, qz⟩ := pk1_wp h
      exact opd_ne hr pins s σ H vx vy u v Q I q1 q2 ⟨g, S, x, y, z, rl.good, r1, r2, hz, fun v' H' sm rp => hq z S g H' v' qz (Ext.same sm) (rl.same sm) rp⟩
theorem me_eqO (et : ETab X.prog X.w X.K X.mg X.base T k owns tbl) (tk : Takes X W) (hr : Room j X.A) (ha : DE X T W a (toR ma)) (hb : DE X T W b (toR mb)) (hj : k + 1 ≤ j) (hm : behindInMarks (eqOp neg) b = false) : DE X T W (.Compare a [eqOp neg] [b] pos) (toR (mEqO neg owns tbl ma mb)) := ⟨fun pins s σ H Q I ⟨g, r, S, Qd, Ed, rl, h, hq, wk⟩ => by
  unfold toR mEqO at h
  rw [R.wp_bind] at h
  refine wpAny_Compare1 (thn (L2.PE.run ha pins s σ H (fun v H1 => ∃ g1 d S1, Ext g H g1 H1 ∧ Rel X.K T g1 r S1 σ H1 ∧ Rep X.K g1 H1 d v ∧ _) I ⟨g, r, S, _, Ed, rl, h, fun d S1 g1 H1 v h1 x1 rl1 rp1 => ⟨g1, d, S1, x1, rl1, rp1, h1⟩, wk⟩) fun u s1 ⟨v, H1, I1, rv, g1, d, S1, x1, rl1, rp1, h1⟩ => ?_) hm
  rw [R.wp_bind] at h1
  refine thn (L2.PE.run hb pins s1 σ H1 (fun v H2 => ∃ g2 d2 S2, Ext g1 H1 g2 H2 ∧ Rel X.K T g2 r S2 σ H2 ∧ Rep X.K g2 H2 d2 v ∧ _) I1 ⟨g1, r, S1, _, Ed, rl1, h1, fun d S1 g1 H1 v h1 x1 rl1 rp1 => ⟨g1, d, S1, x1, rl1, rp1, h1⟩, wk.ext x1⟩) fun u2 s2 ⟨v2, H2, I2, rv2, g2, d2, S2, x2, rl2, rp2, h2⟩ => ?_
  exact eqO_run et tk (hr.mono hj) I2 rl2 (Rep.ext x2 _ _ rp1) rp2 rv rv2 (fun d S' g' H' v q x3 rl3 rp3 => hq d S' g' H' v q ((x1.trans x2).trans x3) rl3 rp3) (wk.ext (x1.trans x2)) h2⟩
theorem mt_eqO (et : ETab X.prog X.w X.K X.mg X.base T k owns tbl) (tk : Takes X W) (hr : Room j X.A) (ha : DE X T W a (toR ma)) (hb : DE X T W b (toR mb)) (hj : k + 1 ≤ j) (hm : behindInMarks (eqOp neg) b = false) : DT X T W (.Compare a [eqOp neg] [b] pos) (toR (mB (mEqO neg owns tbl ma mb))) := ⟨fun pins s σ H Q I ⟨g, r, S, Qd, Ed, rl, h, hq, wk⟩ => by
  unfold toR mB mEqO at h
  rw [R.wp_bind, R.wp_bind] at h
  refine wpAny_isTrue_Compare1 (thn (L2.PE.run ha pins s σ H (fun v H1 => ∃ g1 d S1, Ext g H g1 H1 ∧ Rel X.K T g1 r S1 σ H1 ∧ Rep X.K g1 H1 d v ∧ _) I ⟨g, r, S, _, Ed, rl, h, fun d S1 g1 H1 v h1 x1 rl1 rp1 => ⟨g1, d, S1, x1, rl1, rp1, h1⟩, wk⟩) fun u s1 ⟨v, H1, I1, rv, g1, d, S1, x1, rl1, rp1, h1⟩ => ?_) hm
  rw [R.wp_bind] at h1
  refine thn (L2.PE.run hb pins s1 σ H1 (fun v H2 => ∃ g2 d2 S2, Ext g1 H1 g2 H2 ∧ Rel X.K T g2 r S2 σ H2 ∧ Rep X.K g2 H2 d2 v ∧ _) I1 ⟨g1, r, S1, _, Ed, rl1, h1, fun d S1 g1 H1 v h1 x1 rl1 rp1 => ⟨g1, d, S1, x1, rl1, rp1, h1⟩, wk.ext x1⟩) fun u2 s2 ⟨v2, H2, I2, rv2, g2, d2, S2, x2, rl2, rp2, h2⟩ => ?_
  refine thn (eqO_run (Q := fun v H' => ∃ b, v = .bl b ∧ Q b H') et tk (hr.mono hj) I2 rl2 (Rep.ext x2 _ _ rp1) rp2 rv rv2 (fun d S' g' H' v q x3 rl3 rp3 => ?_) (wk.ext (x1.trans x2)) h2) fun c s3 ⟨z, H3, I3, r3, b, e, q3⟩ => ?_
  · obtain ⟨b, rfl, q⟩ := asB_wp q
    exact ⟨b, rp3, hq b S' g' H' q ((x1.trans x2).trans x3) rl3⟩
  · subst e
    cases r3
    exact wpAny_truthy_bool ⟨H3, I3, q3⟩⟩
end
end DL
namespace DL
open PySem PySem.Spec PyProof.Rows L2 PySem.W
/-! ### isinstance(x, C), C an own class -/
structure IsiF (K : Frag) (C C' : Str) (b : Bool) : Prop where
  cl : Cls K (He.ga K C')
  ha : findIn K (.ref (He.ga K C')) "__class__" = some (some (.builtin "object.__class__"))
  hn : specialIn K (.builtin "object.__class__") "__get__" = some (some (.builtin "getset_descriptor.__get__"))
  htk : takesIn K (.builtin "object.__class__") = some true
  hm : mroIn K (He.ga K C') (.type "object") = some true
  kit : kitOne K (.ref (He.ga K C')) (.ref (He.ga K C)) = some b
structure IsiC (K : Frag) (C : Str) (yes no : List Str) : Prop where
  yes : ∀ C', yes.contains C' = true → IsiF K C C' true
  no : ∀ C', no.contains C' = true → IsiF K C C' false
  ty : ∀ n ∈ (["NoneType", "bool", "int", "str", "tuple", "list"] : List String), kitOne K (.type n) (.ref (He.ga K C)) = some false
def isiO (yes no : List Str) (S : Store) (x : D) : Option Bool := match insD S x with
  | some (C', _, _) => if yes.contains C' = true then some true else if no.contains C' = true then some false else none
  | none => (tyD S x).map fun _ => false
def bIsiO (C : Str) (yes no : List Str) (S : Store) (ds : List D) (z : D) : Prop := ∃ x b, ds = [x, .adr C] ∧ isiO yes no S x = some b ∧ z = .bl b
theorem tyD_six {S : Store} {d : D} {n : String} (h : tyD S d = some n) : n ∈ (["NoneType", "bool", "int", "str", "tuple", "list"] : List String) := by
  cases d <;> simp [tyD] at h <;> subst h <;> decide
section
variable {X : Cx} {T : List (Addr × Str)} {W : WX} {a b : Expr} {ma mb : ME} {pos : Pos} {k j : Nat} {tbl : List (Str × MF2)}
theorem cb_isiO {C : Str} {yes no : List Str} (f : IsiC X.K C yes no) : CallR X (.builtin "isinstance") (rDA X.K T (bIsiO C yes no)) := fun pins s σ H xs us Q I r ⟨g, S, ds, dz, gd, rs, ⟨x, b, e, h1, ez⟩, q⟩ => by
  subst e ez
  obtain ⟨v, q', rfl, r1, v2, q2, rfl, r2, rfl⟩ := rs
  have e2 : v2 = .ref (He.ga X.K C) := r2
  subst e2
  have key : ∃ t, TyX X.K H v t ∧ kitOne X.K t (.ref (He.ga X.K C)) = some b := by
    unfold isiO at h1
    split at h1
    · rename_i C' ns ds hi
      obtain ⟨p, dx, vs, rfl, hH, _, _⟩ := ins_at gd r1 hi
      split at h1
      · rename_i hy
        cases h1
        have F := f.yes C' hy
        exact ⟨_, .base (.ins hH F.cl F.ha F.hn F.htk F.hm), F.kit⟩
      · split at h1
        · rename_i hy
          cases h1
          have F := f.no C' hy
          exact ⟨_, .base (.ins hH F.cl F.ha F.hn F.htk F.hm), F.kit⟩
        · cases h1
    · cases hn : tyD S x with
      | none => rw [hn] at h1; cases h1
      | some n =>
        rw [hn] at h1
        cases h1
        exact ⟨_, tyD_ok r1 hn, f.ty n (tyD_six hn)⟩
  obtain ⟨t, t1, t2⟩ := key
  exact call_isi pins s σ H _ us Q I r ⟨v, .ref (He.ga X.K C), t, .ref (He.ga X.K C), b, rfl, .own _, t1, t2, q _ H (Same.refl H) rfl⟩
/-! ### x op y by an own method, both of one class -/
structure BinC (P : Program) (w : World) (K : Frag) (mg : Str → Option Value) (base : Heap) (T : List (Addr × Str)) (k : Nat) (op : Operator) (C : Str) (mf : MF2) : Prop where
  ex : ∃ f, findIn K (.ref (He.ga K C)) (PySem.dunder op.info.2) = some (some (.ref f)) ∧ isFn K (.ref f) = true ∧ KC P w K mg base T k f [] mf
  self : selfFirst K (He.ga K C) = true
def BTab (P : Program) (w : World) (K : Frag) (mg : Str → Option Value) (base : Heap) (T : List (Addr × Str)) (k : Nat) (op : Operator) (tbl : List (Str × MF2)) : Prop := ∀ C mf, tbl.lookup C = some mf → BinC P w K mg base T k op C mf
theorem BTab.nil {P : Program} {w : World} {K : Frag} {mg : Str → Option Value} {base : Heap} {op : Operator} : BTab P w K mg base T k op [] := fun C mf h => by cases h
theorem BTab.cons {P : Program} {w : World} {K : Frag} {mg : Str → Option Value} {base : Heap} {op : Operator} {C : Str} {f : Addr} {mf : MF2} (h1 : findIn K (.ref (He.ga K C)) (PySem.dunder op.info.2) = some (some (.ref f))) (h2 : isFn K (.ref f) = true) (F : KC P w K mg base T j f [] mf) (hj : j ≤ k) (self : selfFirst K (He.ga K C) = true)
    (r : BTab P w K mg base T k op tbl) : BTab P w K mg base T k op ((C, mf) :: tbl) := fun D mg' hl => by
  simp only [List.lookup_cons] at hl
  split at hl
  · rename_i e
    cases hl
    rw [beq_iff_eq.mp e]
    exact ⟨⟨f, h1, h2, F.mono hj⟩, self⟩
  · exact r D mg' hl
noncomputable def binO (tbl : List (Str × MF2)) (f : Store → D → D → D → Prop) (x y : D) (S : Store) : R D := match insD S x with
  | some (C, _, _) => (match insD S y with
    | some (C', _, _) => if C' = C then (match tbl.lookup C with
      | some mf => mf [x, y] [] S
      | none => .no) else .no
    | none => .no)
  | none => pk1 (f S x y) S
noncomputable def mBinO (tbl : List (Str × MF2)) (f : Store → D → D → D → Prop) (ma mb : ME) : ME := fun r S => (ma r S).bind fun x S1 => (mb r S1).bind fun y S2 => binO tbl f x y S2
theorem cmpBack_of {v : V} {u : Value} {Q : Value → Shared → Prop} {s : Shared} (r : RelV v u) (q : Q u s) : PySem.W.CmpBack Q u s := by
  cases v with
  | non => cases (show u = Value.none from r); exact q
  | bl b => cases (show u = Value.bool b from r); exact q
  | int i => obtain ⟨t, e⟩ := (show ∃ t, u = Value.int i t from r); cases e; exact q
  | str x => obtain ⟨t, e⟩ := (show ∃ t, u = Value.str x t from r); cases e; exact q
  | byt b => obtain ⟨t, e⟩ := (show ∃ t, u = Value.bytes b t from r); cases e; exact q
  | flt b => obtain ⟨t, e⟩ := (show ∃ t, u = Value.float b t from r); cases e; exact q
  | ref a => cases (show u = Value.ref a from r); exact q
  | ty n => cases (show u = Value.type n from r); exact q
theorem me_binO {op : Operator} {f : Store → D → D → D → Prop} (bt : BTab X.prog X.w X.K X.mg X.base T k op tbl) (ho : OpR X (binaryOp op) (rD X.K T f)) (tk : Takes X W) (hr : Room j X.A) (ha : DE X T W a (toR ma)) (hb : DE X T W b (toR mb)) (hj : k ≤ j) : DE X T W (.BinOp a op b pos) (toR (mBinO tbl f ma mb)) := ⟨fun pins s σ H Q I ⟨g, r, S, Qd, Ed, rl, h, hq, wk⟩ => by
  unfold toR mBinO at h
  rw [R.wp_bind] at h
  refine wpAny_BinOp (thn (L2.PE.run ha pins s σ H (fun v H1 => ∃ g1 d S1, Ext g H g1 H1 ∧ Rel X.K T g1 r S1 σ H1 ∧ Rep X.K g1 H1 d v ∧ _) I ⟨g, r, S, _, Ed, rl, h, fun d S1 g1 H1 v h1 x1 rl1 rp1 => ⟨g1, d, S1, x1, rl1, rp1, h1⟩, wk⟩) fun u s1 ⟨v, H1, I1, rv, g1, d, S1, x1, rl1, rp1, h1⟩ => ?_)
  rw [R.wp_bind] at h1
  refine thn (L2.PE.run hb pins s1 σ H1 (fun v H2 => ∃ g2 d2 S2, Ext g1 H1 g2 H2 ∧ Rel X.K T g2 r S2 σ H2 ∧ Rep X.K g2 H2 d2 v ∧ _) I1 ⟨g1, r, S1, _, Ed, rl1, h1, fun d S1 g1 H1 v h1 x1 rl1 rp1 => ⟨g1, d, S1, x1, rl1, rp1, h1⟩, wk.ext x1⟩) fun u2 s2 ⟨v2, H2, I2, rv2, g2, d2, S2, x2, rl2, rp2, h2⟩ => ?_
  have rp1' := Rep.ext x2 _ _ rp1
  have x12 := x1.trans x2
  unfold binO at h2
  split at h2
  · rename_i C ns ds hi
    split at h2
    · rename_i C' ns2 ds2 hi2
      split at h2
      · rename_i eC
        subst eC
        split at h2
        · rename_i mf hl
          have c := bt C' mf hl
          obtain ⟨f, f1, f2, F⟩ := c.ex
          obtain ⟨p, dx, vs, rfl, hH, _, _⟩ := ins_at rl2.good rp1' hi
          obtain rfl : u = Value.ref p := rv
          obtain ⟨mA, O, _⟩ := ins_get I2.hok hH
          obtain ⟨od, J, _⟩ := O.look
          obtain ⟨p2, dx2, vs2, rfl, hH2, _, _⟩ := ins_at rl2.good rp2 hi2
          obtain rfl : u2 = Value.ref p2 := rv2
          obtain ⟨mB, O2, _⟩ := ins_get I2.hok hH2
          obtain ⟨od2, J2, _⟩ := O2.look
          obtain ⟨mm, hF⟩ := I2.fr
          refine binop_K hF I2.ok.mod.kin J J2.type c.self f1 f2 ?_
          refine thn (run_kc (us := [.ref p, .ref p2]) (ws := []) (vs := [.ref p, .ref p2]) (zs := []) F (hr.mono hj) tk I2 (.cons rfl (.cons rfl .nil)) .nil rfl (kc_of (ds := [d, d2]) (es := []) hq wk x12 rl2 ⟨_, _, rfl, rp1', _, _, rfl, rp2, rfl⟩ rfl h2)) fun w s' ⟨z, H', I', rz, qz⟩ => ?_
          exact cmpBack_of rz ⟨z, H', I', rz, qz⟩
        · exact h2.elim
      · exact h2.elim
    · exact h2.elim
  · obtain ⟨z, hz, qz⟩ := pk1_wp h2
    exact ho pins s2 σ H2 v v2 u u2 Q I2 rv rv2 ⟨g2, S2, d, d2, z, rl2.good, rp1', rp2, hz, fun v' H' sm rp => hq z S2 g2 H' v' qz (x12.trans (Ext.same sm)) (rl2.same sm) rp⟩⟩
end
end DL
namespace DL
open PySem PySem.Spec PyProof.Rows L2
/-! ### dicts of the store whose keys are ints and texts -/
def keyD : D → Option Key
  | .int i => some (.inl i)
  | .str x => some (.inr x)
  | _ => none
theorem keyD_rep {K : PySem.W.Frag} {g : Gh} {H : Hp} {d : D} {v : V} {k : Key} (r : Rep K g H d v) (e : keyD d = some k) : v = kV k := by
  cases d <;> simp [keyD] at e <;> subst e <;> exact r
section
variable {κ β : Type} [DecidableEq κ]
def valG (kvs : List (κ × β)) (k : κ) : Option β := (kvs.find? fun kv => decide (kv.1 = k)).map (·.2)
def putG (kvs : List (κ × β)) (k : κ) (v : β) : List (κ × β) :=
  if (kvs.any fun kv => decide (kv.1 = k)) = true then kvs.map (fun kv => if kv.1 = k then (kv.1, v) else kv) else kvs ++ [(k, v)]
end
/-- the same keys, values that stand for one another -/
def KR {κ : Type} (K : PySem.W.Frag) (g : Gh) (H : Hp) : List (κ × D) → List (κ × V) → Prop
  | [], ws => ws = []
  | kv :: r, ws => ∃ v q, ws = (kv.1, v) :: q ∧ Rep K g H kv.2 v ∧ KR K g H r q
section
variable {κ : Type} [DecidableEq κ] {K : PySem.W.Frag} {g g' : Gh} {H H' : Hp}
theorem KR.of : ∀ {kvs : List (κ × D)} {vs : List V}, Reps K g H (kvs.map (·.2)) vs → KR K g H kvs ((kvs.map (·.1)).zip vs)
  | [], vs, h => by cases h; rfl
  | kv :: r, vs, ⟨v, q, e, h1, h2⟩ => by subst e; exact ⟨v, _, rfl, h1, KR.of h2⟩
theorem KR.to : ∀ {kvs : List (κ × D)} {ws : List (κ × V)}, KR K g H kvs ws → ∃ vs, ws = (kvs.map (·.1)).zip vs ∧ Reps K g H (kvs.map (·.2)) vs
  | [], ws, h => ⟨[], by simpa [KR] using h, rfl⟩
  | kv :: r, ws, ⟨v, q, e, h1, h2⟩ => by
    obtain ⟨vs, e2, h3⟩ := h2.to
    subst e e2
    exact ⟨v :: vs, rfl, v, vs, rfl, h1, h3⟩
theorem KR.length : ∀ {kvs : List (κ × D)} {ws : List (κ × V)}, KR K g H kvs ws → ws.length = kvs.length
  | [], ws, h => by cases h; rfl
  | kv :: r, ws, ⟨v, q, e, h1, h2⟩ => by subst e; simp [h2.length]
theorem KR.any {k : κ} : ∀ {kvs : List (κ × D)} {ws : List (κ × V)}, KR K g H kvs ws → (ws.any fun kv => decide (kv.1 = k)) = (kvs.any fun kv => decide (kv.1 = k))
  | [], ws, h => by cases h; rfl
  | kv :: r, ws, ⟨v, q, e, h1, h2⟩ => by subst e; simp [h2.any]
theorem KR.val {k : κ} : ∀ {kvs : List (κ × D)} {ws : List (κ × V)}, KR K g H kvs ws → (∀ d, valG kvs k = some d → ∃ v, valV ws k = some v ∧ Rep K g H d v) ∧ (valG kvs k = none → valV ws k = none)
  | [], ws, h => by cases h; exact ⟨fun d e => by simp [valG] at e, fun _ => rfl⟩
  | kv :: r, ws, ⟨v, q, e, h1, h2⟩ => by
    subst e
    by_cases hk : kv.1 = k
    · refine ⟨fun d e => ?_, fun e => ?_⟩
      · simp [valG, List.find?_cons, hk] at e
        subst e
        exact ⟨v, valV_pos (p := (kv.1, v)) hk, h1⟩
      · simp [valG, List.find?_cons, hk] at e
    · have e2 : valG (kv :: r) k = valG r k := by simp [valG, List.find?_cons, hk]
      rw [e2, valV_neg (p := (kv.1, v)) hk]
      exact h2.val
theorem KR.map {k : κ} {d : D} {v : V} (rv : Rep K g H d v) : ∀ {kvs : List (κ × D)} {ws : List (κ × V)}, KR K g H kvs ws → KR K g H (kvs.map fun kv => if kv.1 = k then (kv.1, d) else kv) (ws.map fun kv => if kv.1 = k then (kv.1, v) else kv)
  | [], ws, h => by cases h; rfl
  | kv :: r, ws, ⟨u, q, e, h1, h2⟩ => by
    subst e
    simp only [List.map_cons]
    by_cases hk : kv.1 = k
    · rw [if_pos hk, if_pos hk]; exact ⟨v, _, rfl, rv, h2.map rv⟩
    · rw [if_neg hk, if_neg hk]; exact ⟨u, _, rfl, h1, h2.map rv⟩
theorem KR.snoc {k : κ} {d : D} {v : V} (rv : Rep K g H d v) : ∀ {kvs : List (κ × D)} {ws : List (κ × V)}, KR K g H kvs ws → KR K g H (kvs ++ [(k, d)]) (ws ++ [(k, v)])
  | [], ws, h => by cases h; exact ⟨v, [], rfl, rv, rfl⟩
  | kv :: r, ws, ⟨u, q, e, h1, h2⟩ => by subst e; exact ⟨u, _, rfl, h1, h2.snoc rv⟩
theorem KR.put {k : κ} {d : D} {v : V} (rv : Rep K g H d v) {kvs : List (κ × D)} {ws : List (κ × V)} (h : KR K g H kvs ws) : KR K g H (putG kvs k d) (putK ws k v) := by
  unfold putG putK
  rw [h.any]
  split
  · exact h.map rv
  · exact h.snoc rv
theorem KR.ex0 (x : Ex0 g H g' H') : ∀ {kvs : List (κ × D)} {ws : List (κ × V)}, KR K g H kvs ws → KR K g' H' kvs ws
  | [], ws, h => h
  | kv :: r, ws, ⟨v, q, e, h1, h2⟩ => ⟨v, q, e, Rep.ex0 x _ _ h1, h2.ex0 x⟩
end
theorem codeO_dK {kvs : List (Key × V)} {c : Addr} {q : Str} : HO.dK kvs ≠ LamX.CodeO c q := by intro h; cases h
section
variable {X : Cx} {T : List (Addr × Str)} {W : WX} {a b o i e value : Expr} {ma mb mo mi mv : ME} {pos pos' cpos apos : Pos} {k j : Nat}
/-- the dict that a value stands for -/
def dctD (S : Store) : D → Option (List (Key × D))
  | .ref n => match S[n]? with
    | some (.dK kvs) => some kvs
    | _ => none
  | _ => none
theorem dct_at {K : PySem.W.Frag} {g : Gh} {S : Store} {H : Hp} {d : D} {v : V} {kvs : List (Key × D)} (gd : GoodS K T g S H) (rp : Rep K g H d v) (h : dctD S d = some kvs) : ∃ n p ws, d = .ref n ∧ S[n]? = some (.dK kvs) ∧ v = .ref p ∧ g.ps[n]? = some p ∧ H p = some (.dK ws) ∧ KR K g H kvs ws := by
  cases d with
  | ref n =>
    simp only [dctD] at h
    split at h
    · rename_i kvs' hS
      cases h
      obtain ⟨p, e, hp, vs, hH, rs⟩ := ref_at gd rp hS
      exact ⟨n, p, _, rfl, hS, e, hp, hH, KR.of rs⟩
    · cases h
  | _ => simp [dctD] at h
/-- d[k] -/
def getR (d y : D) (S : Store) : R D := match dctD S d, keyD y with
  | some kvs, some k => (match valG kvs k with
    | some z => .ok z S
    | none => .no)
  | _, _ => .no
def mDGet (mo mi : ME) : ME := fun r S => (mo r S).bind fun d S1 => (mi r S1).bind fun y S2 => getR d y S2
theorem hu_of {k : Nat} {A : Around} (hr : Room k A) : A.units + 1 < cLine := by have := hr.units; omega
theorem me_dget (hr : Room j X.A) (ho : DE X T W o (toR mo)) (hi : DE X T W i (toR mi)) (hs : NoSl i) : DE X T W (.Subscript o i pos) (toR (mDGet mo mi)) := PE.imp (pe_dget (hu_of hr) ho hi hs) fun σ H Q ⟨g, r, S, Qd, Ed, rl, h, hq, wk⟩ => by
  unfold toR mDGet at h
  rw [R.wp_bind] at h
  refine ⟨g, r, S, _, Ed, rl, h, fun d S1 g1 H1 v h1 x1 rl1 rp1 => ?_, wk⟩
  rw [R.wp_bind] at h1
  refine ⟨g1, r, S1, _, Ed, rl1, h1, fun y S2 g2 H2 u h2 x2 rl2 rp2 => ?_, wk.ext x1⟩
  unfold getR at h2
  split at h2
  · rename_i kvs k hd hk
    obtain ⟨n, p, ws, rfl, hS, rfl, hp, hH, kr⟩ := dct_at rl2.good (Rep.ext x2 _ _ rp1) hd
    split at h2
    · rename_i z hz
      obtain ⟨v2, hv2, rv2⟩ := kr.val.1 z hz
      exact ⟨p, v2, rfl, .inl ⟨ws, k, .inl hH, keyD_rep rp2 hk, hv2.symm⟩, hq z S2 g2 H2 v2 h2 (x1.trans x2) rl2 rv2⟩
    · exact h2.elim
  · exact h2.elim
/-- y in d -/
def inR (neg : Bool) (y d : D) (S : Store) : R D := match dctD S d, keyD y with
  | some kvs, some k => .ok (.bl (if neg = true then !(valG kvs k).isSome else (valG kvs k).isSome)) S
  | _, _ => .no
def mDIn (neg : Bool) (mi mo : ME) : ME := fun r S => (mi r S).bind fun y S1 => (mo r S1).bind fun d S2 => inR neg y d S2
theorem inR_at {neg : Bool} {K : PySem.W.Frag} {g : Gh} {S : Store} {H : Hp} {y d : D} {v u : V} {Qd : DQ} {Ed : DX} (gd : GoodS K T g S H) (rd : Rep K g H d v) (ry : Rep K g H y u) (h : (inR neg y d S).wp Qd Ed) : ∃ p ov, v = .ref p ∧ DGet H p u ov ∧ Qd (.bl (if neg = true then !ov.isSome else ov.isSome)) S := by
  unfold inR at h
  split at h
  · rename_i kvs k hd hk
    obtain ⟨n, p, ws, rfl, hS, rfl, hp, hH, kr⟩ := dct_at gd rd hd
    refine ⟨p, valV ws k, rfl, .inl ⟨ws, k, .inl hH, keyD_rep ry hk, rfl⟩, ?_⟩
    have e : (valV ws k).isSome = (valG kvs k).isSome := by
      cases q : valG kvs k with
      | some z => obtain ⟨v2, hv2, _⟩ := kr.val.1 z q; rw [hv2]; rfl
      | none => rw [kr.val.2 q]; rfl
    rw [e]
    exact h
  · exact h.elim
theorem me_din (hr : Room j X.A) (hi : DE X T W i (toR mi)) (ho : DE X T W o (toR mo)) (hm : behindInMarks .In o = false) : DE X T W (.Compare i [.In] [o] pos) (toR (mDIn false mi mo)) := PE.imp (pe_cmp (pc_din (hu_of hr) hi ho) hm) fun σ H Q ⟨g, r, S, Qd, Ed, rl, h, hq, wk⟩ => by
  unfold toR mDIn at h
  rw [R.wp_bind] at h
  refine ⟨g, r, S, _, Ed, rl, h, fun y S1 g1 H1 v h1 x1 rl1 rp1 => ?_, wk⟩
  rw [R.wp_bind] at h1
  refine ⟨g1, r, S1, _, Ed, rl1, h1, fun d S2 g2 H2 u h2 x2 rl2 rp2 => ?_, wk.ext x1⟩
  obtain ⟨p, ov, rfl, hg, q⟩ := inR_at rl2.good rp2 (Rep.ext x2 _ _ rp1) h2
  exact ⟨p, ov, rfl, hg, hq _ S2 g2 H2 _ q (x1.trans x2) rl2 rfl⟩
theorem me_dnotin (hr : Room j X.A) (hi : DE X T W i (toR mi)) (ho : DE X T W o (toR mo)) (hm : behindInMarks .NotIn o = false) : DE X T W (.Compare i [.NotIn] [o] pos) (toR (mDIn true mi mo)) := PE.imp (pe_cmp (pc_dnotin (hu_of hr) hi ho) hm) fun σ H Q ⟨g, r, S, Qd, Ed, rl, h, hq, wk⟩ => by
  unfold toR mDIn at h
  rw [R.wp_bind] at h
  refine ⟨g, r, S, _, Ed, rl, h, fun y S1 g1 H1 v h1 x1 rl1 rp1 => ?_, wk⟩
  rw [R.wp_bind] at h1
  refine ⟨g1, r, S1, _, Ed, rl1, h1, fun d S2 g2 H2 u h2 x2 rl2 rp2 => ?_, wk.ext x1⟩
  obtain ⟨p, ov, rfl, hg, q⟩ := inR_at rl2.good rp2 (Rep.ext x2 _ _ rp1) h2
  exact ⟨p, ov, rfl, hg, hq _ S2 g2 H2 _ q (x1.trans x2) rl2 rfl⟩
/-- d[y] = v -/
def putR (d y v : D) (r : Sl) (S : Store) : Fl := match d with
  | .ref n => (match S[n]?, keyD y with
    | some (.dK kvs), some k => if kvs.length < sizeLine then .nx r (S.set n (.dK (putG kvs k v))) else .no
    | _, _ => .no)
  | _ => .no
def mDPut (mo mi mv : ME) : MS := fun r S => (mv r S).fl r fun v S1 => (mo r S1).fl r fun d S2 => (mi r S2).fl r fun y S3 => putR d y v r S3
theorem ms_dput (hr : Room j X.A) (ho : DE X T W o (toR mo)) (hi : DE X T W i (toR mi)) (hv : DE X T W value (toR mv)) (hs : swapsWith value (some (.Subscript o i pos')) pos.line X.env = pure false) :
    DS X T W (.Assign [.Subscript o i pos'] value pos) (toS (mDPut mo mi mv)) := PS.imp (ps_dput (hu_of hr) ho hi hv hs) fun N σ H ⟨g, r, S, dd, rl, h, e⟩ => by
  unfold toS mDPut at h
  rw [wp_fl] at h
  refine ⟨g, r, S, _, _, rl, h, fun v S1 g1 H1 vv h1 x1 rl1 rp1 => ?_, e.wok r σ⟩
  rw [wp_fl] at h1
  refine ⟨g1, r, S1, _, _, rl1, h1, fun d S2 g2 H2 vd h2 x2 rl2 rp2 => ?_, (e.wok r σ).ext x1⟩
  rw [wp_fl] at h2
  refine ⟨g2, r, S2, _, _, rl2, h2, fun y S3 g3 H3 vy h3 x3 rl3 rp3 => ?_, (e.wok r σ).ext (x1.trans x2)⟩
  unfold putR at h3
  split at h3
  · rename_i n
    split at h3
    · rename_i kvs k hS hk
      split at h3
      · rename_i hlt
        obtain ⟨p, rfl, hp, vs, hH, rs⟩ := ref_at rl3.good (Rep.ext x3 _ _ rp2) hS
        have kr := (KR.of rs).put (k := k) (Rep.ext (x2.trans x3) _ _ rp1)
        obtain ⟨us, e1, e2⟩ := kr.to
        have hl := (KR.of rs).length
        refine ⟨p, _, rfl, .inl ⟨_, k, hH, keyD_rep rp3 hk, by rw [hl]; exact hlt, rfl⟩, ?_⟩
        rw [e1]
        have wr : ∀ b, ¬ g3.off b → upd H3 p (.dK (((putG kvs k v).map (·.1)).zip us)) b = H3 b := fun b nb => upd_ne fun z => nb (.inl (by rw [z]; exact List.mem_of_getElem? hp))
        obtain ⟨gd4, x4⟩ := rl3.good.write (u := .dK (((putG kvs k v).map (·.1)).zip us)) (o := .dK (putG kvs k v)) (fun _ => nofun) hp (List.getElem?_eq_some_iff.mp hS).1 ⟨us, upd_same, Reps.wr wr _ _ e2⟩ (fun t z => by rw [hH] at z; cases z) (fun c q z => by rw [hH] at z; exact codeO_dK (Option.some.inj z))
        exact e.nx _ _ g3 _ _ h3 (((x1.trans x2).trans x3).trans x4) (rl3.good' gd4 x4)
      · exact h3.elim
    · exact h3.elim
  · exact h3.elim
/-- {} -/
def mDNew : ME := fun _ S => .ok (.ref S.length) (S ++ [.dK []])
theorem me_dnew : DE X T W (.Dict [] [] pos) (toR mDNew) := PE.imp pe_dnewK fun σ H Q ⟨g, r, S, Qd, Ed, rl, h, hq, wk⟩ => fun p hp => by
  refine hq _ _ ⟨g.ps ++ [p], g.hs⟩ _ _ h (Ext.new hp) (rl.new hp ⟨[], upd_same, rfl⟩) ⟨p, rfl, ?_⟩
  rw [← rl.good.len]
  simp
end
end DL
namespace DL
open PySem PySem.Spec PyProof.Rows L2
/-! ### {k: v for ..}: a new dict of the store -/
section
variable {T : List (Addr × Str)}
/-- what was hidden becomes a thing of the store -/
theorem Rel.adopt {K : PySem.W.Frag} {g : Gh} {hs : List Addr} {p : Addr} {r : Sl} {S : Store} {σ : L2.St} {H : Hp} {o : O} (h : Rel K T g r S σ H) (e : g.hs = p :: hs) (ho : ORep K ⟨g.ps ++ [p], hs⟩ H p o) : Rel K T ⟨g.ps ++ [p], hs⟩ r (S ++ [o]) σ H ∧ Ex0 g H ⟨g.ps ++ [p], hs⟩ H := by
  have off : ∀ b, (⟨g.ps ++ [p], hs⟩ : Gh).off b → g.off b := fun b z => by
    rcases z with z | z
    · rcases List.mem_append.mp z with z | z
      · exact .inl z
      · exact .inr (by rw [e, List.mem_singleton.mp z]; exact List.mem_cons_self)
    · exact .inr (by rw [e]; exact List.mem_cons_of_mem _ z)
  have ex : Ex0 g H ⟨g.ps ++ [p], hs⟩ H := ⟨fun a u q n _ => ⟨q, fun z => n (off a z)⟩, ⟨[p], rfl⟩⟩
  refine ⟨⟨⟨by simp [h.good.len], ?_, fun n a q h1 h2 => ?_, fun x hx => h.good.hid x (by rw [e]; exact List.mem_cons_of_mem _ hx), h.good.tabs⟩, h.len, fun i d q => let ⟨v, e1, q1⟩ := h.sl i d q; ⟨v, e1, Rep.ex0 ex _ _ q1⟩⟩, ex⟩
  · have nd := h.good.nd
    rw [e] at nd
    simpa [List.append_assoc] using nd
  · by_cases hn : n < g.ps.length
    · rw [List.getElem?_append_left hn] at h1
      rw [List.getElem?_append_left (by rw [← h.good.len]; exact hn)] at h2
      exact (h.good.st n a q h1 h2).ex0 ex rfl
    · rw [List.getElem?_append_right (by omega)] at h1
      rw [List.getElem?_append_right (by rw [← h.good.len]; omega)] at h2
      rw [h.good.len] at h1
      have hn0 : n - S.length = 0 := by
        cases hk : n - S.length with
        | zero => rfl
        | succ k => rw [hk] at h1; simp at h1
      rw [hn0] at h1 h2
      simp at h1 h2
      subst h1 h2
      exact ho
theorem Hx.adopt {g g' : Gh} {H H' : Hp} {p : Addr} (x : Hx g H p g' H') : Ext g H ⟨g'.ps ++ [p], g.hs⟩ H' := by
  have y := x.out
  obtain ⟨new, e, f⟩ := y.ps
  refine ⟨y.keep, y.there, ⟨new ++ [p], ?_, fun a ha o h => ?_⟩, rfl⟩
  · show g'.ps ++ [p] = g.ps ++ (new ++ [p])
    rw [← List.append_assoc, ← e]
  · rcases List.mem_append.mp ha with z | z
    · exact f a z o h
    · rw [List.mem_singleton.mp z, x.free] at h; cases h
end
def mDcL (g : MG) (t : MT) (ek ev : ME) (r0 : Sl) : List D → List (Key × D) → Store → R (List (Key × D))
  | [], acc, S => .ok acc S
  | x :: xs, acc, S => (g x r0 S).bind fun r1 S1 => (t r1 S1).bind fun b S2 => if b = true then (ek r1 S2).bind fun y S3 => (ev r1 S3).bind fun z S4 => (match keyD y with
    | some k => if acc.length < sizeLine then mDcL g t ek ev r0 xs (putG acc k z) S4 else .no
    | none => .no) else mDcL g t ek ev r0 xs acc S2
def mDc (it : MA) (g : MG) (t : MT) (ek ev : ME) (vs : List Nat) : ME := fun r S => (it r S).bind fun ds S1 => (mDcL g t ek ev (wipeD r vs) ds [] S1).nox.bind fun kvs S2 => .ok (.ref S2.length) (S2 ++ [.dK kvs])
section
variable {T : List (Addr × Str)} {W : WX}
theorem lift_dc {K : PySem.W.Frag} {mes : MA} {g : MG} {gv : TG} {mt : MT} {ek ev : ME} {vs : List Nat} (ok : TgOk K T vs gv (toG g)) {σ : L2.St} {H : Hp} {Q : VK} (h : lift K T W (toR (mDc mes g mt ek ev vs)) σ H Q) :
    tDc (liftI K T W (toR mes)) gv (liftT K T WF (toR mt)) (lift K T WF (toR ek)) (lift K T WF (toR ev)) vs σ H Q := by
  obtain ⟨gg, r, S, Qd, Ed, rl, h, hq, hx⟩ := h
  unfold toR mDc at h
  rw [R.wp_bind] at h
  refine ⟨gg, r, S, _, Ed, rl, h, fun ds S1 g1 H1 J h1 x1 rl1 wk D hD => ?_, hx⟩
  rw [R.wp_bind] at h1
  have h1 := R.wp_nox h1
  refine ⟨fun i m H2 => m = ds.length - i ∧ i ≤ ds.length ∧ ∃ g2 S2 acc ws2, Rel K T g2 r S2 σ H2 ∧ (mDcL g mt ek ev (wipeD r vs) (ds.drop i) acc S2).wp (fun kvs S' => Qd (.ref S'.length) (S' ++ [.dK kvs])) EF ∧ H2 D = some (.dK ws2) ∧ KR K g2 H2 acc ws2 ∧ Hx g1 H1 D g2 H2, ?_, ?_⟩
  · obtain ⟨rh, xh⟩ := rl1.hide (o := .dK []) (fun _ => nofun) hD
    refine ⟨ds.length, by simp, Nat.zero_le _, ⟨g1.ps, D :: g1.hs⟩, S1, [], [], rh, by simpa using h1, upd_same, rfl, ⟨hD, rfl, by rw [upd_upd]; exact Ext.refl _ _⟩⟩
  rintro i m H2 ⟨rfl, hi, g2, S2, acc, ws2, rl2, iv, hD2, rs, xx⟩
  have nl : ∀ xs : List (Key × V), NT (.dK xs) := fun _ _ => nofun
  obtain ⟨w1, w2⟩ := wk g2 H2 xx.ex0
  by_cases hlt : i < ds.length
  · obtain ⟨go, yl⟩ := w1 i ds[i] (List.getElem?_eq_getElem hlt)
    rw [List.drop_eq_getElem_cons hlt] at iv
    unfold mDcL at iv
    rw [R.wp_bind] at iv
    refine .inr ⟨go, fun H3 => ∃ g3 S3 acc3 ws3, Rel K T g3 r S3 σ H3 ∧ (mDcL g mt ek ev (wipeD r vs) (ds.drop (i + 1)) acc3 S3).wp (fun kvs S' => Qd (.ref S'.length) (S' ++ [.dK kvs])) EF ∧ H3 D = some (.dK ws3) ∧ KR K g3 H3 acc3 ws3 ∧ Hx g1 H1 D g3 H3, fun H3 q => ⟨ds.length - (i + 1), by omega, rfl, hlt, q⟩, fun x H3 y => ?_⟩
    obtain ⟨sm, rp⟩ := yl x H3 y
    have rp := rp S2 T rl2.good
    have e23 : Ext g2 H2 g2 H3 := Ext.same sm
    have hD3 : H3 D = some (.dK ws2) := sm _ _ hD2
    have rlw : Rel K T g2 (wipeD r vs) S2 (L2.wipe σ vs) H3 := (rl2.wipe vs).same sm
    refine ok g2 _ S2 _ H3 ds[i] x _ _ rlw rp iv fun r4 S4 σ4 q4 rl4 hσ hl4 => ⟨?_, ?_⟩
    · refine wipe_ext (by rw [hl4, wipe_length]) vs fun k hk => ?_
      rw [hσ k hk, wipe_get hk]
    · rw [R.wp_bind] at q4
      refine ⟨g2, r4, S4, _, _, rl4, q4, fun b S5 g5 H5 q5 x5 rl5 => ?_, fun _ _ _ _ _ _ z => z.elim⟩
      have nn := nd_not rl2.good.nd xx.hs
      have hD5 : H5 D = some (.dK ws2) := x5.keep D _ hD3 nn.1 (fun _ => nofun)
      cases b with
      | false =>
        simp only [Bool.false_eq_true, if_false] at q5 ⊢
        exact ⟨g5, S5, acc, ws2, rl2.slots rl5 (e23.trans x5).ex0, q5, hD5, rs.ex0 (e23.trans x5).ex0, xx.stay hD2 (nl _) (e23.trans x5)⟩
      | true =>
        simp only [if_true] at q5 ⊢
        rw [R.wp_bind] at q5
        refine ⟨g5, r4, S5, _, _, rl5, q5, fun d6 S6 g6 H6 v6 q6 x6 rl6 rp6 => ?_, fun _ _ _ _ _ _ z => z.elim⟩
        rw [R.wp_bind] at q6
        refine ⟨g6, r4, S6, _, _, rl6, q6, fun d7 S7 g7 H7 v7 q7 x7 rl7 rp7 => ?_, fun _ _ _ _ _ _ z => z.elim⟩
        have nn5 : D ∉ g5.ps := (nd_not (hs := g1.hs) rl5.good.nd (x5.hs.trans xx.hs)).1
        have nn6 : D ∉ g6.ps := (nd_not (hs := g1.hs) rl6.good.nd (x6.hs.trans (x5.hs.trans xx.hs))).1
        have hs7 : g7.hs = D :: g1.hs := x7.hs.trans (x6.hs.trans (x5.hs.trans xx.hs))
        have nn7 := nd_not (hs := g1.hs) rl7.good.nd hs7
        have hh7 : D ∈ g7.hs := by rw [hs7]; exact List.mem_cons_self
        have hD6 : H6 D = some (.dK ws2) := x6.keep D _ hD5 nn5 (fun _ => nofun)
        have hD7 : H7 D = some (.dK ws2) := x7.keep D _ hD6 nn6 (fun _ => nofun)
        have e27 := ((e23.trans x5).trans x6).trans x7
        split at q7
        · rename_i k hk
          split at q7
          · rename_i hz
            have rs7 := rs.ex0 e27.ex0
            have hl7 := rs7.length
            have w : ∀ b, ¬ g7.off b → upd H7 D (.dK (putK ws2 k v7)) b = H7 b := fun b n => upd_ne fun z => n (.inr (by rw [z]; exact hh7))
            refine ⟨ws2, k, keyD_rep rp6 hk, hD7, by rw [hl7]; exact hz, g7, S7, putG acc k d7, putK ws2 k v7, ?_, q7, upd_same, ?_, xx.step hD2 (nl _) e27 _⟩
            · exact (rl2.slots rl7 e27.ex0).wrHid (nl _) hh7 nn7.1 (fun t z => by rw [hD7] at z; cases z) (fun c q z => by rw [hD7] at z; exact codeO_dK (Option.some.inj z))
            · exact (rs7.put (k := k) rp7).ex0 (Ex0.wr w)
          · exact q7.elim
        · exact q7.elim
  · have e2 : i = ds.length := by omega
    subst e2
    rw [List.drop_length] at iv
    obtain ⟨vs2, ev2, rv2⟩ := rs.to
    have nn := nd_not rl2.good.nd xx.hs
    have off : Ex0 g2 H2 ⟨g2.ps ++ [D], g1.hs⟩ H2 := ⟨fun a u q n _ => ⟨q, fun z => by
      rcases z with z | z
      · rcases List.mem_append.mp z with z | z
        · exact n (.inl z)
        · exact n (.inr (by rw [xx.hs, List.mem_singleton.mp z]; exact List.mem_cons_self))
      · exact n (.inr (by rw [xx.hs]; exact List.mem_cons_of_mem _ z))⟩, ⟨[D], rfl⟩⟩
    obtain ⟨ru, xu⟩ := rl2.adopt (o := .dK acc) xx.hs ⟨vs2, by rw [hD2, ev2], Reps.ex0 off _ _ rv2⟩
    refine .inl ⟨w2, ?_⟩
    refine hq _ _ ⟨g2.ps ++ [D], g1.hs⟩ H2 _ iv (x1.trans xx.adopt) ru ⟨D, rfl, ?_⟩
    rw [← rl2.good.len]
    simp
end
section
variable {X : Cx} {T : List (Addr × Str)} {W : WX} {tg : Expr} {pos : Pos} {g : MG} {mA : MT}
theorem me_dc {kx vx iter : Expr} {ifs : List Expr} {scope : Scope} {own : List (Str × Nat)} {gv : TG} {mes : MA} {ek ev : ME} (hc : X.calm = true) (hN : X.N.Nodup) (hi : DI X T W tg iter (toR mes)) (ok : BlkOk X.N X.env.scope scope own) (tok : TgOk X.K T (own.map (·.2)) gv (toG g))
    (hg : ∀ (s : Shared) (H : Hp) (C : Addr) (cl : List (Str × Addr)) (fp : List Addr), PG (X.blk s H scope (compEnvC scope cl C X.env) fp) tg gv) (ht : ∀ (s : Shared) (H : Hp) (C : Addr) (cl : List (Str × Addr)) (fp : List Addr), PTs (X.blk s H scope (compEnvC scope cl C X.env) fp) ifs (liftT X.K T WF (toR mA)))
    (hk : ∀ (s : Shared) (H : Hp) (C : Addr) (cl : List (Str × Addr)) (fp : List Addr), DE (X.blk s H scope (compEnvC scope cl C X.env) fp) T WF kx (toR ek))
    (he : ∀ (s : Shared) (H : Hp) (C : Addr) (cl : List (Str × Addr)) (fp : List Addr), DE (X.blk s H scope (compEnvC scope cl C X.env) fp) T WF vx (toR ev)) (hs : ∀ x, foldedSetIterable iter X.env x = pure x := by intro _; rfl) :
    DE X T W (.DictComp kx vx [⟨tg, iter, ifs, 0⟩] scope pos) (toR (mDc mes g mA ek ev (own.map (·.2)))) := PE.imp (pe_dc (tk := lift X.K T WF (toR ek)) (tv := lift X.K T WF (toR ev)) hc hN hi ok hg ht hk he hs) fun σ H Q h => lift_dc tok h
end
end DL
namespace DL
open PySem PySem.Spec PyProof.Rows L2
/-! ### sum(t), any(t) of a tuple of ints -/
theorem iter_tupT {prog : Program} {w : World} {A : Around} {E : Value → Shared → Prop} {s : Shared} {l : Addr} {items : Array Value} {Q : Value → Shared → Prop} (hl : s.heap.IsTuple l items)
    (h : ∀ s₂ : Shared, s₂ = { s with heap := s.heap.push { cls := .type "tuple_iterator", data := .fields #[.ref l, .int 0 0] } } →
      (s₂.heap.IsTupleIter s.heap.objs.size l 0 ∧ s₂.heap.IsTuple l items) → l ≠ s.heap.objs.size → Q (.ref s.heap.objs.size) s₂) : wpAny (model prog w) A (pyIter (.ref l)) Q E s := by
  have hlt : l < s.heap.objs.size := by obtain ⟨_, e, _⟩ := hl; exact Heap.lt_size e
  refine wpAny_pyIter_tuple hl (h _ rfl ⟨⟨_, Heap.get?_push_size _ rfl, rfl, rfl⟩, ?_⟩ (Nat.ne_of_lt hlt))
  obtain ⟨o, ho, r⟩ := hl
  exact ⟨o, Heap.get?_push_of_some _ ho, r⟩
theorem vals_int_at {ns : List Int} {its : List Value} (r : Vals (ns.map V.int) its) {i : Nat} {v : Value} (h : its.toArray[i]? = some v) : ∃ t, v = .int (ns.getD i 0) t := by
  have h' : its[i]? = some v := by simpa using h
  cases q : (ns.map V.int)[i]? with
  | none => rw [r.none_of q] at h'; cases h'
  | some x =>
    obtain ⟨u, hu, ru⟩ := r.get q
    rw [h'] at hu
    cases hu
    rw [List.getElem?_map] at q
    obtain ⟨n, hn, rfl⟩ := Option.map_eq_some_iff.mp q
    obtain ⟨t, rfl⟩ := ru
    exact ⟨t, by rw [List.getD_eq_getElem?_getD, hn]; rfl⟩
theorem preSum_list (ns : List Int) : ∀ k, k ≤ ns.length → preSum (fun i => ns.getD i 0) k = (ns.take k).sum
  | 0, _ => by simp [preSum]
  | k + 1, h => by
    have ih := preSum_list ns k (by omega)
    have e : preSum (fun i => ns.getD i 0) (k + 1) = preSum (fun i => ns.getD i 0) k + ns.getD k 0 := rfl
    rw [e, ih, List.take_succ_eq_append_getElem (by omega), List.sum_append, List.getD_eq_getElem?_getD, List.getElem?_eq_getElem (by omega)]
    simp
section
variable {X : Cx} {T : List (Addr × Str)}
def bSumT (S : Store) (ds : List D) (z : D) : Prop := ∃ ns : List Int, ds = [.tup (ns.map D.int)] ∧ z = .int ns.sum
theorem cb_sumT (hc : X.calm = true) : CallR X (.builtin "sum") (rDA X.K T bSumT) := fun pins s σ H xs us Q I r ⟨g, S, ds, dz, gd, rs, ⟨ns, e, ez⟩, q⟩ => by
  subst e ez
  obtain ⟨v, q', rfl, r1, rfl⟩ := rs
  obtain ⟨p, vs, rfl, hp, rs⟩ := Rep.tup_sq r1
  rw [rs.ints] at hp
  obtain ⟨its, rv, hl, _⟩ := I.tuple hp
  rw [Vals.ref1 r]
  refine PySem.call_sum_walkG (iter_tupT hl fun s₂ e2 st hne => ?_)
  subst e2
  have hlen : its.length = ns.length := by rw [← rv.length]; simp
  have hlt : p < s.heap.objs.size := by obtain ⟨_, e, _⟩ := hl; exact Heap.lt_size e
  refine ⟨_, _, _, _, _, _, fun i => ns.getD i 0, rfl, Walks.tuple (A := X.A.in1) (I.ok.hd hc) _ p hne its.toArray, st, ?_, fun i v hv => vals_int_at rv hv, fun h' tk t' hk => ?_⟩
  · intro b hb
    simp only [List.mem_cons, List.not_mem_nil, or_false] at hb
    rw [Heap.size_push]
    rcases hb with rfl | rfl
    · exact Nat.lt_succ_self _
    · exact Nat.lt_succ_of_lt hlt
  · have e : preSum (fun i => ns.getD i 0) its.toArray.size = ns.sum := by
      rw [List.size_toArray, hlen, preSum_list ns _ (Nat.le_refl _), List.take_length]
    rw [e]
    refine ⟨.int ns.sum, H, I.kept fun b o eo => hk b o (fun hmem => ?_) (Heap.get?_push_of_some _ eo), ⟨_, rfl⟩, q _ H (Same.refl H) rfl⟩
    rcases List.mem_cons.mp hmem with e1 | hmem
    · exact absurd (e1 ▸ Heap.lt_size eo) (Nat.lt_irrefl _)
    · cases hmem
theorem truth_intsT {prog : Program} {w : World} {A : Around} {ns : List Int} {its : List Value} (r : Vals (ns.map V.int) its) : TruthOf prog w A (fun i v => its.toArray[i]? = some v) (fun i => ns.getD i 0 != 0) := fun i v s Q E hv hq => by
  obtain ⟨t, rfl⟩ := vals_int_at r hv
  exact PySem.P.truthy_int hq
theorem any_rangeN : ∀ ns : List Int, (List.range ns.length).any (fun i => ns.getD i 0 != 0) = ns.any fun n => n != 0
  | [] => rfl
  | b :: bs => by
    rw [List.length_cons, List.range_succ_eq_map, List.any_cons, List.any_map, List.any_cons, ← any_rangeN bs]
    all_goals rfl
def bAnyT (S : Store) (ds : List D) (z : D) : Prop := ∃ ns : List Int, ds = [.tup (ns.map D.int)] ∧ z = .bl (ns.any fun n => n != 0)
theorem cb_anyT (hc : X.calm = true) : CallR X (.builtin "any") (rDA X.K T bAnyT) := fun pins s σ H xs us Q I r ⟨g, S, ds, dz, gd, rs, ⟨ns, e, ez⟩, q⟩ => by
  subst e ez
  obtain ⟨v, q', rfl, r1, rfl⟩ := rs
  obtain ⟨p, vs, rfl, hp, rs⟩ := Rep.tup_sq r1
  rw [rs.ints] at hp
  obtain ⟨its, rv, hl, _⟩ := I.tuple hp
  rw [Vals.ref1 r]
  have hlen : its.length = ns.length := by rw [← rv.length]; simp
  refine call_any_walk (iter_tupT hl fun s₂ e2 st hne => ?_)
  subst e2
  refine ⟨_, _, _, _, _, _, _, rfl, Walks.tuple (A := X.A.in1) (I.ok.hd hc) _ p hne its.toArray, st, truth_intsT rv, fun h' tk hk => ?_⟩
  refine ⟨.bl _, H, I.kept fun b o eo => hk b o (fun hmem => ?_) (Heap.get?_push_of_some _ eo), ?_, q _ H (Same.refl H) rfl⟩
  · rcases List.mem_cons.mp hmem with e1 | hmem
    · exact absurd (e1 ▸ Heap.lt_size eo) (Nat.lt_irrefl _)
    · cases hmem
  · show Value.bool _ = Value.bool _
    rw [← any_rangeN, List.size_toArray, hlen]
/-! ### split, startswith -/
def mfSplit : MF := fun S x ds z S' => ∃ a b : Str, x = .str a ∧ ds = [.str b] ∧ (b.length == 0) = false ∧ a.length + 2 ≤ sizeLine ∧ z = .lst ((Txt.split a b).map D.str) ∧ S' = S
theorem mtd_split : MtR X "str.split" (rDM X.K T mfSplit) := fun pins s σ H x xs v us Q I rx rv ⟨g, S, dx, ds, dz, S', gd, r1, r2, ⟨a, b, e1, e2, hb, hz, e3, e4⟩, q⟩ => by
  subst e1 e2 e3 e4
  obtain ⟨w, q', rfl, rw', rfl⟩ := r2
  have ex : x = .str a := r1
  have ew : w = .str b := rw'
  subst ex ew
  refine mt_split pins s σ H _ _ v us Q I rx rv ⟨a, b, rfl, rfl, hb, hz, fun p hp => ?_⟩
  refine q _ _ g (Ext.same (same_upd hp)) (gd.same (same_upd hp)) (Rep.lstNew gd ?_ hp)
  have : ∀ ys : List Str, Reps X.K g H (ys.map D.str) (ys.map V.str) := fun ys => by
    induction ys with
    | nil => rfl
    | cons y ys ih => exact ⟨_, _, rfl, rfl, ih⟩
  exact this _
def mfStarts : MF := fun S x ds z S' => ∃ a b : Str, x = .str a ∧ ds = [.str b] ∧ z = .bl (Txt.startswith a b) ∧ S' = S
theorem mtd_startswith : MtR X "str.startswith" (rDM X.K T mfStarts) := fun pins s σ H x xs v us Q I rx rv ⟨g, S, dx, ds, dz, S', gd, r1, r2, ⟨a, b, e1, e2, e3, e4⟩, q⟩ => by
  subst e1 e2 e3 e4
  obtain ⟨w, q', rfl, rw', rfl⟩ := r2
  have ex : x = .str a := r1
  have ew : w = .str b := rw'
  subst ex ew
  exact mt_startswith pins s σ H _ _ v us Q I rx rv ⟨a, b, rfl, rfl, q _ H g (Ext.refl g H) gd rfl⟩
/-! ### f'..' -/
def fmtD (d : D) (S : Store) : R D := match d with
  | .str y => if y.length ≤ sizeLine then .ok (.str y) S else .no
  | .int i => if i.natAbs.log2 < 1920 then .ok (.str (toString i)) S else .no
  | _ => .no
def mFmt (m : ME) : ME := fun r S => (m r S).bind fmtD
def mJs : List ME → Str → ME
  | [], acc => fun _ S => .ok (.str acc) S
  | t :: ts, acc => fun r S => (t r S).bind fun d S1 => match d with
    | .str y => if (acc ++ y).length ≤ sizeLine then mJs ts (acc ++ y) r S1 else .no
    | _ => .no
variable {W : WX} {e v1 v2 : Expr} {es rest : List Expr} {m : ME} {ms : List ME} {pos : Pos}
theorem me_fmt (he : DE X T W e (toR m)) : DE X T W (.FormattedValue e (-1) none pos) (toR (mFmt m)) := PE.imp (pe_fmt he) fun σ H Q ⟨g, r, S, Qd, Ed, rl, h, hq, wk⟩ => by
  unfold toR mFmt at h
  rw [R.wp_bind] at h
  refine ⟨g, r, S, _, Ed, rl, h, fun d S1 g1 H1 v h1 x1 rl1 rp1 => ?_, wk⟩
  unfold fmtD at h1
  split at h1
  · rename_i y
    split at h1
    · rename_i hy
      exact .inl ⟨y, rp1, hy, hq _ S1 g1 H1 _ h1 x1 rl1 rfl⟩
    · exact h1.elim
  · rename_i i
    split at h1
    · rename_i hy
      exact .inr ⟨i, rp1, hy, hq _ S1 g1 H1 _ h1 x1 rl1 rfl⟩
    · exact h1.elim
  · exact h1.elim
def DJ (X : Cx) (T : List (Addr × Str)) (W : WX) (es : List Expr) (ms : List ME) : Prop := PJ X es (ms.map fun m => lift X.K T W (toR m))
theorem dj_nil : DJ X T W [] [] := .nil
theorem dj_cons (h : DE X T W e (toR m)) (r : DJ X T W es ms) : DJ X T W (e :: es) (m :: ms) := .cons h r
theorem lift_js {K : PySem.W.Frag} : ∀ (ms : List ME) (acc : Str) {σ : L2.St} {H : Hp} {Q : VK}, lift K T W (toR (mJs ms acc)) σ H Q → tJs (ms.map fun m => lift K T W (toR m)) acc σ H fun out H1 => Q (.str out) H1
  | [], acc, σ, H, Q, ⟨g, r, S, Qd, Ed, rl, h, hq, wk⟩ => hq _ S g H _ h (Ext.refl g H) rl rfl
  | m :: ms, acc, σ, H, Q, ⟨g, r, S, Qd, Ed, rl, h, hq, wk⟩ => by
    unfold toR mJs at h
    rw [R.wp_bind] at h
    refine ⟨g, r, S, _, Ed, rl, h, fun d S1 g1 H1 v h1 x1 rl1 rp1 => ?_, wk⟩
    split at h1
    · rename_i y
      split at h1
      · rename_i hy
        refine ⟨y, rp1, hy, lift_js ms (acc ++ y) ⟨g1, r, S1, Qd, Ed, rl1, h1, fun d S' g' H' v q x2 rl2 rp2 => hq d S' g' H' v q (x1.trans x2) rl2 rp2, wk.ext x1⟩⟩
      · exact h1.elim
    · exact h1.elim
theorem me_joined (h : DJ X T W (v1 :: v2 :: rest) ms) : DE X T W (.JoinedStr (v1 :: v2 :: rest) pos) (toR (mJs ms Str.empty)) := PE.imp (pe_joined h) fun σ H Q h => lift_js ms _ h
end
end DL
namespace DL
open PySem PySem.Spec PyProof.Rows L2
section
variable {X : Cx} {T : List (Addr × Str)} {W : WX} {i o : Expr} {mi mo : ME} {pos : Pos} {j : Nat}
/-- a value's reading as a test -/
theorem liftT_of {K : PySem.W.Frag} {m : ME} {σ : L2.St} {H : Hp} {Q : Bool → Hp → Prop} (h : liftT K T W (toR (mB m)) σ H Q) : lift K T W (toR m) σ H fun x H' => ∃ d, x = .bl d ∧ Q d H' := by
  obtain ⟨g, r, S, Qd, Ed, rl, h, hq, wk⟩ := h
  unfold toR mB at h
  rw [R.wp_bind] at h
  refine ⟨g, r, S, _, Ed, rl, h, fun d S1 g1 H1 v h1 x1 rl1 rp1 => ?_, wk⟩
  obtain ⟨b, rfl, q⟩ := asB_wp h1
  exact ⟨b, rp1, hq b S1 g1 H1 q x1 rl1⟩
theorem lift_din {K : PySem.W.Frag} {σ : L2.St} {H : Hp} {Q : VK} (h : lift K T W (toR (mDIn false mi mo)) σ H Q) : tDIn (lift K T W (toR mi)) (lift K T W (toR mo)) σ H Q := by
  obtain ⟨g, r, S, Qd, Ed, rl, h, hq, wk⟩ := h
  unfold toR mDIn at h
  rw [R.wp_bind] at h
  refine ⟨g, r, S, _, Ed, rl, h, fun y S1 g1 H1 v h1 x1 rl1 rp1 => ?_, wk⟩
  rw [R.wp_bind] at h1
  refine ⟨g1, r, S1, _, Ed, rl1, h1, fun d S2 g2 H2 u h2 x2 rl2 rp2 => ?_, wk.ext x1⟩
  obtain ⟨p, ov, rfl, hg, q⟩ := inR_at rl2.good rp2 (Rep.ext x2 _ _ rp1) h2
  exact ⟨p, ov, rfl, hg, hq _ S2 g2 H2 _ q (x1.trans x2) rl2 rfl⟩
theorem lift_dnotin {K : PySem.W.Frag} {σ : L2.St} {H : Hp} {Q : VK} (h : lift K T W (toR (mDIn true mi mo)) σ H Q) : tDNotIn (lift K T W (toR mi)) (lift K T W (toR mo)) σ H Q := by
  obtain ⟨g, r, S, Qd, Ed, rl, h, hq, wk⟩ := h
  unfold toR mDIn at h
  rw [R.wp_bind] at h
  refine ⟨g, r, S, _, Ed, rl, h, fun y S1 g1 H1 v h1 x1 rl1 rp1 => ?_, wk⟩
  rw [R.wp_bind] at h1
  refine ⟨g1, r, S1, _, Ed, rl1, h1, fun d S2 g2 H2 u h2 x2 rl2 rp2 => ?_, wk.ext x1⟩
  obtain ⟨p, ov, rfl, hg, q⟩ := inR_at rl2.good rp2 (Rep.ext x2 _ _ rp1) h2
  exact ⟨p, ov, rfl, hg, hq _ S2 g2 H2 _ q (x1.trans x2) rl2 rfl⟩
theorem mt_din (hr : Room j X.A) (hi : DE X T W i (toR mi)) (ho : DE X T W o (toR mo)) (hm : behindInMarks .In o = false) : DT X T W (.Compare i [.In] [o] pos) (toR (mB (mDIn false mi mo))) := PT.imp (pt_cmp (pc_din (hu_of hr) hi ho) hm) fun σ H Q h => lift_din (liftT_of h)
theorem mt_dnotin (hr : Room j X.A) (hi : DE X T W i (toR mi)) (ho : DE X T W o (toR mo)) (hm : behindInMarks .NotIn o = false) : DT X T W (.Compare i [.NotIn] [o] pos) (toR (mB (mDIn true mi mo))) := PT.imp (pt_cmp (pc_dnotin (hu_of hr) hi ho) hm) fun σ H Q h => lift_dnotin (liftT_of h)
end
end DL
namespace DL
open PySem PySem.Spec PyProof.Rows L2 PySem.W
/-! ### special methods of own classes: in, ~, len -/
structure SpC (P : Program) (w : World) (K : Frag) (mg : Str → Option Value) (base : Heap) (T : List (Addr × Str)) (k : Nat) (nm C : Str) (mf : MF2) : Prop where
  ex : ∃ f, findIn K (.ref (He.ga K C)) nm = some (some (.ref f)) ∧ isFn K (.ref f) = true ∧ KC P w K mg base T k f [] mf
def STab (P : Program) (w : World) (K : Frag) (mg : Str → Option Value) (base : Heap) (T : List (Addr × Str)) (k : Nat) (nm : Str) (tbl : List (Str × MF2)) : Prop := ∀ C mf, tbl.lookup C = some mf → SpC P w K mg base T k nm C mf
section
variable {P : Program} {w : World} {K : Frag} {mg : Str → Option Value} {base : Heap} {T : List (Addr × Str)} {k j : Nat} {nm : Str} {tbl : List (Str × MF2)}
theorem STab.nil : STab P w K mg base T k nm [] := fun C mf h => by cases h
theorem STab.cons {C : Str} {f : Addr} {mf : MF2} (h1 : findIn K (.ref (He.ga K C)) nm = some (some (.ref f))) (h2 : isFn K (.ref f) = true) (F : KC P w K mg base T j f [] mf) (hj : j ≤ k) (r : STab P w K mg base T k nm tbl) : STab P w K mg base T k nm ((C, mf) :: tbl) := fun D mg' hl => by
  simp only [List.lookup_cons] at hl
  split at hl
  · rename_i e
    cases hl
    rw [beq_iff_eq.mp e]
    exact ⟨⟨f, h1, h2, F.mono hj⟩⟩
  · exact r D mg' hl
end
/-- the method at an instance -/
def spO (tbl : List (Str × MF2)) (o : D) (xs : List D) (S : Store) : R D := match insD S o with
  | some (C, _, _) => (match tbl.lookup C with
    | some mf => mf (o :: xs) [] S
    | none => .no)
  | none => .no
theorem spO_wp {tbl : List (Str × MF2)} {o : D} {xs : List D} {S : Store} {Q : DQ} {E : DX} (h : (spO tbl o xs S).wp Q E) : ∃ C ns ds mf, insD S o = some (C, ns, ds) ∧ tbl.lookup C = some mf ∧ (mf (o :: xs) [] S).wp Q E := by
  unfold spO at h
  split at h
  · rename_i C ns ds e
    split at h
    · rename_i mf e2; exact ⟨C, ns, ds, mf, e, e2, h⟩
    · exact h.elim
  · exact h.elim
noncomputable def inO (neg : Bool) (tbl : List (Str × MF2)) (x o : D) (S : Store) : R D := if (insD S o).isSome = true then notB neg (spO tbl o [x] S) else pk1 (fIn neg S x o) S
noncomputable def mInO (neg : Bool) (tbl : List (Str × MF2)) (ma mb : ME) : ME := fun r S => (ma r S).bind fun x S1 => (mb r S1).bind fun o S2 => inO neg tbl x o S2
def inOp (neg : Bool) : CmpOp := if neg = true then .NotIn else .In
section
variable {X : Cx} {T : List (Addr × Str)} {W : WX} {a b : Expr} {ma mb : ME} {pos p : Pos} {k j : Nat} {tbl : List (Str × MF2)} {neg : Bool}
theorem inO_run (st : STab X.prog X.w X.K X.mg X.base T k "__contains__" tbl) (tk : Takes X W) (hr : Room k X.A) {pins : List (Addr × Obj)} {s : Shared} {σ : L2.St} {g : Gh} {r : Sl} {S : Store} {H : Hp} {x o : D} {vx vo : V} {u v : Value} {Qd : DQ} {Ed : DX} {Q : VK} (I : Inv X pins σ H s) (rl : Rel X.K T g r S σ H) (r1 : Rep X.K g H x vx) (r2 : Rep X.K g H o vo) (q1 : RelV vx u) (q2 : RelV vo v)
    (hq : ∀ d S' g' H' v, Qd d S' → Ext g H g' H' → Rel X.K T g' r S' σ H' → Rep X.K g' H' d v → Q v H') (wk : WOk X.K T W g H r σ Ed) (h : (inO neg tbl x o S).wp Qd Ed) : wpAny (model X.prog X.w) X.A (compareOp (inOp neg) u v) (EP X pins σ Q) X.xe s := by
  unfold inO at h
  split at h
  · unfold notB at h
    rw [R.wp_bind] at h
    obtain ⟨C, ns, ds, mf, hi, hl, h⟩ := spO_wp h
    obtain ⟨f, f1, f2, F⟩ := (st C mf hl).ex
    obtain ⟨p, dx, vs, rfl, hH, _, _⟩ := ins_at rl.good r2 hi
    obtain rfl : v = Value.ref p := q2
    obtain ⟨mA, O, _⟩ := ins_get I.hok hH
    obtain ⟨od, J, _⟩ := O.look
    obtain ⟨mm, hF⟩ := I.fr
    have kc : kcD X.K T mf [.ref p, vx] [] H (fun v H' => ∃ b, v = .bl b ∧ Q (.bl (if neg = true then !b else b)) H') (WE W σ) := by
      refine ⟨g, S, [o, x], [], _, Ed, rl.good, ⟨_, _, rfl, r2, _, _, rfl, r1, rfl⟩, rfl, h, fun d S' g' H' v hd x1 gd1 rp => ?_, fun z S2 g2 H2 c dd q2 x2 gd xr => wk z S2 g2 H2 c dd q2 x2 (rl.good' gd x2) xr⟩
      rw [R.wp_bind] at hd
      obtain ⟨b, rfl, hd⟩ := asB_wp hd
      have e : v = .bl b := rp
      subst e
      exact ⟨b, rfl, hq _ S' g' H' _ hd x1 (rl.good' gd1 x1) rfl⟩
    have run := run_kc (us := [.ref p, u]) (ws := []) (vs := [.ref p, vx]) (zs := []) F hr tk I (.cons rfl (.cons q1 .nil)) .nil rfl kc
    cases neg with
    | false =>
      refine in_K hF I.ok.mod.kin J f1 f2 (thn run fun w s' ⟨z, H', I', rz, b, ez, qz⟩ => ?_)
      subst ez
      cases rz
      exact wpAny_truthy_bool ⟨.bl b, H', I', rfl, qz⟩
    | true =>
      refine notIn_K hF I.ok.mod.kin J f1 f2 (thn run fun w s' ⟨z, H', I', rz, b, ez, qz⟩ => ?_)
      subst ez
      cases rz
      exact wpAny_truthy_bool ⟨.bl (!b), H', I', rfl, qz⟩
  · obtain ⟨z, hz, qz⟩ := pk1_wp h
    cases neg with
    | false => exact opd_in hr pins s σ H vx vo u v Q I q1 q2 ⟨g, S, x, o, z, rl.good, r1, r2, hz, fun v' H' sm rp => hq z S g H' v' qz (Ext.same sm) (rl.same sm) rp⟩
    | true => exact opd_notin hr pins s σ H vx vo u v Q I q1 q2 ⟨g, S, x, o, z, rl.good, r1, r2, hz, fun v' H' sm rp => hq z S g H' v' qz (Ext.same sm) (rl.same sm) rp⟩
theorem me_inO (st : STab X.prog X.w X.K X.mg X.base T k "__contains__" tbl) (tk : Takes X W) (hr : Room j X.A) (ha : DE X T W a (toR ma)) (hb : DE X T W b (toR mb)) (hj : k ≤ j) (hm : behindInMarks (inOp neg) b = false) : DE X T W (.Compare a [inOp neg] [b] pos) (toR (mInO neg tbl ma mb)) := ⟨fun pins s σ H Q I ⟨g, r, S, Qd, Ed, rl, h, hq, wk⟩ => by
  unfold toR mInO at h
  rw [R.wp_bind] at h
  refine wpAny_Compare1 (thn (L2.PE.run ha pins s σ H (fun v H1 => ∃ g1 d S1, Ext g H g1 H1 ∧ Rel X.K T g1 r S1 σ H1 ∧ Rep X.K g1 H1 d v ∧ _) I ⟨g, r, S, _, Ed, rl, h, fun d S1 g1 H1 v h1 x1 rl1 rp1 => ⟨g1, d, S1, x1, rl1, rp1, h1⟩, wk⟩) fun u s1 ⟨v, H1, I1, rv, g1, d, S1, x1, rl1, rp1, h1⟩ => ?_) hm
  rw [R.wp_bind] at h1
  refine thn (L2.PE.run hb pins s1 σ H1 (fun v H2 => ∃ g2 d2 S2, Ext g1 H1 g2 H2 ∧ Rel X.K T g2 r S2 σ H2 ∧ Rep X.K g2 H2 d2 v ∧ _) I1 ⟨g1, r, S1, _, Ed, rl1, h1, fun d S1 g1 H1 v h1 x1 rl1 rp1 => ⟨g1, d, S1, x1, rl1, rp1, h1⟩, wk.ext x1⟩) fun u2 s2 ⟨v2, H2, I2, rv2, g2, d2, S2, x2, rl2, rp2, h2⟩ => ?_
  exact inO_run st tk (hr.mono hj) I2 rl2 (Rep.ext x2 _ _ rp1) rp2 rv rv2 (fun d S' g' H' v q x3 rl3 rp3 => hq d S' g' H' v q ((x1.trans x2).trans x3) rl3 rp3) (wk.ext (x1.trans x2)) h2⟩
theorem mt_inO (st : STab X.prog X.w X.K X.mg X.base T k "__contains__" tbl) (tk : Takes X W) (hr : Room j X.A) (ha : DE X T W a (toR ma)) (hb : DE X T W b (toR mb)) (hj : k ≤ j) (hm : behindInMarks (inOp neg) b = false) : DT X T W (.Compare a [inOp neg] [b] pos) (toR (mB (mInO neg tbl ma mb))) := ⟨fun pins s σ H Q I ⟨g, r, S, Qd, Ed, rl, h, hq, wk⟩ => by
  unfold toR mB mInO at h
  rw [R.wp_bind, R.wp_bind] at h
  refine wpAny_isTrue_Compare1 (thn (L2.PE.run ha pins s σ H (fun v H1 => ∃ g1 d S1, Ext g H g1 H1 ∧ Rel X.K T g1 r S1 σ H1 ∧ Rep X.K g1 H1 d v ∧ _) I ⟨g, r, S, _, Ed, rl, h, fun d S1 g1 H1 v h1 x1 rl1 rp1 => ⟨g1, d, S1, x1, rl1, rp1, h1⟩, wk⟩) fun u s1 ⟨v, H1, I1, rv, g1, d, S1, x1, rl1, rp1, h1⟩ => ?_) hm
  rw [R.wp_bind] at h1
  refine thn (L2.PE.run hb pins s1 σ H1 (fun v H2 => ∃ g2 d2 S2, Ext g1 H1 g2 H2 ∧ Rel X.K T g2 r S2 σ H2 ∧ Rep X.K g2 H2 d2 v ∧ _) I1 ⟨g1, r, S1, _, Ed, rl1, h1, fun d S1 g1 H1 v h1 x1 rl1 rp1 => ⟨g1, d, S1, x1, rl1, rp1, h1⟩, wk.ext x1⟩) fun u2 s2 ⟨v2, H2, I2, rv2, g2, d2, S2, x2, rl2, rp2, h2⟩ => ?_
  refine thn (inO_run (Q := fun v H' => ∃ b, v = .bl b ∧ Q b H') st tk (hr.mono hj) I2 rl2 (Rep.ext x2 _ _ rp1) rp2 rv rv2 (fun d S' g' H' v q x3 rl3 rp3 => ?_) (wk.ext (x1.trans x2)) h2) fun c s3 ⟨z, H3, I3, r3, b, e, q3⟩ => ?_
  · obtain ⟨b, rfl, q⟩ := asB_wp q
    exact ⟨b, rp3, hq b S' g' H' q ((x1.trans x2).trans x3) rl3⟩
  · subst e
    cases r3
    exact wpAny_truthy_bool ⟨H3, I3, q3⟩⟩
/-- ~x -/
def mInv (tbl : List (Str × MF2)) (ma : ME) : ME := fun r S => (ma r S).bind fun x S1 => spO tbl x [] S1
theorem me_inv (st : STab X.prog X.w X.K X.mg X.base T k "__invert__" tbl) (tk : Takes X W) (hr : Room j X.A) (ha : DE X T W a (toR ma)) (hj : k ≤ j) : DE X T W (.UnaryOp .Invert a pos) (toR (mInv tbl ma)) := ⟨fun pins s σ H Q I ⟨g, r, S, Qd, Ed, rl, h, hq, wk⟩ => by
  unfold toR mInv at h
  rw [R.wp_bind] at h
  refine wpAny_UnaryOp (thn (L2.PE.run ha pins s σ H (fun v H1 => ∃ g1 d S1, Ext g H g1 H1 ∧ Rel X.K T g1 r S1 σ H1 ∧ Rep X.K g1 H1 d v ∧ _) I ⟨g, r, S, _, Ed, rl, h, fun d S1 g1 H1 v h1 x1 rl1 rp1 => ⟨g1, d, S1, x1, rl1, rp1, h1⟩, wk⟩) fun u s1 ⟨v, H1, I1, rv, g1, d, S1, x1, rl1, rp1, h1⟩ => ?_)
  obtain ⟨C, ns, ds, mf, hi, hl, h2⟩ := spO_wp h1
  obtain ⟨f, f1, f2, F⟩ := (st C mf hl).ex
  obtain ⟨p, dx, vs, rfl, hH, _, _⟩ := ins_at rl1.good rp1 hi
  obtain rfl : u = Value.ref p := rv
  obtain ⟨mA, O, _⟩ := ins_get I1.hok hH
  obtain ⟨od, J, _⟩ := O.look
  obtain ⟨mm, hF⟩ := I1.fr
  refine ksp_inv hF I1.ok.mod.kin J f1 f2 ?_
  exact run_kc (us := [.ref p]) (ws := []) (vs := [.ref p]) (zs := []) F (hr.mono hj) tk I1 (.cons rfl .nil) .nil rfl (kc_of (ds := [d]) (es := []) hq wk x1 rl1 ⟨_, _, rfl, rp1, rfl⟩ rfl h2)⟩
/-- len(x) by an own __len__ -/
def lenO (tbl : List (Str × MF2)) (x : D) (S : Store) : R D := (spO tbl x [] S).nox.bind fun d S1 => match d with
  | .int n => if 0 ≤ n ∧ n < 2 ^ 63 then .ok (.int n) S1 else .no
  | _ => .no
def mLenO (tbl : List (Str × MF2)) (ma : ME) : ME := fun r S => (ma r S).bind fun x S1 => lenO tbl x S1
def rLenO (K : Frag) (T : List (Addr × Str)) (tbl : List (Str × MF2)) : List V → Hp → VK → Prop := fun vs H Q => ∃ g S d v Qd, vs = [v] ∧ GoodS K T g S H ∧ Rep K g H d v ∧ (lenO tbl d S).wp Qd EF ∧ ∀ d S' g' H' v, Qd d S' → Ext g H g' H' → GoodS K T g' S' H' → Rep K g' H' d v → Q v H'
theorem cb_lenO (st : STab X.prog X.w X.K X.mg X.base T k "__len__" tbl) (hr : Room (k + 1) X.A) : CallR X (.builtin "len") (rLenO X.K T tbl) := fun pins s σ H xs us Q I rv h => by
  obtain ⟨g, S, d, v, Qd, e, gd, rp, h, hq⟩ := h
  subst e
  obtain ⟨u, rfl, rv1⟩ : ∃ u, us = [u] ∧ RelV v u := by
    cases rv with
    | cons rv rn => cases rn; exact ⟨_, rfl, rv⟩
  unfold lenO at h
  rw [R.wp_bind] at h
  have h1 := R.wp_nox h
  obtain ⟨C, ns, ds, mf, hi, hl, h2⟩ := spO_wp h1
  obtain ⟨f, f1, f2, F⟩ := (st C mf hl).ex
  obtain ⟨p, dx, vs, rfl, hH, _, _⟩ := ins_at gd rp hi
  obtain rfl : u = Value.ref p := rv1
  obtain ⟨mA, O, _⟩ := ins_get I.hok hH
  obtain ⟨od, J, _⟩ := O.look
  obtain ⟨mm, hF⟩ := I.fr
  refine len_K hF I.ok.mod.kin J f1 f2 ?_
  refine wpAny_call (codeAny_mono (F X.A.in1 X.stack s H [.ref p] [] [.ref p] [] (fun v H' => ∃ n, v = .int n ∧ (0 ≤ n ∧ n < 2 ^ 63) ∧ Q (.int n) H') (fun _ _ _ => False) hr.in1 I.env0.in1 (.cons rfl .nil) .nil rfl ⟨g, S, [d], [], _, EF, gd, ⟨_, _, rfl, rp, rfl⟩, rfl, h2, fun d2 S' g' H' v' hd x1 gd1 rp1 => ?_, fun _ _ _ _ _ _ z => z.elim⟩) fun r s' hq' => ?_)
  · split at hd
    · rename_i n
      split at hd
      · rename_i hn
        exact ⟨n, rp1, hn, hq _ S' g' H' _ hd x1 gd1 rfl⟩
      · exact hd.elim
    · exact hd.elim
  · cases r with
    | error e =>
      obtain ⟨_, _, _, _, _, _, _, _, _, _, _, _, z⟩ := hq'
      exact z.elim
    | ok fl =>
      cases fl with
      | ret w =>
        obtain ⟨z, H', I', rz, n, ez, hn, qz⟩ := I.after hq'
        subst ez
        obtain ⟨t, rfl⟩ := (show ∃ t, w = Value.int n t from rz)
        exact ⟨hn, .int n, H', I'.tok _, ⟨_, rfl⟩, qz⟩
      | _ => exact False.elim hq'
theorem me_lenO (st : STab X.prog X.w X.K X.mg X.base T k "__len__" tbl) (hr : Room j X.A) (hj : k + 1 ≤ j) (hg : Gl X "len") (hm : X.mg "len" = none) (ha : DE X T W a (toR ma)) (he : starEach [a] X.env = (false, eval a X.env) :: starEach [] X.env := by rfl) : DE X T W (.Call (.Name "len" p) [a] [] pos) (toR (mLenO tbl ma)) :=
  PE.imp (pe_callB (cb_lenO st (hr.mono hj)) hg hm (by decide +kernel) (pa_cons ha pa_nil he) (by decide) (by decide) he (by rfl)) fun σ H Q ⟨g, r, S, Qd, Ed, rl, h, hq, wk⟩ => by
    unfold toR mLenO at h
    rw [R.wp_bind] at h
    refine ⟨g, r, S, _, Ed, rl, h, fun d S1 g1 H1 v h1 x1 rl1 rp1 => ?_, wk⟩
    refine ⟨g1, S1, d, v, Qd, rfl, rl1.good, rp1, ?_, fun d2 S' g' H' v' hd x2 gd2 rp2 => hq d2 S' g' H' v' hd (x1.trans x2) (rl1.good' gd2 x2) rp2⟩
    unfold lenO at h1 ⊢
    cases q : spO tbl d [] S1 with
    | ok z S2 =>
      rw [q] at h1
      simp only [R.nox_ok, R.bind_ok] at h1 ⊢
      split at h1
      · split at h1
        · rename_i hn; rw [if_pos hn]; exact h1
        · exact h1.elim
      · exact h1.elim
    | ex x S2 => rw [q] at h1; exact h1.elim
    | no => rw [q] at h1; exact h1.elim
/-! ### o.f = .. among several targets -/
def putAt (f : Str) (fl : List Str) (y o : D) (S : Store) : R Unit := match o with
  | .ref n => (match S[n]? with
    | some (.ins C ns ds) => if fl.contains C = true ∧ ns.length < 1000 then .ok () (S.set n (.ins C (putD f y ns ds).1 (putD f y ns ds).2)) else .no
    | _ => .no)
  | _ => .no
def mgFld (f : Str) (fl : List Str) (mo : ME) : MG := fun d r S => ((mo r S).nox.bind fun o S1 => putAt f fl d o S1).bind fun _ S2 => .ok r S2
theorem mg_fld {o : Expr} {mo : ME} {f : Str} {fl : List Str} {tbl : List (Str × MF2)} (pt : PTab X.prog X.w X.K X.mg X.base T k f fl tbl) (ho : DE X T WF o (toR mo)) : DG X T (.Attribute o f pos) (toG (mgFld f fl mo)) := ⟨fun pins s σ H v u Q I rv h => by
  obtain ⟨g, r, S, d, Qd, rl, rp, h, hq⟩ := h
  unfold toG mgFld at h
  rw [R.wp_bind, R.wp_bind] at h
  rw [arm_assign_Attribute]
  have h := R.wp_nox h
  refine wpAny_bind (wpAny_holding (thn (L2.PE.run ho pins s σ H (fun v H1 => ∃ g1 d S1, Ext g H g1 H1 ∧ Rel X.K T g1 r S1 σ H1 ∧ Rep X.K g1 H1 d v ∧ _) I ⟨g, r, S, _, EF, rl, h, fun d S1 g1 H1 v h1 x1 rl1 rp1 => ⟨g1, d, S1, x1, rl1, rp1, h1⟩, fun _ _ _ _ _ _ z => z.elim⟩) fun ov s1 ⟨v1, H1, I1, rv1, g1, d1, S1, x1, rl1, rp1, h1⟩ => ?_))
  unfold putAt at h1
  split at h1
  · rename_i n
    split at h1
    · rename_i C ns ds hS
      split at h1
      · rename_i hc
        obtain ⟨c, na⟩ := pt.2 C hc.1
        obtain ⟨a, rfl, hp, dx, vs, hH, hl, rs⟩ := ref_at rl1.good rp1 hS
        have hlt : n < S1.length := (List.getElem?_eq_some_iff.mp hS).1
        obtain ⟨us, e1, e2, e3⟩ := putD_rep (f := f) (Rep.ext x1 _ _ rp) rs hl
        obtain rfl : ov = Value.ref a := rv1
        refine wpAny_bind (wpAny_standAt (wpAny_bind (wpAny_holding (setattr_ok I1 hH c na (by rw [List.length_zip, hl]; simpa [hl] using hc.2) rv fun s2 I2 => ?_))))
        rw [e1] at I2
        have wr : ∀ b, ¬ g1.off b → upd H1 a (.ins (He.ga X.K C) dx ((putD f d ns ds).1.zip us)) b = H1 b := fun b nb => upd_ne fun z => nb (.inl (by rw [z]; exact List.mem_of_getElem? hp))
        obtain ⟨gd3, x3⟩ := rl1.good.write (u := .ins (He.ga X.K C) dx ((putD f d ns ds).1.zip us)) (o := .ins C (putD f d ns ds).1 (putD f d ns ds).2) (fun _ => nofun) hp hlt ⟨dx, us, upd_same, e3, Reps.wr wr _ _ e2⟩ (fun t z => by rw [hH] at z; cases z) (fun c q z => by rw [hH] at z; exact codeO_ins (Option.some.inj z))
        exact wpAny_release ⟨σ, _, I2, hq r _ g1 σ _ h1 (x1.trans x3) (rl1.good' gd3 x3)⟩
      · exact h1.elim
    · exact h1.elim
  · exact h1.elim⟩
end
end DL
namespace DL
open PySem PySem.Spec PyProof.Rows L2
/-! ### dicts of the store whose keys are tuples of ints and texts -/
def keysOf : List D → Option (List Key)
  | [] => some []
  | d :: ds => match keyD d, keysOf ds with
    | some k, some ks => some (k :: ks)
    | _, _ => none
def keyT : D → Option (List Key)
  | .tup ds => keysOf ds
  | _ => none
theorem keysOf_rep {K : PySem.W.Frag} {g : Gh} {H : Hp} : ∀ {ds : List D} {vs : List V} {ks : List Key}, Reps K g H ds vs → keysOf ds = some ks → vs = ks.map kV
  | [], vs, ks, r, e => by cases r; cases e; rfl
  | d :: ds, vs, ks, ⟨v, q, e1, r1, r2⟩, e => by
    subst e1
    unfold keysOf at e
    split at e
    · rename_i k ks' h1 h2
      cases e
      rw [keyD_rep r1 h1, keysOf_rep r2 h2]; rfl
    · cases e
theorem keyT_rep {K : PySem.W.Frag} {g : Gh} {H : Hp} {d : D} {v : V} {k : List Key} (r : Rep K g H d v) (e : keyT d = some k) : ∃ b, v = .ref b ∧ H b = some (.tup (k.map kV)) := by
  cases d with
  | tup ds =>
    obtain ⟨a, vs, rfl, h, rs⟩ := r
    rw [keysOf_rep rs e] at h
    exact ⟨a, rfl, h.1⟩
  | _ => cases e
theorem codeO_dT {kvs : List (List Key × V)} {c : Addr} {q : Str} : HO.dT kvs ≠ LamX.CodeO c q := by intro h; cases h
section
variable {X : Cx} {T : List (Addr × Str)} {W : WX} {a b o i e value : Expr} {ma mb mo mi mv : ME} {pos pos' cpos apos : Pos} {k j : Nat}
def dctT (S : Store) : D → Option (List (List Key × D))
  | .ref n => match S[n]? with
    | some (.dT kvs) => some kvs
    | _ => none
  | _ => none
theorem dctT_at {K : PySem.W.Frag} {g : Gh} {S : Store} {H : Hp} {d : D} {v : V} {kvs : List (List Key × D)} (gd : GoodS K T g S H) (rp : Rep K g H d v) (h : dctT S d = some kvs) : ∃ n p ws, d = .ref n ∧ S[n]? = some (.dT kvs) ∧ v = .ref p ∧ g.ps[n]? = some p ∧ H p = some (.dT ws) ∧ KR K g H kvs ws := by
  cases d with
  | ref n =>
    simp only [dctT] at h
    split at h
    · rename_i kvs' hS
      cases h
      obtain ⟨p, e, hp, vs, hH, rs⟩ := ref_at gd rp hS
      exact ⟨n, p, _, rfl, hS, e, hp, hH, KR.of rs⟩
    · cases h
  | _ => simp [dctT] at h
def getT (d y : D) (S : Store) : R D := match dctT S d, keyT y with
  | some kvs, some k => (match valG kvs k with
    | some z => .ok z S
    | none => .no)
  | _, _ => .no
def mTGet (mo mi : ME) : ME := fun r S => (mo r S).bind fun d S1 => (mi r S1).bind fun y S2 => getT d y S2
theorem me_tget (hr : Room j X.A) (ho : DE X T W o (toR mo)) (hi : DE X T W i (toR mi)) (hs : NoSl i) : DE X T W (.Subscript o i pos) (toR (mTGet mo mi)) := PE.imp (pe_dget (hu_of hr) ho hi hs) fun σ H Q ⟨g, r, S, Qd, Ed, rl, h, hq, wk⟩ => by
  unfold toR mTGet at h
  rw [R.wp_bind] at h
  refine ⟨g, r, S, _, Ed, rl, h, fun d S1 g1 H1 v h1 x1 rl1 rp1 => ?_, wk⟩
  rw [R.wp_bind] at h1
  refine ⟨g1, r, S1, _, Ed, rl1, h1, fun y S2 g2 H2 u h2 x2 rl2 rp2 => ?_, wk.ext x1⟩
  unfold getT at h2
  split at h2
  · rename_i kvs k hd hk
    obtain ⟨n, p, ws, rfl, hS, rfl, hp, hH, kr⟩ := dctT_at rl2.good (Rep.ext x2 _ _ rp1) hd
    obtain ⟨b, rfl, hb⟩ := keyT_rep rp2 hk
    split at h2
    · rename_i z hz
      obtain ⟨v2, hv2, rv2⟩ := kr.val.1 z hz
      exact ⟨p, v2, rfl, .inr ⟨ws, k, b, .inl hH, rfl, hb, hv2.symm⟩, hq z S2 g2 H2 v2 h2 (x1.trans x2) rl2 rv2⟩
    · exact h2.elim
  · exact h2.elim
def inT (neg : Bool) (y d : D) (S : Store) : R D := match dctT S d, keyT y with
  | some kvs, some k => .ok (.bl (if neg = true then !(valG kvs k).isSome else (valG kvs k).isSome)) S
  | _, _ => .no
def mTIn (neg : Bool) (mi mo : ME) : ME := fun r S => (mi r S).bind fun y S1 => (mo r S1).bind fun d S2 => inT neg y d S2
theorem inT_at {neg : Bool} {K : PySem.W.Frag} {g : Gh} {S : Store} {H : Hp} {y d : D} {v u : V} {Qd : DQ} {Ed : DX} (gd : GoodS K T g S H) (rd : Rep K g H d v) (ry : Rep K g H y u) (h : (inT neg y d S).wp Qd Ed) : ∃ p ov, v = .ref p ∧ DGet H p u ov ∧ Qd (.bl (if neg = true then !ov.isSome else ov.isSome)) S := by
  unfold inT at h
  split at h
  · rename_i kvs k hd hk
    obtain ⟨n, p, ws, rfl, hS, rfl, hp, hH, kr⟩ := dctT_at gd rd hd
    obtain ⟨b, rfl, hb⟩ := keyT_rep ry hk
    refine ⟨p, valV ws k, rfl, .inr ⟨ws, k, b, .inl hH, rfl, hb, rfl⟩, ?_⟩
    have e : (valV ws k).isSome = (valG kvs k).isSome := by
      cases q : valG kvs k with
      | some z => obtain ⟨v2, hv2, _⟩ := kr.val.1 z q; rw [hv2]; rfl
      | none => rw [kr.val.2 q]; rfl
    rw [e]
    exact h
  · exact h.elim
theorem me_tin (hr : Room j X.A) (hi : DE X T W i (toR mi)) (ho : DE X T W o (toR mo)) (hm : behindInMarks .In o = false) : DE X T W (.Compare i [.In] [o] pos) (toR (mTIn false mi mo)) := PE.imp (pe_cmp (pc_din (hu_of hr) hi ho) hm) fun σ H Q ⟨g, r, S, Qd, Ed, rl, h, hq, wk⟩ => by
  unfold toR mTIn at h
  rw [R.wp_bind] at h
  refine ⟨g, r, S, _, Ed, rl, h, fun y S1 g1 H1 v h1 x1 rl1 rp1 => ?_, wk⟩
  rw [R.wp_bind] at h1
  refine ⟨g1, r, S1, _, Ed, rl1, h1, fun d S2 g2 H2 u h2 x2 rl2 rp2 => ?_, wk.ext x1⟩
  obtain ⟨p, ov, rfl, hg, q⟩ := inT_at rl2.good rp2 (Rep.ext x2 _ _ rp1) h2
  exact ⟨p, ov, rfl, hg, hq _ S2 g2 H2 _ q (x1.trans x2) rl2 rfl⟩
theorem me_tnotin (hr : Room j X.A) (hi : DE X T W i (toR mi)) (ho : DE X T W o (toR mo)) (hm : behindInMarks .NotIn o = false) : DE X T W (.Compare i [.NotIn] [o] pos) (toR (mTIn true mi mo)) := PE.imp (pe_cmp (pc_dnotin (hu_of hr) hi ho) hm) fun σ H Q ⟨g, r, S, Qd, Ed, rl, h, hq, wk⟩ => by
  unfold toR mTIn at h
  rw [R.wp_bind] at h
  refine ⟨g, r, S, _, Ed, rl, h, fun y S1 g1 H1 v h1 x1 rl1 rp1 => ?_, wk⟩
  rw [R.wp_bind] at h1
  refine ⟨g1, r, S1, _, Ed, rl1, h1, fun d S2 g2 H2 u h2 x2 rl2 rp2 => ?_, wk.ext x1⟩
  obtain ⟨p, ov, rfl, hg, q⟩ := inT_at rl2.good rp2 (Rep.ext x2 _ _ rp1) h2
  exact ⟨p, ov, rfl, hg, hq _ S2 g2 H2 _ q (x1.trans x2) rl2 rfl⟩
def putT (d y v : D) (r : Sl) (S : Store) : Fl := match d with
  | .ref n => (match S[n]?, keyT y with
    | some (.dT kvs), some k => if kvs.length < sizeLine then .nx r (S.set n (.dT (putG kvs k v))) else .no
    | _, _ => .no)
  | _ => .no
def mTPut (mo mi mv : ME) : MS := fun r S => (mv r S).fl r fun v S1 => (mo r S1).fl r fun d S2 => (mi r S2).fl r fun y S3 => putT d y v r S3
theorem ms_tput (hr : Room j X.A) (ho : DE X T W o (toR mo)) (hi : DE X T W i (toR mi)) (hv : DE X T W value (toR mv)) (hs : swapsWith value (some (.Subscript o i pos')) pos.line X.env = pure false) :
    DS X T W (.Assign [.Subscript o i pos'] value pos) (toS (mTPut mo mi mv)) := PS.imp (ps_dput (hu_of hr) ho hi hv hs) fun N σ H ⟨g, r, S, dd, rl, h, e⟩ => by
  unfold toS mTPut at h
  rw [wp_fl] at h
  refine ⟨g, r, S, _, _, rl, h, fun v S1 g1 H1 vv h1 x1 rl1 rp1 => ?_, e.wok r σ⟩
  rw [wp_fl] at h1
  refine ⟨g1, r, S1, _, _, rl1, h1, fun d S2 g2 H2 vd h2 x2 rl2 rp2 => ?_, (e.wok r σ).ext x1⟩
  rw [wp_fl] at h2
  refine ⟨g2, r, S2, _, _, rl2, h2, fun y S3 g3 H3 vy h3 x3 rl3 rp3 => ?_, (e.wok r σ).ext (x1.trans x2)⟩
  unfold putT at h3
  split at h3
  · rename_i n
    split at h3
    · rename_i kvs k hS hk
      split at h3
      · rename_i hlt
        obtain ⟨p, rfl, hp, vs, hH, rs⟩ := ref_at rl3.good (Rep.ext x3 _ _ rp2) hS
        obtain ⟨b, rfl, hb⟩ := keyT_rep rp3 hk
        have kr := (KR.of rs).put (k := k) (Rep.ext (x2.trans x3) _ _ rp1)
        obtain ⟨us, e1, e2⟩ := kr.to
        have hl := (KR.of rs).length
        refine ⟨p, _, rfl, .inr ⟨_, k, b, hH, rfl, hb, by rw [hl]; exact hlt, rfl⟩, ?_⟩
        rw [e1]
        have wr : ∀ b, ¬ g3.off b → upd H3 p (.dT (((putG kvs k v).map (·.1)).zip us)) b = H3 b := fun b nb => upd_ne fun z => nb (.inl (by rw [z]; exact List.mem_of_getElem? hp))
        obtain ⟨gd4, x4⟩ := rl3.good.write (u := .dT (((putG kvs k v).map (·.1)).zip us)) (o := .dT (putG kvs k v)) (fun _ => nofun) hp (List.getElem?_eq_some_iff.mp hS).1 ⟨us, upd_same, Reps.wr wr _ _ e2⟩ (fun t z => by rw [hH] at z; cases z) (fun c q z => by rw [hH] at z; exact codeO_dT (Option.some.inj z))
        exact e.nx _ _ g3 _ _ h3 (((x1.trans x2).trans x3).trans x4) (rl3.good' gd4 x4)
      · exact h3.elim
    · exact h3.elim
  · exact h3.elim
/-- {} for keys that are tuples -/
def mTNew : ME := fun _ S => .ok (.ref S.length) (S ++ [.dT []])
theorem me_tnew : DE X T W (.Dict [] [] pos) (toR mTNew) := PE.imp pe_dnewT fun σ H Q ⟨g, r, S, Qd, Ed, rl, h, hq, wk⟩ => fun p hp => by
  refine hq _ _ ⟨g.ps ++ [p], g.hs⟩ _ _ h (Ext.new hp) (rl.new hp ⟨[], upd_same, rfl⟩) ⟨p, rfl, ?_⟩
  rw [← rl.good.len]
  simp
end
/-! ### {k: v for ..}, the keys tuples -/
section
variable {X : Cx}
theorem dSetT {pins : List (Addr × Obj)} {σ : L2.St} {H : Hp} {s : Shared} {E : Value → Shared → Prop} {D b : Addr} {kvs : List (List Key × V)} {k : List Key} {v : V} {r : Value} {Q : Unit → Shared → Prop} (hu : X.A.units < cLine) (I : Inv X pins σ H s) (hD : H D = some (.dT kvs)) (hz : kvs.length < sizeLine)
    (hb : H b = some (.tup (k.map kV))) (rv : RelV v r) (h : ∀ s', Inv X pins σ (upd H D (.dT (putK kvs k v))) s' → Q () s') : wpAny (model X.prog X.w) X.A (dictSet D (.ref b) r) Q E s := by
  obtain ⟨z, hd, xs, rel, dd⟩ := dt_of I.hok hD
  have hl : (putK kvs k v).length ≤ sizeLine := by have := length_putK kvs k v; omega
  refine wpAny_dictSet_heap (hsz := by rw [← Paired.length rel]; exact z) (show (tupleKind (mixKind X.prog X.w)).room X.A from hu) (key_of I.hok hb) dd fun h' dd' hs => h _ ?_
  obtain ⟨ob, es, ep, hob, c2, c3, c4, _, c5⟩ := dd'
  refine d_write I (by rw [hD]; trivial) hs ⟨ob, hob⟩ ⟨hl, hd, _, (rel.put k hb rv).keeps fun c ys ec => ?_, ob, es, ep, hob, c2, c3, c4, c5⟩
  rw [upd_ne (ne_of ec hD nofun)]; exact ec
def tDcT (wi : TI) (g : TG) (tt : TT) (tk tv : TE) (vs : List Nat) : TE := fun σ H Q => wi σ H fun J H1 => ∀ D, H1 D = none → ∃ W : Nat → Nat → Hp → Prop, (∃ m, W 0 m (upd H1 D (.dT []))) ∧ ∀ i m H, W i m H →
  (J.stop i H ∧ Q (.ref D) H) ∨ (J.go i H ∧ ∃ Nx : Hp → Prop, (∀ H', Nx H' → ∃ m', m' < m ∧ W (i + 1) m' H') ∧ ∀ x H', J.yld i H x H' → g x (L2.wipe σ vs) H' fun σ2 H2 => L2.wipe σ2 vs = L2.wipe σ vs ∧ tt σ2 H2 fun b H3 =>
    if b = true then tk σ2 H3 fun y H4 => tv σ2 H4 fun z H5 => ∃ kvs k q, y = .ref q ∧ H5 q = some (.tup (k.map kV)) ∧ H5 D = some (.dT kvs) ∧ kvs.length < sizeLine ∧ Nx (upd H5 D (.dT (putK kvs k z))) else Nx H3)
theorem pe_dcT {kx vx tg iter : Expr} {ifs : List Expr} {scope : Scope} {own : List (Str × Nat)} {pos : Pos} {wi : TI} {g : TG} {tt : TT} {tk tv : TE} (hu : X.A.units < cLine) (hc : X.calm = true) (hN : X.N.Nodup) (hi : PI X tg iter wi) (ok : BlkOk X.N X.env.scope scope own)
    (hg : ∀ (s : Shared) (H : Hp) (C : Addr) (cl : List (Str × Addr)) (fp : List Addr), PG (X.blk s H scope (compEnvC scope cl C X.env) fp) tg g) (ht : ∀ (s : Shared) (H : Hp) (C : Addr) (cl : List (Str × Addr)) (fp : List Addr), PTs (X.blk s H scope (compEnvC scope cl C X.env) fp) ifs tt)
    (hk : ∀ (s : Shared) (H : Hp) (C : Addr) (cl : List (Str × Addr)) (fp : List Addr), PE (X.blk s H scope (compEnvC scope cl C X.env) fp) kx tk) (he : ∀ (s : Shared) (H : Hp) (C : Addr) (cl : List (Str × Addr)) (fp : List Addr), PE (X.blk s H scope (compEnvC scope cl C X.env) fp) vx tv) (hs : ∀ x, foldedSetIterable iter X.env x = pure x) :
    PE X (.DictComp kx vx [⟨tg, iter, ifs, 0⟩] scope pos) (tDcT wi g tt tk tv (own.map (·.2))) := by
  refine ⟨fun pins s σ H Q I h => ?_⟩
  rw [arm_eval_DictComp]
  refine wpAny_comprehension_free (use := none) rfl hs (closure_ok fun y hy e => (ok.free y hy e).elim (fun z => I.ok.has _ (.inl z)) fun z => I.ok.has _ (.inr z)) ok.kind (fun y hy e => by rw [ok.uniq y hy, e]) (thn (hi.run pins s σ H _ I h) fun xv s1 hx => thn hx fun itv s2 ⟨it, fp, tn, J, H2, e, I2, TT, at2, f2, q⟩ => ?_)
  subst e
  refine wpAny_newObj_type (newEnv_comp ?_)
  generalize hD : s2.heap.objs.size = dd
  obtain ⟨W, ⟨m0, w0⟩, turn⟩ := q dd (I2.hok.fresh (Nat.le_of_eq hD))
  generalize es3 : ({ s2 with heap := s2.heap.push { cls := .type "dict", data := .dict #[] } } : Shared) = s3
  have I3 : Inv X pins σ (upd H2 dd (.dT [])) s3 := by
    rw [← es3]
    exact I2.laid (t' := s2.toks) (fun b o e => Heap.get?_push_of_some _ e) (Nat.le_of_eq hD) (by rw [← hD]; exact dt_empty s2.heap I2.big)
  have hp3 : s3.heap = s2.heap.push { cls := .type "dict", data := .dict #[] } := by rw [← es3]
  have small : ∀ b ∈ fp, b < s2.heap.objs.size := fun b hb => let ⟨o, e, _⟩ := TT.obj _ _ at2 b hb; Heap.lt_size e
  have f3 : ∀ b ∈ fp, FpOk X pins (upd H2 dd (.dT [])) b ∧ b < s3.heap.objs.size := fun b hb =>
    ⟨⟨by rw [upd_ne (by rw [← hD]; exact Nat.ne_of_lt (small b hb))]; exact (f2 b hb).1, (f2 b hb).2⟩, by rw [hp3, Heap.size_push]; exact Nat.lt_succ_of_lt (small b hb)⟩
  have at3 : tn 0 s3.heap := TT.keep _ _ _ at2 fun b _ o e => by rw [hp3]; exact Heap.get?_push_of_some _ e
  have I4 := block_start I3 ok hN f3
  have rg := hg s3 (upd H2 dd (.dT [])) s3.heap.objs.size (cellsFrom (s3.heap.objs.size + 1) scope.names (cloFrom X.env.cells scope.names [])) fp
  have rt := ht s3 (upd H2 dd (.dT [])) s3.heap.objs.size (cellsFrom (s3.heap.objs.size + 1) scope.names (cloFrom X.env.cells scope.names [])) fp
  have rk := hk s3 (upd H2 dd (.dT [])) s3.heap.objs.size (cellsFrom (s3.heap.objs.size + 1) scope.names (cloFrom X.env.cells scope.names [])) fp
  have re := he s3 (upd H2 dd (.dT [])) s3.heap.objs.size (cellsFrom (s3.heap.objs.size + 1) scope.names (cloFrom X.env.cells scope.names [])) fp
  show codeAny _ _ (.compStart (.DictComp kx vx [⟨tg, iter, ifs, 0⟩] scope pos) 0 (.ref it) (.ref dd) (compEnvC scope (cellsFrom (s3.heap.objs.size + 1) scope.names (cloFrom X.env.cells scope.names [])) s3.heap.objs.size X.env)) (compPost (model X.prog X.w) X.A X.xe none _ (.ref dd) s3.heap.objs.size) { s3 with heap := pushCells (s3.heap.push { cls := .type "dict", data := .dict #[] }) scope.names }
  have clear : ∀ b ∈ fp, (upd H2 dd (.dT [])) b = none := fun b hb => (f3 b hb).1.1
  generalize hce : compEnvC scope (cellsFrom (s3.heap.objs.size + 1) scope.names (cloFrom X.env.cells scope.names [])) s3.heap.objs.size X.env = ce at I4 rg rt rk re ⊢
  have eL : ce.locals = s3.heap.objs.size := by subst hce; rfl
  generalize hH3 : upd H2 dd (.dT []) = H3 at I3 I4 rg rt rk re w0 clear f3
  generalize es4 : ({ s3 with heap := pushCells (s3.heap.push { cls := .type "dict", data := .dict #[] }) scope.names } : Shared) = s4 at I4 ⊢
  have at4 : tn 0 s4.heap := TT.keep _ _ _ at3 fun b _ o e => by rw [← es4]; exact pushCells_keeps _ _ _ _ (Heap.get?_push_of_some _ e)
  have stay : ∀ {σ' : L2.St} {H' : Hp} {s' : Shared}, Inv (X.blk s3 H3 scope ce fp) [] σ' H' s' → (∀ b ∈ fp, H' b = none) → ∀ b ∈ fp, FpOk (X.blk s3 H3 scope ce fp) [] H' b := fun {_ _ _} I' hn b hb =>
    ⟨hn b hb, (I'.ok.exf b hb).1, I'.ok.exfs b hb, .inl hb, fun x c e => (I'.ok.exf b hb).2 x c e, fun p hp => by exact absurd (show p ∈ ([] : List (Addr × Obj)) ++ [] from hp) (by simp)⟩
  have loop : codeAny (model X.prog X.w) X.A (.compLoop (.DictComp kx vx [⟨tg, iter, ifs, 0⟩] scope pos) 0 (.ref it) (.ref dd) ce) (compPost (model X.prog X.w) X.A X.xe none (EP X pins σ Q) (.ref dd) s3.heap.objs.size) s4 := by
    refine compLoop_anyD (fun n s' => ∃ i H', Inv (X.blk s3 H3 scope ce fp) [] (L2.wipe σ (own.map (·.2))) H' s' ∧ tn i s'.heap ∧ (∀ b ∈ fp, H' b = none) ∧ W i n H') ?_ m0 ⟨0, H3, I4, at4, clear, w0⟩
    rintro n s5 ⟨i, H5, I5, at5, n5, w5⟩
    rcases turn i n H5 w5 with ⟨stop, fine⟩ | ⟨go, Nx, hNx, step⟩
    · refine thnF (TT.done (X.blk s3 H3 scope ce fp) rfl rfl rfl hc i [] s5 _ H5 (fun _ _ => False) I5 (stay I5 n5) at5 stop) fun r s6 ⟨hr, I6⟩ => ?_
      subst hr
      have I7 : Inv X pins σ H5 s6 := I3.call' (ch := fp) I6.os I6.base I6.hok I6.bare fun b hb => ⟨(f3 b hb).1.2.2.2.1, (f3 b hb).1.2.1, (f3 b hb).1.2.2.2.2.1, (f3 b hb).1.2.2.2.2.2⟩
      have nC : H5 s3.heap.objs.size = none := by rw [← eL]; exact I6.free
      obtain ⟨m, hn, _⟩ := I6.loc
      have hn : s6.heap.Ns ce.locals m := hn
      rw [eL] at hn
      refine ⟨m, hn, fun h'' sb => ?_⟩
      obtain ⟨f0, f1, f2, f3, f4, f5⟩ := I3.fpOk (Nat.le_refl _) nC
      exact ⟨.ref dd, H5, I7.turned (t' := s6.toks) (fun b o hb e => (sb.2 b hb).trans e) f0 f1 f3 f4 f5, rfl, fine⟩
    · refine thnF (TT.item (X.blk s3 H3 scope ce fp) rfl rfl rfl hc i [] s5 _ H5 (fun _ _ => False) I5 (stay I5 n5) at5 go) fun r s6 ⟨u, hr, h6⟩ => ?_
      subst hr
      refine thnF h6 fun _ s7 ⟨x, H7, I7, r7, y7, at7, n7⟩ => ?_
      refine thnF (rg.run _ s7 _ H7 x u _ (I7.pinned (stay I7 n7) (TT.obj _ _ at7)) r7 (step x H7 y7)) fun _ s8 ⟨σ8, H8, I8, hw8, q8⟩ => ?_
      refine thnF (rt.run _ s8 σ8 H8 _ I8 q8) fun b s9 ⟨H9, I9, q9⟩ => ?_
      have fin : ∀ {s' : Shared} {H' : Hp}, Inv (X.blk s3 H3 scope ce fp) ([] ++ pinsAt fp s7.heap) σ8 H' s' → Nx H' → ∃ m, m < n ∧ ∃ i H', Inv (X.blk s3 H3 scope ce fp) [] (L2.wipe σ (own.map (·.2))) H' s' ∧ tn i s'.heap ∧ (∀ b ∈ fp, H' b = none) ∧ W i m H' := fun {s' H'} I' nx => by
        obtain ⟨m', hm, w'⟩ := hNx H' nx
        have held : ∀ b ∈ fp, ∀ o, s7.heap.get? b = some o → s'.heap.get? b = some o ∧ H' b = none := fun b hb o e => (fun z => ⟨z.1, z.2.1⟩) (I'.pin (b, o) (List.mem_append_right _ (List.mem_append_right _ (mem_pinsAt hb e))))
        refine ⟨m', hm, i + 1, H', (I'.unpinned (pins := [])).weak (by rw [← hw8, wipe_length]) (fun j v e => (wipe_some (by rw [hw8]; exact e)).1), TT.keep _ _ _ at7 fun b hb o e => (held b hb o e).1, fun b hb => ?_, w'⟩
        obtain ⟨o, e, _⟩ := TT.obj _ _ at7 b hb
        exact (held b hb o e).2
      cases b with
      | false => exact fin I9 q9
      | true =>
        refine thnF (rk.run _ s9 σ8 H9 _ I9 q9) fun z s10 ⟨yk, H10, I10, r10, q10⟩ => ?_
        refine thnF (re.run _ s10 σ8 H10 _ I10 q10) fun z2 s11 ⟨yv, H11, I11, r11, kvs, k, qa, ek, hq11, hD11, hz11, nx⟩ => ?_
        subst ek
        obtain rfl : z = Value.ref qa := r10
        exact dSetT (X := X.blk s3 H3 scope ce fp) hu I11 hD11 hz11 hq11 r11 fun s12 I12 => fin I12 nx
  exact codeAny_compStart_dict loop (TT.self X.A 0 _ _ _ at4 loop)
end
def mTcL (g : MG) (t : MT) (ek ev : ME) (r0 : Sl) : List D → List (List Key × D) → Store → R (List (List Key × D))
  | [], acc, S => .ok acc S
  | x :: xs, acc, S => (g x r0 S).bind fun r1 S1 => (t r1 S1).bind fun b S2 => if b = true then (ek r1 S2).bind fun y S3 => (ev r1 S3).bind fun z S4 => (match keyT y with
    | some k => if acc.length < sizeLine then mTcL g t ek ev r0 xs (putG acc k z) S4 else .no
    | none => .no) else mTcL g t ek ev r0 xs acc S2
def mTc (it : MA) (g : MG) (t : MT) (ek ev : ME) (vs : List Nat) : ME := fun r S => (it r S).bind fun ds S1 => (mTcL g t ek ev (wipeD r vs) ds [] S1).nox.bind fun kvs S2 => .ok (.ref S2.length) (S2 ++ [.dT kvs])
section
variable {T : List (Addr × Str)} {W : WX}
theorem lift_dcT {K : PySem.W.Frag} {mes : MA} {g : MG} {gv : TG} {mt : MT} {ek ev : ME} {vs : List Nat} (ok : TgOk K T vs gv (toG g)) {σ : L2.St} {H : Hp} {Q : VK} (h : lift K T W (toR (mTc mes g mt ek ev vs)) σ H Q) :
    tDcT (liftI K T W (toR mes)) gv (liftT K T WF (toR mt)) (lift K T WF (toR ek)) (lift K T WF (toR ev)) vs σ H Q := by
  obtain ⟨gg, r, S, Qd, Ed, rl, h, hq, hx⟩ := h
  unfold toR mTc at h
  rw [R.wp_bind] at h
  refine ⟨gg, r, S, _, Ed, rl, h, fun ds S1 g1 H1 J h1 x1 rl1 wk D hD => ?_, hx⟩
  rw [R.wp_bind] at h1
  have h1 := R.wp_nox h1
  refine ⟨fun i m H2 => m = ds.length - i ∧ i ≤ ds.length ∧ ∃ g2 S2 acc ws2, Rel K T g2 r S2 σ H2 ∧ (mTcL g mt ek ev (wipeD r vs) (ds.drop i) acc S2).wp (fun kvs S' => Qd (.ref S'.length) (S' ++ [.dT kvs])) EF ∧ H2 D = some (.dT ws2) ∧ KR K g2 H2 acc ws2 ∧ Hx g1 H1 D g2 H2, ?_, ?_⟩
  · obtain ⟨rh, xh⟩ := rl1.hide (o := .dT []) (fun _ => nofun) hD
    refine ⟨ds.length, by simp, Nat.zero_le _, ⟨g1.ps, D :: g1.hs⟩, S1, [], [], rh, by simpa using h1, upd_same, rfl, ⟨hD, rfl, by rw [upd_upd]; exact Ext.refl _ _⟩⟩
  rintro i m H2 ⟨rfl, hi, g2, S2, acc, ws2, rl2, iv, hD2, rs, xx⟩
  have nl : ∀ xs : List (List Key × V), NT (.dT xs) := fun _ _ => nofun
  obtain ⟨w1, w2⟩ := wk g2 H2 xx.ex0
  by_cases hlt : i < ds.length
  · obtain ⟨go, yl⟩ := w1 i ds[i] (List.getElem?_eq_getElem hlt)
    rw [List.drop_eq_getElem_cons hlt] at iv
    unfold mTcL at iv
    rw [R.wp_bind] at iv
    refine .inr ⟨go, fun H3 => ∃ g3 S3 acc3 ws3, Rel K T g3 r S3 σ H3 ∧ (mTcL g mt ek ev (wipeD r vs) (ds.drop (i + 1)) acc3 S3).wp (fun kvs S' => Qd (.ref S'.length) (S' ++ [.dT kvs])) EF ∧ H3 D = some (.dT ws3) ∧ KR K g3 H3 acc3 ws3 ∧ Hx g1 H1 D g3 H3, fun H3 q => ⟨ds.length - (i + 1), by omega, rfl, hlt, q⟩, fun x H3 y => ?_⟩
    obtain ⟨sm, rp⟩ := yl x H3 y
    have rp := rp S2 T rl2.good
    have e23 : Ext g2 H2 g2 H3 := Ext.same sm
    have hD3 : H3 D = some (.dT ws2) := sm _ _ hD2
    have rlw : Rel K T g2 (wipeD r vs) S2 (L2.wipe σ vs) H3 := (rl2.wipe vs).same sm
    refine ok g2 _ S2 _ H3 ds[i] x _ _ rlw rp iv fun r4 S4 σ4 q4 rl4 hσ hl4 => ⟨?_, ?_⟩
    · refine wipe_ext (by rw [hl4, wipe_length]) vs fun k hk => ?_
      rw [hσ k hk, wipe_get hk]
    · rw [R.wp_bind] at q4
      refine ⟨g2, r4, S4, _, _, rl4, q4, fun b S5 g5 H5 q5 x5 rl5 => ?_, fun _ _ _ _ _ _ z => z.elim⟩
      have nn := nd_not rl2.good.nd xx.hs
      have hD5 : H5 D = some (.dT ws2) := x5.keep D _ hD3 nn.1 (fun _ => nofun)
      cases b with
      | false =>
        simp only [Bool.false_eq_true, if_false] at q5 ⊢
        exact ⟨g5, S5, acc, ws2, rl2.slots rl5 (e23.trans x5).ex0, q5, hD5, rs.ex0 (e23.trans x5).ex0, xx.stay hD2 (nl _) (e23.trans x5)⟩
      | true =>
        simp only [if_true] at q5 ⊢
        rw [R.wp_bind] at q5
        refine ⟨g5, r4, S5, _, _, rl5, q5, fun d6 S6 g6 H6 v6 q6 x6 rl6 rp6 => ?_, fun _ _ _ _ _ _ z => z.elim⟩
        rw [R.wp_bind] at q6
        refine ⟨g6, r4, S6, _, _, rl6, q6, fun d7 S7 g7 H7 v7 q7 x7 rl7 rp7 => ?_, fun _ _ _ _ _ _ z => z.elim⟩
        have nn5 : D ∉ g5.ps := (nd_not (hs := g1.hs) rl5.good.nd (x5.hs.trans xx.hs)).1
        have nn6 : D ∉ g6.ps := (nd_not (hs := g1.hs) rl6.good.nd (x6.hs.trans (x5.hs.trans xx.hs))).1
        have hs7 : g7.hs = D :: g1.hs := x7.hs.trans (x6.hs.trans (x5.hs.trans xx.hs))
        have nn7 := nd_not (hs := g1.hs) rl7.good.nd hs7
        have hh7 : D ∈ g7.hs := by rw [hs7]; exact List.mem_cons_self
        have hD6 : H6 D = some (.dT ws2) := x6.keep D _ hD5 nn5 (fun _ => nofun)
        have hD7 : H7 D = some (.dT ws2) := x7.keep D _ hD6 nn6 (fun _ => nofun)
        have e27 := ((e23.trans x5).trans x6).trans x7
        split at q7
        · rename_i k hk
          split at q7
          · rename_i hz
            obtain ⟨qa, rfl, hqa⟩ := keyT_rep (Rep.ext x7 _ _ rp6) hk
            have rs7 := rs.ex0 e27.ex0
            have hl7 := rs7.length
            have w : ∀ b, ¬ g7.off b → upd H7 D (.dT (putK ws2 k v7)) b = H7 b := fun b n => upd_ne fun z => n (.inr (by rw [z]; exact hh7))
            refine ⟨ws2, k, qa, rfl, hqa, hD7, by rw [hl7]; exact hz, g7, S7, putG acc k d7, putK ws2 k v7, ?_, q7, upd_same, ?_, xx.step hD2 (nl _) e27 _⟩
            · exact (rl2.slots rl7 e27.ex0).wrHid (nl _) hh7 nn7.1 (fun t z => by rw [hD7] at z; cases z) (fun c q z => by rw [hD7] at z; exact codeO_dT (Option.some.inj z))
            · exact (rs7.put (k := k) rp7).ex0 (Ex0.wr w)
          · exact q7.elim
        · exact q7.elim
  · have e2 : i = ds.length := by omega
    subst e2
    rw [List.drop_length] at iv
    obtain ⟨vs2, ev2, rv2⟩ := rs.to
    have nn := nd_not rl2.good.nd xx.hs
    have off : Ex0 g2 H2 ⟨g2.ps ++ [D], g1.hs⟩ H2 := ⟨fun a u q n _ => ⟨q, fun z => by
      rcases z with z | z
      · rcases List.mem_append.mp z with z | z
        · exact n (.inl z)
        · exact n (.inr (by rw [xx.hs, List.mem_singleton.mp z]; exact List.mem_cons_self))
      · exact n (.inr (by rw [xx.hs]; exact List.mem_cons_of_mem _ z))⟩, ⟨[D], rfl⟩⟩
    obtain ⟨ru, xu⟩ := rl2.adopt (o := .dT acc) xx.hs ⟨vs2, by rw [hD2, ev2], Reps.ex0 off _ _ rv2⟩
    refine .inl ⟨w2, ?_⟩
    refine hq _ _ ⟨g2.ps ++ [D], g1.hs⟩ H2 _ iv (x1.trans xx.adopt) ru ⟨D, rfl, ?_⟩
    rw [← rl2.good.len]
    simp
end
section
variable {X : Cx} {T : List (Addr × Str)} {W : WX} {tg : Expr} {pos : Pos} {g : MG} {mA : MT} {j : Nat}
theorem me_tc {kx vx iter : Expr} {ifs : List Expr} {scope : Scope} {own : List (Str × Nat)} {gv : TG} {mes : MA} {ek ev : ME} (hr : Room j X.A) (hc : X.calm = true) (hN : X.N.Nodup) (hi : DI X T W tg iter (toR mes)) (ok : BlkOk X.N X.env.scope scope own) (tok : TgOk X.K T (own.map (·.2)) gv (toG g))
    (hg : ∀ (s : Shared) (H : Hp) (C : Addr) (cl : List (Str × Addr)) (fp : List Addr), PG (X.blk s H scope (compEnvC scope cl C X.env) fp) tg gv) (ht : ∀ (s : Shared) (H : Hp) (C : Addr) (cl : List (Str × Addr)) (fp : List Addr), PTs (X.blk s H scope (compEnvC scope cl C X.env) fp) ifs (liftT X.K T WF (toR mA)))
    (hk : ∀ (s : Shared) (H : Hp) (C : Addr) (cl : List (Str × Addr)) (fp : List Addr), DE (X.blk s H scope (compEnvC scope cl C X.env) fp) T WF kx (toR ek))
    (he : ∀ (s : Shared) (H : Hp) (C : Addr) (cl : List (Str × Addr)) (fp : List Addr), DE (X.blk s H scope (compEnvC scope cl C X.env) fp) T WF vx (toR ev)) (hs : ∀ x, foldedSetIterable iter X.env x = pure x := by intro _; rfl) :
    DE X T W (.DictComp kx vx [⟨tg, iter, ifs, 0⟩] scope pos) (toR (mTc mes g mA ek ev (own.map (·.2)))) := PE.imp (pe_dcT (tk := lift X.K T WF (toR ek)) (tv := lift X.K T WF (toR ev)) (by have := hu_of hr; omega) hc hN hi ok hg ht hk he hs) fun σ H Q h => lift_dcT tok h
end
end DL
namespace DL
open PySem PySem.Spec PyProof.Rows L2
/-! ### new lists that are changed later: things of the store -/
def lsq (S : Store) : D → Option (List D)
  | .tup es => some es
  | .fz es => some es
  | d => lsv S d
section
variable {X : Cx} {T : List (Addr × Str)} {W : WX} {a b c tg : Expr} {ma mb : ME} {pos p : Pos} {mes : MA} {mA : MT} {g : MG} {me : ME}
theorem lsq_at {K : PySem.W.Frag} {g : Gh} {S : Store} {H : Hp} {d : D} {v : V} {ds : List D} (gd : GoodS K T g S H) (rp : Rep K g H d v) (h : lsq S d = some ds) : ∃ a vs, v = .ref a ∧ (SqL K H a vs ∨ SqT K H a vs) ∧ Reps K g H ds vs := by
  cases d with
  | tup es => cases h; obtain ⟨a, vs, e, q, r⟩ := Rep.tup_sq rp; exact ⟨a, vs, e, .inr q, r⟩
  | fz es => cases h; obtain ⟨a, vs, e, q, r⟩ := rp; exact ⟨a, vs, e, .inl (q.imp (fun q => q.1) id), r⟩
  | lst es => obtain ⟨a, vs, e, q, r⟩ := lsv_at gd rp (show lsv S (.lst es) = some ds from h); exact ⟨a, vs, e, .inl (SqL.of q), r⟩
  | ref m => obtain ⟨a, vs, e, q, r⟩ := lsv_at gd rp (show lsv S (.ref m) = some ds from h); exact ⟨a, vs, e, .inl (SqL.of q), r⟩
  | _ => cases h
def listS (x : D) (S : Store) : R D := match lsq S x with
  | some es => .ok (.ref S.length) (S ++ [.lst es])
  | none => .no
def mListS (ma : ME) : ME := fun r S => (ma r S).bind listS
theorem me_listS (hg : Gl X "list") (hm : X.mg "list" = none) (ha : DE X T W a (toR ma)) (he : starEach [a] X.env = (false, eval a X.env) :: starEach [] X.env := by rfl) : DE X T W (.Call (.Name "list" p) [a] [] pos) (toR (mListS ma)) :=
  PE.imp (pe_callTy call_list_of hg hm (by decide +kernel) (pa_cons ha pa_nil he) (by decide) (by decide) he (by rfl)) fun σ H Q ⟨g, r, S, Qd, Ed, rl, h, hq, wk⟩ => by
    unfold toR mListS at h
    rw [R.wp_bind] at h
    refine ⟨g, r, S, _, Ed, rl, h, fun d S1 g1 H1 v h1 x1 rl1 rp1 => ?_, wk⟩
    unfold listS at h1
    split at h1
    · rename_i es e
      obtain ⟨q, vs, rfl, sq, rs⟩ := lsq_at rl1.good rp1 e
      refine ⟨q, vs, rfl, sq, fun l hl => ?_⟩
      refine hq _ _ ⟨g1.ps ++ [l], g1.hs⟩ _ _ h1 (x1.trans (Ext.new hl)) (rl1.new hl ⟨vs, upd_same, Reps.ext (Ext.new hl) _ _ rs⟩) ⟨l, rfl, ?_⟩
      rw [← rl1.good.len]
      simp
    · exact h1.elim
def dLcS (ti : DTI) (tg : DTG) (tt : DTT) (te : DTE) (vs : List Nat) : DTE := fun r S Q E => ti r S (fun ds S1 => ∃ Iv : Nat → List D → Store → Prop, Iv 0 [] S1 ∧
  (∀ (i : Nat) x acc S, ds[i]? = some x → Iv i acc S → tg x (wipeD r vs) S fun r2 S2 => tt r2 S2 (fun b S3 => if b = true then te r2 S3 (fun y S4 => acc.length < sizeLine ∧ Iv (i + 1) (acc ++ [y]) S4) EF else Iv (i + 1) acc S3) EF) ∧
  (∀ acc S, Iv ds.length acc S → Q (.ref S.length) (S ++ [.lst acc]))) E
theorem lift_lcS {K : PySem.W.Frag} {ti : DTI} {gv : TG} {dg : DTG} {tt : DTT} {te : DTE} {vs : List Nat} (ok : TgOk K T vs gv dg) {σ : L2.St} {H : Hp} {Q : VK} (h : lift K T W (dLcS ti dg tt te vs) σ H Q) :
    tLc (liftI K T W ti) gv (liftT K T WF tt) (lift K T WF te) vs σ H Q := by
  obtain ⟨g, r, S, Qd, Ed, rl, h, hq, hx⟩ := h
  refine ⟨g, r, S, _, Ed, rl, h, fun ds S1 g1 H1 J ⟨Iv, h0, hst, hen⟩ x1 rl1 wk D hD => ?_, hx⟩
  refine ⟨fun i m H2 => m = ds.length - i ∧ i ≤ ds.length ∧ ∃ g2 S2 acc vs2, Rel K T g2 r S2 σ H2 ∧ Iv i acc S2 ∧ H2 D = some (.lst vs2) ∧ Reps K g2 H2 acc vs2 ∧ Hx g1 H1 D g2 H2, ?_, ?_⟩
  · obtain ⟨rh, xh⟩ := rl1.hide (o := .lst []) (fun _ => nofun) hD
    exact ⟨ds.length, by simp, Nat.zero_le _, ⟨g1.ps, D :: g1.hs⟩, S1, [], [], rh, h0, upd_same, rfl, ⟨hD, rfl, by rw [upd_upd]; exact Ext.refl _ _⟩⟩
  rintro i m H2 ⟨rfl, hi, g2, S2, acc, vs2, rl2, iv, hD2, rs, xx⟩
  have nl : ∀ xs : List V, NT (.lst xs) := fun _ _ => nofun
  obtain ⟨w1, w2⟩ := wk g2 H2 xx.ex0
  by_cases hlt : i < ds.length
  · obtain ⟨go, yl⟩ := w1 i ds[i] (List.getElem?_eq_getElem hlt)
    refine .inr ⟨go, fun H3 => ∃ g3 S3 acc3 vs3, Rel K T g3 r S3 σ H3 ∧ Iv (i + 1) acc3 S3 ∧ H3 D = some (.lst vs3) ∧ Reps K g3 H3 acc3 vs3 ∧ Hx g1 H1 D g3 H3, fun H3 q => ⟨ds.length - (i + 1), by omega, rfl, hlt, q⟩, fun x H3 y => ?_⟩
    obtain ⟨sm, rp⟩ := yl x H3 y
    have rp := rp S2 T rl2.good
    have e23 : Ext g2 H2 g2 H3 := Ext.same sm
    have hD3 : H3 D = some (.lst vs2) := sm _ _ hD2
    have rlw : Rel K T g2 (wipeD r vs) S2 (L2.wipe σ vs) H3 := (rl2.wipe vs).same sm
    refine ok g2 _ S2 _ H3 ds[i] x _ _ rlw rp (hst i ds[i] acc S2 (List.getElem?_eq_getElem hlt) iv) fun r4 S4 σ4 q4 rl4 hσ hl4 => ⟨?_, ?_⟩
    · refine wipe_ext (by rw [hl4, wipe_length]) vs fun k hk => ?_
      rw [hσ k hk, wipe_get hk]
    · refine ⟨g2, r4, S4, _, _, rl4, q4, fun b S5 g5 H5 q5 x5 rl5 => ?_, fun _ _ _ _ _ _ z => z.elim⟩
      have nn := nd_not rl2.good.nd xx.hs
      have hD5 : H5 D = some (.lst vs2) := x5.keep D _ hD3 nn.1 (fun _ => nofun)
      cases b with
      | false => exact ⟨g5, S5, acc, vs2, rl2.slots rl5 (e23.trans x5).ex0, q5, hD5, Reps.ext (e23.trans x5) _ _ rs, xx.stay hD2 (nl _) (e23.trans x5)⟩
      | true =>
        refine ⟨g5, r4, S5, _, _, rl5, q5, fun d6 S6 g6 H6 v6 ⟨hz, q6⟩ x6 rl6 rp6 => ?_, fun _ _ _ _ _ _ z => z.elim⟩
        have e26 := (e23.trans x5).trans x6
        have nn5 : D ∉ g5.ps := (nd_not (hs := g1.hs) rl5.good.nd (x5.hs.trans xx.hs)).1
        have nn6 := nd_not (hs := g1.hs) rl6.good.nd (x6.hs.trans (x5.hs.trans xx.hs))
        have hh6 : D ∈ g6.hs := by rw [x6.hs, x5.hs, xx.hs]; exact List.mem_cons_self
        have hD6 : H6 D = some (.lst vs2) := x6.keep D _ hD5 nn5 (fun _ => nofun)
        have w : ∀ b, ¬ g6.off b → upd H6 D (.lst (vs2 ++ [v6])) b = H6 b := fun b n => upd_ne fun z => n (.inr (by rw [z]; exact hh6))
        refine ⟨vs2, hD6, by rw [← rs.length]; exact hz, g6, S6, acc ++ [d6], vs2 ++ [v6], ?_, q6, upd_same, ?_, xx.step hD2 (nl _) e26 _⟩
        · exact (rl2.slots rl6 e26.ex0).wrHid (nl _) hh6 nn6.1 (fun t z => by rw [hD6] at z; cases z) (fun c q z => by rw [hD6] at z; exact codeO_lst (Option.some.inj z))
        · exact Reps.append (Reps.wr w _ _ (Reps.ext e26 _ _ rs)) (Reps.one (Rep.wr w _ _ rp6))
  · have e2 : i = ds.length := by omega
    subst e2
    have off : Ex0 g2 H2 ⟨g2.ps ++ [D], g1.hs⟩ H2 := ⟨fun a u q n _ => ⟨q, fun z => by
      rcases z with z | z
      · rcases List.mem_append.mp z with z | z
        · exact n (.inl z)
        · exact n (.inr (by rw [xx.hs, List.mem_singleton.mp z]; exact List.mem_cons_self))
      · exact n (.inr (by rw [xx.hs]; exact List.mem_cons_of_mem _ z))⟩, ⟨[D], rfl⟩⟩
    obtain ⟨ru, xu⟩ := rl2.adopt (o := .lst acc) xx.hs ⟨vs2, hD2, Reps.ex0 off _ _ rs⟩
    refine .inl ⟨w2, ?_⟩
    refine hq _ _ ⟨g2.ps ++ [D], g1.hs⟩ H2 _ (hen acc S2 iv) (x1.trans xx.adopt) ru ⟨D, rfl, ?_⟩
    rw [← rl2.good.len]
    simp
def mLcS (it : MA) (g : MG) (t : MT) (e : ME) (vs : List Nat) : ME := fun r S => (it r S).bind fun ds S1 => (mLcL g t e (wipeD r vs) ds S1).nox.bind fun ys S2 => fitR ys.length (.ref S2.length) (S2 ++ [.lst ys])
theorem mLcS_wp {vs : List Nat} {r : Sl} {S : Store} {Q : DQ} {E : DX} (h : toR (mLcS mes g mA me vs) r S Q E) : dLcS (toR mes) (toG g) (toR mA) (toR me) vs r S Q E := by
  have h2 : toR (mLc mes g mA me vs) r S (fun d S' => ∃ ys, d = .lst ys ∧ Q (.ref S'.length) (S' ++ [.lst ys])) E := by
    unfold toR mLcS at h
    unfold toR mLc
    rw [R.wp_bind] at h ⊢
    refine h.imp fun ds S1 h => ?_
    rw [R.wp_bind] at h ⊢
    cases q : mLcL g mA me (wipeD r vs) ds S1 with
    | ok ys S2 =>
      rw [q] at h
      obtain ⟨h1, h2⟩ := fitR_wp h
      show (fitR ys.length (D.lst ys) S2).wp _ E
      rw [fitR_ok h1]
      exact ⟨ys, rfl, h2⟩
    | ex x S2 => rw [q] at h; exact h.elim
    | no => rw [q] at h; exact h.elim
  have h3 := mLc_wp h2
  unfold dLc at h3
  unfold dLcS
  refine R.wp.imp h3 fun ds S1 ⟨Iv, i0, i1, i2⟩ => ⟨Iv, i0, i1, fun acc S z => ?_⟩
  obtain ⟨ys, e, q⟩ := i2 acc S z
  cases e
  exact q
theorem me_lcS {elt iter : Expr} {ifs : List Expr} {scope : Scope} {own : List (Str × Nat)} {gv : TG} (hc : X.calm = true) (hN : X.N.Nodup) (hi : DI X T W tg iter (toR mes)) (ok : BlkOk X.N X.env.scope scope own) (tok : TgOk X.K T (own.map (·.2)) gv (toG g))
    (hg : ∀ (s : Shared) (H : Hp) (C : Addr) (cl : List (Str × Addr)) (fp : List Addr), PG (X.blk s H scope (compEnvC scope cl C X.env) fp) tg gv) (ht : ∀ (s : Shared) (H : Hp) (C : Addr) (cl : List (Str × Addr)) (fp : List Addr), PTs (X.blk s H scope (compEnvC scope cl C X.env) fp) ifs (liftT X.K T WF (toR mA)))
    (he : ∀ (s : Shared) (H : Hp) (C : Addr) (cl : List (Str × Addr)) (fp : List Addr), DE (X.blk s H scope (compEnvC scope cl C X.env) fp) T WF elt (toR me)) (hs : ∀ x, foldedSetIterable iter X.env x = pure x := by intro _; rfl) :
    DE X T W (.ListComp elt [⟨tg, iter, ifs, 0⟩] scope pos) (toR (mLcS mes g mA me (own.map (·.2)))) := PE.imp (pe_lc (te := lift X.K T WF (toR me)) hc hN hi ok hg ht he hs) fun σ H Q h => lift_lcS tok (lift_imp (fun _ _ _ _ z => mLcS_wp z) h)
theorem ms_setLcS {i : Nat} {y : Str} {py spos : Pos} {elt iter : Expr} {ifs : List Expr} {scope : Scope} {own : List (Str × Nat)} {gv : TG} (hc : X.calm = true) (hN : X.N.Nodup) (hy : X.N[i]? = some y) (hyl : X.env.scope.names.lookup y = some .local)
    (hsw : swapsWith (.ListComp elt [⟨tg, iter, ifs, 0⟩] scope pos) (some (.Name y py)) spos.line X.env = pure true) (hi : DI X T W tg iter (toR mes)) (ok : BlkOk X.N X.env.scope scope own) (tok : TgOk X.K T (own.map (·.2)) gv (toG g))
    (hg : ∀ (s : Shared) (H : Hp) (C : Addr) (cl : List (Str × Addr)) (fp : List Addr), PG (X.blk s H scope (compEnvC scope cl C X.env) fp) tg gv) (ht : ∀ (s : Shared) (H : Hp) (C : Addr) (cl : List (Str × Addr)) (fp : List Addr), PTs (X.blk s H scope (compEnvC scope cl C X.env) fp) ifs (liftT X.K T WF (toR mA)))
    (he : ∀ (s : Shared) (H : Hp) (C : Addr) (cl : List (Str × Addr)) (fp : List Addr), DE (X.blk s H scope (compEnvC scope cl C X.env) fp) T WF elt (toR me)) (hs : ∀ x, foldedSetIterable iter X.env x = pure x := by intro _; rfl) :
    DS X T W (.Assign [.Name y py] (.ListComp elt [⟨tg, iter, ifs, 0⟩] scope pos) spos) (toS (mSet i (mLcS mes g mA me (own.map (·.2))))) := PS.imp (ps_setLc (te := lift X.K T WF (toR me)) hc hN hy hyl hsw hi ok hg ht he hs) fun N σ H ⟨g, r, S, d, rl, h, e⟩ =>
  lift_lcS tok ⟨g, r, S, _, _, rl, mLcS_wp (Q := fun d1 S1 => d.nx (r.set i (some d1)) S1) (E := fun x S1 => d.ex x r S1) (mSet_wp h), fun d1 S1 g1 H1 v h1 x1 rl1 rp1 => e.nx _ S1 g1 _ H1 h1 x1 (rl1.set rp1 i), e.wok r σ⟩
end
end DL
namespace DL
open PySem PySem.Spec PyProof.Rows L2
/-! ### a, b, .. = a list -/
def mgUnl (n : Nat) (gs : MGs) : MG := fun d r S => match lsv S d with
  | some ds => if ds.length = n then gs ds r S else .no
  | none => .no
theorem mg_unl {X : Cx} {T : List (Addr × Str)} {es : List Expr} {gs : MGs} {pos : Pos} {k n : Nat} (hc : X.calm = true) (h : DGs X T es (toGs gs)) (hn : (assignEach es X.env).length = n := by rfl) (hst : (assignEach es X.env).findIdx? (·.1) = none := by rfl) : DG X T (.Tuple es k pos) (toG (mgUnl n gs)) := PG.imp (pg_unl hc h hn hst) fun v σ H Q ⟨g, r, S, d, Qd, rl, rp, h, hq⟩ => by
  unfold toG mgUnl at h
  split at h
  · rename_i ds e
    split at h
    · rename_i hl
      obtain ⟨a, vs, e2, hH, rs⟩ := lsv_at rl.good rp e
      exact ⟨a, vs, e2, SqL.of hH, by rw [← rs.length]; exact hl, g, r, S, ds, Qd, rl, rs, h, hq⟩
    · exact h.elim
  · exact h.elim
end DL
namespace DL
open PySem PySem.Spec PyProof.Rows L2
/-! ### a block whose own things of the store are let go behind it -/
def frz1 (n : Nat) (S : Store) (d : D) : Option D := if rlt n d = true then some d else match d with
  | .ref m => (match S[m]? with
    | some (.lst ds) => if rlts n ds = true then some (.lst ds) else none
    | some (.ins C ns ds) => if rlts n ds = true then some (.obj C ns ds) else none
    | _ => none)
  | _ => none
theorem frz1_ok {n : Nat} {S : Store} {d e : D} (h : frz1 n S d = some e) : Frz n S d e := by
  unfold frz1 at h
  split at h
  · cases h; exact .keep (by assumption)
  · rename_i h0
    split at h
    · rename_i m
      have hm : n ≤ m := by simp [rlt] at h0; omega
      split at h
      · rename_i ds hS
        split at h
        · cases h; exact .lst hm hS (by assumption)
        · cases h
      · rename_i C ns ds hS
        split at h
        · cases h; exact .ins hm hS (by assumption)
        · cases h
      · cases h
    · cases h
def sealSl (n : Nat) (S : Store) (r : Sl) : Sl := r.map fun o => o.bind (frz1 n S)
open Classical in
noncomputable def Fl.scope (S : Store) : Fl → Fl
  | .nx r S' => if Left S S' (S'.take S.length) then .nx (sealSl S.length S' r) (S'.take S.length) else .no
  | .bk r S' => if Left S S' (S'.take S.length) then .bk (sealSl S.length S' r) (S'.take S.length) else .no
  | .ct r S' => if Left S S' (S'.take S.length) then .ct (sealSl S.length S' r) (S'.take S.length) else .no
  | f => f
noncomputable def mScope (t : MS) : MS := fun r S => (t r S).scope S
section
variable {X : Cx} {T : List (Addr × Str)} {W : WX} {sts : List Stmt} {mt : MS}
theorem Rel.sealed {K : PySem.W.Frag} {g g' : Gh} {r r' : Sl} {S S' : Store} {σ σ' : L2.St} {H H' : Hp} (rl : Rel K T g r S σ H) (rl' : Rel K T g' r' S' σ' H') (x : Ext g H g' H') (l : Left S S' (S'.take S.length)) : Rel K T g (sealSl S.length S' r') (S'.take S.length) σ' H' ∧ Ext g H g H' := by
  obtain ⟨gd2, x2⟩ := l.good rl.good rl'.good x
  obtain ⟨new, hp, _⟩ := x.ps
  refine ⟨⟨gd2, by simp [sealSl, rl'.len], fun i d e => ?_⟩, x2⟩
  unfold sealSl at e
  rw [List.getElem?_map] at e
  cases q : r'[i]? with
  | none => rw [q] at e; cases e
  | some o =>
    rw [q] at e
    have e : o.bind (frz1 S.length S') = some d := by simpa using e
    cases o with
    | none => cases e
    | some d0 =>
      have e : frz1 S.length S' d0 = some d := e
      obtain ⟨v, hv, rv⟩ := rl'.sl i d0 q
      have fz := frz1_ok e
      rw [← rl.good.len] at fz
      exact ⟨v, hv, fz.rep rl'.good hp x.hs rv⟩
theorem mss_scope (h : DSs X T W sts (toS mt)) : DSs X T W sts (toS (mScope mt)) := PSs.imp h fun N σ H ⟨g, r, S, d, rl, h, e⟩ => by
  have key : ∀ f : Fl, (f.scope S).wp d → f.wp { d with nx := fun r' S' => Left S S' (S'.take S.length) ∧ d.nx (sealSl S.length S' r') (S'.take S.length), bk := fun r' S' => Left S S' (S'.take S.length) ∧ d.bk (sealSl S.length S' r') (S'.take S.length), ct := fun r' S' => Left S S' (S'.take S.length) ∧ d.ct (sealSl S.length S' r') (S'.take S.length) } := fun f hf => by
    cases f with
    | nx r' S' =>
      by_cases hl : Left S S' (S'.take S.length)
      · refine ⟨hl, ?_⟩
        simp only [Fl.scope, if_pos hl] at hf
        exact hf
      · simp only [Fl.scope, if_neg hl] at hf
        exact hf.elim
    | bk r' S' =>
      by_cases hl : Left S S' (S'.take S.length)
      · refine ⟨hl, ?_⟩
        simp only [Fl.scope, if_pos hl] at hf
        exact hf
      · simp only [Fl.scope, if_neg hl] at hf
        exact hf.elim
    | ct r' S' =>
      by_cases hl : Left S S' (S'.take S.length)
      · refine ⟨hl, ?_⟩
        simp only [Fl.scope, if_pos hl] at hf
        exact hf
      · simp only [Fl.scope, if_neg hl] at hf
        exact hf.elim
    | _ => exact hf
  refine ⟨g, r, S, _, rl, key _ h, ⟨fun r' S' g' σ' H' ⟨l, q⟩ x rl' => ?_, e.rt, e.ex, fun r' S' g' σ' H' ⟨l, q⟩ x rl' => ?_, fun r' S' g' σ' H' ⟨l, q⟩ x rl' => ?_⟩⟩
  · obtain ⟨rl2, x2⟩ := rl.sealed rl' x l
    exact e.nx _ _ g σ' H' q x2 rl2
  · obtain ⟨rl2, x2⟩ := rl.sealed rl' x l
    exact e.bk _ _ g σ' H' q x2 rl2
  · obtain ⟨rl2, x2⟩ := rl.sealed rl' x l
    exact e.ct _ _ g σ' H' q x2 rl2
end
/-! read -/
section
variable {r : Sl} {S S1 L : Store} {t : MS} {d : D} {x : Xc}
@[simp] theorem mScope_rd : mScope t r S = (t r S).scope S := rfl
@[simp] theorem Fl.scope_rt : (Fl.rt d S1).scope S = .rt d S1 := rfl
@[simp] theorem Fl.scope_ex : (Fl.ex x r S1).scope S = .ex x r S1 := rfl
@[simp] theorem Fl.scope_no : Fl.no.scope S = .no := rfl
theorem scope_nx (l : Left S (S1 ++ L) S1) : (Fl.nx r (S1 ++ L)).scope S = .nx (sealSl S.length (S1 ++ L) r) S1 := by
  have e : (S1 ++ L).take S.length = S1 := by rw [← l.len]; simp
  simp only [Fl.scope]
  rw [e, if_pos l]
theorem scope_bk (l : Left S (S1 ++ L) S1) : (Fl.bk r (S1 ++ L)).scope S = .bk (sealSl S.length (S1 ++ L) r) S1 := by
  have e : (S1 ++ L).take S.length = S1 := by rw [← l.len]; simp
  simp only [Fl.scope]
  rw [e, if_pos l]
theorem scope_ct (l : Left S (S1 ++ L) S1) : (Fl.ct r (S1 ++ L)).scope S = .ct (sealSl S.length (S1 ++ L) r) S1 := by
  have e : (S1 ++ L).take S.length = S1 := by rw [← l.len]; simp
  simp only [Fl.scope]
  rw [e, if_pos l]
theorem scope_same : (Fl.nx r S).scope S = .nx (sealSl S.length S r) S := by
  have := scope_nx (r := r) (S := S) (S1 := S) (L := []) (by simpa using Left.refl S)
  simpa using this
theorem frz1_keep {n : Nat} (h : rlt n d = true) : frz1 n S d = some d := by unfold frz1; rw [if_pos h]
theorem frz1_lst {n m : Nat} {ds : List D} (h0 : n ≤ m) (h : S[m]? = some (.lst ds)) (h2 : rlts n ds = true) : frz1 n S (.ref m) = some (.lst ds) := by
  unfold frz1
  rw [if_neg (by simp [rlt]; omega)]
  simp [h, h2]
@[simp] theorem sealSl_nil {n : Nat} : sealSl n S [] = [] := rfl
@[simp] theorem sealSl_none {n : Nat} {q : Sl} : sealSl n S (none :: q) = none :: sealSl n S q := rfl
@[simp] theorem sealSl_some {n : Nat} {q : Sl} : sealSl n S (some d :: q) = frz1 n S d :: sealSl n S q := rfl
end
end DL
namespace DL
open PySem PySem.Spec PyProof.Rows L2
section
variable {X : Cx} {T : List (Addr × Str)} {W : WX} {i o : Expr} {mi mo : ME} {pos : Pos} {j : Nat}
theorem lift_tin {K : PySem.W.Frag} {σ : L2.St} {H : Hp} {Q : VK} (h : lift K T W (toR (mTIn false mi mo)) σ H Q) : tDIn (lift K T W (toR mi)) (lift K T W (toR mo)) σ H Q := by
  obtain ⟨g, r, S, Qd, Ed, rl, h, hq, wk⟩ := h
  unfold toR mTIn at h
  rw [R.wp_bind] at h
  refine ⟨g, r, S, _, Ed, rl, h, fun y S1 g1 H1 v h1 x1 rl1 rp1 => ?_, wk⟩
  rw [R.wp_bind] at h1
  refine ⟨g1, r, S1, _, Ed, rl1, h1, fun d S2 g2 H2 u h2 x2 rl2 rp2 => ?_, wk.ext x1⟩
  obtain ⟨p, ov, rfl, hg, q⟩ := inT_at rl2.good rp2 (Rep.ext x2 _ _ rp1) h2
  exact ⟨p, ov, rfl, hg, hq _ S2 g2 H2 _ q (x1.trans x2) rl2 rfl⟩
theorem lift_tnotin {K : PySem.W.Frag} {σ : L2.St} {H : Hp} {Q : VK} (h : lift K T W (toR (mTIn true mi mo)) σ H Q) : tDNotIn (lift K T W (toR mi)) (lift K T W (toR mo)) σ H Q := by
  obtain ⟨g, r, S, Qd, Ed, rl, h, hq, wk⟩ := h
  unfold toR mTIn at h
  rw [R.wp_bind] at h
  refine ⟨g, r, S, _, Ed, rl, h, fun y S1 g1 H1 v h1 x1 rl1 rp1 => ?_, wk⟩
  rw [R.wp_bind] at h1
  refine ⟨g1, r, S1, _, Ed, rl1, h1, fun d S2 g2 H2 u h2 x2 rl2 rp2 => ?_, wk.ext x1⟩
  obtain ⟨p, ov, rfl, hg, q⟩ := inT_at rl2.good rp2 (Rep.ext x2 _ _ rp1) h2
  exact ⟨p, ov, rfl, hg, hq _ S2 g2 H2 _ q (x1.trans x2) rl2 rfl⟩
theorem mt_tin (hr : Room j X.A) (hi : DE X T W i (toR mi)) (ho : DE X T W o (toR mo)) (hm : behindInMarks .In o = false) : DT X T W (.Compare i [.In] [o] pos) (toR (mB (mTIn false mi mo))) := PT.imp (pt_cmp (pc_din (hu_of hr) hi ho) hm) fun σ H Q h => lift_tin (liftT_of h)
theorem mt_tnotin (hr : Room j X.A) (hi : DE X T W i (toR mi)) (ho : DE X T W o (toR mo)) (hm : behindInMarks .NotIn o = false) : DT X T W (.Compare i [.NotIn] [o] pos) (toR (mB (mTIn true mi mo))) := PT.imp (pt_cmp (pc_dnotin (hu_of hr) hi ho) hm) fun σ H Q h => lift_tnotin (liftT_of h)
/-- no operator of built-in types -/
def fNone : Store → D → D → D → Prop := fun _ _ _ _ => False
theorem opd_none {op : Operator} : OpR X (binaryOp op) (rD X.K T fNone) := fun pins s σ H x y v u Q I rx ry ⟨g, S, dx, dy, dz, gd, r1, r2, hf, q⟩ => hf.elim
end
end DL
namespace DL
open PySem PySem.Spec PyProof.Rows L2
/-! ### x[::-1] -/
def revS (z : Str) : Str := ⟨z.cps.toList.reverse.toArray⟩
theorem revS_len {z : Str} : (revS z).length = z.length := by simp [revS, Str.length]
theorem picked_rev (z : Str) : ((Builtin.Str.strSliceIndices none none (-1) z.length).filterMap (z.cps[·]?)).toArray = z.cps.toList.reverse.toArray := by
  have e : Builtin.Str.strSliceIndices none none (-1) z.length = (List.range z.length).reverse := by
    show sliceRange ((z.length : Int) - 1) (-1) (-1) = _
    rw [PySem.W.krv_sliceRange, PySem.W.krv_range]
  rw [e, List.filterMap_reverse]
  have := PySem.W.krv_all z.cps
  unfold Str.length
  rw [this]
section
variable {X : Cx} {T : List (Addr × Str)} {W : WX} {a : Expr} {ma : ME} {k : Nat} {p1 p2 p3 pos : Pos}
def tRevS (te : TE) : TE := fun σ H Q => te σ H fun x H1 => ∃ z, x = .str z ∧ z.length ≤ sizeLine ∧ Q (.str (revS z)) H1
theorem pe_revS {e : Expr} {te : TE} (he : PE X e te) : PE X (.Subscript e (.Slice none none (some (.UnaryOp .USub (.Constant (.int 1) k p1) p2)) p3) pos) (tRevS te) := by
  refine ⟨fun pins s σ H Q I h => ?_⟩
  refine Subscript_ (thn (he.run pins s σ H _ I h) fun v s1 ⟨x, H1, I1, r1, z, ez, hz, q⟩ => ?_)
  subst ez
  obtain ⟨t, rfl⟩ := r1
  refine wpAny_Slice (thn (po_none.run pins s1 σ H1 (fun o H2 => o = none ∧ H2 = H1) I1 ⟨rfl, rfl⟩) fun vl s2 ⟨l, H2, I2, pl, el, e2⟩ => ?_)
  subst el e2
  refine thn (po_none.run pins s2 σ H2 (fun o H3 => o = none ∧ H3 = H2) I2 ⟨rfl, rfl⟩) fun vu s3 ⟨u, H3, I3, pu, eu, e3⟩ => ?_
  subst eu e3
  refine thn ((po_some (pe_un un_neg pe_int)).run pins s3 σ H3 (fun o H4 => o = some (-1) ∧ H4 = H3) I3 ⟨1, rfl, -1, rfl, rfl, rfl⟩) fun vs s4 ⟨o, H4, I4, ps, eo, e4⟩ => ?_
  subst eo e4
  have I5 : Inv X pins σ H4 { s4 with heap := s4.heap.push { cls := .type "slice", data := .fields #[vl, vu, vs] } } := I4.kept (t' := s4.toks) fun b ob q => Heap.get?_push_of_some _ q
  obtain ⟨l, rfl, e5⟩ := IsPart.raw pl
  obtain ⟨u, rfl, e6⟩ := IsPart.raw pu
  obtain ⟨st, rfl, e7⟩ := IsPart.raw ps
  have hl : l = none := by cases l with | none => rfl | some q => cases e5
  have hu : u = none := by cases u with | none => rfl | some q => cases e6
  subst hl hu
  show wpAny (model X.prog X.w) X.A (subscriptTail e (.Slice none none (some (.UnaryOp .USub (.Constant (.int 1) k p1) p2)) p3) (.str z t) (.ref s4.heap.objs.size)) (EP X pins σ Q) X.xe { s4 with heap := s4.heap.push { cls := .type "slice", data := .fields #[partValue none, partValue none, partValue st] } }
  refine tail_any (ops := [.ref s4.heap.objs.size, .str z t]) (typeIs_str _ z t) F.slot_str_getitem.lookup ?_ (by with_unfolding_all rfl)
  refine wpAny_getItem_str_slice (l := none) (u := none) (st := st) ⟨_, Heap.get?_push_size _ rfl, rfl, rfl⟩ (by rw [e7]; rfl) ?_
  unfold sliceMade
  rw [if_neg (by rw [e7]; simp)]
  have e8 : (⟨((slicePicked z none none st).filterMap (z.cps[·]?)).toArray⟩ : Str) = revS z := by
    unfold slicePicked revS
    rw [e7, ← picked_rev]; rfl
  rw [e8]
  exact ⟨by rw [revS_len]; exact hz, .str _, H4, I5.tok _, ⟨_, rfl⟩, q⟩
def revR (d : D) (S : Store) : R D := match d with
  | .str z => if z.length ≤ sizeLine then .ok (.str (revS z)) S else .no
  | _ => .no
def mRevS (ma : ME) : ME := fun r S => (ma r S).bind revR
theorem me_revS (ha : DE X T W a (toR ma)) : DE X T W (.Subscript a (.Slice none none (some (.UnaryOp .USub (.Constant (.int 1) k p1) p2)) p3) pos) (toR (mRevS ma)) := PE.imp (pe_revS ha) fun σ H Q ⟨g, r, S, Qd, Ed, rl, h, hq, wk⟩ => by
  unfold toR mRevS at h
  rw [R.wp_bind] at h
  refine ⟨g, r, S, _, Ed, rl, h, fun d S1 g1 H1 v h1 x1 rl1 rp1 => ?_, wk⟩
  unfold revR at h1
  split at h1
  · rename_i z
    split at h1
    · rename_i hz
      exact ⟨z, rp1, hz, hq _ S1 g1 H1 _ h1 x1 rl1 rfl⟩
    · exact h1.elim
  · exact h1.elim
def revLR (d : D) (S : Store) : R D := match lsv S d with
  | some ds => .ok (.lst ds.reverse) S
  | none => .no
def mRevL (ma : ME) : ME := fun r S => (ma r S).bind revLR
theorem me_revL (ha : DE X T W a (toR ma)) : DE X T W (.Subscript a (.Slice none none (some (.UnaryOp .USub (.Constant (.int 1) k p1) p2)) p3) pos) (toR (mRevL ma)) := PE.imp (pe_revL ha) fun σ H Q ⟨g, r, S, Qd, Ed, rl, h, hq, wk⟩ => by
  unfold toR mRevL at h
  rw [R.wp_bind] at h
  refine ⟨g, r, S, _, Ed, rl, h, fun d S1 g1 H1 v h1 x1 rl1 rp1 => ?_, wk⟩
  unfold revLR at h1
  split at h1
  · rename_i ds e
    obtain ⟨p, vs, rfl, hH, rs⟩ := lsv_at rl1.good rp1 e
    exact ⟨p, vs, rfl, SqL.of hH, fun q hqn => hq _ S1 g1 _ _ h1 (x1.trans (Ext.same (same_upd hqn))) (rl1.same (same_upd hqn)) (Rep.lstNew rl1.good rs.reverse hqn)⟩
  · exact h1.elim
end
end DL
namespace DL
open PySem PySem.Spec PyProof.Rows L2
/-! ### max(t) of a tuple of ints -/
def maxL (n : Int) (ns : List Int) : Int := ns.foldl (fun a b => if b > a then b else a) n
theorem maxL_ge : ∀ (ns : List Int) (n : Int), n ≤ maxL n ns ∧ ∀ a ∈ ns, a ≤ maxL n ns
  | [], n => ⟨Int.le_refl _, fun _ h => by cases h⟩
  | b :: bs, n => by
    obtain ⟨h1, h2⟩ := maxL_ge bs (if b > n then b else n)
    have e : maxL n (b :: bs) = maxL (if b > n then b else n) bs := rfl
    rw [e]
    have h3 : n ≤ (if b > n then b else n) ∧ b ≤ (if b > n then b else n) := by split <;> omega
    refine ⟨Int.le_trans h3.1 h1, fun a ha => ?_⟩
    rcases List.mem_cons.mp ha with rfl | ha
    · exact Int.le_trans h3.2 h1
    · exact h2 a ha
theorem maxL_mem : ∀ (ns : List Int) (n : Int), maxL n ns ∈ n :: ns
  | [], n => by simp [maxL]
  | b :: bs, n => by
    have e : maxL n (b :: bs) = maxL (if b > n then b else n) bs := rfl
    rw [e]
    have := maxL_mem bs (if b > n then b else n)
    rcases List.mem_cons.mp this with h | h
    · rw [h]; split <;> simp
    · exact List.mem_cons_of_mem _ (List.mem_cons_of_mem _ h)
section
variable {X : Cx} {T : List (Addr × Str)}
def bMaxT (S : Store) (ds : List D) (z : D) : Prop := ∃ (n : Int) (ns : List Int), ds = [.tup ((n :: ns).map D.int)] ∧ z = .int (maxL n ns)
theorem cb_maxT (hc : X.calm = true) : CallR X (.builtin "max") (rDA X.K T bMaxT) := fun pins s σ H xs us Q I r ⟨g, S, ds, dz, gd, rs, ⟨n, ns, e, ez⟩, q⟩ => by
  subst e ez
  obtain ⟨v, q', rfl, r1, rfl⟩ := rs
  obtain ⟨p, vs, rfl, hp, rs⟩ := Rep.tup_sq r1
  rw [rs.ints] at hp
  obtain ⟨its, rv, hl, _⟩ := I.tuple hp
  rw [Vals.ref1 r]
  have hlen : its.length = ns.length + 1 := by rw [← rv.length]; simp
  have hlt : p < s.heap.objs.size := by obtain ⟨_, e, _⟩ := hl; exact Heap.lt_size e
  refine call_max_walk (iter_tupT hl fun s₂ e2 st hne => ?_)
  subst e2
  refine ⟨_, _, _, _, _, _, _, rfl, Walks.tuple (A := X.A.in1) (I.ok.hd hc) _ p hne its.toArray, st, ?_, by rw [List.size_toArray, hlen]; omega, CmpOf.ints_gt (fun i => (n :: ns).getD i 0) (fun i v hv => vals_int_at rv hv), fun v h' tk hP hk => ?_⟩
  · intro b hb
    simp only [List.mem_cons, List.not_mem_nil, or_false] at hb
    rw [Heap.size_push]
    rcases hb with rfl | rfl
    · exact Nat.lt_succ_self _
    · exact Nat.lt_succ_of_lt hlt
  · obtain ⟨h1, h2⟩ := argBest_gt (fun i => (n :: ns).getD i 0) (its.toArray.size - 1)
    obtain ⟨t, rfl⟩ := vals_int_at rv hP
    rw [List.size_toArray, hlen] at h1 h2 ⊢
    have e : (n :: ns).getD (argBest (fun i j => decide ((n :: ns).getD i 0 > (n :: ns).getD j 0)) (ns.length + 1 - 1)) 0 = maxL n ns := by
      refine Int.le_antisymm ?_ ?_
      · have hm : (n :: ns).getD (argBest (fun i j => decide ((n :: ns).getD i 0 > (n :: ns).getD j 0)) (ns.length + 1 - 1)) 0 ∈ n :: ns := PySem.getD_mem (by rw [List.length_cons]; omega)
        rcases List.mem_cons.mp hm with h | h
        · rw [h]; exact (maxL_ge ns n).1
        · exact (maxL_ge ns n).2 _ h
      · obtain ⟨j, hj, ej⟩ := mem_getD (maxL_mem ns n)
        rw [← ej]
        exact h2 j (by rw [List.length_cons] at hj; omega)
    rw [e]
    refine ⟨.int (maxL n ns), H, I.kept fun b o eo => hk b o (fun hmem => ?_) (Heap.get?_push_of_some _ eo), ⟨_, rfl⟩, q _ H (Same.refl H) rfl⟩
    rcases List.mem_cons.mp hmem with e1 | hmem
    · exact absurd (e1 ▸ Heap.lt_size eo) (Nat.lt_irrefl _)
    · cases hmem
/-! ### += of ints and texts -/
def fIAdd (S : Store) (x y z : D) : Prop := (∃ i j : Int, x = .int i ∧ y = .int j ∧ z = .int (i + j)) ∨ ∃ a b : Str, x = .str a ∧ y = .str b ∧ a.length + b.length ≤ sizeLine ∧ z = .str (a ++ b)
theorem iopd_add : OpR X (inplaceOp .Add) (rD X.K T fIAdd) := fun pins s σ H x y v u Q I rx ry ⟨g, S, dx, dy, dz, gd, r1, r2, hf, q⟩ => by
  rcases hf with ⟨i, j, e1, e2, e3⟩ | ⟨i, j, e1, e2, hz, e3⟩
  · subst e1 e2 e3
    exact iop_add pins s σ H x y v u Q I rx ry ⟨i, j, r1, r2, q _ H (Same.refl H) rfl⟩
  · subst e1 e2 e3
    exact iop_add_str pins s σ H x y v u Q I rx ry ⟨i, j, r1, r2, hz, q _ H (Same.refl H) rfl⟩
end
end DL
namespace DL
open PySem PySem.Spec PyProof.Rows L2
/-! ### evaluation by simp: the head first -/
theorem R.bind_congr {α β : Type} {m m' : R α} {f : α → Store → R β} (h : m = m') : m.bind f = m'.bind f := by rw [h]
theorem R.fl_congr {α : Type} {m m' : R α} {r : Sl} {k : α → Store → Fl} (h : m = m') : m.fl r k = m'.fl r k := by rw [h]
def Fl.seq (f : Fl) (u : MS) : Fl := match f with
  | .nx r' S' => u r' S' | f => f
theorem Fl.seq_congr {f f' : Fl} {u : MS} (h : f = f') : f.seq u = f'.seq u := by rw [h]
@[simp] theorem Fl.seq_nx {r : Sl} {S : Store} {u : MS} : (Fl.nx r S).seq u = u r S := rfl
@[simp] theorem Fl.seq_rt {d : D} {S : Store} {u : MS} : (Fl.rt d S).seq u = .rt d S := rfl
@[simp] theorem Fl.seq_ex {x : Xc} {r : Sl} {S : Store} {u : MS} : (Fl.ex x r S).seq u = .ex x r S := rfl
@[simp] theorem Fl.seq_bk {r : Sl} {S : Store} {u : MS} : (Fl.bk r S).seq u = .bk r S := rfl
@[simp] theorem Fl.seq_ct {r : Sl} {S : Store} {u : MS} : (Fl.ct r S).seq u = .ct r S := rfl
@[simp] theorem Fl.seq_no {u : MS} : Fl.no.seq u = .no := rfl
section
variable {r : Sl} {S : Store} {t u v : ME} {ta tb : MA} {p q : MT} {a b : MS} {d : D} {i : Nat}
def vr (o : Option (Option D)) (S : Store) : R D := match o with
  | some (some d) => .ok d S | _ => .no
@[simp] theorem vr_some : vr (some (some d)) S = .ok d S := rfl
@[simp] theorem mVar_rd : mVar i r S = vr r[i]? S := rfl
@[simp] theorem mC_rd : mC d r S = .ok d S := rfl
@[simp] theorem mOp_rd {f : Store → D → D → D → Prop} : mOp f t u r S = (t r S).bind fun x S1 => (u r S1).bind fun y S2 => pk1 (f S2 x y) S2 := rfl
@[simp] theorem mUn_rd {f : Store → D → D → Prop} : mUn f t r S = (t r S).bind fun x S1 => pk1 (f S1 x) S1 := rfl
@[simp] theorem mB_rd : mB t r S = (t r S).bind asB := rfl
@[simp] theorem mAnd_rd : mAnd p q r S = (p r S).bind fun c S1 => if c = true then q r S1 else .ok false S1 := rfl
@[simp] theorem mOr_rd : mOr p q r S = (p r S).bind fun c S1 => if c = true then .ok true S1 else q r S1 := rfl
@[simp] theorem mNot_rd : mNot p r S = (p r S).bind fun c S1 => .ok (!c) S1 := rfl
@[simp] theorem mAndV_rd : mAndV t u r S = (t r S).bind fun x S1 => (asB x S1).bind fun c S1 => if c = true then u r S1 else .ok (.bl false) S1 := rfl
@[simp] theorem mOrV_rd : mOrV t u r S = (t r S).bind fun x S1 => (asB x S1).bind fun c S1 => if c = true then .ok (.bl true) S1 else u r S1 := rfl
@[simp] theorem mNotV_rd : mNotV t r S = (t r S).bind fun x S1 => (asB x S1).bind fun c S1 => .ok (.bl (!c)) S1 := rfl
@[simp] theorem mIf_rd : mIf p t u r S = (p r S).bind fun c S1 => if c = true then t r S1 else u r S1 := rfl
@[simp] theorem mChain_rd {f f' : Store → D → D → D → Prop} : mChain f f' t u v r S = (t r S).bind fun x S1 => (u r S1).bind fun y S2 => (pk1 (f S2 x y) S2).bind fun k S2 => (asB k S2).bind fun k S2 =>
  if k = true then (v r S2).bind fun z S3 => pk1 (f' S3 y z) S3 else .ok (.bl false) S2 := rfl
@[simp] theorem mNil_rd : mNil r S = .ok [] S := rfl
@[simp] theorem mCons_rd : mCons t ta r S = (t r S).bind fun d S1 => (ta r S1).bind fun ds S2 => .ok (d :: ds) S2 := rfl
@[simp] theorem mTup_rd : mTup ta r S = (ta r S).bind fun ds S1 => fitR ds.length (.tup ds) S1 := rfl
@[simp] theorem mLst_rd : mLst ta r S = (ta r S).bind fun ds S1 => fitR ds.length (.lst ds) S1 := rfl
@[simp] theorem mLstS_rd : mLstS ta r S = (ta r S).bind fun ds S1 => fitR ds.length (.ref S1.length) (S1 ++ [.lst ds]) := rfl
@[simp] theorem mCB_rd {f : Store → List D → D → Prop} : mCB f ta r S = (ta r S).bind fun ds S1 => pk1 (f S1 ds) S1 := rfl
@[simp] theorem mBM_rd {ty : String} {f : MF} : mBM ty f t ta r S = (t r S).bind fun x S1 => if tyM S1 x = some ty then (ta r S1).bind fun ds S2 => pk (f S2 x ds) else .no := rfl
@[simp] theorem mNoPart_rd : mNoPart r S = .ok none S := rfl
@[simp] theorem mPart_rd : mPart t r S = (t r S).bind asI := rfl
@[simp] theorem mSl_rd {l h : MO} : mSl t l h r S = (t r S).bind fun x S1 => (l r S1).bind fun l S2 => (h r S2).bind fun u S3 => pk1 (fSl S3 x l u) S3 := rfl
@[simp] theorem mCall_rd {mf : MF1} {n : Nat} : mCall mf n ta r S = (ta r S).bind fun ds S1 => if ds.length = n then mf ds S1 else .no := rfl
@[simp] theorem pick_nil {α : Type} {l : List α} : pick [] l = [] := rfl
@[simp] theorem pick_cons {α : Type} {l : List α} {i : Nat} {ix : List Nat} : pick (i :: ix) l = (match l[i]? with | some x => x :: pick ix l | none => pick ix l) := by
  unfold pick
  cases h : l[i]? <;> simp [h]
@[simp] theorem mCallK_rd {mf : MF1} {m n l : Nat} {ix : List Nat} : mCallK mf m n l ix ta tb r S = (ta r S).bind fun ds S1 => (tb r S1).bind fun zs S2 => if ds.length = n ∧ zs.length = l ∧ (pick ix (ds ++ zs)).length = m then mf (pick ix (ds ++ zs)) S2 else .no := rfl
/-- what _law_try makes of a result -/
def tryR (ok : List Str) (m : R D) : R D := match m with
  | .ok d S1 => .ok (.tup [.str "value", d]) S1
  | .ex x S1 => if x.cls ∈ ok then (match tellX x with
    | some (c, f) => .ok (.tup [c, f]) S1
    | none => .no) else .no
  | .no => .no
@[simp] theorem tryR_ok {ok : List Str} : tryR ok (.ok d S) = .ok (.tup [.str "value", d]) S := rfl
theorem tryR_congr {ok : List Str} {m m' : R D} (h : m = m') : tryR ok m = tryR ok m' := by rw [h]
theorem tryR_ex {ok : List Str} {x : Xc} {c f : D} (h1 : x.cls ∈ ok) (h2 : tellX x = some (c, f)) : tryR ok (.ex x S) = .ok (.tup [c, f]) S := by
  unfold tryR; simp only [h1, if_true, h2]
@[simp] theorem mTry_rd {ok : List Str} : mTry ok t r S = tryR ok (t r S) := rfl
noncomputable def itvR (d : D) (S : Store) : R (List D) := pk1 (fun ds => itv d = some ds) S
@[simp] theorem mSeqI_rd : mSeqI t r S = (t r S).bind itvR := rfl
@[simp] theorem mIA_rd {f : Store → List D → List D → Prop} : mIA f ta r S = (ta r S).bind fun ds S1 => pk1 (f S1 ds) S1 := rfl
@[simp] theorem mLc_rd {g : MG} {vs : List Nat} : mLc ta g p t vs r S = (ta r S).bind fun ds S1 => (mLcL g p t (wipeD r vs) ds S1).nox.bind fun ys S2 => fitR ys.length (.lst ys) S2 := rfl
@[simp] theorem mYes_rd : mYes r S = .ok true S := rfl
@[simp] theorem mNext_rd : mNext r S = .nx r S := rfl
@[simp] theorem mSeq_rd : mSeq a b r S = (a r S).seq b := rfl
@[simp] theorem mBreak_rd : mBreak r S = .bk r S := rfl
@[simp] theorem mCont_rd : mCont r S = .ct r S := rfl
@[simp] theorem mExpr_rd : mExpr t r S = (t r S).fl r fun _ S1 => .nx r S1 := rfl
@[simp] theorem mRet_rd : mRet t r S = (t r S).fl r fun x S1 => .rt x S1 := rfl
@[simp] theorem mIfS_rd : mIfS p a b r S = (p r S).fl r fun k S1 => if k = true then a r S1 else b r S1 := rfl
@[simp] theorem gFl_ok : gFl (.ok r S) = .nx r S := rfl
@[simp] theorem mAsg_rd {g : MG} : mAsg t g r S = (t r S).fl r fun x S1 => gFl (g x r S1) := rfl
@[simp] theorem mSet_rd : mSet i t r S = (t r S).fl r fun x S1 => .nx (r.set i (some x)) S1 := rfl
@[simp] theorem mPar_rd {j : Nat} : mPar i j ta r S = (ta r S).fl r fun ds S1 => match ds with
  | [v, w] => .nx ((r.set i (some v)).set j (some w)) S1 | _ => .no := rfl
@[simp] theorem mAug_rd {f : Store → D → D → D → Prop} : mAug i t f r S = (vr r[i]? S).fl r fun x S0 => (t r S0).fl r fun y S1 => (pk1 (f S1 x y) S1).fl r fun z S2 => .nx (r.set i (some z)) S2 := by
  unfold mAug vr; split <;> simp_all
@[simp] theorem mRaise_rd {C c : Str} {fs : List Str} : mRaise C c fs ta r S = (ta r S).fl r fun ds S1 => if ds.length = fs.length then .ex ⟨C, xns fs, .str c :: ds.reverse⟩ r S1 else .no := rfl
@[simp] theorem Fl.wipe_nx {w : List Nat} : (Fl.nx r S).wipe w = .nx (wipeD r w) S := rfl
@[simp] theorem Fl.wipe_bk {w : List Nat} : (Fl.bk r S).wipe w = .bk (wipeD r w) S := rfl
@[simp] theorem Fl.wipe_ct {w : List Nat} : (Fl.ct r S).wipe w = .ct (wipeD r w) S := rfl
@[simp] theorem Fl.wipe_rt {w : List Nat} : (Fl.rt d S).wipe w = .rt d S := rfl
@[simp] theorem Fl.wipe_ex {w : List Nat} {x : Xc} : (Fl.ex x r S).wipe w = .ex x r S := rfl
@[simp] theorem Fl.wipe_no {w : List Nat} : Fl.no.wipe w = .no := rfl
@[simp] theorem mWipe_rd {w : List Nat} : mWipe w a r S = (a r S).wipe w := rfl
@[simp] theorem mFore_rd {w : List Nat} : mFore w a r S = a (wipeD r w) S := rfl
@[simp] theorem mFor_rd {g : MG} : mFor ta g a r S = (ta r S).fl r fun ds S1 => mForL g a ds r S1 := rfl
@[simp] theorem mForW_rd {g : MG} {w : List Nat} : mForW w ta g a r S = (ta r S).fl r fun ds S1 => mForL g (mWipe w a) ds (wipeD r w) S1 := rfl
@[simp] theorem mForL_nil {g : MG} : mForL g a [] r S = .nx r S := rfl
/-- what a turn of a loop makes -/
def turnR (m : R Sl) (b : MS) : Fl := match m with
  | .ok r1 S1 => b r1 S1 | _ => .no
@[simp] theorem turnR_ok {b : MS} : turnR (.ok r S) b = b r S := rfl
theorem turnR_congr {m m' : R Sl} {b : MS} (h : m = m') : turnR m b = turnR m' b := by rw [h]
def Fl.again (f : Fl) (k : Sl → Store → Fl) : Fl := match f with
  | .nx r2 S2 => k r2 S2 | .ct r2 S2 => k r2 S2 | .bk r2 S2 => .nx r2 S2 | f => f
theorem Fl.again_congr {f f' : Fl} {k : Sl → Store → Fl} (h : f = f') : f.again k = f'.again k := by rw [h]
@[simp] theorem Fl.again_nx {k : Sl → Store → Fl} : (Fl.nx r S).again k = k r S := rfl
@[simp] theorem Fl.again_ct {k : Sl → Store → Fl} : (Fl.ct r S).again k = k r S := rfl
@[simp] theorem Fl.again_bk {k : Sl → Store → Fl} : (Fl.bk r S).again k = .nx r S := rfl
@[simp] theorem Fl.again_rt {k : Sl → Store → Fl} : (Fl.rt d S).again k = .rt d S := rfl
@[simp] theorem Fl.again_ex {x : Xc} {k : Sl → Store → Fl} : (Fl.ex x r S).again k = .ex x r S := rfl
@[simp] theorem Fl.again_no {k : Sl → Store → Fl} : Fl.no.again k = .no := rfl
theorem mForL_cons {g : MG} {x : D} {xs : List D} : mForL g a (x :: xs) r S = (turnR (g x r S) a).again (mForL g a xs) := by
  show (match g x r S with | .ok r1 S1 => _ | _ => _) = _
  cases g x r S with
  | ok r1 S1 => simp only [turnR_ok]; cases a r1 S1 <;> rfl
  | ex x S1 => rfl
  | no => rfl
theorem mWhile_rd : mWhile p a r S = ((p r S).fl r fun t S1 => if t = true then (a r S1).again (mWhile p a) else .nx r S1) := by
  rw [mWhile_eq]
  cases p r S with
  | ok t S1 => cases t with
    | false => rfl
    | true => simp only [R.fl_ok, if_true]; cases a r S1 <;> rfl
  | ex x S1 => rfl
  | no => rfl
@[simp] theorem mgName_rd : mgName i d r S = .ok (r.set i (some d)) S := rfl
@[simp] theorem mgNil_rd : mgNil [] r S = .ok r S := rfl
@[simp] theorem mgCons_rd {g : MG} {gs : MGs} {q : List D} : mgCons g gs (d :: q) r S = (g d r S).bind fun r' S' => gs q r' S' := rfl
@[simp] theorem mgTup_rd {n : Nat} {gs : MGs} {ds : List D} : mgTup n gs (.tup ds) r S = if ds.length = n then gs ds r S else .no := rfl
@[simp] theorem mgSub_rd : mgSub t u d r S = ((t r S).nox.bind fun x S1 => (u r S1).nox.bind fun y S2 => (setIx x y d S2)).bind fun _ S3 => .ok r S3 := rfl
@[simp] theorem wipeD_nil : wipeD r [] = r := rfl
@[simp] theorem wipeD_cons {v : Nat} {vs : List Nat} : wipeD r (v :: vs) = (wipeD r vs).set v none := rfl
@[simp] theorem Fl.fin_nx : (Fl.nx r S).fin = .ok .non S := rfl
@[simp] theorem Fl.fin_rt : (Fl.rt d S).fin = .ok d S := rfl
@[simp] theorem Fl.fin_ex {x : Xc} : (Fl.ex x r S).fin = .ex x S := rfl
theorem Fl.fin_congr {f f' : Fl} (h : f = f') : f.fin = f'.fin := by rw [h]
theorem exitR_congr {f f' : Fl} (h : f = f') : exitR S f = exitR S f' := by rw [h]
theorem R.nox_congr {α : Type} {m m' : R α} (h : m = m') : m.nox = m'.nox := by rw [h]
end
/-- the codes of a text -/
def codes (a : Str) : List Nat := a.cps.toList
@[simp] theorem codes_len (a : Str) : (codes a).length = a.length := by simp [codes, Str.length]
theorem codes_inj {a b : Str} (h : codes a = codes b) : a = b := by
  obtain ⟨⟨a⟩⟩ := a; obtain ⟨⟨b⟩⟩ := b
  have h' : a = b := h
  rw [h']
theorem codes_app (a b : Str) : codes (a ++ b) = codes a ++ codes b := by
  show (a.cps ++ b.cps).toList = _
  simp [codes]
theorem codes_mk (l : List Nat) : codes ⟨l.toArray⟩ = l := rfl
/-! ### leaves -/
section
variable {S : Store} {i j : Int} {x y : D} {es fs : List D} {a b : Str} {p q : Bool}
@[simp] theorem k_addI : pk1 (fAdd S (.int i) (.int j)) S = .ok (.int (i + j)) S := pk1_is
theorem k_addS (h : a.length + b.length ≤ sizeLine) : pk1 (fAdd S (.str a) (.str b)) S = .ok (.str (a ++ b)) S := pk1_cond h
theorem k_addT (h : es.length + fs.length ≤ sizeLine) : pk1 (fAdd S (.tup es) (.tup fs)) S = .ok (.tup (es ++ fs)) S := pk1_cond h
theorem k_addL (h : es.length + fs.length ≤ sizeLine) : pk1 (fAdd S (.lst es) (.lst fs)) S = .ok (.lst (es ++ fs)) S := pk1_eq ⟨es, fs, rfl, rfl, h, rfl⟩ fun z ⟨_, _, e1, e2, _, e3⟩ => by cases e1; cases e2; exact e3
@[simp] theorem k_subI : pk1 (fSub S (.int i) (.int j)) S = .ok (.int (i - j)) S := pk1_is
theorem k_mulI (h : MulOk i j) : pk1 (fMul S (.int i) (.int j)) S = .ok (.int (i * j)) S := pk1_cond h
theorem k_mulL (h1 : -(2 ^ 63) ≤ j) (h2 : j < 2 ^ 63) (h3 : es.length * j.toNat ≤ sizeLine) : pk1 (fMul S (.lst es) (.int j)) S = .ok (.lst (List.replicate j.toNat es).flatten) S := pk1_eq ⟨es, rfl, h1, h2, h3, rfl⟩ fun z ⟨_, e1, _, _, _, e3⟩ => by cases e1; exact e3
theorem k_mulT (h0 : es ≠ []) (h1 : 2 ≤ j) (h2 : j ≤ 1000) (h3 : es.length ≤ 1000) : pk1 (fMul S (.tup es) (.int j)) S = .ok (.tup (List.replicate j.toNat es).flatten) S := pk1_eq ⟨h0, h1, h2, h3, rfl⟩ fun z ⟨_, _, _, _, e⟩ => e
theorem k_fdiv (h : DivOk j) : pk1 (fFdiv S (.int i) (.int j)) S = .ok (.int (i / j)) S := pk1_cond h
theorem k_mod (h : 0 < j) : pk1 (fMod S (.int i) (.int j)) S = .ok (.int (i % j)) S := pk1_cond h
theorem k_pow (h : 0 ≤ j ∧ j ≤ 1000000 ∧ i.natAbs < 2 ^ 64) : pk1 (fPow S (.int i) (.int j)) S = .ok (.int (i ^ j.toNat)) S := pk1_cond h
@[simp] theorem k_lt : pk1 (fLt S (.int i) (.int j)) S = .ok (.bl (decide (i < j))) S := pk1_is
@[simp] theorem k_le : pk1 (fLe S (.int i) (.int j)) S = .ok (.bl (decide (i ≤ j))) S := pk1_is
@[simp] theorem k_gt : pk1 (fGt S (.int i) (.int j)) S = .ok (.bl (decide (j < i))) S := pk1_is
@[simp] theorem k_ge : pk1 (fGe S (.int i) (.int j)) S = .ok (.bl (decide (j ≤ i))) S := pk1_is
theorem k_eq (h1 : sh 60 (dres S x) = true) (h2 : sh 60 (dres S y) = true) : pk1 (fEq S x y) S = .ok (.bl (PyData.eqv (pd (dres S x)) (pd (dres S y)))) S := pk1_eq ⟨h1, h2, rfl⟩ fun z ⟨_, _, e⟩ => e
theorem k_ne (h1 : sh 60 (dres S x) = true) (h2 : sh 60 (dres S y) = true) : pk1 (fNe S x y) S = .ok (.bl (!PyData.eqv (pd (dres S x)) (pd (dres S y)))) S := pk1_eq ⟨h1, h2, rfl⟩ fun z ⟨_, _, e⟩ => e
@[simp] theorem k_isN : pk1 (fIsN S x .non) S = .ok (.bl (isNon x)) S := pk1_eq ⟨rfl, rfl⟩ fun z ⟨_, e⟩ => e
@[simp] theorem k_notN : pk1 (fNotN S x .non) S = .ok (.bl (!isNon x)) S := pk1_eq ⟨rfl, rfl⟩ fun z ⟨_, e⟩ => e
@[simp] theorem k_neg : pk1 (fNeg S (.int i)) S = .ok (.int (-i)) S := pk1_eq ⟨i, rfl, rfl⟩ fun z ⟨_, e, e2⟩ => by cases e; exact e2
@[simp] theorem k_intI : pk1 (bInt S [.int i]) S = .ok (.int i) S := pk1_is
@[simp] theorem k_intB : pk1 (bInt S [.bl p]) S = .ok (.int (if p then 1 else 0)) S := pk1_is
@[simp] theorem k_max : pk1 (bMax2 S [.int i, .int j]) S = .ok (.int (if j > i then j else i)) S := pk1_eq ⟨i, j, rfl, rfl⟩ fun z ⟨_, _, e, e2⟩ => by cases e; exact e2
@[simp] theorem k_min : pk1 (bMin2 S [.int i, .int j]) S = .ok (.int (if j < i then j else i)) S := pk1_eq ⟨i, j, rfl, rfl⟩ fun z ⟨_, _, e, e2⟩ => by cases e; exact e2
@[simp] theorem k_abs : pk1 (bAbs S [.int i]) S = .ok (.int (if i < 0 then -i else i)) S := pk1_eq ⟨i, rfl, rfl⟩ fun z ⟨_, e, e2⟩ => by cases e; exact e2
theorem k_str (h : i.natAbs.log2 < 1920) : pk1 (bStr S [.int i]) S = .ok (.str (toString i)) S := pk1_eq ⟨i, rfl, h, rfl⟩ fun z ⟨_, e, _, e2⟩ => by cases e; exact e2
@[simp] theorem k_tupL : pk1 (bTuple S [.lst es]) S = .ok (.tup es) S := pk1_eq ⟨_, rfl, .inl ⟨_, rfl, rfl⟩⟩ fun z ⟨_, e, h⟩ => by
  cases e
  rcases h with ⟨_, h1, h2⟩ | ⟨_, h1, _⟩
  · cases h1; exact h2
  · cases h1
@[simp] theorem k_tupT : pk1 (bTuple S [.tup es]) S = .ok (.tup es) S := pk1_eq ⟨_, rfl, .inr ⟨_, rfl, rfl⟩⟩ fun z ⟨_, e, h⟩ => by
  cases e
  rcases h with ⟨_, h1, h2⟩ | ⟨_, h1, h2⟩
  · cases h1
  · exact h2
theorem k_tupR {n : Nat} (hS : S[n]? = some (.lst es)) : pk1 (bTuple S [.ref n]) S = .ok (.tup es) S := pk1_eq ⟨_, rfl, .inl ⟨es, by simp [lsv, hS], rfl⟩⟩ fun z ⟨_, e, h⟩ => by
  cases e
  rcases h with ⟨_, h1, h2⟩ | ⟨_, h1, _⟩
  · simp [lsv, hS] at h1; subst h1; exact h2
  · cases h1
@[simp] theorem k_listL : pk1 (bList S [.lst es]) S = .ok (.lst es) S := pk1_eq ⟨_, _, rfl, .inl rfl, rfl⟩ fun z ⟨_, _, e, h, h2⟩ => by
  cases e
  rcases h with h1 | h1 | h1
  · cases h1; exact h2
  · cases h1
  · cases h1
@[simp] theorem k_listT : pk1 (bList S [.tup es]) S = .ok (.lst es) S := pk1_eq ⟨_, _, rfl, .inr (.inl rfl), rfl⟩ fun z ⟨_, _, e, h, h2⟩ => by
  cases e
  rcases h with h1 | h1 | h1
  · cases h1
  · cases h1; exact h2
  · cases h1
@[simp] theorem k_listZ : pk1 (bList S [.fz es]) S = .ok (.lst es) S := pk1_eq ⟨_, _, rfl, .inr (.inr rfl), rfl⟩ fun z ⟨_, _, e, h, h2⟩ => by
  cases e
  rcases h with h1 | h1 | h1
  · cases h1
  · cases h1
  · cases h1; exact h2
theorem k_len {n : Nat} (h : lenD S x = some n) : pk1 (bLen S [x]) S = .ok (.int (n : Nat)) S := pk1_eq ⟨x, n, rfl, h, rfl⟩ fun z ⟨_, m, e, h1, h2⟩ => by
  cases e; rw [h] at h1; cases h1; exact h2
@[simp] theorem k_lenL : pk1 (bLen S [.lst es]) S = .ok (.int (es.length : Nat)) S := k_len rfl
@[simp] theorem k_lenT : pk1 (bLen S [.tup es]) S = .ok (.int (es.length : Nat)) S := k_len rfl
theorem k_lenS (h : a.length ≤ sizeLine) : pk1 (bLen S [.str a]) S = .ok (.int (a.length : Nat)) S := k_len (by show (if a.length ≤ sizeLine then some a.length else none) = _; rw [if_pos h])
theorem k_lenR {n : Nat} (hS : S[n]? = some (.lst es)) : pk1 (bLen S [.ref n]) S = .ok (.int (es.length : Nat)) S := k_len (by simp [lenD, lsv, hS])
theorem map_bl_inj {l l' : List Bool} (h : l.map D.bl = l'.map D.bl) : l = l' := by
  have : ∀ a b : Bool, D.bl a = D.bl b → a = b := fun a b h => by cases h; rfl
  exact (List.map_inj_right this).mp h
theorem map_int_inj {l l' : List Int} (h : l.map D.int = l'.map D.int) : l = l' := by
  have : ∀ a b : Int, D.int a = D.int b → a = b := fun a b h => by cases h; rfl
  exact (List.map_inj_right this).mp h
theorem map_str_inj {l l' : List Str} (h : l.map D.str = l'.map D.str) : l = l' := by
  have : ∀ a b : Str, D.str a = D.str b → a = b := fun a b h => by cases h; rfl
  exact (List.map_inj_right this).mp h
theorem k_all {bs : List Bool} (h : es = bs.map D.bl) : pk1 (bAll S [.lst es]) S = .ok (.bl (bs.all id)) S := pk1_eq ⟨_, bs, rfl, by rw [h]; rfl, rfl⟩ fun z ⟨_, bs2, e, h1, h2⟩ => by
  cases e
  have h3 : some es = some (bs2.map D.bl) := h1
  rw [h] at h3
  rw [map_bl_inj (Option.some.inj h3)]; exact h2
theorem k_any {bs : List Bool} (h : es = bs.map D.bl) : pk1 (bAny S [.lst es]) S = .ok (.bl (bs.any id)) S := pk1_eq ⟨_, bs, rfl, by rw [h]; rfl, rfl⟩ fun z ⟨_, bs2, e, h1, h2⟩ => by
  cases e
  have h3 : some es = some (bs2.map D.bl) := h1
  rw [h] at h3
  rw [map_bl_inj (Option.some.inj h3)]; exact h2
theorem k_sum {bs : List Int} (h : es = bs.map D.int) : pk1 (bSum S [.lst es]) S = .ok (.int bs.sum) S := pk1_eq ⟨_, bs, rfl, by rw [h]; rfl, rfl⟩ fun z ⟨_, bs2, e, h1, h2⟩ => by
  cases e
  have h3 : some es = some (bs2.map D.int) := h1
  rw [h] at h3
  rw [map_int_inj (Option.some.inj h3)]; exact h2
theorem k_ix (h : itemD S x i = some y) : pk1 (fIx S x (.int i)) S = .ok y S := pk1_eq ⟨i, rfl, h⟩ fun z ⟨_, e, h1⟩ => by cases e; rw [h] at h1; cases h1; rfl
theorem k_ixT (h : atI es i = some y) : pk1 (fIx S (.tup es) (.int i)) S = .ok y S := k_ix h
theorem k_ixL (h : atI es i = some y) : pk1 (fIx S (.lst es) (.int i)) S = .ok y S := k_ix h
theorem k_ixR {n : Nat} (hS : S[n]? = some (.lst es)) (h : atI es i = some y) : pk1 (fIx S (.ref n) (.int i)) S = .ok y S := k_ix (by simp [itemD, lsv, hS, h])
@[simp] theorem k_slT {lo hi : Option Int} : pk1 (fSl S (.tup es) lo hi) S = .ok (.tup (cutD es lo hi)) S := pk1_is
@[simp] theorem k_slZ {lo hi : Option Int} : pk1 (fSl S (.fz es) lo hi) S = .ok (.lst (cutD es lo hi)) S := pk1_is
theorem itvT : itv (.tup es) = some es := rfl
theorem k_itv {ds : List D} (h : itv x = some ds) : itvR x S = .ok ds S := pk1_eq h fun z e => by rw [h] at e; cases e; rfl
@[simp] theorem k_itvT : itvR (.tup es) S = .ok es S := k_itv rfl
@[simp] theorem k_itvL : itvR (.lst es) S = .ok es S := k_itv rfl
@[simp] theorem k_itvS : itvR (.str a) S = .ok ((codes a).map chr1) S := k_itv rfl
theorem k_rng1 (h1 : -(2 ^ 62) ≤ j) (h2 : j < 2 ^ 62) : pk1 (fRng1 S [.int j]) S = .ok (rngD 0 j.toNat) S := pk1_eq ⟨j, rfl, h1, h2, rfl⟩ fun z ⟨_, e, _, _, e2⟩ => by cases e; exact e2
theorem k_rng2 (h : -(2 ^ 62) ≤ i ∧ i < 2 ^ 62 ∧ -(2 ^ 62) ≤ j ∧ j < 2 ^ 62) : pk1 (fRng2 S [.int i, .int j]) S = .ok (rngD i (j - i).toNat) S := pk1_eq ⟨i, j, rfl, h, rfl⟩ fun z ⟨_, _, e, _, e2⟩ => by cases e; exact e2
@[simp] theorem k_enum : pk1 (fEnum S [.lst es]) S = .ok (enumD es) S := pk1_eq ⟨es, rfl, rfl⟩ fun z ⟨_, e, e2⟩ => by cases e; exact e2
@[simp] theorem k_enumX : pk1 (fEnumX S [.str a]) S = .ok (enumX a) S := pk1_eq ⟨a, rfl, rfl⟩ fun z ⟨_, e, e2⟩ => by cases e; exact e2
@[simp] theorem k_zipT : pk1 (fZip S [.tup es, .tup fs]) S = .ok (zipD es fs) S := pk1_eq ⟨es, fs, .inr rfl, rfl⟩ fun z ⟨_, _, h, e2⟩ => by
  rcases h with h | h
  · cases h
  · cases h; exact e2
@[simp] theorem k_zipL : pk1 (fZip S [.lst es, .lst fs]) S = .ok (zipD es fs) S := pk1_eq ⟨es, fs, .inl rfl, rfl⟩ fun z ⟨_, _, h, e2⟩ => by
  rcases h with h | h
  · cases h; exact e2
  · cases h
theorem k_lenset (h : a.length < 4000) : pk1 (fLenSet S (.str a)) S = .ok (.int ((metS (codes a)).length : Nat)) S := pk1_eq ⟨a, rfl, h, rfl⟩ fun z ⟨_, e, _, e2⟩ => by cases e; exact e2
theorem k_isi {c n : String} {b : Bool} (h1 : tyD S x = some n) (h2 : kitB n c = some b) : pk1 (bIsi S [x, .ty c]) S = .ok (.bl b) S := pk1_eq ⟨x, c, n, b, rfl, h1, h2, rfl⟩ fun z ⟨_, _, _, _, e, h3, h4, e2⟩ => by
  cases e; rw [h1] at h3; cases h3; rw [h2] at h4; cases h4; exact e2
theorem k_isi2 {c1 c2 n : String} {b1 b2 : Bool} (h1 : tyD S x = some n) (h2 : kitB n c1 = some b1) (h3 : kitB n c2 = some b2) : pk1 (fIsi2 c1 c2 S x) S = .ok (.bl (b1 || b2)) S := pk1_eq ⟨n, b1, b2, h1, h2, h3, rfl⟩ fun z ⟨_, _, _, h4, h5, h6, e⟩ => by
  rw [h1] at h4; cases h4; rw [h2] at h5; cases h5; rw [h3] at h6; cases h6; exact e
theorem k_append {n : Nat} (hS : S[n]? = some (.lst es)) (h : es.length < sizeLine) : pk (mfAppend S (.ref n) [y]) = .ok .non (S.set n (.lst (es ++ [y]))) := pk_eq ⟨n, es, y, rfl, rfl, hS, h, rfl, rfl⟩ fun z S' ⟨_, _, _, e1, e2, h3, _, e4, e5⟩ => by
  cases e1; cases e2; rw [hS] at h3; cases h3; exact ⟨e4, e5⟩
theorem k_pop {n : Nat} (hS : S[n]? = some (.lst es)) (h : es[es.length - 1]? = some y) : pk (mfPop S (.ref n) []) = .ok y (S.set n (.lst es.dropLast)) := pk_eq ⟨n, es, rfl, rfl, hS, h, rfl⟩ fun z S' ⟨_, _, e1, _, h3, h4, e5⟩ => by
  cases e1; rw [hS] at h3; cases h3; rw [h] at h4; cases h4; exact ⟨rfl, e5⟩
theorem k_joinL {ys : List Str} (h0 : es = ys.map D.str) (h : (ys.map (·.length)).sum + ys.length * a.length ≤ 16777216) : pk (mfJoin S (.str a) [.lst es]) = .ok (.str (Txt.join a ys)) S := pk_eq ⟨a, _, ys, rfl, rfl, .inl (by rw [h0]; rfl), h, rfl, rfl⟩ fun z S' ⟨_, _, ys2, e1, e2, h3, _, e4, e5⟩ => by
  cases e1; cases e2
  rcases h3 with h3 | h3
  · have h4 : some es = some (ys2.map D.str) := h3
    rw [h0] at h4
    rw [map_str_inj (Option.some.inj h4)]; exact ⟨e4, e5⟩
  · cases h3
@[simp] theorem tyM_str : tyM S (.str a) = some "str" := rfl
@[simp] theorem tyM_lst : tyM S (.lst es) = some "list" := rfl
theorem tyM_ref {n : Nat} (hS : S[n]? = some (.lst es)) : tyM S (.ref n) = some "list" := by simp [tyM, lsv, hS]
theorem setIx_ok {n k : Nat} {m : Int} (hS : S[n]? = some (.lst es)) (h : ixN es.length m = some k) : setIx (.ref n) (.int m) y S = .ok () (S.set n (.lst (es.set k y))) := by
  unfold setIx; simp only [hS, h]
end
/-! ### loops -/
section
variable {g : MG} {b : MS}
/-- every turn ends well and keeps P -/
theorem for_inv {ds : List D} (P : Sl → Store → Prop) (h : ∀ x ∈ ds, ∀ r S, P r S → ∃ r' S', turnR (g x r S) b = .nx r' S' ∧ P r' S') : ∀ {r : Sl} {S : Store}, P r S → ∃ r' S', mForL g b ds r S = .nx r' S' ∧ P r' S' := by
  induction ds with
  | nil => exact fun {r S} hp => ⟨r, S, rfl, hp⟩
  | cons x xs ih =>
    intro r S hp
    obtain ⟨r1, S1, e, hp1⟩ := h x List.mem_cons_self r S hp
    rw [mForL_cons, e]
    exact ih (fun y hy => h y (List.mem_cons_of_mem _ hy)) hp1
/-- every turn is a step of a fold -/
theorem for_fold {σ α : Type} (en : α → D) (st : σ → Sl) (so : σ → Store) (f : σ → α → σ) {xs : List α} (P : σ → Prop) (hP : ∀ s x, x ∈ xs → P s → P (f s x)) (h : ∀ s, P s → ∀ x ∈ xs, turnR (g (en x) (st s) (so s)) b = .nx (st (f s x)) (so (f s x))) :
    ∀ s, P s → mForL g b (xs.map en) (st s) (so s) = .nx (st (xs.foldl f s)) (so (xs.foldl f s)) := by
  induction xs with
  | nil => exact fun s _ => rfl
  | cons x xs ih =>
    intro s hs
    rw [List.map_cons, mForL_cons, h s hs x List.mem_cons_self]
    exact ih (fun s y hy => hP s y (List.mem_cons_of_mem _ hy)) (fun s hs y hy => h s hs y (List.mem_cons_of_mem _ hy)) _ (hP s x List.mem_cons_self hs)
end
section
variable {g : MG} {t : MT} {e : ME} {r0 : Sl}
@[simp] theorem mLcL_nil {S : Store} : mLcL g t e r0 [] S = .ok [] S := rfl
theorem mLcL_cons {S : Store} {x : D} {xs : List D} : mLcL g t e r0 (x :: xs) S = (g x r0 S).bind fun r1 S1 => (t r1 S1).bind fun k S2 => if k = true then (e r1 S2).bind fun y S3 => (mLcL g t e r0 xs S3).bind fun ys S4 => .ok (y :: ys) S4 else mLcL g t e r0 xs S2 := rfl
/-- an element's value, where nothing is left out -/
theorem lc_map {α : Type} (en : α → D) (f : α → D) {S : Store} {xs : List α} (h : ∀ x ∈ xs, ((g (en x) r0 S).bind fun r1 S1 => (t r1 S1).bind fun k S2 => if k = true then e r1 S2 else .no) = .ok (f x) S) : mLcL g t e r0 (xs.map en) S = .ok (xs.map f) S := by
  induction xs with
  | nil => rfl
  | cons x xs ih =>
    have h1 := h x List.mem_cons_self
    have h2 := ih fun y hy => h y (List.mem_cons_of_mem _ hy)
    rw [List.map_cons, mLcL_cons]
    cases q : g (en x) r0 S with
    | ok r1 S1 =>
      rw [q] at h1
      simp only [R.bind_ok] at h1 ⊢
      cases q2 : t r1 S1 with
      | ok k S2 =>
        rw [q2] at h1
        simp only [R.bind_ok] at h1 ⊢
        cases k with
        | false => simp at h1
        | true =>
          simp only [if_true] at h1 ⊢
          rw [h1]
          simp only [R.bind_ok]
          rw [h2]
          rfl
      | ex y S2 => rw [q2] at h1; cases h1
      | no => rw [q2] at h1; cases h1
    | ex y S1 => rw [q] at h1; cases h1
    | no => rw [q] at h1; cases h1
/-- with a test -/
theorem lc_filter {α : Type} (en : α → D) (f : α → D) (c : α → Bool) {S : Store} {xs : List α} (h : ∀ x ∈ xs, ∃ r1, g (en x) r0 S = .ok r1 S ∧ t r1 S = .ok (c x) S ∧ (c x = true → e r1 S = .ok (f x) S)) : mLcL g t e r0 (xs.map en) S = .ok ((xs.filter c).map f) S := by
  induction xs with
  | nil => rfl
  | cons x xs ih =>
    obtain ⟨r1, h1, h2, h3⟩ := h x List.mem_cons_self
    have h4 := ih fun y hy => h y (List.mem_cons_of_mem _ hy)
    rw [List.map_cons, mLcL_cons, h1]
    simp only [R.bind_ok]
    rw [h2]
    simp only [R.bind_ok]
    cases q : c x with
    | true =>
      simp only [if_true]
      rw [h3 q]
      simp only [R.bind_ok]
      rw [h4, List.filter_cons_of_pos q]
      rfl
    | false =>
      rw [if_neg (by simp), h4, List.filter_cons_of_neg (by simp [q])]
/-- the store may change: P holds between -/
theorem lc_inv {ds : List D} (P : List D → Store → Prop) (h : ∀ x ∈ ds, ∀ acc S, P acc S → ∃ y S', ((g x r0 S).bind fun r1 S1 => (t r1 S1).bind fun k S2 => if k = true then e r1 S2 else .no) = .ok y S' ∧ P (acc ++ [y]) S') : ∀ {acc : List D} {S : Store}, P acc S → ∃ ys S', mLcL g t e r0 ds S = .ok ys S' ∧ P (acc ++ ys) S' ∧ ys.length = ds.length := by
  induction ds with
  | nil => exact fun {acc S} hp => ⟨[], S, rfl, by simpa using hp, rfl⟩
  | cons x xs ih =>
    intro acc S hp
    obtain ⟨y, S1, h1, hp1⟩ := h x List.mem_cons_self acc S hp
    obtain ⟨ys, S2, h2, hp2, hl⟩ := ih (fun y hy => h y (List.mem_cons_of_mem _ hy)) hp1
    refine ⟨y :: ys, S2, ?_, by simpa using hp2, by simp [hl]⟩
    rw [mLcL_cons]
    cases q : g x r0 S with
    | ok r1 S1' =>
      rw [q] at h1
      simp only [R.bind_ok] at h1 ⊢
      cases q2 : t r1 S1' with
      | ok k S2' =>
        rw [q2] at h1
        simp only [R.bind_ok] at h1 ⊢
        cases k with
        | false => simp at h1
        | true =>
          simp only [if_true] at h1 ⊢
          rw [h1]
          simp only [R.bind_ok]
          rw [h2]
          rfl
      | ex y S2 => rw [q2] at h1; cases h1
      | no => rw [q2] at h1; cases h1
    | ex y S1 => rw [q] at h1; cases h1
    | no => rw [q] at h1; cases h1
end
/-- as they stand in a goal: generalize hL : mForL _ _ _ _ _ = L -/
theorem for_at {g : MG} {b : MS} {ds : List D} {r : Sl} {S : Store} {L : Fl} (hL : mForL g b ds r S = L) (P : Sl → Store → Prop) (h0 : P r S) (h : ∀ x ∈ ds, ∀ r S, P r S → ∃ r' S', turnR (g x r S) b = .nx r' S' ∧ P r' S') : ∃ r' S', L = .nx r' S' ∧ P r' S' := by
  rw [← hL]; exact for_inv P h h0
theorem lc_at {g : MG} {t : MT} {e : ME} {r0 : Sl} {ds : List D} {S : Store} {L : R (List D)} (hL : mLcL g t e r0 ds S = L) (P : List D → Store → Prop) (h0 : P [] S) (h : ∀ x ∈ ds, ∀ acc S, P acc S → ∃ y S', ((g x r0 S).bind fun r1 S1 => (t r1 S1).bind fun k S2 => if k = true then e r1 S2 else .no) = .ok y S' ∧ P (acc ++ [y]) S') : ∃ ys S', L = .ok ys S' ∧ P ys S' ∧ ys.length = ds.length := by
  rw [← hL]; exact lc_inv P h h0
end DL
namespace DL
open PySem PySem.Spec PyProof.Rows L2
/-! ### equality of data -/
def deq (x y : D) : Bool := PyData.eqv (pd x) (pd y)
def deqs (x y : List D) : Bool := PyData.eqvAll (pds x) (pds y)
section
variable {S : Store} {i j : Int} {x y : D} {es fs : List D} {a b : Str} {p q : Bool} {n : Nat}
@[simp] theorem deq_nn : deq .non .non = true := by simp [deq, pd, PyData.eqv]
@[simp] theorem deq_nb : deq .non (.bl p) = false := by simp [deq, pd, PyData.eqv]
@[simp] theorem deq_ni : deq .non (.int i) = false := by simp [deq, pd, PyData.eqv]
@[simp] theorem deq_ns : deq .non (.str a) = false := by simp [deq, pd, PyData.eqv]
@[simp] theorem deq_nt : deq .non (.tup es) = false := by simp [deq, pd, PyData.eqv]
@[simp] theorem deq_nl : deq .non (.lst es) = false := by simp [deq, pd, PyData.eqv]
@[simp] theorem deq_bn : deq (.bl p) .non = false := by simp [deq, pd, PyData.eqv]
@[simp] theorem deq_bb : deq (.bl p) (.bl q) = (p == q) := by simp [deq, pd, PyData.eqv]
@[simp] theorem deq_bs : deq (.bl p) (.str a) = false := by simp [deq, pd, PyData.eqv]
@[simp] theorem deq_bt : deq (.bl p) (.tup es) = false := by simp [deq, pd, PyData.eqv]
@[simp] theorem deq_bl : deq (.bl p) (.lst es) = false := by simp [deq, pd, PyData.eqv]
@[simp] theorem deq_in : deq (.int i) .non = false := by simp [deq, pd, PyData.eqv]
@[simp] theorem deq_ii : deq (.int i) (.int j) = decide (i = j) := by simp [deq, pd, PyData.eqv]; rfl
@[simp] theorem deq_is : deq (.int i) (.str a) = false := by simp [deq, pd, PyData.eqv]
@[simp] theorem deq_it : deq (.int i) (.tup es) = false := by simp [deq, pd, PyData.eqv]
@[simp] theorem deq_il : deq (.int i) (.lst es) = false := by simp [deq, pd, PyData.eqv]
@[simp] theorem deq_sn : deq (.str a) .non = false := by simp [deq, pd, PyData.eqv]
@[simp] theorem deq_sb : deq (.str a) (.bl p) = false := by simp [deq, pd, PyData.eqv]
@[simp] theorem deq_si : deq (.str a) (.int i) = false := by simp [deq, pd, PyData.eqv]
@[simp] theorem deq_ss : deq (.str a) (.str b) = decide (a = b) := by
  simp only [deq, pd, PyData.eqv]
  by_cases h : a = b
  · simp [h]
  · simp [h]
@[simp] theorem deq_st : deq (.str a) (.tup es) = false := by simp [deq, pd, PyData.eqv]
@[simp] theorem deq_sl : deq (.str a) (.lst es) = false := by simp [deq, pd, PyData.eqv]
@[simp] theorem deq_tn : deq (.tup es) .non = false := by simp [deq, pd, PyData.eqv]
@[simp] theorem deq_tb : deq (.tup es) (.bl p) = false := by simp [deq, pd, PyData.eqv]
@[simp] theorem deq_ti : deq (.tup es) (.int i) = false := by simp [deq, pd, PyData.eqv]
@[simp] theorem deq_ts : deq (.tup es) (.str a) = false := by simp [deq, pd, PyData.eqv]
@[simp] theorem deq_tt : deq (.tup es) (.tup fs) = deqs es fs := by simp [deq, deqs, pd, PyData.eqv]
@[simp] theorem deq_tl : deq (.tup es) (.lst fs) = false := by simp [deq, pd, PyData.eqv]
@[simp] theorem deq_ln : deq (.lst es) .non = false := by simp [deq, pd, PyData.eqv]
@[simp] theorem deq_lb : deq (.lst es) (.bl p) = false := by simp [deq, pd, PyData.eqv]
@[simp] theorem deq_li : deq (.lst es) (.int i) = false := by simp [deq, pd, PyData.eqv]
@[simp] theorem deq_ls : deq (.lst es) (.str a) = false := by simp [deq, pd, PyData.eqv]
@[simp] theorem deq_lt : deq (.lst es) (.tup fs) = false := by simp [deq, pd, PyData.eqv]
@[simp] theorem deq_ll : deq (.lst es) (.lst fs) = deqs es fs := by simp [deq, deqs, pd, PyData.eqv]
@[simp] theorem deqs_nn : deqs [] [] = true := by simp [deqs, pds, PyData.eqvAll]
@[simp] theorem deqs_cc : deqs (x :: es) (y :: fs) = (deq x y && deqs es fs) := by simp [deq, deqs, pds, PyData.eqvAll]
@[simp] theorem deqs_nc : deqs [] (y :: fs) = false := by simp [deqs, pds, PyData.eqvAll]
@[simp] theorem deqs_cn : deqs (x :: es) [] = false := by simp [deqs, pds, PyData.eqvAll]
theorem deqs_len : ∀ {es fs : List D}, deqs es fs = true → es.length = fs.length
  | [], [], _ => rfl
  | [], _ :: _, h => by simp at h
  | _ :: _, [], h => by simp at h
  | _ :: es, _ :: fs, h => by simp at h; simp [deqs_len h.2]
/-- lists of one shape -/
theorem deqs_map {α : Type} (en : α → D) (eq : α → α → Prop) [∀ a b, Decidable (eq a b)] (h : ∀ a b, deq (en a) (en b) = true ↔ a = b) : ∀ {as bs : List α}, deqs (as.map en) (bs.map en) = true ↔ as = bs
  | [], [] => by simp
  | [], _ :: _ => by simp
  | _ :: _, [] => by simp
  | a :: as, b :: bs => by simp [h, deqs_map en eq h (as := as) (bs := bs)]
theorem deqs_ints {as bs : List Int} : deqs (as.map D.int) (bs.map D.int) = decide (as = bs) := by
  rw [Bool.eq_iff_iff, deqs_map D.int (fun a b => a = b) (by simp)]; simp
theorem deqs_strs {as bs : List Str} : deqs (as.map D.str) (bs.map D.str) = decide (as = bs) := by
  rw [Bool.eq_iff_iff, deqs_map D.str (fun a b => a = b) (by simp)]; simp
/-- equal data -/
theorem deq_refl : ∀ (n : Nat) (x : D), sh n x = true → deq x x = true := by
  intro n
  induction n with
  | zero => intro x h; cases x <;> simp_all [sh]
  | succ n ih =>
    intro x h
    have all : ∀ ds : List D, ds.all (sh n) = true → deqs ds ds = true := by
      intro ds
      induction ds with
      | nil => simp
      | cons d ds ih2 => intro h; simp at h; simp [ih d h.1, ih2 (by simpa using h.2)]
    cases x <;> simp_all [sh]
theorem dres_sh (h : sh n x = true) : dres S x = x := by
  cases x <;> first | rfl | (cases n <;> simp [sh] at h)
theorem k_eqD (h1 : sh 60 x = true) (h2 : sh 60 y = true) : pk1 (fEq S x y) S = .ok (.bl (deq x y)) S := by
  rw [k_eq (by rw [dres_sh h1]; exact h1) (by rw [dres_sh h2]; exact h2), dres_sh h1, dres_sh h2]; rfl
theorem k_neD (h1 : sh 60 x = true) (h2 : sh 60 y = true) : pk1 (fNe S x y) S = .ok (.bl (!deq x y)) S := by
  rw [k_ne (by rw [dres_sh h1]; exact h1) (by rw [dres_sh h2]; exact h2), dres_sh h1, dres_sh h2]; rfl
@[simp] theorem k_eqI : pk1 (fEq S (.int i) (.int j)) S = .ok (.bl (decide (i = j))) S := by rw [k_eqD rfl rfl, deq_ii]
@[simp] theorem k_neI : pk1 (fNe S (.int i) (.int j)) S = .ok (.bl (!decide (i = j))) S := by rw [k_neD rfl rfl, deq_ii]
@[simp] theorem k_eqB : pk1 (fEq S (.bl p) (.bl q)) S = .ok (.bl (p == q)) S := by rw [k_eqD rfl rfl, deq_bb]
@[simp] theorem k_neB : pk1 (fNe S (.bl p) (.bl q)) S = .ok (.bl (!(p == q))) S := by rw [k_neD rfl rfl, deq_bb]
theorem k_eqS (h1 : PyData.strOk a = true) (h2 : PyData.strOk b = true) : pk1 (fEq S (.str a) (.str b)) S = .ok (.bl (decide (a = b))) S := by rw [k_eqD (x := .str a) (y := .str b) h1 h2, deq_ss]
theorem k_neS (h1 : PyData.strOk a = true) (h2 : PyData.strOk b = true) : pk1 (fNe S (.str a) (.str b)) S = .ok (.bl (!decide (a = b))) S := by rw [k_neD (x := .str a) (y := .str b) h1 h2, deq_ss]
theorem sh_ints {as : List Int} (n : Nat) : sh (n + 1) (.tup (as.map D.int)) = true := by simp [sh]
theorem sh_intsL {as : List Int} (n : Nat) : sh (n + 1) (.lst (as.map D.int)) = true := by simp [sh]
/-! ### in -/
theorem k_inC {c : Nat} {t : Str} : pk1 (fIn false S (chr1 c) (.str t)) S = .ok (.bl (decide (c ∈ (codes t)))) S := pk1_eq (.inl ⟨c, t, rfl, rfl, by simp [codes]⟩) fun z h => by
  rcases h with ⟨c2, t2, e1, e2, e3⟩ | ⟨ds, h1, _⟩ | ⟨ds, h1, _⟩
  · cases e2
    have : c = c2 := by
      have e4 := congrArg (fun d => match d with | D.str x => x.cps | _ => #[]) e1
      simpa [chr1] using e4
    subst this
    simpa [codes] using e3
  · cases h1
  · cases h1
theorem k_notinC {c : Nat} {t : Str} : pk1 (fIn true S (chr1 c) (.str t)) S = .ok (.bl (!decide (c ∈ (codes t)))) S := pk1_eq (.inl ⟨c, t, rfl, rfl, by simp [codes]⟩) fun z h => by
  rcases h with ⟨c2, t2, e1, e2, e3⟩ | ⟨ds, h1, _⟩ | ⟨ds, h1, _⟩
  · cases e2
    have : c = c2 := by
      have e4 := congrArg (fun d => match d with | D.str x => x.cps | _ => #[]) e1
      simpa [chr1] using e4
    subst this
    simpa [codes] using e3
  · cases h1
  · cases h1
theorem k_inT {ds : List D} (h1 : flatD x = true) (h2 : ds.all flatD = true) : pk1 (fIn false S x (.tup ds)) S = .ok (.bl (inV (flV x) (ds.map flV))) S := pk1_eq (.inr (.inl ⟨ds, rfl, h1, h2, by simp⟩)) fun z h => by
  rcases h with ⟨c2, t2, e1, e2, e3⟩ | ⟨ds, h1, _, _, e⟩ | ⟨ds, h1, _⟩
  · cases e2
  · cases h1; simpa using e
  · cases h1
/-! ### texts of the laws -/
theorem chr1_inj {c c2 : Nat} (e1 : chr1 c = chr1 c2) : c = c2 := by
  have e4 := congrArg (fun d => match d with | D.str x => x.cps | _ => #[]) e1
  simpa [chr1] using e4
end
/-! ### tests of all items -/
@[simp] theorem k_allM {α : Type} {S : Store} {l : List α} {p : α → Bool} : pk1 (bAll S [.lst (l.map fun c => .bl (p c))]) S = .ok (.bl (l.all p)) S := by
  rw [k_all (bs := l.map p) (by simp)]; simp [List.all_map, Function.comp_def]
@[simp] theorem k_anyM {α : Type} {S : Store} {l : List α} {p : α → Bool} : pk1 (bAny S [.lst (l.map fun c => .bl (p c))]) S = .ok (.bl (l.any p)) S := by
  rw [k_any (bs := l.map p) (by simp)]; simp [List.any_map, Function.comp_def]
/-! ### isinstance -/
def isiR (o : Option Bool) (S : Store) : R D := match o with
  | some b => .ok (.bl b) S | none => .no
@[simp] theorem isiR_some {b : Bool} {S : Store} : isiR (some b) S = .ok (.bl b) S := rfl
def isi2R (o u : Option Bool) (S : Store) : R D := match o, u with
  | some a, some b => .ok (.bl (a || b)) S | _, _ => .no
@[simp] theorem isi2R_some {a b : Bool} {S : Store} : isi2R (some a) (some b) S = .ok (.bl (a || b)) S := rfl
theorem k_isiG {S : Store} {x : D} {n c : String} (h : tyD S x = some n) : pk1 (bIsi S [x, .ty c]) S = isiR (kitB n c) S := by
  cases q : kitB n c with
  | some b => exact k_isi h q
  | none =>
    show pk _ = R.no
    unfold pk
    rw [dif_neg]
    rintro ⟨⟨z, S'⟩, ⟨_, _, _, _, e, h3, h4, _⟩, _⟩
    cases e
    rw [h] at h3; cases h3; rw [q] at h4; cases h4
theorem k_isi2G {S : Store} {x : D} {n c1 c2 : String} {a b : Bool} (h : tyD S x = some n) (h1 : kitB n c1 = some a) (h2 : kitB n c2 = some b) : pk1 (fIsi2 c1 c2 S x) S = isi2R (kitB n c1) (kitB n c2) S := by
  rw [h1, h2]; exact k_isi2 h h1 h2
section
variable {S : Store} {c : String} {i : Int} {b : Bool} {a : Str} {es : List D}
@[simp] theorem k_isi_non : pk1 (bIsi S [.non, .ty c]) S = isiR (kitB "NoneType" c) S := k_isiG rfl
@[simp] theorem k_isi_bl : pk1 (bIsi S [.bl b, .ty c]) S = isiR (kitB "bool" c) S := k_isiG rfl
@[simp] theorem k_isi_int : pk1 (bIsi S [.int i, .ty c]) S = isiR (kitB "int" c) S := k_isiG rfl
@[simp] theorem k_isi_str : pk1 (bIsi S [.str a, .ty c]) S = isiR (kitB "str" c) S := k_isiG rfl
@[simp] theorem k_isi_tup : pk1 (bIsi S [.tup es, .ty c]) S = isiR (kitB "tuple" c) S := k_isiG rfl
@[simp] theorem k_isi_lst : pk1 (bIsi S [.lst es, .ty c]) S = isiR (kitB "list" c) S := k_isiG rfl
@[simp] theorem k_lt_non : pk1 (fIsi2 "list" "tuple" S .non) S = .ok (.bl false) S := k_isi2 (n := "NoneType") (b1 := false) (b2 := false) rfl (by simp) (by simp)
@[simp] theorem k_lt_bl : pk1 (fIsi2 "list" "tuple" S (.bl b)) S = .ok (.bl false) S := k_isi2 (n := "bool") (b1 := false) (b2 := false) rfl (by simp) (by simp)
@[simp] theorem k_lt_int : pk1 (fIsi2 "list" "tuple" S (.int i)) S = .ok (.bl false) S := k_isi2 (n := "int") (b1 := false) (b2 := false) rfl (by simp) (by simp)
@[simp] theorem k_lt_str : pk1 (fIsi2 "list" "tuple" S (.str a)) S = .ok (.bl false) S := k_isi2 (n := "str") (b1 := false) (b2 := false) rfl (by simp) (by simp)
@[simp] theorem k_lt_tup : pk1 (fIsi2 "list" "tuple" S (.tup es)) S = .ok (.bl true) S := k_isi2 (n := "tuple") (b1 := false) (b2 := true) rfl (by simp) (by simp)
@[simp] theorem k_lt_lst : pk1 (fIsi2 "list" "tuple" S (.lst es)) S = .ok (.bl true) S := k_isi2 (n := "list") (b1 := true) (b2 := false) rfl (by simp) (by simp)
end
def KindsOk (x : Str) : Prop := 2 ≤ x.length ∧ x.length ≤ 4 ∧ (codes x).Nodup ∧ ∀ c ∈ (codes x), 97 ≤ c ∧ c < 123
instance (x : Str) : Decidable (KindsOk x) := by unfold KindsOk; infer_instance
theorem mem_letters {c : Nat} : c ∈ codes (Str.ofString "abcdefghijklmnopqrstuvwxyz") ↔ 97 ≤ c ∧ c < 123 := by
  unfold codes
  rw [letters_cps, List.mem_range'_1]
def low (c : Nat) : Bool := decide (97 ≤ c ∧ c < 123)
theorem low_iff {c : Nat} : low c = true ↔ 97 ≤ c ∧ c < 123 := by simp [low]
/-- [one in SMALL for one in y] -/
theorem lc_low {i : Nat} {r0 : Sl} {S : Store} {y : Str} (hi : i < r0.length) : mLcL (mgName i) mYes (mOp (fIn false) (mVar i) (mC (.str "abcdefghijklmnopqrstuvwxyz"))) r0 ((codes y).map chr1) S = .ok ((codes y).map fun c => .bl (low c)) S :=
  lc_map chr1 (fun c => .bl (low c)) fun c hc => by
    simp [k_inC, hi]
    rw [Bool.eq_iff_iff]
    simp only [decide_eq_true_eq]
    rw [mem_letters, low_iff]
theorem KindsOk_iff {x : Str} : KindsOk x ↔ 2 ≤ x.length ∧ x.length ≤ 4 ∧ (codes x).Nodup ∧ (codes x).all low = true := by
  unfold KindsOk
  rw [List.all_eq_true]
  simp only [low_iff]
theorem strOk_of {x : Str} (h : ∀ c ∈ (codes x), c < 1114112) : PyData.strOk x = true := by
  unfold PyData.strOk
  rw [Array.all_eq_true]
  intro i hi
  exact decide_eq_true (h _ (by simp [codes]))
theorem KindsOk.str {x : Str} (h : KindsOk x) : PyData.strOk x = true := strOk_of fun c hc => by have := h.2.2.2 c hc; omega
theorem kindStr_ok {f s : Int} {k : Nat} (h0 : 0 ≤ f) (h1 : f < 26) (hs : s ∈ ([1, 3, 5, 7, 9, 11, 15, 25] : List Int)) (hk : 2 ≤ k) (hk4 : (k : Int) ≤ 4) : KindsOk (kindStr f s k) := by
  refine ⟨by rw [kindStr_len]; exact hk, by rw [kindStr_len]; omega, ?_, fun c hc => ?_⟩
  · show (kindCps f s k).Nodup
    unfold kindCps
    unfold List.Nodup
    rw [List.pairwise_map]
    refine List.Pairwise.imp_of_mem (R := fun a b => a ≠ b) (fun {t u} ht hu hne e => hne ?_) List.nodup_range
    have ht2 := List.mem_range.mp ht
    have hu2 := List.mem_range.mp hu
    have e1 := Int.emod_nonneg (f + s * (t : Nat)) (by omega : (26 : Int) ≠ 0)
    have e2 := Int.emod_nonneg (f + s * (u : Nat)) (by omega : (26 : Int) ≠ 0)
    have e3 : (f + s * (t : Nat)) % 26 = (f + s * (u : Nat)) % 26 := by omega
    simp only [List.mem_cons, List.not_mem_nil, or_false] at hs
    rcases hs with rfl | rfl | rfl | rfl | rfl | rfl | rfl | rfl <;> omega
  · have hc2 : c ∈ kindCps f s k := hc
    unfold kindCps at hc2
    obtain ⟨t, _, rfl⟩ := List.mem_map.mp hc2
    have e1 := Int.emod_nonneg (f + s * (t : Nat)) (by omega : (26 : Int) ≠ 0)
    have e2 := Int.emod_lt_of_pos (f + s * (t : Nat)) (by omega : (0 : Int) < 26)
    omega
/-- a bag of n kinds -/
def isBag (n : Nat) : D → Bool
  | .tup es => decide (es.length = n) && es.all fun d => match d with
    | .int c => decide (0 ≤ c) | _ => false
  | _ => false
theorem isBag_ints {n : Nat} {cs : List Int} : isBag n (.tup (cs.map D.int)) = true ↔ cs.length = n ∧ ∀ c ∈ cs, 0 ≤ c := by simp [isBag]
theorem isBag_ex {n : Nat} {d : D} (h : isBag n d = true) : ∃ cs : List Int, d = .tup (cs.map D.int) ∧ cs.length = n ∧ ∀ c ∈ cs, 0 ≤ c := by
  cases d with
  | tup es =>
    simp only [isBag, Bool.and_eq_true, decide_eq_true_eq, List.all_eq_true] at h
    obtain ⟨h1, h2⟩ := h
    subst h1
    induction es with
    | nil => exact ⟨[], rfl, rfl, by simp⟩
    | cons d es ih =>
      have hd := h2 d List.mem_cons_self
      cases d with
      | int c =>
        obtain ⟨cs, e, hl, hp⟩ := ih fun z hz => h2 z (List.mem_cons_of_mem _ hz)
        cases e
        refine ⟨c :: cs, rfl, by simp, fun z hz => ?_⟩
        rcases List.mem_cons.mp hz with rfl | hz
        · simpa using hd
        · exact hp z hz
      | _ => cases hd
  | _ => cases h
/-! ### the first place of a sign -/
theorem idx_one {x : Str} {k c : Nat} (h : (codes x)[k]? = some c) : ∃ i r, Builtin.Str.occurrences x ⟨#[c]⟩ 0 x.length 1 = i :: r ∧ (codes x)[i]? = some c ∧ i ≤ k ∧ ∀ m, m < i → (codes x)[m]? ≠ some c := by
  rcases StrLaws.occ_head x ⟨#[c]⟩ 1 (Nat.le_refl _) with ⟨_, hn⟩ | ⟨i, r, e, ha, hn⟩
  · exact absurd ((StrLaws.subAt_one x c k).mpr h) (hn k)
  · have hi := (StrLaws.subAt_one x c i).mp ha
    have hm : ∀ m, m < i → (codes x)[m]? ≠ some c := fun m hm z => hn m hm ((StrLaws.subAt_one x c m).mpr z)
    exact ⟨i, r, e, hi, Nat.le_of_not_lt fun z => hm k z h, hm⟩
/-- x.index(one) of a sign of x: its first place -/
theorem k_index {S : Store} {x : Str} {k c : Nat} (h : (codes x)[k]? = some c) : pk (mfIndex S (.str x) [chr1 c]) = .ok (.int (((codes x).idxOf c : Nat) : Int)) S := by
  obtain ⟨i, r, e, hi, hik, hm⟩ := idx_one h
  have e2 : (codes x).idxOf c = i := by
    have hmem : c ∈ (codes x) := List.mem_of_getElem? h
    have h1 := List.idxOf_lt_length_iff.mpr hmem
    have h2 : (codes x)[(codes x).idxOf c]? = some c := by rw [List.getElem?_eq_getElem h1, List.getElem_idxOf h1]
    rcases Nat.lt_trichotomy ((codes x).idxOf c) i with h3 | h3 | h3
    · exact absurd h2 (hm _ h3)
    · exact h3
    · exfalso
      obtain ⟨hl, hg⟩ := List.getElem?_eq_some_iff.mp hi
      have := List.not_of_lt_findIdx h3
      simp [hg] at this
  rw [e2]
  refine pk_eq ⟨x, ⟨#[c]⟩, i, r, rfl, rfl, e, rfl, rfl⟩ fun z S' ⟨a, b, j, r2, e3, e4, e5, e6, e7⟩ => ?_
  cases e3
  have e8 : (⟨#[c]⟩ : Str) = b := by
    have := e4
    simp only [chr1, List.cons.injEq, D.str.injEq, and_true] at this
    exact this
  subst e8
  rw [e] at e5
  cases e5
  exact ⟨e6, e7⟩
theorem enumX_eq (x : Str) : enumX x = (codes x).zipIdx.map fun p => .tup [.int ((p.2 : Nat) : Int), chr1 p.1] := rfl
/-- each sign stands at its first place: no sign stands twice -/
theorem nodup_idx {l : List Nat} : (l.zipIdx.all fun p => decide (l.idxOf p.1 = p.2)) = true ↔ l.Nodup := by
  rw [List.all_eq_true]
  unfold List.Nodup
  rw [List.pairwise_iff_getElem]
  constructor
  · intro h i j hi hj hij e
    have h1 := h (l[i], i) (List.mem_zipIdx_iff_getElem?.mpr (List.getElem?_eq_getElem hi))
    have h2 := h (l[j], j) (List.mem_zipIdx_iff_getElem?.mpr (List.getElem?_eq_getElem hj))
    simp only [decide_eq_true_eq] at h1 h2
    rw [e] at h1
    omega
  · rintro h ⟨c, i⟩ hp
    have hi := List.mem_zipIdx_iff_getElem?.mp hp
    simp only at hi
    obtain ⟨hl, hg⟩ := List.getElem?_eq_some_iff.mp hi
    have h1 : l.idxOf c < l.length := List.idxOf_lt_length_iff.mpr (List.mem_of_getElem? hi)
    have h2 := List.getElem_idxOf h1
    simp only [decide_eq_true_eq]
    rcases Nat.lt_trichotomy (l.idxOf c) i with h3 | h3 | h3
    · exact absurd (h2.trans hg.symm) (h _ _ h1 hl h3)
    · exact h3
    · exact absurd (hg.trans h2.symm) (h _ _ hl h1 h3)
end DL
namespace DL
open PySem PySem.Spec PyProof.Rows L2
@[simp] theorem ofString_inj {a b : String} : (Str.ofString a = Str.ofString b) = (a = b) := by
  refine propext ⟨fun h => ?_, fun h => by rw [h]⟩
  have h1 : (a.toList.map fun c => c.toNat) = (b.toList.map fun c => c.toNat) := by
    have := congrArg (fun x : Str => x.cps.toList) h
    simpa [Str.ofString_eq_toList] using this
  have h2 : a.toList = b.toList := (List.map_inj_right fun x y e => by
    have : x.val = y.val := by
      apply UInt32.toNat_inj.mp
      exact e
    exact Char.ext this).mp h1
  exact String.toList_inj.mp h2
@[simp] theorem ofString_beq {a b : String} : (Str.ofString a == Str.ofString b) = decide (a = b) := by
  rw [Bool.eq_iff_iff]; simp
section
variable {r : Sl} {S : Store} {t u : ME} {ta tb : MA} {m f C : Str} {n : Nat} {tbl : List (Str × MF2)} {fl ns : List Str} {ds es : List D} {mf : MF2} {o : O} {d : D}
/-- a method's call, the receiver known -/
def methR (m : Str) (n : Nat) (tbl : List (Str × MF2)) (o : D) (i : Option (Str × List Str × List D)) (k : R (List D × List D)) : R D := match i with
  | some (C, ns, _) => if ns.contains m then .no else match tbl.lookup C with
    | some mf => k.bind fun p S3 => if p.2.length = n then mf (o :: p.1) p.2 S3 else .no
    | none => .no
  | none => .no
def argsR (a : R (List D)) (b : Store → R (List D)) : R (List D × List D) := a.bind fun ds S2 => (b S2).bind fun es S3 => .ok (ds, es) S3
@[simp] theorem argsR_ok {b : Store → R (List D)} : argsR (.ok ds S) b = (b S).bind fun es S3 => .ok (ds, es) S3 := rfl
theorem mMeth_eq : mMeth m n tbl t ta tb r S = (t r S).bind fun o S1 => methR m n tbl o (insD S1 o) (argsR (ta r S1) (tb r)) := by
  unfold mMeth methR argsR
  congr
  funext o S1
  rcases insD S1 o with _ | ⟨C, ns, x⟩
  · rfl
  · dsimp only
    by_cases h : ns.contains m = true
    · rw [if_pos h, if_pos h]
    · rw [if_neg h, if_neg h]
      cases tbl.lookup C with
      | none => rfl
      | some mf =>
        dsimp only
        cases ta r S1 with
        | ok ds S2 => simp only [R.bind_ok]; cases tb r S2 <;> rfl
        | _ => rfl
@[simp] theorem mMeth_rd : mMeth m n tbl t ta tb r S = (t r S).bind fun o S1 => methR m n tbl o (insD S1 o) (argsR (ta r S1) (tb r)) := mMeth_eq
theorem methR_at {k : R (List D × List D)} (h1 : ns.contains m = false) (h2 : tbl.lookup C = some mf) : methR m n tbl d (some (C, ns, ds)) k = k.bind fun p S3 => if p.2.length = n then mf (d :: p.1) p.2 S3 else .no := by
  unfold methR; simp only [h1, h2]; rfl
@[simp] theorem insD_obj : insD S (.obj C ns ds) = some (C, ns, ds) := rfl
theorem insD_ref {k : Nat} (h : S[k]? = some (.ins C ns ds)) : insD S (.ref k) = some (C, ns, ds) := by simp [insD, h]
def attrR (f : Str) (fl : List Str) (tbl : List (Str × MF2)) (o : D) (i : Option (Str × List Str × List D)) (S1 : Store) : R D := match i with
  | some (C, ns, ds) => match tbl.lookup C with
    | some mf => (mf [o] [] S1).nox
    | none => if fl.contains C then (match (ns.zip ds).lookup f with
      | some d => .ok d S1
      | none => .no) else .no
  | none => .no
@[simp] theorem mAttr_rd : mAttr f fl tbl t r S = (t r S).bind fun o S1 => attrR f fl tbl o (insD S1 o) S1 := rfl
theorem attrR_fld {y : D} (h0 : tbl.lookup C = none) (h1 : fl.contains C = true) (h2 : (ns.zip ds).lookup f = some y) : attrR f fl tbl d (some (C, ns, ds)) S = .ok y S := by
  unfold attrR; simp only [h0, h1, h2]; rfl
theorem attrR_prop (h0 : tbl.lookup C = some mf) : attrR f fl tbl d (some (C, ns, ds)) S = (mf [d] [] S).nox := by
  unfold attrR; simp only [h0]
def fldR (f : Str) (fl : List Str) (y : D) (o : D) (r : Sl) (S2 : Store) : Fl := match o with
  | .ref n => match S2[n]? with
    | some (.ins C ns ds) => if fl.contains C = true ∧ ns.length < 1000 then .nx r (S2.set n (.ins C (putD f y ns ds).1 (putD f y ns ds).2)) else .no
    | _ => .no
  | _ => .no
@[simp] theorem mFld_rd : mFld f fl t u r S = (u r S).fl r fun y S1 => (t r S1).fl r fun o S2 => fldR f fl y o r S2 := rfl
theorem fldR_at {k : Nat} {y : D} (h : S[k]? = some (.ins C ns ds)) (h1 : fl.contains C = true) (h2 : ns.length < 1000) : fldR f fl y (.ref k) r S = .nx r (S.set k (.ins C (putD f y ns ds).1 (putD f y ns ds).2)) := by
  unfold fldR; simp only [h, h1, h2]; simp
/-- at the store's end -/
theorem fldR_end {y : D} (h1 : fl.contains C = true) (h2 : ns.length < 1000) : fldR f fl y (.ref S.length) r (S ++ [.ins C ns ds]) = .nx r (S ++ [.ins C (putD f y ns ds).1 (putD f y ns ds).2]) := by
  rw [fldR_at (C := C) (ns := ns) (ds := ds) (by simp) h1 h2]
  simp [List.set_append_right]
@[simp] theorem mMake_rd {fz : Bool} : mMake C fz n mf ta tb r S = (ta r S).bind fun ds S2 => (tb r S2).bind fun es S3 => if es.length = n then mkR C fz mf ds es S3 else .no := rfl
@[simp] theorem mCm_rd : mCm C n mf ta tb r S = (ta r S).bind fun ds S2 => (tb r S2).bind fun es S3 => if es.length = n then mf (.adr C :: ds) es S3 else .no := rfl
@[simp] theorem mMakeV_rd {fz : Bool} {i : Nat} : mMakeV i C fz n mf ta tb r S = (vr r[i]? S).bind fun c S1 => match c with
  | .adr C' => if C' = C then mMake C fz n mf ta tb r S1 else .no
  | _ => .no := by
  unfold mMakeV vr
  rcases r[i]? with _ | (_ | d)
  · rfl
  · rfl
  · cases d <;> rfl
def starR (o : Option (List D)) (k : R (List D)) : R (List D) := match o with
  | some xs => k.bind fun ys S2 => .ok (xs ++ ys) S2
  | none => .no
@[simp] theorem starR_some {xs : List D} {k : R (List D)} : starR (some xs) k = k.bind fun ys S2 => .ok (xs ++ ys) S2 := rfl
@[simp] theorem mStar_rd : mStar t ta r S = (t r S).bind fun d S1 => starR (sqOf S1 d) (ta r S1) := rfl
@[simp] theorem sqOf_tup : sqOf S (.tup ds) = some ds := rfl
@[simp] theorem sqOf_lst : sqOf S (.lst ds) = some ds := rfl
/-- made and standing still -/
theorem mkR_ok (h : mf (.ref S.length :: ds) es (S ++ [.ins C [] []]) = .ok .non (S ++ [.ins C ns fs])) (h2 : rlts S.length fs = true) : mkR C true mf ds es S = .ok (.obj C ns fs) S := by
  unfold mkR
  rw [if_pos rfl, h]
  exact exit_rt (Left.all S _) (.ins (Nat.le_refl _) (by simp) h2)
theorem mkR_ex {x : Xc} {u : O} (h : mf (.ref S.length :: ds) es (S ++ [.ins C [] []]) = .ex x (S ++ [u])) (h2 : rlts S.length x.ds = true) : mkR C true mf ds es S = .ex x S := by
  unfold mkR
  rw [if_pos rfl, h]
  exact exit_ex (Left.all S _) h2
theorem k_zipG {x y : D} {xs ys : List D} (h1 : sqD S x = some xs) (h2 : sqD S y = some ys) : pk1 (fZipG S [x, y]) S = .ok (zipD xs ys) S := pk1_eq ⟨x, y, xs, ys, rfl, h1, h2, rfl⟩ fun z ⟨_, _, _, _, e, h3, h4, e2⟩ => by
  cases e; rw [h1] at h3; cases h3; rw [h2] at h4; cases h4; exact e2
theorem zipD_ints (xs ys : List Int) : zipD (xs.map D.int) (ys.map D.int) = (xs.zip ys).map fun p => .tup [.int p.1, .int p.2] := by
  unfold zipD
  rw [List.zip_map, List.map_map]; rfl
end
/-- a loop that seeks -/
def fndR {α : Type} (o : Option α) (e : α → Xc) (re : α → Sl) (r : Sl) (S : Store) : Fl := match o with
  | some x => .ex (e x) (re x) S
  | none => .nx r S
@[simp] theorem fndR_some {α : Type} {x : α} {e : α → Xc} {re : α → Sl} {r : Sl} {S : Store} : fndR (some x) e re r S = .ex (e x) (re x) S := rfl
@[simp] theorem fndR_none {α : Type} {e : α → Xc} {re : α → Sl} {r : Sl} {S : Store} : fndR none e re r S = .nx r S := rfl
theorem for_find {α : Type} {g : MG} {b : MS} {r : Sl} {S : Store} (en : α → D) (p : α → Bool) (e : α → Xc) (re : α → Sl) {xs : List α} (h : ∀ x ∈ xs, turnR (g (en x) r S) b = if p x = true then .ex (e x) (re x) S else .nx r S) :
    mForL g b (xs.map en) r S = fndR (xs.find? p) e re r S := by
  induction xs with
  | nil => rfl
  | cons x xs ih =>
    rw [List.map_cons, mForL_cons, h x List.mem_cons_self, List.find?_cons]
    cases q : p x with
    | true => simp
    | false =>
      simp only [Bool.false_eq_true, if_false, Fl.again_nx]
      exact ih fun y hy => h y (List.mem_cons_of_mem _ hy)
/-! ### bags as data -/
abbrev bagD (cs : List Int) : D := .tup (cs.map D.int)
/-- the sum of the products -/
def dot (xs ys : List Int) : Int := ((xs.zip ys).map fun p => p.1 * p.2).sum
@[simp] theorem dot_nil_l {ys : List Int} : dot [] ys = 0 := rfl
@[simp] theorem dot_nil_r {xs : List Int} : dot xs [] = 0 := by cases xs <;> rfl
@[simp] theorem dot_cons {x y : Int} {xs ys : List Int} : dot (x :: xs) (y :: ys) = x * y + dot xs ys := by simp [dot]
theorem dot_nonneg : ∀ {xs ys : List Int}, (∀ x ∈ xs, 0 ≤ x) → (∀ y ∈ ys, 0 ≤ y) → 0 ≤ dot xs ys
  | [], _, _, _ => by simp
  | _ :: _, [], _, _ => by simp
  | x :: xs, y :: ys, h1, h2 => by
    rw [dot_cons]
    have := dot_nonneg (xs := xs) (ys := ys) (fun z hz => h1 z (List.mem_cons_of_mem _ hz)) (fun z hz => h2 z (List.mem_cons_of_mem _ hz))
    have := Int.mul_nonneg (h1 x List.mem_cons_self) (h2 y List.mem_cons_self)
    omega
def xIT (i : Nat) : Xc := ⟨"InvalidTurn", xns ["index"], [.str "InvalidTurn", .int (i : Nat)]⟩
/-- the first exchange that is no bag -/
def badP (n : Nat) (rows : List D) (i : Nat) : Bool := decide (n ≤ i) || (decide (rows.length ≤ i) || !isBag n (rows.getD i .non))
def badAt (n : Nat) (rows : List D) : Option Nat := (List.range (max rows.length n)).find? (badP n rows)
theorem badAt_none {n : Nat} {rows : List D} (h : rows.length = n) (h2 : ∀ d ∈ rows, isBag n d = true) : badAt n rows = none := by
  unfold badAt
  rw [List.find?_eq_none]
  intro i hi
  rw [List.mem_range] at hi
  have hi2 : i < n := by omega
  have hi3 : i < rows.length := by omega
  simp only [badP, Bool.or_eq_true, decide_eq_true_eq, Bool.not_eq_true', not_or]
  refine ⟨by omega, by omega, ?_⟩
  rw [List.getD_eq_getElem?_getD, List.getElem?_eq_getElem hi3]
  simp [h2 _ (List.getElem_mem hi3)]
abbrev tns : List Str := ["signs", "lines", "added", "told"]
abbrev turnD (a : Str) (rows : List D) (ex : D) : D := .obj "Turn" tns [.str a, .tup rows, ex, .tup [.str a, .tup rows, ex]]
/-- the turned bag, without the extra -/
def spr (n : Nat) (rows : List (List Int)) (bs : List Int) : List Int := (List.range n).map fun k => dot bs (rows.map fun row => row.getD k 0)
theorem spr_len {n : Nat} {rows : List (List Int)} {bs : List Int} : (spr n rows bs).length = n := by simp [spr]
def apd (n : Nat) (rows : List (List Int)) (ex bs : List Int) : List Int := List.zipWith (· + ·) (spr n rows bs) ex
theorem apd_len {n : Nat} {rows : List (List Int)} {ex bs : List Int} (h : ex.length = n) : (apd n rows ex bs).length = n := by simp [apd, spr_len, h]
theorem apd_nonneg {n : Nat} {rows : List (List Int)} {ex bs : List Int} (h1 : ∀ r ∈ rows, ∀ c ∈ r, 0 ≤ c) (h2 : ∀ c ∈ ex, 0 ≤ c) (h3 : ∀ c ∈ bs, 0 ≤ c) : ∀ c ∈ apd n rows ex bs, 0 ≤ c := by
  intro c hc
  unfold apd at hc
  obtain ⟨i, hi, e⟩ := List.getElem_of_mem hc
  rw [List.getElem_zipWith] at e
  have a1 : 0 ≤ (spr n rows bs)[i]'(by simp at hi; omega) := by
    simp only [spr, List.getElem_map, List.getElem_range]
    refine dot_nonneg h3 fun y hy => ?_
    obtain ⟨row, hr, rfl⟩ := List.mem_map.mp hy
    rw [List.getD_eq_getElem?_getD]
    cases q : row[i]? with
    | none => simp
    | some z => exact h1 row hr z (List.mem_of_getElem? q)
  have a2 : 0 ≤ ex[i]'(by simp at hi; omega) := h2 _ (List.getElem_mem _)
  omega
/-- Turn(a, *rows, extra=ex) -/
def zer (n : Nat) : D := bagD (List.replicate n 0)
def exOf (n : Nat) (ex : D) : D := if isNon ex = true then zer n else ex
def xIK : Xc := ⟨"InvalidKinds", xns [], [.str "InvalidKinds"]⟩
def xIB : Xc := ⟨"InvalidBag", xns [], [.str "InvalidBag"]⟩
def turnMk (a : Str) (rows : List D) (ex : D) (S : Store) : R D :=
  if KindsOk a then (match badAt a.length rows with
    | some i => .ex (xIT i) S
    | none => if isBag a.length (exOf a.length ex) = true then .ok (turnD a rows (exOf a.length ex)) S else .ex xIB S)
  else .ex xIK S
mutual
theorem rlt_wd (m : Nat) : ∀ (n : Nat) (d : D), wd n d = true → rlt m d = true
  | 0, d, h => by cases d <;> simp_all [wd, rlt]
  | n + 1, .tup ds, h => by
    simp [wd] at h
    simp only [rlt]
    exact rlts_wd m n ds (fun d hd => h.2 d hd)
  | n + 1, .lst ds, h => by
    simp [wd] at h
    simp only [rlt]
    exact rlts_wd m n ds (fun d hd => h.2 d hd)
  | n + 1, .non, h => by simp [rlt]
  | n + 1, .bl _, h => by simp [rlt]
  | n + 1, .int _, h => by simp [rlt]
  | n + 1, .str _, h => by simp [rlt]
  | n + 1, .fz _, h => by simp [wd] at h
  | n + 1, .obj _ _ _, h => by simp [wd] at h
  | n + 1, .ref _, h => by simp [wd] at h
  | n + 1, .adr _, h => by simp [rlt]
  | n + 1, .ty _, h => by simp [rlt]
theorem rlts_wd (m : Nat) : ∀ (n : Nat) (ds : List D), (∀ d ∈ ds, wd n d = true) → rlts m ds = true
  | _, [], _ => by simp [rlts]
  | n, d :: ds, h => by
    simp only [rlts, Bool.and_eq_true]
    exact ⟨rlt_wd m n d (h d List.mem_cons_self), rlts_wd m n ds fun e he => h e (List.mem_cons_of_mem _ he)⟩
end
/-! ### looks -/
def lookZ (x b p : Int) : Int := if x < b + p then x else b + (x - b) % p
/-- what one look does not tell apart -/
def Cg (B P x y : Int) : Prop := x = y ∨ (B ≤ x ∧ B ≤ y ∧ P ∣ x - y)
theorem Cg.refl (B P x : Int) : Cg B P x x := .inl rfl
theorem Cg.symm {B P x y : Int} (h : Cg B P x y) : Cg B P y x := by
  rcases h with h | ⟨h1, h2, h3⟩
  · exact .inl h.symm
  · exact .inr ⟨h2, h1, by rw [← Int.neg_sub]; exact Int.dvd_neg.mpr h3⟩
theorem Cg.trans {B P x y z : Int} (h : Cg B P x y) (h' : Cg B P y z) : Cg B P x z := by
  rcases h with rfl | ⟨h1, h2, h3⟩
  · exact h'
  · rcases h' with rfl | ⟨h4, h5, h6⟩
    · exact .inr ⟨h1, h2, h3⟩
    · refine .inr ⟨h1, h5, ?_⟩
      have : x - z = (x - y) + (y - z) := by omega
      rw [this]; exact Int.dvd_add h3 h6
theorem Cg.add {B P x y z w : Int} (h0 : 0 ≤ x ∧ 0 ≤ y ∧ 0 ≤ z ∧ 0 ≤ w) (h : Cg B P x y) (h' : Cg B P z w) : Cg B P (x + z) (y + w) := by
  have a1 : Cg B P (x + z) (y + z) := by
    rcases h with rfl | ⟨h1, h2, h3⟩
    · exact .inl rfl
    · exact .inr ⟨by omega, by omega, by rw [show x + z - (y + z) = x - y by omega]; exact h3⟩
  have a2 : Cg B P (y + z) (y + w) := by
    rcases h' with rfl | ⟨h1, h2, h3⟩
    · exact .inl rfl
    · exact .inr ⟨by omega, by omega, by rw [show y + z - (y + w) = z - w by omega]; exact h3⟩
  exact a1.trans a2
theorem Cg.mul {B P x y r : Int} (hr : 0 ≤ r) (hx : 0 ≤ x) (hy : 0 ≤ y) (h : Cg B P x y) : Cg B P (x * r) (y * r) := by
  rcases h with rfl | ⟨h1, h2, h3⟩
  · exact .inl rfl
  · by_cases h0 : r = 0
    · subst h0; exact .inl (by simp)
    · have a1 : x ≤ x * r := by have := Int.mul_le_mul_of_nonneg_left (show (1 : Int) ≤ r by omega) hx; omega
      have a2 : y ≤ y * r := by have := Int.mul_le_mul_of_nonneg_left (show (1 : Int) ≤ r by omega) hy; omega
      refine .inr ⟨by omega, by omega, ?_⟩
      rw [← Int.sub_mul]; exact Int.dvd_mul_of_dvd_left h3
theorem lookZ_cg {B P x : Int} (hP : 0 < P) (hB : 0 ≤ B) (hx : 0 ≤ x) : Cg B P (lookZ x B P) x ∧ 0 ≤ lookZ x B P := by
  unfold lookZ
  split
  · exact ⟨.inl rfl, hx⟩
  · have h1 := Int.emod_nonneg (x - B) (by omega : P ≠ 0)
    refine ⟨.inr ⟨by omega, by omega, ?_⟩, by omega⟩
    have h2 := Int.mul_ediv_add_emod (x - B) P
    have h3 : B + (x - B) % P - x = P * (-((x - B) / P)) := by rw [Int.mul_neg]; omega
    rw [h3]; exact Int.dvd_mul_right ..
theorem lookZ_eq {B P x y : Int} (hP : 0 < P) (h : Cg B P x y) : lookZ x B P = lookZ y B P := by
  rcases h with rfl | ⟨h1, h2, h3⟩
  · rfl
  · have e : (x - B) % P = (y - B) % P := by
      rw [Int.emod_eq_emod_iff_emod_sub_eq_zero]
      refine Int.emod_eq_zero_of_dvd ?_
      rw [show x - B - (y - B) = x - y by omega]; exact h3
    unfold lookZ
    by_cases hx : x < B + P
    · have ex : (x - B) % P = x - B := Int.emod_eq_of_lt (by omega) (by omega)
      by_cases hy : y < B + P
      · have ey : (y - B) % P = y - B := Int.emod_eq_of_lt (by omega) (by omega)
        rw [if_pos hx, if_pos hy]; omega
      · rw [if_pos hx, if_neg hy]; omega
    · by_cases hy : y < B + P
      · have ey : (y - B) % P = y - B := Int.emod_eq_of_lt (by omega) (by omega)
        rw [if_neg hx, if_pos hy]; omega
      · rw [if_neg hx, if_neg hy]; omega
/-- the same look, place by place -/
def CgL (B P : Int) (xs ys : List Int) : Prop := xs.length = ys.length ∧ ∀ p ∈ xs.zip ys, Cg B P p.1 p.2
theorem CgL.looks {B P : Int} (hP : 0 < P) : ∀ {xs ys : List Int}, CgL B P xs ys → xs.map (fun c => lookZ c B P) = ys.map (fun c => lookZ c B P)
  | [], [], _ => rfl
  | [], _ :: _, h => by simp [CgL] at h
  | _ :: _, [], h => by simp [CgL] at h
  | x :: xs, y :: ys, ⟨h1, h2⟩ => by
    simp only [List.map_cons]
    rw [lookZ_eq hP (h2 (x, y) (by simp)), CgL.looks hP (xs := xs) (ys := ys) ⟨by simpa using h1, fun p hp => h2 p (by simp [hp])⟩]
theorem CgL.dot {B P : Int} : ∀ {xs ys zs : List Int}, CgL B P xs ys → (∀ x ∈ xs, 0 ≤ x) → (∀ y ∈ ys, 0 ≤ y) → (∀ z ∈ zs, 0 ≤ z) → Cg B P (dot xs zs) (dot ys zs)
  | [], [], zs, _, _, _, _ => .inl rfl
  | [], _ :: _, _, h, _, _, _ => by simp [CgL] at h
  | _ :: _, [], _, h, _, _, _ => by simp [CgL] at h
  | x :: xs, y :: ys, [], _, _, _, _ => .inl (by simp)
  | x :: xs, y :: ys, z :: zs, ⟨h1, h2⟩, a, b, c => by
    rw [dot_cons, dot_cons]
    have hx := a x List.mem_cons_self
    have hy := b y List.mem_cons_self
    have hz := c z List.mem_cons_self
    have a' : ∀ x ∈ xs, 0 ≤ x := fun q hq => a q (List.mem_cons_of_mem _ hq)
    have b' : ∀ x ∈ ys, 0 ≤ x := fun q hq => b q (List.mem_cons_of_mem _ hq)
    have c' : ∀ x ∈ zs, 0 ≤ x := fun q hq => c q (List.mem_cons_of_mem _ hq)
    exact Cg.add ⟨Int.mul_nonneg hx hz, Int.mul_nonneg hy hz, dot_nonneg a' c', dot_nonneg b' c'⟩ (Cg.mul hz hx hy (h2 (x, y) (by simp))) (CgL.dot ⟨by simpa using h1, fun p hp => h2 p (by simp [hp])⟩ a' b' c')
theorem CgL.apd {B P : Int} {n : Nat} {rows : List (List Int)} {ex xs ys : List Int} (h : CgL B P xs ys) (hx : ∀ x ∈ xs, 0 ≤ x) (hy : ∀ y ∈ ys, 0 ≤ y) (h1 : ∀ r ∈ rows, ∀ c ∈ r, 0 ≤ c) (h2 : ∀ c ∈ ex, 0 ≤ c) : CgL B P (apd n rows ex xs) (apd n rows ex ys) := by
  refine ⟨by simp [DL.apd, spr_len], fun p hp => ?_⟩
  obtain ⟨i, hi, e⟩ := List.getElem_of_mem hp
  simp only [List.length_zip, DL.apd, List.length_zipWith, spr_len] at hi
  rw [List.getElem_zip] at e
  simp only [DL.apd, List.getElem_zipWith, spr, List.getElem_map, List.getElem_range] at e
  have nz : ∀ z ∈ rows.map (fun row => row.getD i 0), 0 ≤ z := fun z hz => by
    obtain ⟨row, hr, rfl⟩ := List.mem_map.mp hz
    rw [List.getD_eq_getElem?_getD]
    cases q : row[i]? with
    | none => simp
    | some z => exact h1 row hr z (List.mem_of_getElem? q)
  have he : 0 ≤ ex[i]'(by omega) := h2 _ (List.getElem_mem _)
  rw [← e]
  exact Cg.add ⟨dot_nonneg hx nz, dot_nonneg hy nz, he, he⟩ (CgL.dot h hx hy nz) (.refl ..)
theorem CgL.look {B P : Int} (hP : 0 < P) (hB : 0 ≤ B) : ∀ {xs : List Int}, (∀ x ∈ xs, 0 ≤ x) → CgL B P (xs.map fun c => lookZ c B P) xs ∧ ∀ c ∈ xs.map (fun c => lookZ c B P), 0 ≤ c
  | [], _ => ⟨⟨rfl, by simp⟩, by simp⟩
  | x :: xs, h => by
    obtain ⟨⟨h1, h2⟩, h3⟩ := CgL.look hP hB (xs := xs) fun c hc => h c (List.mem_cons_of_mem _ hc)
    obtain ⟨h4, h5⟩ := lookZ_cg hP hB (h x List.mem_cons_self)
    refine ⟨⟨by simp, fun p hp => ?_⟩, fun c hc => ?_⟩
    · simp only [List.map_cons, List.zip_cons_cons, List.mem_cons] at hp
      rcases hp with rfl | hp
      · exact h4
      · exact h2 p hp
    · simp only [List.map_cons, List.mem_cons] at hc
      rcases hc with rfl | hc
      · exact h5
      · exact h3 c hc
/-! ### loops, counted -/
theorem for_ix {g : MG} {b : MS} {ds : List D} {r : Sl} {S : Store} {L : Fl} (hL : mForL g b ds r S = L) (P : Nat → Sl → Store → Prop) (h0 : P 0 r S) (h : ∀ (i : Nat) (hi : i < ds.length), ∀ r S, P i r S → ∃ r' S', turnR (g ds[i] r S) b = .nx r' S' ∧ P (i + 1) r' S') : ∃ r' S', L = .nx r' S' ∧ P ds.length r' S' := by
  subst hL
  have key : ∀ (k : Nat), k ≤ ds.length → ∀ r S, P (ds.length - k) r S → ∃ r' S', mForL g b (ds.drop (ds.length - k)) r S = .nx r' S' ∧ P ds.length r' S' := by
    intro k
    induction k with
    | zero => intro _ r S hp; exact ⟨r, S, by simp, by simpa using hp⟩
    | succ k ih =>
      intro hk r S hp
      have hi : ds.length - (k + 1) < ds.length := by omega
      obtain ⟨r1, S1, e, hp1⟩ := h _ hi r S hp
      have e2 : ds.length - (k + 1) + 1 = ds.length - k := by omega
      rw [e2] at hp1
      obtain ⟨r2, S2, e3, hp2⟩ := ih (by omega) r1 S1 hp1
      refine ⟨r2, S2, ?_, hp2⟩
      rw [List.drop_eq_getElem_cons hi, mForL_cons, e, e2]
      exact e3
  have := key ds.length (Nat.le_refl _) r S (by simpa using h0)
  simpa using this
/-- one item of a kind -/
def unitB (n : Nat) (k : Nat) : List Int := (List.range n).map fun i => if i = k then 1 else 0
theorem unitB_len {n k : Nat} : (unitB n k).length = n := by simp [unitB]
theorem unitB_pos {n k : Nat} : ∀ c ∈ unitB n k, 0 ≤ c ∧ c ≤ 1 := by
  intro c hc
  obtain ⟨i, _, rfl⟩ := List.mem_map.mp hc
  split <;> omega
end DL
namespace DL
open PySem PySem.Spec PyProof.Rows L2
section
variable {r : Sl} {S : Store} {t u v : ME} {ta : MA} {p : MT} {x y d : D} {C : Str} {ns : List Str} {ds es : List D} {neg : Bool} {owns : List Str} {tbl : List (Str × MF2)} {mf : MF2} {a b : Str} {kvs : List (Key × D)} {k : Key}
@[simp] theorem mEqO_rd : mEqO neg owns tbl t u r S = (t r S).bind fun x S1 => (u r S1).bind fun y S2 => eqO neg owns tbl x y S2 := rfl
theorem eqO_obj (h : insD S x = some (C, ns, ds)) (h1 : tbl.lookup C = some mf) (h2 : eqOkY owns S y = true) : eqO neg owns tbl x y S = notB neg (mf [x, y] [] S) := by
  unfold eqO; simp only [h, h1, h2, if_true]
theorem eqO_obj' {ns : List Str} {ds : List D} (h1 : tbl.lookup C = some mf) (h2 : eqOkY owns S y = true) : eqO neg owns tbl (.obj C ns ds) y S = notB neg (mf [.obj C ns ds, y] [] S) := eqO_obj rfl h1 h2
@[simp] theorem notB_ok {b : Bool} : notB neg (.ok (.bl b) S) = .ok (.bl (if neg = true then !b else b)) S := rfl
@[simp] theorem mBinO_rd {f : Store → D → D → D → Prop} : mBinO tbl f t u r S = (t r S).bind fun x S1 => (u r S1).bind fun y S2 => binO tbl f x y S2 := rfl
theorem binO_obj {f : Store → D → D → D → Prop} {ns1 ns2 : List Str} {ds1 ds2 : List D} (h1 : tbl.lookup C = some mf) : binO tbl f (.obj C ns1 ds1) (.obj C ns2 ds2) S = mf [.obj C ns1 ds1, .obj C ns2 ds2] [] S := by
  unfold binO; simp [h1]
@[simp] theorem mDGet_rd : mDGet t u r S = (t r S).bind fun d S1 => (u r S1).bind fun y S2 => getR d y S2 := rfl
@[simp] theorem mDIn_rd : mDIn neg t u r S = (t r S).bind fun y S1 => (u r S1).bind fun d S2 => inR neg y d S2 := rfl
@[simp] theorem mDPut_rd : mDPut t u v r S = (v r S).fl r fun w S1 => (t r S1).fl r fun d S2 => (u r S2).fl r fun y S3 => putR d y w r S3 := rfl
@[simp] theorem mDNew_rd : mDNew r S = .ok (.ref S.length) (S ++ [.dK []]) := rfl
@[simp] theorem mDc_rd {g : MG} {vs : List Nat} : mDc ta g p t u vs r S = (ta r S).bind fun ds S1 => (mDcL g p t u (wipeD r vs) ds [] S1).nox.bind fun kvs S2 => .ok (.ref S2.length) (S2 ++ [.dK kvs]) := rfl
theorem getR_at {n : Nat} (h : S[n]? = some (.dK kvs)) (h1 : keyD y = some k) (h2 : valG kvs k = some d) : getR (.ref n) y S = .ok d S := by
  unfold getR; simp only [dctD, h, h1, h2]
@[simp] theorem mFmt_rd : mFmt t r S = (t r S).bind fmtD := rfl
theorem fmtD_str (h : a.length ≤ sizeLine) : fmtD (.str a) S = .ok (.str a) S := by
  show (if a.length ≤ sizeLine then _ else _) = _
  rw [if_pos h]
def jsR (d : D) (acc : Str) (k : Str → R D) : R D := match d with
  | .str y => if (acc ++ y).length ≤ sizeLine then k (acc ++ y) else .no
  | _ => .no
@[simp] theorem mJs_nil {acc : Str} : mJs [] acc r S = .ok (.str acc) S := rfl
@[simp] theorem mJs_cons {ts : List ME} {acc : Str} : mJs (t :: ts) acc r S = (t r S).bind fun d S1 => jsR d acc fun z => mJs ts z r S1 := by
  show (t r S).bind _ = _
  congr
theorem jsR_str {acc : Str} {k : Str → R D} (h : (acc ++ a).length ≤ sizeLine) : jsR (.str a) acc k = k (acc ++ a) := by
  show (if (acc ++ a).length ≤ sizeLine then _ else _) = _
  rw [if_pos h]
theorem k_sumT {ns : List Int} : pk1 (bSumT S [.tup (ns.map D.int)]) S = .ok (.int ns.sum) S := pk1_eq ⟨ns, rfl, rfl⟩ fun z ⟨ns2, e, e2⟩ => by
  simp only [List.cons.injEq, and_true, D.tup.injEq] at e
  rw [map_int_inj e]; exact e2
theorem k_anyT {ns : List Int} : pk1 (bAnyT S [.tup (ns.map D.int)]) S = .ok (.bl (ns.any fun n => n != 0)) S := pk1_eq ⟨ns, rfl, rfl⟩ fun z ⟨ns2, e, e2⟩ => by
  simp only [List.cons.injEq, and_true, D.tup.injEq] at e
  rw [map_int_inj e]; exact e2
theorem k_isiO {yes no : List Str} {b : Bool} (h : isiO yes no S x = some b) : pk1 (bIsiO C yes no S [x, .adr C]) S = .ok (.bl b) S := pk1_eq ⟨x, b, rfl, h, rfl⟩ fun z ⟨_, _, e, h2, e2⟩ => by
  cases e; rw [h] at h2; cases h2; exact e2
theorem k_split (h1 : (b.length == 0) = false) (h2 : a.length + 2 ≤ sizeLine) : pk (mfSplit S (.str a) [.str b]) = .ok (.lst ((Txt.split a b).map D.str)) S := pk_eq ⟨a, b, rfl, rfl, h1, h2, rfl, rfl⟩ fun z S' ⟨_, _, e1, e2, _, _, e3, e4⟩ => by
  cases e1; cases e2; exact ⟨e3, e4⟩
theorem k_joinR {n : Nat} {ys : List Str} (hS : S[n]? = some (.lst (ys.map D.str))) (h : (ys.map (·.length)).sum + ys.length * a.length ≤ 16777216) : pk (mfJoin S (.str a) [.ref n]) = .ok (.str (Txt.join a ys)) S := pk_eq ⟨a, _, ys, rfl, rfl, .inl (by simp [lsv, hS]), h, rfl, rfl⟩ fun z S' ⟨_, _, ys2, e1, e2, h3, _, e4, e5⟩ => by
  cases e1; cases e2
  rcases h3 with h3 | h3
  · simp [lsv, hS] at h3
    have : ys = ys2 := map_str_inj h3
    subst this
    exact ⟨e4, e5⟩
  · cases h3
end
end DL
namespace DL
open PySem PySem.Spec PyProof.Rows L2
section
variable {r : Sl} {S : Store} {t u v : ME} {ta tb : MA} {p q : MT} {d x y : D} {g g1 : MG} {vs vs1 : List Nat} {gs : MGs} {n : Nat} {neg : Bool} {tbl : List (Str × MF2)} {C : Str} {ns : List Str} {ds es : List D} {mf : MF2}
theorem ixN_nat {n k : Nat} (h : k < n) : ixN n (k : Int) = some k := by
  unfold ixN
  rw [if_pos (by omega), if_pos (by omega)]
  simp
@[simp] theorem mListS_rd : mListS t r S = (t r S).bind listS := rfl
@[simp] theorem listS_tup : listS (.tup es) S = .ok (.ref S.length) (S ++ [.lst es]) := rfl
@[simp] theorem listS_lst : listS (.lst es) S = .ok (.ref S.length) (S ++ [.lst es]) := rfl
@[simp] theorem mLcS_rd : mLcS ta g p t vs r S = (ta r S).bind fun ds S1 => (mLcL g p t (wipeD r vs) ds S1).nox.bind fun ys S2 => fitR ys.length (.ref S2.length) (S2 ++ [.lst ys]) := rfl
@[simp] theorem mLc2_rd : mLc2 ta g p tb g1 q t vs vs1 r S = (ta r S).bind fun ds S1 => (mLc2L g p tb g1 q t vs1 (wipeD r vs) ds S1).nox.bind fun ys S2 => fitR ys.length (.lst ys) S2 := rfl
@[simp] theorem mLc2L_nil {r0 : Sl} : mLc2L g p tb g1 q t vs1 r0 [] S = .ok [] S := rfl
theorem mLc2L_cons {r0 : Sl} {xs : List D} : mLc2L g p tb g1 q t vs1 r0 (x :: xs) S = (g x r0 S).bind fun r1 S1 => (p r1 S1).bind fun k S2 => if k = true then (tb r1 S2).bind fun es S3 => (mLcL g1 q t (wipeD r1 vs1) es S3).bind fun ys S4 => (mLc2L g p tb g1 q t vs1 r0 xs S4).bind fun zs S5 => .ok (ys ++ zs) S5 else mLc2L g p tb g1 q t vs1 r0 xs S2 := rfl
/-- two clauses by data: nothing is left out -/
theorem lc2_map {α : Type} (en : α → D) (f : α → List D) {r0 : Sl} {xs : List α} (h : ∀ x ∈ xs, ((g (en x) r0 S).bind fun r1 S1 => (p r1 S1).bind fun k S2 => if k = true then (tb r1 S2).bind fun es S3 => mLcL g1 q t (wipeD r1 vs1) es S3 else .no) = .ok (f x) S) : mLc2L g p tb g1 q t vs1 r0 (xs.map en) S = .ok (xs.flatMap f) S := by
  induction xs with
  | nil => rfl
  | cons x xs ih =>
    have h1 := h x List.mem_cons_self
    have h2 := ih fun y hy => h y (List.mem_cons_of_mem _ hy)
    rw [List.map_cons, mLc2L_cons]
    cases q1 : g (en x) r0 S with
    | ok r1 S1 =>
      rw [q1] at h1
      simp only [R.bind_ok] at h1 ⊢
      cases q2 : p r1 S1 with
      | ok k S2 =>
        rw [q2] at h1
        simp only [R.bind_ok] at h1 ⊢
        cases k with
        | false => simp at h1
        | true =>
          simp only [if_true] at h1 ⊢
          cases q3 : tb r1 S2 with
          | ok es S3 =>
            rw [q3] at h1
            simp only [R.bind_ok] at h1 ⊢
            rw [h1]
            simp only [R.bind_ok]
            rw [h2]
            simp
          | ex y S3 => rw [q3] at h1; cases h1
          | no => rw [q3] at h1; cases h1
      | ex y S2 => rw [q2] at h1; cases h1
      | no => rw [q2] at h1; cases h1
    | ex y S1 => rw [q1] at h1; cases h1
    | no => rw [q1] at h1; cases h1
@[simp] theorem mgUnl_rd : mgUnl n gs d r S = (match lsv S d with
  | some ds => if ds.length = n then gs ds r S else .no
  | none => .no) := rfl
theorem lsv_ref {k : Nat} (h : S[k]? = some (.lst ds)) : lsv S (.ref k) = some ds := by simp [lsv, h]
noncomputable def tryVR (okl : List Str) (ls : List LFn) (mb : Nat → ME) (d : D) (S1 : Store) : R D := mTryV okl ls mb (mC d) [] S1
@[simp] theorem mTryV_rd {okl : List Str} {ls : List LFn} {mb : Nat → ME} : mTryV okl ls mb t r S = (t r S).bind fun d S1 => tryVR okl ls mb d S1 := rfl
open Classical in
theorem tryVR_fn {okl : List Str} {ls : List LFn} {mb : Nat → ME} {F : LFn} (h : ls[F.ix]? = some F) : tryVR okl ls mb (.fn F) S = tryR okl (mb F.ix (startD F.ps (zerosD F)) S) := by
  show (if ls[F.ix]? = some F then mTry okl (mb F.ix) (startD F.ps (zerosD F)) S else R.no) = _
  rw [if_pos h]
  rfl
@[simp] theorem mTGet_rd : mTGet t u r S = (t r S).bind fun d S1 => (u r S1).bind fun y S2 => getT d y S2 := rfl
@[simp] theorem mTIn_rd : mTIn neg t u r S = (t r S).bind fun y S1 => (u r S1).bind fun d S2 => inT neg y d S2 := rfl
@[simp] theorem mTPut_rd : mTPut t u v r S = (v r S).fl r fun w S1 => (t r S1).fl r fun d S2 => (u r S2).fl r fun y S3 => putT d y w r S3 := rfl
@[simp] theorem mTNew_rd : mTNew r S = .ok (.ref S.length) (S ++ [.dT []]) := rfl
@[simp] theorem mTc_rd : mTc ta g p t u vs r S = (ta r S).bind fun ds S1 => (mTcL g p t u (wipeD r vs) ds [] S1).nox.bind fun kvs S2 => .ok (.ref S2.length) (S2 ++ [.dT kvs]) := rfl
@[simp] theorem mInO_rd : mInO neg tbl t u r S = (t r S).bind fun x S1 => (u r S1).bind fun o S2 => inO neg tbl x o S2 := rfl
@[simp] theorem mInv_rd : mInv tbl t r S = (t r S).bind fun x S1 => spO tbl x [] S1 := rfl
@[simp] theorem mLenO_rd : mLenO tbl t r S = (t r S).bind fun x S1 => lenO tbl x S1 := rfl
@[simp] theorem mgFld_rd {f : Str} {fl : List Str} : mgFld f fl t d r S = ((t r S).nox.bind fun o S1 => putAt f fl d o S1).bind fun _ S2 => .ok r S2 := rfl
theorem spO_obj {xs : List D} (h : tbl.lookup C = some mf) : spO tbl (.obj C ns ds) xs S = mf (.obj C ns ds :: xs) [] S := by
  unfold spO; simp [h]
theorem inO_obj (h : tbl.lookup C = some mf) : inO neg tbl x (.obj C ns ds) S = notB neg (mf [.obj C ns ds, x] [] S) := by
  unfold inO; simp [spO_obj h]
theorem putAt_end {f : Str} {fl : List Str} (h1 : fl.contains C = true) (h2 : ns.length < 1000) : putAt f fl y (.ref S.length) (S ++ [.ins C ns ds]) = .ok () (S ++ [.ins C (putD f y ns ds).1 (putD f y ns ds).2]) := by
  have h1' : C ∈ fl := by simpa using h1
  unfold putAt
  simp [h1', h2]
/-! tuples of ints as keys -/
abbrev bagK (cs : List Int) : List Key := cs.map Sum.inl
theorem keysOf_ints (cs : List Int) : keysOf (cs.map D.int) = some (bagK cs) := by
  induction cs with
  | nil => rfl
  | cons c cs ih => simp [keysOf, keyD, ih]
@[simp] theorem keyT_bag {cs : List Int} : keyT (bagD cs) = some (bagK cs) := keysOf_ints cs
@[simp] theorem keyT_ints {cs : List Int} : keyT (.tup (cs.map D.int)) = some (bagK cs) := keysOf_ints cs
theorem bagK_inj {as bs : List Int} : bagK as = bagK bs ↔ as = bs := by
  constructor
  · intro h
    exact (List.map_inj_right fun a b e => by cases e; rfl).mp h
  · intro h; rw [h]
theorem getT_at {k : Nat} {kvs : List (List Key × D)} {cs : List Int} (h : S[k]? = some (.dT kvs)) (h2 : valG kvs (bagK cs) = some d) : getT (.ref k) (.tup (cs.map D.int)) S = .ok d S := by
  unfold getT
  simp [dctT, h, h2]
theorem inT_at' {k : Nat} {kvs : List (List Key × D)} {cs : List Int} (h : S[k]? = some (.dT kvs)) : inT neg (.tup (cs.map D.int)) (.ref k) S = .ok (.bl (if neg = true then !(valG kvs (bagK cs)).isSome else (valG kvs (bagK cs)).isSome)) S := by
  unfold inT
  simp [dctT, h]
theorem putT_at {k : Nat} {kvs : List (List Key × D)} {cs : List Int} (h : S[k]? = some (.dT kvs)) (h2 : kvs.length < sizeLine) : putT (.ref k) (.tup (cs.map D.int)) d r S = .nx r (S.set k (.dT (putG kvs (bagK cs) d))) := by
  unfold putT
  simp [h, h2]
end
/-! ### += -/
@[simp] theorem k_iaddI {S : Store} {i j : Int} : pk1 (fIAdd S (.int i) (.int j)) S = .ok (.int (i + j)) S := pk1_eq (.inl ⟨i, j, rfl, rfl, rfl⟩) fun z h => by
  rcases h with ⟨_, _, e1, e2, e3⟩ | ⟨_, _, e1, _⟩
  · cases e1; cases e2; exact e3
  · cases e1
end DL
namespace DL
open PySem PySem.Spec PyProof.Rows L2
/-- of a class of exceptions that is raised and not caught -/
def xcl0B (K : PySem.W.Frag) (x : Str) : Bool := oexB K (He.ga K x) && ((["code", "limit", "name", "index", "number", "bag"] : List Str).all (fun n => decide (PySem.W.findIn K (.ref (He.ga K x)) n = some none)) &&
  (decide (PySem.W.findIn K (.ref (He.ga K x)) "__init__" = some (some (.ref (He.ma K (He.ga K x) "__init__")))) && decide (PySem.W.typeIn K (.ref (He.ma K (He.ga K x) "__init__")) = some (.type "function"))))
structure XclF0 (K : PySem.W.Frag) (x : Str) : Prop where
  oex : OexC K (He.ga K x)
  no : ∀ n ∈ (["code", "limit", "name", "index", "number", "bag"] : List Str), PySem.W.findIn K (.ref (He.ga K x)) n = some none
  init : PySem.W.findIn K (.ref (He.ga K x)) "__init__" = some (some (.ref (He.ma K (He.ga K x) "__init__")))
  tyI : PySem.W.typeIn K (.ref (He.ma K (He.ga K x) "__init__")) = some (.type "function")
theorem xcl0B_ok {K : PySem.W.Frag} {x : Str} (h : xcl0B K x = true) : XclF0 K x := by
  obtain ⟨h0, h⟩ := He.ba h
  obtain ⟨h2, h⟩ := He.ba h
  obtain ⟨h3, h4⟩ := He.ba h
  exact ⟨oexB_ok h0, fun n hn => of_decide_eq_true (List.all_eq_true.mp h2 n hn), of_decide_eq_true h3, of_decide_eq_true h4⟩
end DL
namespace DL
open PySem PySem.Spec PyProof.Rows L2
/-! ### the Hook, with defs behind properties and classmethods -/
structure SaysY (fa : List He.Fa) (fn : List He.DefD) (tf : List He.Defn) (ex : PySem.W.Frag → Bool) (fx : List He5.DefA) (w : World) (h : Heap) (K : PySem.W.Frag) : Prop where
  x : He.SaysX fa fn [] tf ex w h K
  a : He5.SaysA [] fx K
abbrev AlY : Type := He.AlX × He.AlD
def asY (g : Addr → Option Obj) (n : Nat) : List Addr := He.asD g n ++ [cStatics]
def obsY (n : Nat) (fa : List He.Fa) (fn : List He.DefD) (tf : List He.Defn) (ex : PySem.W.Frag → Bool) (fx : List He5.DefA) (g : Addr → Option Obj) : AlY :=
  ((He.obsT fa fn [] (He.frT g (asY g n)), ex (He.frT g (asY g n)) && He.tabsB g tf (He.frT g (asY g n))), He5.obsA [] fx (He.frT g (asY g n)))
def valY (fn : List He.DefD) (fx : List He5.DefA) (w : World) : AlY := (He.valX fn [] w, He5.valA fx)
theorem saysY_of {n : Nat} {fa : List He.Fa} {fn : List He.DefD} {tf : List He.Defn} {ex : PySem.W.Frag → Bool} {fx : List He5.DefA} {w : World} {h : Heap} (e : obsY n fa fn tf ex fx h.get? = valY fn fx w) : SaysY fa fn tf ex fx w h (He.frT h.get? (asY h.get? n)) := by
  have e1 : He.obsT fa fn [] (He.frT h.get? (asY h.get? n)) = He.valT fn [] w := congrArg (fun z : AlY => z.1.1) e
  have e2 : (ex (He.frT h.get? (asY h.get? n)) && He.tabsB h.get? tf (He.frT h.get? (asY h.get? n))) = true := congrArg (fun z : AlY => z.1.2) e
  have e3 : He5.obsA [] fx (He.frT h.get? (asY h.get? n)) = He5.valA fx := congrArg (fun z : AlY => z.2) e
  obtain ⟨h1, h2⟩ := He.ba e2
  have key : ∀ p ∈ tf, PySem.W.codeHdIn (He.frT h.get? (asY h.get? n)) (He.cT (He.frT h.get? (asY h.get? n)) p).1 (He.cT (He.frT h.get? (asY h.get? n)) p).2 = true ∧ ∃ o, h.get? (He.cT (He.frT h.get? (asY h.get? n)) p).2 = some o ∧ He.emptyTab o = true := fun p hp => by
    obtain ⟨h3, h4⟩ := He.ba (List.all_eq_true.mp h2 p hp)
    refine ⟨h3, ?_⟩
    cases q : h.get? (He.cT (He.frT h.get? (asY h.get? n)) p).2 with
    | none =>
      rw [q] at h4
      cases h4
    | some o =>
      rw [q] at h4
      exact ⟨o, rfl, h4⟩
  exact ⟨⟨e1, h1, fun p hp => (key p hp).1, fun p hp => by
    obtain ⟨_, o, q, z⟩ := key p hp
    exact He.frT_none q z, fun p hp => by
    obtain ⟨_, o, q, z⟩ := key p hp
    rw [q, He.emptyTab_eq z]⟩, e3⟩
def hookY (n : Nat) (fa : List He.Fa) (fn : List He.DefD) (tf : List He.Defn) (ex : PySem.W.Frag → Bool) (fx : List He5.DefA) : PySem.W.Hook where
  α := AlY
  obs := fun s => obsY n fa fn tf ex fx s.heap.get?
  val := fun w => valY fn fx w
  says := fun w h => ∃ K : PySem.W.Frag, K.In h ∧ SaysY fa fn tf ex fx w h K
  of := fun _ _ e => ⟨_, He.frT_in, saysY_of e⟩
  keeps := fun _ _ _ ⟨K, hK, c⟩ k => ⟨K, PySem.W.Frag.In.keeps hK k, ⟨⟨c.x.t, c.x.more, c.x.hd, c.x.out, fun p hp => k _ _ (c.x.empty p hp)⟩, c.a⟩⟩
theorem obsY_eq {n : Nat} {fa : List He.Fa} {fn : List He.DefD} {tf : List He.Defn} {ex : PySem.W.Frag → Bool} {fx : List He5.DefA} {g : Addr → Option Obj} {s : Shared} (h : ∀ a, g a = s.heap.get? a) : obsY n fa fn tf ex fx g = (hookY n fa fn tf ex fx).obs s := by
  have e : g = s.heap.get? := funext h
  rw [e] <;> rfl
/-- a property of a class -/
def propB (K : PySem.W.Frag) (x f : Str) : Bool := He.eqO (PySem.W.findIn K (.ref (He.ga K x)) f) (some (some (.ref (He.ma K (He.ga K x) f)))) && (He.eqO (PySem.W.specialIn K (.ref (He.ma K (He.ga K x) f)) "__get__") (some (some (.builtin "property.__get__"))) &&
  (decide (PySem.W.takesIn K (.ref (He.ma K (He.ga K x) f)) = some true) && (match PySem.W.recIn K (He.ma K (He.ga K x) f) "property" with
    | some (.ref _ :: _) => true
    | _ => false)))
theorem propB_ok {K : PySem.W.Frag} {x f : Str} (h : propB K x f = true) : PropOf K (He.ga K x) f (He.ma K (He.ga K x) f) (He5.wf K (He.ga K x) "property" f) := by
  obtain ⟨h0, h⟩ := He.ba h
  obtain ⟨h1, h⟩ := He.ba h
  obtain ⟨h2, h3⟩ := He.ba h
  refine ⟨He.eqO_ok h0, He.eqO_ok h1, of_decide_eq_true h2, ?_⟩
  unfold He5.wf
  split at h3
  · rename_i r e
    exact ⟨_, by rw [e]⟩
  · cases h3
/-- a class whose attributes are read as type.__getattribute__ reads them -/
def creadB (K : PySem.W.Frag) (x : Str) : Bool := PySem.W.readsIn K (He.ga K x) (.type "type") && He.eqO (PySem.W.specialIn K (.ref (He.ga K x)) "__getattribute__") (some (some (.builtin "type.__getattribute__")))
theorem creadB_ok {K : PySem.W.Frag} {x : Str} (h : creadB K x = true) : ClX.CRead K (He.ga K x) (.type "type") := by
  obtain ⟨h0, h1⟩ := He.ba h
  exact ⟨h0, He.eqO_ok h1⟩
/-- a classmethod of it -/
def cmetB (K : PySem.W.Frag) (x m : Str) : Bool := He5.wrapB K (He.ga K x) "classmethod" "classmethod.__get__" m && PySem.W.fnIn K (He5.wf K (He.ga K x) "classmethod" m)
theorem cmetB_ok {K : PySem.W.Frag} {x m : Str} (h : cmetB K x m = true) : ClX.CMet K (He.ga K x) (.type "type") m (He.ma K (He.ga K x) m) (He5.wf K (He.ga K x) "classmethod" m) := by
  obtain ⟨h0, h1⟩ := He.ba h
  exact He5.cmet_of h0 h1
end DL
namespace DL
open PySem PySem.Spec PyProof.Rows L2
/-! ### facts for own ==, isinstance, operators -/
def eqcB (K : PySem.W.Frag) (owns : List Str) (C : Str) : Bool := He.eqO (PySem.W.findIn K (.ref (He.ga K C)) "__ne__") (some (some (.builtin "object.__ne__"))) && (decide (PySem.W.mroIn K (He.ga K C) (.type "object") = some true) &&
  (plainTys.all (fun n => PySem.W.notFirst K (He.ga K C) (.type n)) && owns.all (fun c => PySem.W.notFirst K (He.ga K C) (.ref (He.ga K c)))))
structure EqcF (K : PySem.W.Frag) (owns : List Str) (C : Str) : Prop where
  ne : PySem.W.findIn K (.ref (He.ga K C)) "__ne__" = some (some (.builtin "object.__ne__"))
  top : PySem.W.mroIn K (He.ga K C) (.type "object") = some true
  tys : ∀ n ∈ plainTys, PySem.W.notFirst K (He.ga K C) (.type n) = true
  own : ∀ C', owns.contains C' = true → PySem.W.notFirst K (He.ga K C) (.ref (He.ga K C')) = true
theorem eqcB_ok {K : PySem.W.Frag} {owns : List Str} {C : Str} (h : eqcB K owns C = true) : EqcF K owns C := by
  obtain ⟨h0, h⟩ := He.ba h
  obtain ⟨h1, h⟩ := He.ba h
  obtain ⟨h2, h3⟩ := He.ba h
  exact ⟨He.eqO_ok h0, of_decide_eq_true h1, fun n hn => List.all_eq_true.mp h2 n hn, fun c hc => List.all_eq_true.mp h3 c (by simpa using hc)⟩
def isiB (K : PySem.W.Frag) (C C' : Str) (b : Bool) : Bool := (He.Fa.cls C').ok K && (He.eqO (PySem.W.findIn K (.ref (He.ga K C')) "__class__") (some (some (.builtin "object.__class__"))) &&
  (He.eqO (PySem.W.specialIn K (.builtin "object.__class__") "__get__") (some (some (.builtin "getset_descriptor.__get__"))) && (decide (PySem.W.takesIn K (.builtin "object.__class__") = some true) &&
    (decide (PySem.W.mroIn K (He.ga K C') (.type "object") = some true) && decide (PySem.W.kitOne K (.ref (He.ga K C')) (.ref (He.ga K C)) = some b)))))
theorem isiB_ok {K : PySem.W.Frag} {C C' : Str} {b : Bool} (h : isiB K C C' b = true) : IsiF K C C' b := by
  obtain ⟨h0, h⟩ := He.ba h
  obtain ⟨h1, h⟩ := He.ba h
  obtain ⟨h2, h⟩ := He.ba h
  obtain ⟨h3, h⟩ := He.ba h
  obtain ⟨h4, h5⟩ := He.ba h
  exact ⟨He.cls_ok h0, He.eqO_ok h1, He.eqO_ok h2, of_decide_eq_true h3, of_decide_eq_true h4, of_decide_eq_true h5⟩
def isicB (K : PySem.W.Frag) (C : Str) (yes no : List Str) : Bool := yes.all (fun c => isiB K C c true) && (no.all (fun c => isiB K C c false) && (["NoneType", "bool", "int", "str", "tuple", "list"] : List String).all fun n => decide (PySem.W.kitOne K (.type n) (.ref (He.ga K C)) = some false))
theorem isicB_ok {K : PySem.W.Frag} {C : Str} {yes no : List Str} (h : isicB K C yes no = true) : IsiC K C yes no := by
  obtain ⟨h0, h⟩ := He.ba h
  obtain ⟨h1, h2⟩ := He.ba h
  exact ⟨fun c hc => isiB_ok (List.all_eq_true.mp h0 c (by simpa using hc)), fun c hc => isiB_ok (List.all_eq_true.mp h1 c (by simpa using hc)), fun n hn => of_decide_eq_true (List.all_eq_true.mp h2 n hn)⟩
end DL
namespace DL
open PySem PySem.Spec PyProof.Rows L2
/-! ### looks of bags, in plain numbers -/
def lkN (b p x : Nat) : Nat := if x < b + p then x else b + (x - b) % p
def lkB (b p : Nat) (x : List Nat) : List Nat := x.map (lkN b p)
@[simp] theorem lkB_len {b p : Nat} {x : List Nat} : (lkB b p x).length = x.length := by simp [lkB]
theorem lkN_lt {b p x : Nat} (hp : 0 < p) : lkN b p x < b + p := by
  unfold lkN
  split
  · assumption
  · have := Nat.mod_lt (x - b) hp; omega
theorem lkN_id {b p x : Nat} (h : x < b + p) : lkN b p x = x := by unfold lkN; rw [if_pos h]
theorem lkN_ge {b p x : Nat} (h : b ≤ x) (hp : 0 < p) : lkN b p x = b + (x - b) % p := by
  unfold lkN
  split
  · rw [Nat.mod_eq_of_lt (by omega)]; omega
  · rfl
theorem lkN_add {b p x : Nat} (h : b ≤ x) (hp : 0 < p) : lkN b p (x + p) = lkN b p x := by
  rw [lkN_ge h hp, lkN_ge (by omega) hp, show x + p - b = (x - b) + p by omega, Nat.add_mod_right]
theorem lkN_addm {b p x q : Nat} (h : b ≤ x) (hp : 0 < p) : lkN b p (x + q * p) = lkN b p x := by
  rw [lkN_ge h hp, lkN_ge (by omega) hp, show x + q * p - b = (x - b) + q * p by omega, Nat.add_mul_mod_self_right]
/-- x stands some periods above its look -/
theorem lkN_ex {b p x : Nat} (hp : 0 < p) : ∃ q, x = lkN b p x + q * p ∧ (q = 0 ∨ b ≤ lkN b p x) := by
  unfold lkN
  split
  · exact ⟨0, by simp, .inl rfl⟩
  · refine ⟨(x - b) / p, ?_, .inr (by omega)⟩
    have := Nat.mod_add_div (x - b) p
    rw [Nat.mul_comm] at this
    omega
theorem lkN_coarse {b p b' p' x : Nat} (hp : 0 < p) (hp' : 0 < p') (hb : b' ≤ b) (hd : p' ∣ p) : lkN b' p' (lkN b p x) = lkN b' p' x := by
  obtain ⟨q, e, h⟩ := lkN_ex (b := b) (x := x) hp
  rcases h with rfl | h
  · have : lkN b p x = x := by omega
    rw [this]
  · obtain ⟨m, rfl⟩ := hd
    have e2 : x = lkN b (p' * m) x + (q * m) * p' := by rw [Nat.mul_assoc, Nat.mul_comm m p']; exact e
    conv => rhs; rw [e2]
    rw [lkN_addm (by omega) hp']
theorem lkN_idem {b p x : Nat} (hp : 0 < p) : lkN b p (lkN b p x) = lkN b p x := lkN_id (lkN_lt hp)
theorem lkB_coarse {b p b' p' : Nat} {x : List Nat} (hp : 0 < p) (hp' : 0 < p') (hb : b' ≤ b) (hd : p' ∣ p) : lkB b' p' (lkB b p x) = lkB b' p' x := by
  unfold lkB
  rw [List.map_map]
  exact List.map_congr_left fun c _ => lkN_coarse hp hp' hb hd
theorem lkB_idem {b p : Nat} {x : List Nat} (hp : 0 < p) : lkB b p (lkB b p x) = lkB b p x := lkB_coarse hp hp (Nat.le_refl _) (Nat.dvd_refl _)
theorem lkB_id {b p : Nat} {x : List Nat} (h : ∀ c ∈ x, c < b + p) : lkB b p x = x := by
  unfold lkB
  conv => rhs; rw [← List.map_id x]
  exact List.map_congr_left fun c hc => lkN_id (h c hc)
/-! all looks, in order -/
def allL : Nat → Nat → List (List Nat)
  | 0, _ => [[]]
  | k + 1, m => (allL k m).flatMap fun f => (List.range m).map fun c => f ++ [c]
theorem mem_allL : ∀ {k m : Nat} {x : List Nat}, x ∈ allL k m ↔ x.length = k ∧ ∀ c ∈ x, c < m
  | 0, m, x => by
    simp only [allL, List.mem_singleton]
    constructor
    · rintro rfl; simp
    · rintro ⟨h, _⟩; exact List.eq_nil_of_length_eq_zero h
  | k + 1, m, x => by
    simp only [allL, List.mem_flatMap, List.mem_map, List.mem_range]
    constructor
    · rintro ⟨f, hf, c, hc, rfl⟩
      obtain ⟨h1, h2⟩ := mem_allL.mp hf
      refine ⟨by simp [h1], fun d hd => ?_⟩
      rcases List.mem_append.mp hd with h | h
      · exact h2 d h
      · rw [List.mem_singleton.mp h]; exact hc
    · rintro ⟨h1, h2⟩
      have hne : x ≠ [] := by intro z; rw [z] at h1; simp at h1
      refine ⟨x.dropLast, mem_allL.mpr ⟨by simp [h1], fun c hc => h2 c (List.dropLast_subset _ hc)⟩, x.getLast hne, h2 _ (List.getLast_mem hne), List.dropLast_concat_getLast hne⟩
theorem allL_len : ∀ (k m : Nat), (allL k m).length = m ^ k
  | 0, m => by simp [allL]
  | k + 1, m => by
    simp only [allL, List.length_flatMap, List.length_map, List.length_range]
    rw [show (fun f : List Nat => m) = Function.const _ m from rfl, List.map_const, List.sum_replicate_nat, allL_len k m, Nat.pow_succ]
theorem allL_nodup : ∀ (k m : Nat), (allL k m).Nodup
  | 0, m => by simp [allL]
  | k + 1, m => by
    have ih := allL_nodup k m
    unfold allL
    unfold List.Nodup
    rw [List.pairwise_flatMap]
    refine ⟨fun f _ => ?_, ih.imp fun {f g} hfg => ?_⟩
    · rw [List.pairwise_map]
      exact List.nodup_range.imp fun {c d} h e => h (by simpa using e)
    · intro x hx y hy e
      obtain ⟨c, _, rfl⟩ := List.mem_map.mp hx
      obtain ⟨d, _, rfl⟩ := List.mem_map.mp hy
      have := List.append_inj' e rfl
      exact hfg this.1
theorem lkB_mem {b p k : Nat} {x : List Nat} (hp : 0 < p) (hx : x.length = k) : lkB b p x ∈ allL k (b + p) := mem_allL.mpr ⟨by simp [hx], fun c hc => by
  obtain ⟨d, _, rfl⟩ := List.mem_map.mp hc
  exact lkN_lt hp⟩
theorem lkB_of_mem {b p k : Nat} {x : List Nat} (h : x ∈ allL k (b + p)) : lkB b p x = x := lkB_id (mem_allL.mp h).2
/-! ### sets that are seen at a glass -/
abbrev FS := List Nat → Bool
def Seen (k b p : Nat) (F : FS) : Prop := ∀ x : List Nat, x.length = k → F (lkB b p x) = F x
def Shift (k b p : Nat) (F : FS) : Prop := ∀ (pre suf : List Nat) (c : Nat), pre.length + suf.length + 1 = k → b ≤ c → F (pre ++ (c + p) :: suf) = F (pre ++ c :: suf)
theorem Seen.shift {k b p : Nat} {F : FS} (hp : 0 < p) (h : Seen k b p F) : Shift k b p F := fun pre suf c hk hc => by
  rw [← h (pre ++ (c + p) :: suf) (by simp; omega), ← h (pre ++ c :: suf) (by simp; omega)]
  congr 1
  simp [lkB, lkN_add hc hp]
theorem Shift.mul {k b p : Nat} {F : FS} (h : Shift k b p F) {pre suf : List Nat} {c : Nat} (hk : pre.length + suf.length + 1 = k) (hc : b ≤ c) : ∀ q, F (pre ++ (c + q * p) :: suf) = F (pre ++ c :: suf)
  | 0 => by simp
  | q + 1 => by
    rw [show c + (q + 1) * p = (c + q * p) + p by rw [Nat.succ_mul]; omega, h pre suf _ hk (by omega), Shift.mul h hk hc q]
theorem Shift.seen {k b p : Nat} {F : FS} (hp : 0 < p) (h : Shift k b p F) : Seen k b p F := by
  have key : ∀ (suf pre : List Nat), pre.length + suf.length = k → F (pre ++ lkB b p suf) = F (pre ++ suf) := by
    intro suf
    induction suf with
    | nil => intro pre _; rfl
    | cons c suf ih =>
      intro pre hk
      have e1 := ih (pre ++ [lkN b p c]) (by simp at hk ⊢; omega)
      simp only [List.append_assoc, List.singleton_append] at e1
      show F (pre ++ lkN b p c :: lkB b p suf) = _
      rw [e1]
      obtain ⟨q, e, hq⟩ := lkN_ex (b := b) (x := c) hp
      rcases hq with rfl | hq
      · have : lkN b p c = c := by omega
        rw [this]
      · have := h.mul (pre := pre) (suf := suf) (by simp at hk; omega) hq q
        rw [← e] at this
        exact this.symm
  intro x hx
  simpa using key x [] (by simpa using hx)
theorem seen_iff {k b p : Nat} {F : FS} (hp : 0 < p) : Seen k b p F ↔ Shift k b p F := ⟨Seen.shift hp, Shift.seen hp⟩
/-- a glass that shows more -/
theorem Seen.up {k b p b' p' : Nat} {F : FS} (hp : 0 < p) (hp' : 0 < p') (hb : b ≤ b') (hd : p ∣ p') (h : Seen k b p F) : Seen k b' p' F := fun x hx => by
  rw [← h (lkB b' p' x) (by simp [hx]), lkB_coarse hp' hp hb hd, h x hx]
/-- in the long run f has the period p -/
def Ev (f : Nat → Bool) (p : Nat) : Prop := ∃ T, ∀ c, T ≤ c → f (c + p) = f c
theorem Ev.mul {f : Nat → Bool} {p : Nat} (h : Ev f p) (q : Nat) : Ev f (q * p) := by
  obtain ⟨T, h⟩ := h
  refine ⟨T, fun c hc => ?_⟩
  induction q with
  | zero => simp
  | succ q ih => rw [show c + (q + 1) * p = (c + q * p) + p by rw [Nat.succ_mul]; omega, h _ (by omega), ih]
theorem Ev.sub {f : Nat → Bool} {p q : Nat} (h : Ev f (p + q)) (h2 : Ev f q) : Ev f p := by
  obtain ⟨T, h⟩ := h
  obtain ⟨U, h2⟩ := h2
  refine ⟨T + U, fun c hc => ?_⟩
  rw [← h2 (c + p) (by omega), show c + p + q = c + (p + q) by omega, h c (by omega)]
theorem Ev.gcd {f : Nat → Bool} : ∀ (p q : Nat), Ev f p → Ev f q → Ev f (Nat.gcd p q) := by
  intro p q
  induction p, q using Nat.gcd.induction with
  | H0 n => intro _ h; simpa using h
  | H1 m n hm ih =>
    intro h1 h2
    rw [Nat.gcd_rec]
    refine ih (Ev.sub (q := (n / m) * m) ?_ (h1.mul _)) h1
    have e : n % m + n / m * m = n := by rw [Nat.mul_comm]; exact Nat.mod_add_div n m
    rw [e]; exact h2
theorem Shift.gcd {k b p b' p' : Nat} {F : FS} (hp : 0 < p) (h : Shift k b p F) (h' : Shift k b' p' F) : Shift k b (Nat.gcd p p') F := fun pre suf c hk hc => by
  obtain ⟨T, ev⟩ := Ev.gcd (f := fun c => F (pre ++ c :: suf)) p p' ⟨b, fun c hc => h pre suf c hk hc⟩ ⟨b', fun c hc => h' pre suf c hk hc⟩
  have e1 := h.mul hk (show b ≤ c + Nat.gcd p p' by omega) T
  have e2 := h.mul hk hc T
  have hT : T ≤ T * p := Nat.le_mul_of_pos_right T hp
  have e3 : F (pre ++ (c + T * p + Nat.gcd p p') :: suf) = F (pre ++ (c + T * p) :: suf) := ev (c + T * p) (by omega)
  rw [← e1, ← e2, ← e3]
  congr 3
  omega
theorem Seen.gcd {k b p b' p' : Nat} {F : FS} (hp : 0 < p) (hp' : 0 < p') (h : Seen k b p F) (h' : Seen k b' p' F) : Seen k (min b b') (Nat.gcd p p') F := by
  have hg : 0 < Nat.gcd p p' := Nat.gcd_pos_of_pos_left _ hp
  refine Shift.seen hg ?_
  rcases Nat.le_total b b' with hb | hb
  · rw [Nat.min_eq_left hb]; exact (h.shift hp).gcd hp (h'.shift hp')
  · rw [Nat.min_eq_right hb, Nat.gcd_comm]; exact (h'.shift hp').gcd hp' (h.shift hp)
/-- the least glass -/
structure LeastG (k : Nat) (F : FS) (b p : Nat) : Prop where
  pos : 0 < p
  seen : Seen k b p F
  least : ∀ b' p', 0 < p' → Seen k b' p' F → b ≤ b' ∧ p ∣ p'
theorem LeastG.uniq {k b p b' p' : Nat} {F : FS} (h : LeastG k F b p) (h' : LeastG k F b' p') : b = b' ∧ p = p' := by
  have h1 := h.least b' p' h'.pos h'.seen
  have h2 := h'.least b p h.pos h.seen
  exact ⟨Nat.le_antisymm h1.1 h2.1, Nat.dvd_antisymm h1.2 h2.2⟩
theorem leastG_of {k B P b p : Nat} {F : FS} (hP : 0 < P) (hp : 0 < p) (hd : p ∣ P) (hs : Seen k B p F) (hl : ∀ q, q ∣ P → 0 < q → Seen k B q F → p ≤ q) (hb : b ≤ B) (hs2 : Seen k b p F) (hm : b = 0 ∨ ¬ Seen k (b - 1) p F) : LeastG k F b p := by
  refine ⟨hp, hs2, fun b' p' hp' h' => ?_⟩
  have hg : 0 < Nat.gcd p p' := Nat.gcd_pos_of_pos_left _ hp
  have e1 : Seen k B (Nat.gcd p p') F := (hs.gcd hp hp' h').up hg hg (Nat.min_le_left _ _) (Nat.dvd_refl _)
  have e2 := hl _ (Nat.dvd_trans (Nat.gcd_dvd_left p p') hd) hg e1
  have e3 : Nat.gcd p p' = p := Nat.le_antisymm (Nat.le_of_dvd hp (Nat.gcd_dvd_left p p')) e2
  refine ⟨?_, by rw [← e3]; exact Nat.gcd_dvd_right p p'⟩
  rcases hm with rfl | hm
  · omega
  · refine Nat.le_of_not_lt fun hlt => hm ?_
    have e4 := hs2.gcd hp hp' h'
    rw [e3] at e4
    exact e4.up hp hp (by omega) (Nat.dvd_refl _)
theorem Seen.congr {k b p : Nat} {F G : FS} (h : ∀ x : List Nat, x.length = k → F x = G x) (s : Seen k b p F) : Seen k b p G := fun x hx => by
  rw [← h x hx, ← h _ (by simp [hx]), s x hx]
theorem LeastG.congr {k b p : Nat} {F G : FS} (h : ∀ x : List Nat, x.length = k → F x = G x) (s : LeastG k F b p) : LeastG k G b p :=
  ⟨s.pos, s.seen.congr h, fun b' p' hp hs => s.least b' p' hp (hs.congr fun x hx => (h x hx).symm)⟩
theorem least_nat {Q : Nat → Prop} (h : ∃ n, Q n) : ∃ n, Q n ∧ ∀ m, m < n → ¬ Q m := by
  classical
  obtain ⟨n, hn⟩ := h
  induction n using Nat.strongRecOn with
  | ind n ih =>
    by_cases h : ∃ m, m < n ∧ Q m
    · obtain ⟨m, h1, h2⟩ := h
      exact ih m h1 h2
    · exact ⟨n, hn, fun m h1 h2 => h ⟨m, h1, h2⟩⟩
/-- what is seen at (B, P) has a least glass -/
theorem least_ex {k B P : Nat} {F : FS} (hP : 0 < P) (h : Seen k B P F) : ∃ b p, LeastG k F b p := by
  obtain ⟨p, ⟨hp, hd, hs⟩, hmin⟩ := least_nat (Q := fun p => 0 < p ∧ p ∣ P ∧ Seen k B p F) ⟨P, hP, Nat.dvd_refl _, h⟩
  obtain ⟨b, hb, hbm⟩ := least_nat (Q := fun b => Seen k b p F) ⟨B, hs⟩
  refine ⟨b, p, leastG_of hP hp hd hs (fun q h1 h2 h3 => Nat.le_of_not_lt fun hlt => hmin q hlt ⟨h2, h1, h3⟩) (Nat.le_of_not_lt fun z => hbm B z hs) hb ?_⟩
  by_cases h0 : b = 0
  · exact .inl h0
  · exact .inr (hbm (b - 1) (by omega))
end DL
namespace DL
open PySem PySem.Spec PyProof.Rows L2
/-! ### bags of natural numbers as data -/
def bagN (x : List Nat) : D := .tup (x.map fun c : Nat => D.int (c : Int))
def glD (b p : Nat) : D := .tup [.int (b : Int), .int (p : Int)]
def kN (x : List Nat) : List Key := x.map fun c : Nat => Sum.inl (c : Int)
theorem kN_inj {x y : List Nat} : kN x = kN y ↔ x = y := by
  constructor
  · intro h
    exact (List.map_inj_right fun a b e => by have := Sum.inl.inj e; omega).mp h
  · intro h; rw [h]
section
variable {S : Store} {x y : List Nat} {n k : Nat} {d : D} {r : Sl}
theorem bagN_bagD : bagN x = bagD (x.map fun c : Nat => (c : Int)) := by simp [bagN, Function.comp_def]
theorem bagD_bagN {cs : List Int} (h : ∀ c ∈ cs, 0 ≤ c) : bagD cs = bagN (cs.map Int.toNat) := by
  unfold bagN bagD
  rw [List.map_map]
  congr 1
  exact List.map_congr_left fun c hc => by simp only [Function.comp]; rw [Int.toNat_of_nonneg (h c hc)]
@[simp] theorem keyT_bagN : keyT (bagN x) = some (kN x) := by
  show keysOf _ = _
  induction x with
  | nil => rfl
  | cons c x ih =>
    simp only [List.map_cons, keysOf, keyD, kN] at ih ⊢
    rw [ih]
@[simp] theorem itv_bagN : itvR (bagN x) S = .ok (x.map fun c : Nat => D.int (c : Int)) S := k_itvT
theorem isBag_bagN : isBag n (bagN x) = decide (x.length = n) := by
  rw [Bool.eq_iff_iff]
  rw [bagN_bagD, isBag_ints]
  simp
theorem wd_bagN (h : x.length ≤ 1000000) : wd (k + 2) (bagN x) = true := by simp [bagN, wd, h]
theorem sh_bagN : sh (k + 1) (bagN x) = true := by simp [bagN, sh]
theorem rlt_bagN : rlt n (bagN x) = true := by
  simp only [bagN, rlt, rlts_all, List.all_map]
  simp [rlt]
theorem rlts_bagN {l : List (List Nat)} : rlts n (l.map bagN) = true := by
  rw [rlts_all, List.all_map]
  simp [rlt_bagN]
@[simp] theorem deq_bagN : deq (bagN x) (bagN y) = decide (x = y) := by
  rw [bagN_bagD, bagN_bagD]
  simp only [deq_tt, deqs_ints]
  rw [Bool.eq_iff_iff]
  simp only [decide_eq_true_eq]
  constructor
  · intro h
    exact (List.map_inj_right fun a b e => by omega).mp h
  · intro h; rw [h]
theorem deqs_bagN {l m : List (List Nat)} : deqs (l.map bagN) (m.map bagN) = decide (l = m) := by
  rw [Bool.eq_iff_iff, deqs_map bagN (fun a b => a = b) (fun a b => by simp)]; simp
theorem bagN_inj : bagN x = bagN y ↔ x = y := by
  constructor
  · intro h
    have := congrArg (fun d => deq d (bagN y)) h
    simpa using this
  · intro h; rw [h]
theorem bagN_snoc {c : Nat} : bagN (x ++ [c]) = .tup ((x.map fun c : Nat => D.int (c : Int)) ++ [.int (c : Int)]) := by simp [bagN]
@[simp] theorem sqOf_bagN : sqOf S (bagN x) = some (x.map fun c : Nat => D.int (c : Int)) := rfl
@[simp] theorem lenT_bagN : pk1 (bLen S [bagN x]) S = .ok (.int (x.length : Nat)) S := by
  show pk1 (bLen S [.tup _]) S = _
  rw [k_lenT]; simp
theorem ix_gl0 {b p : Nat} : pk1 (fIx S (glD b p) (.int 0)) S = .ok (.int (b : Int)) S := k_ixT rfl
theorem ix_gl1 {b p : Nat} : pk1 (fIx S (glD b p) (.int 1)) S = .ok (.int (p : Int)) S := k_ixT rfl
theorem sum_gl {b p : Nat} : pk1 (bSumT S [glD b p]) S = .ok (.int ((b : Int) + (p : Int))) S := by
  have := k_sumT (S := S) (ns := [(b : Int), (p : Int)])
  simpa [glD] using this
theorem rng_N {m : Nat} {i : Int} (h : i = (m : Int)) (h2 : m < 2 ^ 60) : pk1 (fRng1 S [.int i]) S = .ok ((List.range m).map fun c : Nat => D.int (c : Int)) S := by
  subst h
  rw [k_rng1 (by omega) (by omega)]; simp [rngD]
/-! dicts -/
theorem valG_put {κ β : Type} [DecidableEq κ] {kvs : List (κ × β)} {k k' : κ} {v : β} : valG (putG kvs k v) k' = if k' = k then some v else valG kvs k' := by
  unfold putG
  by_cases h : (kvs.any fun kv => decide (kv.1 = k)) = true
  · rw [if_pos h]
    induction kvs with
    | nil => simp at h
    | cons kv kvs ih =>
      simp only [List.map_cons]
      by_cases h1 : kv.1 = k
      · rw [if_pos h1]
        by_cases h2 : k' = k
        · subst h2
          simp [valG, List.find?_cons, h1]
        · rw [if_neg h2]
          have h3 : ¬ k = k' := fun z => h2 z.symm
          have h4 : ¬ kv.1 = k' := fun z => h3 (h1.symm.trans z)
          have e : ∀ l : List (κ × β), (valG (l.map fun kv => if kv.1 = k then (kv.1, v) else kv) k') = valG l k' := by
            intro l
            induction l with
            | nil => rfl
            | cons q l ih2 =>
              by_cases h5 : q.1 = k
              · have h6 : ¬ q.1 = k' := fun z => h3 (h5.symm.trans z)
                simp only [List.map_cons, if_pos h5]
                unfold valG at ih2 ⊢
                rw [List.find?_cons_of_neg (by simpa using h6), List.find?_cons_of_neg (by simpa using h6)]
                exact ih2
              · simp only [List.map_cons, if_neg h5]
                unfold valG at ih2 ⊢
                by_cases h6 : q.1 = k'
                · rw [List.find?_cons_of_pos (by simpa using h6), List.find?_cons_of_pos (by simpa using h6)]
                · rw [List.find?_cons_of_neg (by simpa using h6), List.find?_cons_of_neg (by simpa using h6)]
                  exact ih2
          have e2 := e kvs
          unfold valG at e2 ⊢
          rw [List.find?_cons_of_neg (by simpa using h4), List.find?_cons_of_neg (by simpa using h4)]
          exact e2
      · rw [if_neg h1]
        have h' : (kvs.any fun kv => decide (kv.1 = k)) = true := by simpa [h1] using h
        have ih := ih h'
        unfold valG at ih ⊢
        by_cases h6 : kv.1 = k'
        · have h7 : ¬ k' = k := fun z => h1 (h6.trans z)
          rw [List.find?_cons_of_pos (by simpa using h6), if_neg h7, List.find?_cons_of_pos (by simpa using h6)]
        · rw [List.find?_cons_of_neg (by simpa using h6), List.find?_cons_of_neg (by simpa using h6)]
          exact ih
  · rw [if_neg h]
    have hn : ∀ kv ∈ kvs, ¬ kv.1 = k := fun kv hkv z => h (List.any_eq_true.mpr ⟨kv, hkv, by simpa using z⟩)
    unfold valG
    rw [List.find?_append]
    by_cases h2 : k' = k
    · subst h2
      rw [if_pos rfl, List.find?_eq_none.mpr fun kv hkv => by simpa using hn kv hkv]
      simp
    · rw [if_neg h2]
      have h3 : ¬ k = k' := fun z => h2 z.symm
      cases q : kvs.find? (fun kv => decide (kv.1 = k')) with
      | some z => simp
      | none => simp [h3]
theorem putG_len {κ β : Type} [DecidableEq κ] {kvs : List (κ × β)} {k : κ} {v : β} : (putG kvs k v).length ≤ kvs.length + 1 := by
  unfold putG
  split <;> simp
/-- {x: v(x) for x in xs} -/
def dictN (f : List Nat → D) (xs : List (List Nat)) : List (List Key × D) := xs.foldl (fun kvs x => putG kvs (kN x) (f x)) []
theorem dictN_val {f : List Nat → D} {xs : List (List Nat)} {y : List Nat} : valG (dictN f xs) (kN y) = if y ∈ xs then some (f y) else none := by
  have key : ∀ (xs : List (List Nat)) (kvs : List (List Key × D)), valG (xs.foldl (fun kvs x => putG kvs (kN x) (f x)) kvs) (kN y) = if y ∈ xs then some (f y) else valG kvs (kN y) := by
    intro xs
    induction xs with
    | nil => intro kvs; simp
    | cons x xs ih =>
      intro kvs
      rw [List.foldl_cons, ih]
      by_cases h : y ∈ xs
      · simp [h]
      · rw [if_neg h, valG_put]
        by_cases h2 : y = x
        · subst h2; simp
        · have : ¬ kN y = kN x := fun z => h2 (kN_inj.mp z)
          simp [h, h2, this]
  rw [dictN, key]
  simp [valG]
theorem dictN_len {f : List Nat → D} {xs : List (List Nat)} : (dictN f xs).length ≤ xs.length := by
  have key : ∀ (xs : List (List Nat)) (kvs : List (List Key × D)), (xs.foldl (fun kvs x => putG kvs (kN x) (f x)) kvs).length ≤ kvs.length + xs.length := by
    intro xs
    induction xs with
    | nil => intro kvs; simp
    | cons x xs ih =>
      intro kvs
      rw [List.foldl_cons]
      have h1 := ih (putG kvs (kN x) (f x))
      have h2 := putG_len (kvs := kvs) (k := kN x) (v := f x)
      simp only [List.length_cons]
      omega
  simpa [dictN] using key xs []
theorem tc_dict {g : MG} {ev : ME} {ek : ME} {r0 : Sl} {f : List Nat → D} {xs : List (List Nat)} (hx : xs.length < sizeLine) (h : ∀ x ∈ xs, ∃ r1, g (bagN x) r0 S = .ok r1 S ∧ ek r1 S = .ok (bagN x) S ∧ ev r1 S = .ok (f x) S) : mTcL g mYes ek ev r0 (xs.map bagN) [] S = .ok (dictN f xs) S := by
  have key : ∀ (xs : List (List Nat)) (kvs : List (List Key × D)), kvs.length + xs.length < sizeLine → (∀ x ∈ xs, ∃ r1, g (bagN x) r0 S = .ok r1 S ∧ ek r1 S = .ok (bagN x) S ∧ ev r1 S = .ok (f x) S) → mTcL g mYes ek ev r0 (xs.map bagN) kvs S = .ok (xs.foldl (fun kvs x => putG kvs (kN x) (f x)) kvs) S := by
    intro xs
    induction xs with
    | nil => intro kvs _ _; rfl
    | cons x xs ih =>
      intro kvs hl h
      obtain ⟨r1, e1, e2, e3⟩ := h x List.mem_cons_self
      have h2 := putG_len (kvs := kvs) (k := kN x) (v := f x)
      simp only [List.length_cons] at hl
      have := ih (putG kvs (kN x) (f x)) (by omega) fun y hy => h y (List.mem_cons_of_mem _ hy)
      rw [List.map_cons, List.foldl_cons, ← this]
      show ((g (bagN x) r0 S).bind fun r1 S1 => _) = _
      rw [e1]
      simp only [R.bind_ok, mYes_rd, if_true]
      rw [e2]
      simp only [R.bind_ok]
      rw [e3]
      simp only [R.bind_ok, keyT_bagN]
      rw [if_pos (by omega)]
  exact key xs [] (by simpa using hx) h
theorem getN_at {kvs : List (List Key × D)} (h : S[k]? = some (.dT kvs)) (h2 : valG kvs (kN x) = some d) : getT (.ref k) (bagN x) S = .ok d S := by
  unfold getT
  simp [dctT, h, h2]
theorem inN_at {neg : Bool} {kvs : List (List Key × D)} (h : S[k]? = some (.dT kvs)) : inT neg (bagN x) (.ref k) S = .ok (.bl (if neg = true then !(valG kvs (kN x)).isSome else (valG kvs (kN x)).isSome)) S := by
  unfold inT
  simp [dctT, h]
theorem putN_at {kvs : List (List Key × D)} (h : S[k]? = some (.dT kvs)) (h2 : kvs.length < sizeLine) : putT (.ref k) (bagN x) d r S = .nx r (S.set k (.dT (putG kvs (kN x) d))) := by
  unfold putT
  simp [h, h2]
end
end DL
namespace DL
open PySem PySem.Spec PyProof.Rows L2
/-! ### sets as data -/
abbrev sns : List Str := ["signs", "seen_at", "found", "told"]
abbrev setD (a : Str) (b p : Nat) (fs : List (List Nat)) : D := .obj "BagSet" sns [.str a, glD b p, .lst (fs.map bagN), .tup [.str a, glD b p, .lst (fs.map bagN)]]
/-- the looks of F at a glass -/
def fndL (k b p : Nat) (F : FS) : List (List Nat) := (allL k (b + p)).filter F
theorem fndL_len {k b p : Nat} {F : FS} : (fndL k b p F).length ≤ (b + p) ^ k := by
  unfold fndL
  have := List.length_filter_le F (allL k (b + p))
  rw [allL_len] at this
  exact this
theorem mem_fndL {k b p : Nat} {F : FS} {x : List Nat} : x ∈ fndL k b p F ↔ (x.length = k ∧ ∀ c ∈ x, c < b + p) ∧ F x = true := by
  unfold fndL
  rw [List.mem_filter, mem_allL]
/-- membership by looks -/
theorem in_fndL {k b p : Nat} {F : FS} {x : List Nat} (hp : 0 < p) (h : Seen k b p F) (hx : x.length = k) : decide (lkB b p x ∈ fndL k b p F) = F x := by
  rw [Bool.eq_iff_iff, decide_eq_true_eq, mem_fndL]
  constructor
  · rintro ⟨_, h2⟩; rw [← h x hx]; exact h2
  · intro h2
    exact ⟨mem_allL.mp (lkB_mem hp hx), by rw [h x hx]; exact h2⟩
open Classical in
noncomputable def gOf (k : Nat) (F : FS) : Nat × Nat := if h : ∃ q : Nat × Nat, LeastG k F q.1 q.2 then h.choose else (0, 1)
theorem gOf_eq {k b p : Nat} {F : FS} (h : LeastG k F b p) : gOf k F = (b, p) := by
  have e : ∃ q : Nat × Nat, LeastG k F q.1 q.2 := ⟨(b, p), h⟩
  unfold gOf
  rw [dif_pos e]
  obtain ⟨h1, h2⟩ := e.choose_spec.uniq h
  exact Prod.ext h1 h2
theorem gOf_least {k B P : Nat} {F : FS} (hP : 0 < P) (h : Seen k B P F) : LeastG k F (gOf k F).1 (gOf k F).2 := by
  obtain ⟨b, p, hl⟩ := least_ex hP h
  rw [gOf_eq hl]; exact hl
/-- the set of F -/
noncomputable def setC (a : Str) (F : FS) : D := setD a (gOf a.length F).1 (gOf a.length F).2 (fndL a.length (gOf a.length F).1 (gOf a.length F).2 F)
theorem setC_eq {a : Str} {b p : Nat} {F : FS} (h : LeastG a.length F b p) : setC a F = setD a b p (fndL a.length b p F) := by
  unfold setC; rw [gOf_eq h]
theorem fndL_congr {k b p : Nat} {F G : FS} (h : ∀ x : List Nat, x.length = k → F x = G x) : fndL k b p F = fndL k b p G := by
  unfold fndL
  exact List.filter_congr fun x hx => h x (mem_allL.mp hx).1
theorem setC_congr {a : Str} {B P : Nat} {F G : FS} (hP : 0 < P) (s : Seen a.length B P F) (h : ∀ x : List Nat, x.length = a.length → F x = G x) : setC a F = setC a G := by
  have h1 := gOf_least hP s
  rw [setC_eq h1, setC_eq (h1.congr h), fndL_congr h]
/-- equal looks at the least glass: equal sets -/
theorem setC_inj {a : Str} {B P B' P' : Nat} {F G : FS} (hP : 0 < P) (s : Seen a.length B P F) (hP' : 0 < P') (s' : Seen a.length B' P' G) (h : gOf a.length F = gOf a.length G ∧ fndL a.length (gOf a.length F).1 (gOf a.length F).2 F = fndL a.length (gOf a.length G).1 (gOf a.length G).2 G) : ∀ x : List Nat, x.length = a.length → F x = G x := fun x hx => by
  have h1 := gOf_least hP s
  have h2 := gOf_least hP' s'
  rw [← in_fndL h1.pos h1.seen hx, ← in_fndL h2.pos h2.seen hx, h.2, h.1]
/-! unions and the like are seen where both are -/
theorem Seen.op2 {k b p : Nat} {F G : FS} (f : Bool → Bool → Bool) (h1 : Seen k b p F) (h2 : Seen k b p G) : Seen k b p (fun x => f (F x) (G x)) := fun x hx => by
  show f _ _ = f _ _
  rw [h1 x hx, h2 x hx]
theorem Seen.op1 {k b p : Nat} {F : FS} (f : Bool → Bool) (h1 : Seen k b p F) : Seen k b p (fun x => f (F x)) := fun x hx => by
  show f _ = f _
  rw [h1 x hx]
theorem Seen.looks {k b p : Nat} (hp : 0 < p) (L : List (List Nat)) : Seen k b p (fun x => decide (lkB b p x ∈ L)) := fun x hx => by
  show decide _ = decide _
  rw [lkB_idem hp]
theorem Seen.const {k b p : Nat} (v : Bool) : Seen k b p (fun _ => v) := fun _ _ => rfl
end DL
namespace DL
open PySem PySem.Spec PyProof.Rows L2
/-! ### sets of sets' operators -/
def sAnd (F G : FS) : FS := fun x => F x && G x
def sOr (F G : FS) : FS := fun x => F x || G x
def sDif (F G : FS) : FS := fun x => F x && !G x
def sNot (F : FS) : FS := fun x => !F x
def sAll : FS := fun _ => true
def sNone : FS := fun _ => false
section
variable {k b p : Nat} {F G : FS}
theorem Seen.and (h1 : Seen k b p F) (h2 : Seen k b p G) : Seen k b p (sAnd F G) := h1.op2 (fun u v => u && v) h2
theorem Seen.or (h1 : Seen k b p F) (h2 : Seen k b p G) : Seen k b p (sOr F G) := h1.op2 (fun u v => u || v) h2
theorem Seen.dif (h1 : Seen k b p F) (h2 : Seen k b p G) : Seen k b p (sDif F G) := h1.op2 (fun u v => u && !v) h2
theorem Seen.not (h1 : Seen k b p F) : Seen k b p (sNot F) := h1.op1 (fun u => !u)
theorem Seen.all : Seen k b p sAll := Seen.const true
theorem Seen.none : Seen k b p sNone := Seen.const false
end
section
variable {S : Store} {a : Str} {F G : FS} {tbl : List (Str × MF2)} {mf : MF2} {neg : Bool} {n : Nat}
theorem insD_C : insD S (setC a F) = some (("BagSet" : Str), sns, [.str a, glD (gOf a.length F).1 (gOf a.length F).2, .lst ((fndL a.length (gOf a.length F).1 (gOf a.length F).2 F).map bagN), .tup [.str a, glD (gOf a.length F).1 (gOf a.length F).2, .lst ((fndL a.length (gOf a.length F).1 (gOf a.length F).2 F).map bagN)]]) := rfl
theorem binO_C {f : Store → D → D → D → Prop} (h : tbl.lookup ("BagSet" : Str) = some mf) : binO tbl f (setC a F) (setC a G) S = mf [setC a F, setC a G] [] S := by
  unfold binO; simp [insD_C, h]
theorem spO_C {xs : List D} (h : tbl.lookup ("BagSet" : Str) = some mf) : spO tbl (setC a F) xs S = mf (setC a F :: xs) [] S := by
  unfold spO; simp [insD_C, h]
theorem inO_C {d : D} (h : tbl.lookup ("BagSet" : Str) = some mf) : inO neg tbl d (setC a F) S = notB neg (mf [setC a F, d] [] S) := by
  unfold inO; simp [insD_C, spO_C h]
theorem eqO_C {owns : List Str} {a' : Str} (h : tbl.lookup ("BagSet" : Str) = some mf) (h2 : owns.contains ("BagSet" : Str) = true) : eqO neg owns tbl (setC a F) (setC a' G) S = notB neg (mf [setC a F, setC a' G] [] S) := eqO_obj insD_C h (by unfold eqOkY; simp only [insD_C]; exact h2)
theorem meth_C {m : Str} {k : R (List D × List D)} (h : tbl.lookup ("BagSet" : Str) = some mf) (hm : sns.contains m = false) : methR m n tbl (setC a F) (insD S (setC a F)) k = k.bind fun p S3 => if p.2.length = n then mf (setC a F :: p.1) p.2 S3 else .no := methR_at hm h
theorem prop_C {f : Str} {fl : List Str} (h : tbl.lookup ("BagSet" : Str) = some mf) : attrR f fl tbl (setC a F) (insD S (setC a F)) S = (mf [setC a F] [] S).nox := attrR_prop h
theorem rlt_C : rlt n (setC a F) = true := by simp [setC, rlt, rlts, glD, rlts_bagN]
end
/-- a comprehension that leaves out what a test with effects leaves out -/
theorem lc_sub {α : Type} {g : MG} {t : MT} {e : ME} {r0 : Sl} (en : α → D) (Q : Store → Prop) {xs : List α} (h : ∀ x ∈ xs, ∀ S, Q S → ∃ r1 v S', g (en x) r0 S = .ok r1 S ∧ t r1 S = .ok v S' ∧ Q S' ∧ e r1 S' = .ok (en x) S') : ∀ {S : Store}, Q S → ∃ (ys : List α) (S' : Store), mLcL g t e r0 (xs.map en) S = .ok (ys.map en) S' ∧ Q S' ∧ ys.length ≤ xs.length ∧ ∀ y ∈ ys, y ∈ xs := by
  induction xs with
  | nil => exact fun {S} hq => ⟨[], S, rfl, hq, by simp, by simp⟩
  | cons x xs ih =>
    intro S hq
    obtain ⟨r1, v, S1, e1, e2, hq1, e3⟩ := h x List.mem_cons_self S hq
    obtain ⟨ys, S2, e4, hq2, hl, hs⟩ := ih (fun y hy => h y (List.mem_cons_of_mem _ hy)) hq1
    rw [List.map_cons, mLcL_cons, e1]
    simp only [R.bind_ok]
    rw [e2]
    simp only [R.bind_ok]
    cases v with
    | true =>
      refine ⟨x :: ys, S2, ?_, hq2, by simpa using hl, fun y hy => ?_⟩
      · simp only [if_true]
        rw [e3]
        simp only [R.bind_ok]
        rw [e4]; rfl
      · rcases List.mem_cons.mp hy with rfl | hy
        · exact List.mem_cons_self
        · exact List.mem_cons_of_mem _ (hs y hy)
    | false =>
      refine ⟨ys, S2, ?_, hq2, by simp; omega, fun y hy => List.mem_cons_of_mem _ (hs y hy)⟩
      rw [if_neg (by simp), e4]
end DL
namespace DL
open PySem PySem.Spec PyProof.Rows L2
/-! ### sums -/
def sm : Nat → (Nat → Nat) → Nat
  | 0, _ => 0
  | n + 1, f => sm n f + f n
theorem sm_congr {f g : Nat → Nat} : ∀ (n : Nat), (∀ i, i < n → f i = g i) → sm n f = sm n g
  | 0, _ => rfl
  | n + 1, h => by
    show sm n f + f n = sm n g + g n
    rw [sm_congr n fun i hi => h i (by omega), h n (by omega)]
theorem sm_zero {f : Nat → Nat} : ∀ (n : Nat), (∀ i, i < n → f i = 0) → sm n f = 0
  | 0, _ => rfl
  | n + 1, h => by
    show sm n f + f n = 0
    rw [sm_zero n fun i hi => h i (by omega), h n (by omega)]
theorem sm_split {f : Nat → Nat} (m : Nat) : ∀ (n : Nat), sm (m + n) f = sm m f + sm n fun i => f (m + i)
  | 0 => rfl
  | n + 1 => by
    show sm (m + n) f + f (m + n) = sm m f + (sm n (fun i => f (m + i)) + f (m + n))
    rw [sm_split m n]; omega
theorem sm_add {f g : Nat → Nat} : ∀ (n : Nat), (sm n fun i => f i + g i) = sm n f + sm n g
  | 0 => rfl
  | n + 1 => by
    show (sm n fun i => f i + g i) + (f n + g n) = (sm n f + f n) + (sm n g + g n)
    rw [sm_add n]; omega
/-- what lies beyond is nothing -/
theorem sm_cut {f : Nat → Nat} {m n : Nat} (h : m ≤ n) (hz : ∀ i, m ≤ i → f i = 0) : sm n f = sm m f := by
  obtain ⟨d, rfl⟩ := Nat.exists_eq_add_of_le h
  rw [sm_split, sm_zero d fun i _ => hz _ (by omega)]; rfl
theorem sm_swap {g : Nat → Nat → Nat} (m : Nat) : ∀ n : Nat, (sm n fun i => sm m fun j => g i j) = sm m fun j => sm n fun i => g i j
  | 0 => (sm_zero m fun _ _ => rfl).symm
  | n + 1 => by
    show (sm n fun i => sm m fun j => g i j) + sm m (fun j => g n j) = sm m fun j => (sm n fun i => g i j) + g n j
    rw [sm_swap m n, sm_add]
def ls {α : Type} (l : List α) (f : α → Nat) : Nat := (l.map f).sum
section
variable {α β : Type} {l : List α} {f g : α → Nat}
@[simp] theorem ls_nil : ls ([] : List α) f = 0 := rfl
@[simp] theorem ls_cons {x : α} : ls (x :: l) f = f x + ls l f := by simp [ls]
theorem ls_append {m : List α} : ls (l ++ m) f = ls l f + ls m f := by simp [ls]
theorem ls_congr : (∀ x ∈ l, f x = g x) → ls l f = ls l g := fun h => by
  unfold ls; rw [List.map_congr_left h]
theorem ls_flat {h : α → List β} {f : β → Nat} : ∀ {l : List α}, ls (l.flatMap h) f = ls l fun x => ls (h x) f
  | [] => rfl
  | x :: l => by rw [List.flatMap_cons, ls_append, ls_flat, ls_cons]
theorem ls_range {h : Nat → β} {f : β → Nat} : ∀ n : Nat, ls ((List.range n).map h) f = sm n fun i => f (h i)
  | 0 => rfl
  | n + 1 => by rw [List.range_succ, List.map_append, ls_append, ls_range n]; simp [sm]
theorem ls_swap {g : α → Nat → Nat} (n : Nat) : ∀ {l : List α}, (ls l fun x => sm n (g x)) = sm n fun i => ls l fun x => g x i
  | [] => (sm_zero n fun _ _ => rfl).symm
  | x :: l => by
    rw [ls_cons, ls_swap n, ← sm_add]
    exact sm_congr n fun i _ => (ls_cons (f := fun x => g x i)).symm
theorem len_filter {p : α → Bool} : ∀ {l : List α}, (l.filter p).length = ls l fun x => if p x = true then 1 else 0
  | [] => rfl
  | x :: l => by
    rw [List.filter_cons, ls_cons, ← len_filter]
    split <;> simp <;> omega
theorem ls_filter {p : α → Bool} : ∀ {l : List α}, ls (l.filter p) f = ls l fun x => if p x = true then f x else 0
  | [] => rfl
  | x :: l => by
    rw [List.filter_cons, ls_cons, ← ls_filter]
    split <;> simp
end
/-! ### in how many ways a number is a sum -/
def W : Nat → Nat → Nat
  | 0, 0 => 1
  | 0, _ + 1 => 0
  | _ + 1, 0 => 1
  | k + 1, n + 1 => W (k + 1) n + W k (n + 1)
theorem W_zero : ∀ k, W k 0 = 1
  | 0 => by simp [W]
  | _ + 1 => by simp [W]
theorem W_pos {n : Nat} (h : n ≠ 0) : W 0 n = 0 := by
  cases n with
  | zero => exact absurd rfl h
  | succ n => simp [W]
theorem W_succ {k n : Nat} : W (k + 1) (n + 1) = W (k + 1) n + W k (n + 1) := by rw [W]
theorem W_sum (k : Nat) : ∀ n, (sm (n + 1) fun i => W k (n - i)) = W (k + 1) n
  | 0 => by simp [sm, W_zero]
  | n + 1 => by
    have e := sm_split (f := fun i => W k (n + 1 - i)) 1 (n + 1)
    rw [Nat.add_comm 1 (n + 1)] at e
    rw [e, W_succ, ← W_sum k n]
    have e2 : (sm (n + 1) fun i => W k (n + 1 - (1 + i))) = sm (n + 1) fun i => W k (n - i) := sm_congr _ fun i _ => by
      rw [show n + 1 - (1 + i) = n - i by omega]
    rw [e2]
    show (0 + W k (n + 1 - 0)) + _ = _
    rw [Nat.sub_zero]; omega
theorem W_AB : ∀ j, (∀ n, (n + 1) * W j (n + 1) = (n + j) * W j n) ∧ ∀ n, j * W (j + 1) n = (n + j) * W j n := by
  have hA : ∀ j, (∀ n, (n + 1) * W j (n + 1) = (n + j) * W j n) → ∀ n, j * W (j + 1) n = (n + j) * W j n := by
    intro j hB n
    induction n with
    | zero => rw [W_zero, W_zero]; omega
    | succ n ih =>
      have := hB n
      rw [W_succ, Nat.mul_add, ih, ← this, ← Nat.add_mul]
  intro j
  induction j with
  | zero =>
    have hB : ∀ n, (n + 1) * W 0 (n + 1) = (n + 0) * W 0 n := fun n => by
      rw [W_pos (by omega)]
      cases n with
      | zero => simp
      | succ n => rw [W_pos (by omega)]; simp
    exact ⟨hB, hA 0 hB⟩
  | succ j ih =>
    have hB : ∀ n, (n + 1) * W (j + 1) (n + 1) = (n + (j + 1)) * W (j + 1) n := fun n => by
      rw [W_succ, Nat.mul_add, ih.1 n, ← ih.2 n, ← Nat.add_mul]
      congr 1; omega
    exact ⟨hB, hA (j + 1) hB⟩
theorem W_step {j n : Nat} (hj : 0 < j) : W j n * (n + j) / j = W (j + 1) n := by
  rw [Nat.mul_comm, ← (W_AB j).2 n, Nat.mul_div_cancel_left _ hj]
theorem W_one : ∀ n, W 1 n = 1
  | 0 => W_zero 1
  | n + 1 => by rw [W_succ, W_one n, W_pos (by omega)]
theorem W_two (n : Nat) : W 2 n = n + 1 := by
  have := (W_AB 1).2 n
  rw [W_one, Nat.one_mul, Nat.mul_one] at this; exact this
theorem W_le {j n : Nat} (hj : 0 < j) : W (j + 1) n ≤ W j n * (n + j) := by
  have := (W_AB j).2 n
  have h2 : W (j + 1) n ≤ j * W (j + 1) n := Nat.le_mul_of_pos_left _ hj
  rw [Nat.mul_comm (W j n)]; omega
theorem W_small {n : Nat} (hn : n + 4 < 2 ^ 71) : ∀ j, j ≤ 4 → W j n < 2 ^ (72 * j + 1)
  | 0, _ => by
    by_cases h : n = 0
    · rw [h, W_zero]; omega
    · rw [W_pos h]; omega
  | 1, _ => by rw [W_one]; omega
  | j + 2, h => by
    have ih := W_small hn (j + 1) (by omega)
    have h1 := W_le (j := j + 1) (n := n) (by omega)
    have h2 : W (j + 1) n * (n + (j + 1)) < 2 ^ (72 * (j + 1) + 1) * 2 ^ 71 := Nat.mul_lt_mul'' ih (by omega)
    rw [← Nat.pow_add] at h2
    exact Nat.lt_of_le_of_lt h1 (Nat.lt_of_lt_of_le h2 (Nat.pow_le_pow_right (by omega) (by omega)))
/-! ### how many bags of a set have a total -/
def cnt : Nat → Nat → FS → Nat
  | 0, n, F => if n = 0 ∧ F [] = true then 1 else 0
  | k + 1, n, F => sm (n + 1) fun c => cnt k (n - c) fun x => F (x ++ [c])
theorem cnt_all : ∀ k n, cnt k n (fun _ => true) = W k n
  | 0, n => by
    unfold cnt
    by_cases h : n = 0
    · rw [h, W_zero]; simp
    · rw [W_pos h]; simp [h]
  | k + 1, n => by
    unfold cnt
    rw [← W_sum]
    exact sm_congr _ fun c _ => cnt_all k _
theorem cnt_none : ∀ k n, cnt k n (fun _ => false) = 0
  | 0, n => by simp [cnt]
  | k + 1, n => by
    unfold cnt
    exact sm_zero _ fun c _ => cnt_none k _
theorem cnt_not : ∀ k n (F : FS), cnt k n F + cnt k n (sNot F) = W k n
  | 0, n, F => by
    unfold cnt sNot
    by_cases h : n = 0
    · rw [h, W_zero]
      cases F [] <;> simp
    · rw [W_pos h]; simp [h]
  | k + 1, n, F => by
    unfold cnt
    rw [← W_sum, ← sm_add]
    exact sm_congr _ fun c _ => cnt_not k _ _
/-- counted over all bags below a bound -/
theorem cnt_list {m : Nat} : ∀ (k n : Nat) (F : FS), n < m → ((allL k m).filter fun x => decide (x.sum = n) && F x).length = cnt k n F
  | 0, n, F, h => by
    unfold cnt allL
    by_cases h0 : n = 0
    · subst h0; cases hF : F [] <;> simp [hF]
    · have : ¬ 0 = n := fun z => h0 z.symm
      simp [h0, this]
  | k + 1, n, F, h => by
    unfold cnt
    rw [len_filter]
    show ls ((allL k m).flatMap fun f => (List.range m).map fun c => f ++ [c]) _ = _
    rw [ls_flat]
    have e1 : (ls (allL k m) fun f => ls ((List.range m).map fun c => f ++ [c]) fun x => if (decide (x.sum = n) && F x) = true then 1 else 0) = ls (allL k m) fun f => sm m fun c => if (decide (f.sum + c = n) && F (f ++ [c])) = true then 1 else 0 := ls_congr fun f _ => by
      rw [ls_range]
      exact sm_congr m fun c _ => by simp
    rw [e1, ls_swap]
    have e2 : ∀ c, n + 1 ≤ c → (ls (allL k m) fun f => if (decide (f.sum + c = n) && F (f ++ [c])) = true then 1 else 0) = 0 := fun c hc => by
      rw [ls_congr (g := fun _ => 0) fun f _ => by
        have : ¬ f.sum + c = n := by omega
        simp [this]]
      generalize allL k m = l
      induction l with
      | nil => rfl
      | cons x l ih => rw [ls_cons, ih]
    rw [sm_cut (m := n + 1) (by omega) e2]
    refine sm_congr _ fun c hc => ?_
    rw [← cnt_list (m := m) k (n - c) (fun x => F (x ++ [c])) (by omega), len_filter]
    exact ls_congr fun (f : List Nat) _ => by
      have : decide (f.sum + c = n) = decide (f.sum = n - c) := by rw [decide_eq_decide]; omega
      rw [this]
/-! by looks -/
def Rw (p m s n : Nat) : Nat := if s ≤ n ∧ p ∣ n - s then W m ((n - s) / p) else 0
def fr (b : Nat) (y : List Nat) : Nat := (y.filter fun c => decide (b ≤ c)).length
theorem Rw_sum {p m u n Q : Nat} (hp : 0 < p) (hQ : n < u + (Q + 1) * p) : (sm (Q + 1) fun q => Rw p m (u + q * p) n) = Rw p (m + 1) u n := by
  by_cases h : u ≤ n ∧ p ∣ n - u
  · obtain ⟨h1, N, h2⟩ := h
    have hN : N < Q + 1 := by
      have : p * N < (Q + 1) * p := by omega
      rw [Nat.mul_comm] at this
      exact Nat.lt_of_mul_lt_mul_right this
    have e1 : Rw p (m + 1) u n = W (m + 1) N := by
      unfold Rw
      rw [if_pos ⟨h1, N, h2⟩, h2, Nat.mul_div_cancel_left _ hp]
    have e2 : ∀ q, q ≤ N → Rw p m (u + q * p) n = W m (N - q) := fun q hq => by
      have h3 : q * p ≤ p * N := by rw [Nat.mul_comm p]; exact Nat.mul_le_mul_right p hq
      have h4 : n - (u + q * p) = p * (N - q) := by rw [Nat.mul_sub, ← h2, Nat.mul_comm p q]; omega
      unfold Rw
      rw [if_pos ⟨by omega, _, h4⟩, h4, Nat.mul_div_cancel_left _ hp]
    have e3 : ∀ q, N + 1 ≤ q → Rw p m (u + q * p) n = 0 := fun q hq => by
      have h3 : p * (N + 1) ≤ q * p := by rw [Nat.mul_comm p]; exact Nat.mul_le_mul_right p hq
      rw [Nat.mul_add, Nat.mul_one] at h3
      unfold Rw
      rw [if_neg (fun z => by omega)]
    rw [sm_cut (m := N + 1) (by omega) e3, e1, ← W_sum]
    exact sm_congr _ fun q hq => e2 q (by omega)
  · have e1 : Rw p (m + 1) u n = 0 := by unfold Rw; rw [if_neg h]
    rw [e1]
    refine sm_zero _ fun q _ => ?_
    unfold Rw
    rw [if_neg]
    rintro ⟨h1, h2⟩
    refine h ⟨by omega, ?_⟩
    have : n - u = (n - (u + q * p)) + q * p := by omega
    rw [this]
    exact Nat.dvd_add h2 (Nat.dvd_mul_left p q)
/-- the counts of one place, by their looks -/
theorem place_sum {b p m s n : Nat} {G : Nat → Bool} (hp : 0 < p) : (sm (n + 1) fun c => if G (lkN b p c) = true then Rw p m (s + c) n else 0) = sm (b + p) fun c => if G c = true then Rw p (m + if b ≤ c then 1 else 0) (s + c) n else 0 := by
  have key : ∀ Q, (sm (b + (Q + 1) * p) fun c => if G (lkN b p c) = true then Rw p m (s + c) n else 0) = (sm b fun c => if G c = true then Rw p m (s + c) n else 0) + sm p fun i => if G (b + i) = true then sm (Q + 1) fun q => Rw p m (s + (b + i) + q * p) n else 0 := by
    intro Q
    induction Q with
    | zero =>
      rw [Nat.zero_add, Nat.one_mul, sm_split]
      congr 1
      · exact sm_congr _ fun c hc => by rw [lkN_id (by omega)]
      · refine sm_congr _ fun i hi => ?_
        rw [lkN_id (by omega)]
        simp [sm]
    | succ Q ih =>
      rw [show b + (Q + 1 + 1) * p = (b + (Q + 1) * p) + p by rw [Nat.succ_mul (Q + 1)]; omega, sm_split, ih, Nat.add_assoc, ← sm_add]
      congr 1
      refine sm_congr _ fun i hi => ?_
      have e : lkN b p (b + (Q + 1) * p + i) = b + i := by
        rw [show b + (Q + 1) * p + i = (b + i) + (Q + 1) * p by omega, lkN_addm (by omega) hp, lkN_id (by omega)]
      rw [e]
      by_cases h : G (b + i) = true
      · simp only [if_pos h]
        show _ = _ + Rw p m (s + (b + i) + (Q + 1) * p) n
        rw [show s + (b + (Q + 1) * p + i) = s + (b + i) + (Q + 1) * p by omega]
      · simp [h]
  have hz : ∀ c, n + 1 ≤ c → (if G (lkN b p c) = true then Rw p m (s + c) n else 0) = 0 := fun c hc => by
    have : Rw p m (s + c) n = 0 := by unfold Rw; rw [if_neg (fun z => by omega)]
    rw [this]; simp
  have hb : n + 1 ≤ b + (n + 1) * p := by
    have : n + 1 ≤ (n + 1) * p := Nat.le_mul_of_pos_right _ hp
    omega
  rw [← sm_cut hb hz, key n, sm_split b p]
  congr 1
  · refine sm_congr _ fun c hc => ?_
    have : ¬ b ≤ c := by omega
    simp [this]
  · refine sm_congr _ fun i hi => ?_
    by_cases h : G (b + i) = true
    · simp only [if_pos h]
      rw [if_pos (show b ≤ b + i by omega)]
      exact Rw_sum hp (by have : n + 1 ≤ (n + 1) * p := Nat.le_mul_of_pos_right _ hp; omega)
    · simp [h]
theorem cnt_looks {b p : Nat} (hp : 0 < p) : ∀ (k n : Nat) (F : FS), Seen k b p F → cnt k n F = ls (allL k (b + p)) fun y => if F y = true then Rw p (fr b y) y.sum n else 0
  | 0, n, F, h => by
    unfold cnt allL
    simp only [ls_cons, ls_nil, Nat.add_zero]
    cases hF : F [] with
    | false => simp
    | true =>
      simp only [if_true, and_true]
      unfold Rw fr
      by_cases h0 : n = 0
      · subst h0; simp [W_zero]
      · rw [if_neg h0]
        by_cases hd : p ∣ n
        · obtain ⟨N, rfl⟩ := hd
          have : N ≠ 0 := fun z => h0 (by rw [z]; simp)
          simp [Nat.mul_div_cancel_left _ hp, W_pos this]
        · simp [hd]
  | k + 1, n, F, h => by
    unfold cnt
    have s1 : ∀ c, Seen k b p fun x => F (x ++ [c]) := fun c x hx => by
      show F _ = F _
      rw [← h (x ++ [c]) (by simp [hx]), ← h (lkB b p x ++ [c]) (by simp [hx])]
      congr 1
      simp only [lkB, List.map_append, List.map_map]
      congr 1
      exact List.map_congr_left fun z _ => lkN_idem hp
    have e1 : (sm (n + 1) fun c => cnt k (n - c) fun x => F (x ++ [c])) = sm (n + 1) fun c => ls (allL k (b + p)) fun f => if F (f ++ [lkN b p c]) = true then Rw p (fr b f) (f.sum + c) n else 0 := sm_congr _ fun c hc => by
      rw [cnt_looks hp k (n - c) _ (s1 c)]
      refine ls_congr fun f hf => ?_
      have hfl := mem_allL.mp hf
      have e : F (f ++ [lkN b p c]) = F (f ++ [c]) := by
        rw [← h (f ++ [c]) (by simp [hfl.1])]
        congr 1
        rw [lkB, List.map_append, ← lkB, lkB_of_mem hf]; rfl
      rw [e]
      have e2 : Rw p (fr b f) f.sum (n - c) = Rw p (fr b f) (f.sum + c) n := by
        unfold Rw
        rw [show n - c - f.sum = n - (f.sum + c) by omega]
        by_cases h1 : f.sum + c ≤ n
        · have : f.sum ≤ n - c := by omega
          simp [h1, this]
        · have : ¬ f.sum ≤ n - c := by omega
          simp [h1, this]
      rw [e2]
    rw [e1, ← ls_swap]
    show _ = ls ((allL k (b + p)).flatMap fun f => (List.range (b + p)).map fun c => f ++ [c]) _
    rw [ls_flat]
    refine ls_congr fun f hf => ?_
    rw [ls_range, place_sum (G := fun c => F (f ++ [c])) hp]
    refine sm_congr _ fun c hc => ?_
    have : fr b (f ++ [c]) = fr b f + if b ≤ c then 1 else 0 := by
      unfold fr
      rw [List.filter_append, List.length_append]
      by_cases h : b ≤ c <;> simp [h]
    rw [this]
    simp
/-- over the looks that a set keeps -/
theorem cnt_fnd {b p k n : Nat} {F : FS} (hp : 0 < p) (h : Seen k b p F) : (ls (fndL k b p F) fun y => Rw p (fr b y) y.sum n) = cnt k n F := by
  unfold fndL
  rw [ls_filter, cnt_looks hp k n F h]
end DL
namespace DL
open PySem PySem.Spec PyProof.Rows L2

def topS (i : Nat) : Stmt := PySem.Challenge.pw_bagturns_k16_totals_of_sets_counted.main.body.getD i (.Pass ⟨0,0,0,0⟩)
def inCls (s : Stmt) (i : Nat) : Stmt := match s with
  | .ClassDef _ _ _ b _ _ _ _ _ _ _ => b.getD i (.Pass ⟨0,0,0,0⟩)
  | _ => .Pass ⟨0,0,0,0⟩
def ownL : List Str := ["BagSet"]
def errL : List Str := ["InvalidKinds", "InvalidBag", "InvalidGlass", "KindsDiffer", "TooMany"]
section
variable {P : Program} {w : World} {K : PySem.W.Frag} {mg : Str → Option Value} {base : Heap} {T : List (Addr × Str)}
abbrev s__law_draws : Stmt := topS 41
theorem sc__law_draws : FnScope ["_law_script", "_law_state", "_law_cell"] ["_law_script"] (defScope s__law_draws) := ⟨rfl, rfl, rfl, by decide +kernel, rfl, by decide +kernel, by decide +kernel⟩
noncomputable def l__law_draws_1 : MS := fun r S =>
    (mSet 1 (mOp fMod (mCB bInt (mCons (mOp fAdd (mOp fAdd (mOp fMul (mVar 1) (mC (.int 48611))) (mOp fMod (mCB bInt (mCons (mVar 2) mNil)) (mC (.int 2147483549)))) (mC (.int 29))) mNil)) (mC (.int 2147483647)))) r S
noncomputable def b__law_draws : MS :=
    (mSeq (mSet 1 (mC (.int 3836)))
    (mSeq (mForW [2] (mSeqI (mSl (mVar 0) mNoPart (mPart (mC (.int 63))))) (mgName 2) l__law_draws_1)
    (mRet (mLstS (mCons (mCB bList (mCons (mSl (mVar 0) mNoPart (mPart (mC (.int 63)))) mNil)) (mCons (mC (.int 0)) (mCons (mC (.int 0)) (mCons (mVar 1) (mCons (mC (.int 0)) mNil)))))))))
noncomputable def m__law_draws : MF1 := fun ds S => (b__law_draws (startD ["_law_script", "_law_state", "_law_cell"] ds) S).fin
theorem w__law_draws {f : Addr} {fd : FuncData} {j : Nat} (n_int : mg "int" = none) (n_list : mg "list" = none) :
    ∀ (cdv : Value) (A : Around) (outer : List Env) (s : Shared) (H : Hp) (E : XK), fd.code = cdv → Room j (A.deeper (envOfC "_law_draws" (defScope s__law_draws) s.heap.objs.size f cdv)) →
      DSs (cxD P w K mg base ["_law_script", "_law_state", "_law_cell"] "_law_draws" (defScope s__law_draws) f cdv A outer s H E) T (WD E) (defBody s__law_draws) (toS (b__law_draws)) := by
    intro cdv A outer s H E hcd hr
    refine mss_cons (ms_set (i := 1) sc__law_draws.nd rfl (.inl rfl) me_int) ?n49
    refine mss_cons (ms_forW [2] passD rfl (mi_seq (me_slice (mv 0) mo_none (mo_some me_int))) (mg_name (i := 2) sc__law_draws.nd rfl (.inl rfl)) ?i50) ?n51
    case i50 =>
      delta l__law_draws_1
      refine mss_one (ms_set (i := 1) sc__law_draws.nd rfl (.inl rfl) (me_op opd_mod ?h52 me_int))
      case h52 =>
        refine (me_callTy cb_int (by rfl) n_int (by decide +kernel) (ma_cons (me_op opd_add (me_op opd_add (me_op opd_mul (mv 1) me_int) (me_op opd_mod ?h54 me_int)) me_int) ma_nil) (by decide) (by decide) (by rfl) (by rfl))
        case h54 =>
          exact (me_callTy cb_int (by rfl) n_int (by decide +kernel) (ma_cons (mv 2) ma_nil) (by decide) (by decide) (by rfl) (by rfl))
    refine mss_one (ms_ret (me_lstS (ma_cons ?h55 (ma_cons me_int (ma_cons me_int (ma_cons (mv 1) (ma_cons me_int ma_nil)))))))
    case h55 =>
      exact (me_callTy cb_list (by rfl) n_list (by decide +kernel) (ma_cons (me_slice (mv 0) mo_none (mo_some me_int)) ma_nil) (by decide) (by decide) (by rfl) (by rfl))


abbrev s__law_draw : Stmt := topS 42
theorem sc__law_draw : FnScope ["_law_rng", "_law_sides", "_law_cell", "_law_digit", "_law_seed"] ["_law_rng", "_law_sides"] (defScope s__law_draw) := ⟨rfl, rfl, rfl, by decide +kernel, rfl, by decide +kernel, by decide +kernel⟩
noncomputable def b__law_draw : MS :=
    (mSeq (mAsg (mOp fAdd (mOp fIx (mVar 0) (mC (.int 4))) (mC (.int 1))) (mgSub (mVar 0) (mC (.int 4))))
    (mSeq (mWipe [2] (mIfS (mAnd (mB (mOp fEq (mOp fIx (mVar 0) (mC (.int 2))) (mC (.int 0)))) (mB (mOp fLt (mOp fIx (mVar 0) (mC (.int 1))) (mCB bLen (mCons (mOp fIx (mVar 0) (mC (.int 0))) mNil))))) (mSeq (mSet 2 (mOp fIx (mOp fIx (mVar 0) (mC (.int 0))) (mOp fIx (mVar 0) (mC (.int 1)))))
    (mSeq (mAsg (mOp fAdd (mOp fIx (mVar 0) (mC (.int 1))) (mC (.int 1))) (mgSub (mVar 0) (mC (.int 1))))
    (mIfS (mB (mOp fGe (mVar 2) (mOp fPow (mC (.int 10)) (mC (.int 18))))) (mAsg (mVar 2) (mgSub (mVar 0) (mC (.int 2)))) (mAsg (mOp fMod (mCB bInt (mCons (mOp fAdd (mOp fAdd (mOp fMul (mOp fIx (mVar 0) (mC (.int 3))) (mC (.int 40503))) (mOp fMul (mOp fMod (mCB bInt (mCons (mVar 2) mNil)) (mC (.int 2147483563))) (mC (.int 28657)))) (mC (.int 17))) mNil)) (mC (.int 2147483647))) (mgSub (mVar 0) (mC (.int 3))))))) mNext))
    (mSeq (mWipe [3] (mIfS (mB (mOp fGt (mOp fIx (mVar 0) (mC (.int 2))) (mC (.int 0)))) (mSeq (mSet 3 (mOp fMod (mCB bInt (mCons (mOp fIx (mVar 0) (mC (.int 2))) mNil)) (mVar 1)))
    (mSeq (mAsg (mOp fFdiv (mOp fIx (mVar 0) (mC (.int 2))) (mVar 1)) (mgSub (mVar 0) (mC (.int 2))))
    (mRet (mVar 3)))) mNext))
    (mSeq (mSet 4 (mOp fIx (mVar 0) (mC (.int 3))))
    (mSeq (mAsg (mOp fMod (mCB bInt (mCons (mOp fAdd (mOp fAdd (mOp fAdd (mOp fMul (mVar 4) (mC (.int 39916))) (mOp fMul (mOp fFdiv (mVar 4) (mC (.int 127))) (mC (.int 17389)))) (mOp fMul (mOp fIx (mVar 0) (mC (.int 4))) (mC (.int 1299721)))) (mC (.int 65537))) mNil)) (mC (.int 2147483647))) (mgSub (mVar 0) (mC (.int 3))))
    (mRet (mOp fMod (mCB bInt (mCons (mOp fAdd (mOp fFdiv (mOp fIx (mVar 0) (mC (.int 3))) (mC (.int 83))) (mOp fMul (mOp fMod (mCB bInt (mCons (mOp fIx (mVar 0) (mC (.int 3))) mNil)) (mC (.int 7919))) (mC (.int 61)))) mNil)) (mVar 1))))))))
noncomputable def m__law_draw : MF1 := fun ds S => (b__law_draw (startD ["_law_rng", "_law_sides", "_law_cell", "_law_digit", "_law_seed"] ds) S).fin
theorem w__law_draw {f : Addr} {fd : FuncData} {j : Nat} (n_len : mg "len" = none) (n_int : mg "int" = none) :
    ∀ (cdv : Value) (A : Around) (outer : List Env) (s : Shared) (H : Hp) (E : XK), fd.code = cdv → Room j (A.deeper (envOfC "_law_draw" (defScope s__law_draw) s.heap.objs.size f cdv)) →
      DSs (cxD P w K mg base ["_law_rng", "_law_sides", "_law_cell", "_law_digit", "_law_seed"] "_law_draw" (defScope s__law_draw) f cdv A outer s H E) T (WD E) (defBody s__law_draw) (toS (b__law_draw)) := by
    intro cdv A outer s H E hcd hr
    refine mss_cons (ms_asg (me_op opd_add (me_ix (mv 0) me_int (fun _ _ => rfl)) me_int) (mg_sub (mv 0) me_int)) ?n68
    refine mss_cons (ms_wipe [2] (ms_if (mw_dt (mw_and (mt_cmp (opd_eq hr) (me_ix (mv 0) me_int (fun _ _ => rfl)) me_int (nomark _)) (mw_and1 (mt_cmp opd_lt (me_ix (mv 0) me_int (fun _ _ => rfl)) ?h71 (nomark _))))) ?i69 ?i70)) ?n72
    case h71 =>
      exact (me_callB cb_len (by rfl) n_len (by decide +kernel) (ma_cons (me_ix (mv 0) me_int (fun _ _ => rfl)) ma_nil) (by decide) (by decide) (by rfl) (by rfl))
    case i69 =>
      refine mss_cons (ms_set (i := 2) sc__law_draw.nd rfl (.inl rfl) (me_ix (me_ix (mv 0) me_int (fun _ _ => rfl)) (me_ix (mv 0) me_int (fun _ _ => rfl)) (fun _ _ => rfl))) ?n73
      refine mss_cons (ms_asg (me_op opd_add (me_ix (mv 0) me_int (fun _ _ => rfl)) me_int) (mg_sub (mv 0) me_int)) ?n74
      refine mss_one (ms_if (mt_cmp opd_ge (mv 2) (me_op opd_pow me_int me_int) (nomark _)) ?i75 ?i76)
      case i75 =>
        refine mss_one (ms_asg (mv 2) (mg_sub (mv 0) me_int))
      case i76 =>
        refine mss_one (ms_asg (me_op opd_mod ?h79 me_int) (mg_sub (mv 0) me_int))
        case h79 =>
          refine (me_callTy cb_int (by rfl) n_int (by decide +kernel) (ma_cons (me_op opd_add (me_op opd_add (me_op opd_mul (me_ix (mv 0) me_int (fun _ _ => rfl)) me_int) (me_op opd_mul (me_op opd_mod ?h81 me_int) me_int)) me_int) ma_nil) (by decide) (by decide) (by rfl) (by rfl))
          case h81 =>
            exact (me_callTy cb_int (by rfl) n_int (by decide +kernel) (ma_cons (mv 2) ma_nil) (by decide) (by decide) (by rfl) (by rfl))
    case i70 =>
      exact mss_nil
    refine mss_cons (ms_wipe [3] (ms_if (mt_cmp opd_gt (me_ix (mv 0) me_int (fun _ _ => rfl)) me_int (nomark _)) ?i82 ?i83)) ?n84
    case i82 =>
      refine mss_cons (ms_set (i := 3) sc__law_draw.nd rfl (.inl rfl) (me_op opd_mod ?h85 (mv 1))) ?n86
      case h85 =>
        exact (me_callTy cb_int (by rfl) n_int (by decide +kernel) (ma_cons (me_ix (mv 0) me_int (fun _ _ => rfl)) ma_nil) (by decide) (by decide) (by rfl) (by rfl))
      refine mss_cons (ms_asg (me_op opd_fdiv (me_ix (mv 0) me_int (fun _ _ => rfl)) (mv 1)) (mg_sub (mv 0) me_int)) ?n87
      refine mss_one (ms_ret (mv 3))
    case i83 =>
      exact mss_nil
    refine mss_cons (ms_set (i := 4) sc__law_draw.nd rfl (.inl rfl) (me_ix (mv 0) me_int (fun _ _ => rfl))) ?n89
    refine mss_cons (ms_asg (me_op opd_mod ?h90 me_int) (mg_sub (mv 0) me_int)) ?n91
    case h90 =>
      exact (me_callTy cb_int (by rfl) n_int (by decide +kernel) (ma_cons (me_op opd_add (me_op opd_add (me_op opd_add (me_op opd_mul (mv 4) me_int) (me_op opd_mul (me_op opd_fdiv (mv 4) me_int) me_int)) (me_op opd_mul (me_ix (mv 0) me_int (fun _ _ => rfl)) me_int)) me_int) ma_nil) (by decide) (by decide) (by rfl) (by rfl))
    refine mss_one (ms_ret (me_op opd_mod ?h92 (mv 1)))
    case h92 =>
      refine (me_callTy cb_int (by rfl) n_int (by decide +kernel) (ma_cons (me_op opd_add (me_op opd_fdiv (me_ix (mv 0) me_int (fun _ _ => rfl)) me_int) (me_op opd_mul (me_op opd_mod ?h94 me_int) me_int)) ma_nil) (by decide) (by decide) (by rfl) (by rfl))
      case h94 =>
        exact (me_callTy cb_int (by rfl) n_int (by decide +kernel) (ma_cons (me_ix (mv 0) me_int (fun _ _ => rfl)) ma_nil) (by decide) (by decide) (by rfl) (by rfl))


abbrev s__law_pick : Stmt := topS 43
theorem sc__law_pick : FnScope ["_law_rng", "_law_things"] ["_law_rng", "_law_things"] (defScope s__law_pick) := ⟨rfl, rfl, rfl, by decide +kernel, rfl, by decide +kernel, by decide +kernel⟩
noncomputable def b__law_pick : MS :=
    (mRet (mOp fIx (mVar 1) (mCall m__law_draw 2 (mCons (mVar 0) (mCons (mCB bLen (mCons (mVar 1) mNil)) mNil)))))
noncomputable def m__law_pick : MF1 := fun ds S => (b__law_pick (startD ["_law_rng", "_law_things"] ds) S).fin
theorem w__law_pick {f : Addr} {fd : FuncData} {j : Nat} {k__law_draw : Nat} {fd__law_draw : FuncData} (c__law_draw : Cal P w K mg base T "_law_draw" k__law_draw (He.ga K "_law_draw") fd__law_draw ["_law_rng", "_law_sides"] (toSp m__law_draw)) (h__law_draw : k__law_draw ≤ j) (n_len : mg "len" = none) :
    ∀ (cdv : Value) (A : Around) (outer : List Env) (s : Shared) (H : Hp) (E : XK), fd.code = cdv → Room j (A.deeper (envOfC "_law_pick" (defScope s__law_pick) s.heap.objs.size f cdv)) →
      DSs (cxD P w K mg base ["_law_rng", "_law_things"] "_law_pick" (defScope s__law_pick) f cdv A outer s H E) T (WD E) (defBody s__law_pick) (toS (b__law_pick)) := by
    intro cdv A outer s H E hcd hr
    refine mss_one (ms_ret (me_ix (mv 1) ?h95 (fun _ _ => rfl)))
    case h95 =>
      refine (me_calE c__law_draw takesD hr (ma_cons (mv 0) (ma_cons ?h97 ma_nil)) (by omega) (by rfl) (by decide) (by rfl) (by rfl) rfl)
      case h97 =>
        exact (me_callB cb_len (by rfl) n_len (by decide +kernel) (ma_cons (mv 1) ma_nil) (by decide) (by decide) (by rfl) (by rfl))


abbrev s__law_kinds : Stmt := topS 45
theorem sc__law_kinds : FnScope ["_law_rng", "_law_most", "_law_letters", "_law_first", "_law_step", "_law_k"] ["_law_rng", "_law_most"] (defScope s__law_kinds) := ⟨rfl, rfl, rfl, by decide +kernel, rfl, by decide +kernel, by decide +kernel⟩
noncomputable def b__law_kinds : MS :=
    (mSeq (mAsg (mTup (mCons (mC (.str "abcdefghijklmnopqrstuvwxyz")) (mCons (mCall m__law_draw 2 (mCons (mVar 0) (mCons (mC (.int 26)) mNil))) mNil))) (mgTup 2 (mgCons (mgName 2) (mgCons (mgName 3) mgNil))))
    (mSeq (mSet 4 (mCall m__law_pick 2 (mCons (mVar 0) (mCons (mLst (mCons (mC (.int 1)) (mCons (mC (.int 3)) (mCons (mC (.int 5)) (mCons (mC (.int 7)) (mCons (mC (.int 9)) (mCons (mC (.int 11)) (mCons (mC (.int 15)) (mCons (mC (.int 25)) mNil))))))))) mNil))))
    (mRet (mBM "str" mfJoin (mC (.str "")) (mCons (mLc (mIA fRng1 (mCons (mOp fAdd (mC (.int 2)) (mCall m__law_draw 2 (mCons (mVar 0) (mCons (mOp fSub (mVar 1) (mC (.int 1))) mNil)))) mNil)) (mgName 5) mYes (mOp fIx (mVar 2) (mOp fMod (mOp fAdd (mVar 3) (mOp fMul (mVar 4) (mVar 5))) (mC (.int 26)))) [5]) mNil)))))
noncomputable def m__law_kinds : MF1 := fun ds S => (b__law_kinds (startD ["_law_rng", "_law_most", "_law_letters", "_law_first", "_law_step", "_law_k"] ds) S).fin
theorem w__law_kinds {f : Addr} {fd : FuncData} {j : Nat} {k__law_draw : Nat} {fd__law_draw : FuncData} (c__law_draw : Cal P w K mg base T "_law_draw" k__law_draw (He.ga K "_law_draw") fd__law_draw ["_law_rng", "_law_sides"] (toSp m__law_draw)) (h__law_draw : k__law_draw ≤ j) {k__law_pick : Nat} {fd__law_pick : FuncData} (c__law_pick : Cal P w K mg base T "_law_pick" k__law_pick (He.ga K "_law_pick") fd__law_pick ["_law_rng", "_law_things"] (toSp m__law_pick)) (h__law_pick : k__law_pick ≤ j) (n_range : mg "range" = none) :
    ∀ (cdv : Value) (A : Around) (outer : List Env) (s : Shared) (H : Hp) (E : XK), fd.code = cdv → Room j (A.deeper (envOfC "_law_kinds" (defScope s__law_kinds) s.heap.objs.size f cdv)) →
      DSs (cxD P w K mg base ["_law_rng", "_law_most", "_law_letters", "_law_first", "_law_step", "_law_k"] "_law_kinds" (defScope s__law_kinds) f cdv A outer s H E) T (WD E) (defBody s__law_kinds) (toS (b__law_kinds)) := by
    intro cdv A outer s H E hcd hr
    refine mss_cons (ms_asg (me_tup (ma_cons me_str (ma_cons ?h60 ma_nil))) (mg_tup rfl (mgs_cons (mg_name (i := 2) sc__law_kinds.nd rfl (.inr rfl)) (mgs_cons (mg_name (i := 3) sc__law_kinds.nd rfl (.inr rfl)) mgs_nil)))) ?n61
    case h60 =>
      exact (me_calE c__law_draw takesD hr (ma_cons (mv 0) (ma_cons me_int ma_nil)) (by omega) (by rfl) (by decide) (by rfl) (by rfl) rfl)
    refine mss_cons (ms_set (i := 4) sc__law_kinds.nd rfl (.inr rfl) ?h62) ?n63
    case h62 =>
      exact (me_calE c__law_pick takesD hr (ma_cons (mv 0) (ma_cons (me_lst (ma_cons me_int (ma_cons me_int (ma_cons me_int (ma_cons me_int (ma_cons me_int (ma_cons me_int (ma_cons me_int (ma_cons me_int ma_nil))))))))) ma_nil)) (by omega) (by rfl) (by decide) (by rfl) (by rfl) rfl)
    refine mss_one (ms_ret ?h64)
    case h64 =>
      refine (me_bm PySem.F.plainAttrs_str PySem.F.slot_str_join PySem.F.type_str_join mtd_join me_str (ma_cons ?h66 ma_nil))
      case h66 =>
        refine (me_lc (own := [("_law_k", 5)]) rfl sc__law_kinds.nd (mi_rng1 (by rfl) n_range (ma_cons (me_op opd_add me_int ?h67) ma_nil)) (blkOk_by (by rfl)) (mtg_name (by decide)) (fun _ _ _ _ _ => pg_name (i := 5) sc__law_kinds.nd rfl (.inl rfl)) (fun _ _ _ _ _ => mts_nil) (fun _ _ _ _ _ => (me_ix (mv 2) (me_op opd_mod (me_op opd_add (mv 3) (me_op opd_mul (mv 4) (mv 5))) me_int) (fun _ _ => rfl))))
        case h67 =>
          exact (me_calE c__law_draw takesD hr (ma_cons (mv 0) (ma_cons (me_op opd_sub (mv 1) me_int) ma_nil)) (by omega) (by rfl) (by decide) (by rfl) (by rfl) rfl)


abbrev s__law_few : Stmt := topS 46
theorem sc__law_few : FnScope ["_law_rng", "_law_most"] ["_law_rng", "_law_most"] (defScope s__law_few) := ⟨rfl, rfl, rfl, by decide +kernel, rfl, by decide +kernel, by decide +kernel⟩
noncomputable def b__law_few : MS :=
    (mRet (mCall m__law_kinds 2 (mCons (mVar 0) (mCons (mIf (mB (mOp fEq (mCall m__law_draw 2 (mCons (mVar 0) (mCons (mC (.int 4)) mNil))) (mC (.int 0)))) (mVar 1) (mC (.int 2))) mNil))))
noncomputable def m__law_few : MF1 := fun ds S => (b__law_few (startD ["_law_rng", "_law_most"] ds) S).fin
theorem w__law_few {f : Addr} {fd : FuncData} {j : Nat} {k__law_kinds : Nat} {fd__law_kinds : FuncData} (c__law_kinds : Cal P w K mg base T "_law_kinds" k__law_kinds (He.ga K "_law_kinds") fd__law_kinds ["_law_rng", "_law_most"] (toSp m__law_kinds)) (h__law_kinds : k__law_kinds ≤ j) {k__law_draw : Nat} {fd__law_draw : FuncData} (c__law_draw : Cal P w K mg base T "_law_draw" k__law_draw (He.ga K "_law_draw") fd__law_draw ["_law_rng", "_law_sides"] (toSp m__law_draw)) (h__law_draw : k__law_draw ≤ j) :
    ∀ (cdv : Value) (A : Around) (outer : List Env) (s : Shared) (H : Hp) (E : XK), fd.code = cdv → Room j (A.deeper (envOfC "_law_few" (defScope s__law_few) s.heap.objs.size f cdv)) →
      DSs (cxD P w K mg base ["_law_rng", "_law_most"] "_law_few" (defScope s__law_few) f cdv A outer s H E) T (WD E) (defBody s__law_few) (toS (b__law_few)) := by
    intro cdv A outer s H E hcd hr
    refine mss_one (ms_ret ?h57)
    case h57 =>
      refine (me_calE c__law_kinds takesD hr (ma_cons (mv 0) (ma_cons (me_ifExp (mt_cmp (opd_eq hr) ?h59 me_int (nomark _)) (mv 1) me_int) ma_nil)) (by omega) (by rfl) (by decide) (by rfl) (by rfl) rfl)
      case h59 =>
        exact (me_calE c__law_draw takesD hr (ma_cons (mv 0) (ma_cons me_int ma_nil)) (by omega) (by rfl) (by decide) (by rfl) (by rfl) rfl)


abbrev s__law_glass : Stmt := topS 50
theorem sc__law_glass : FnScope ["_law_rng", "_law_kinds_here", "_law_bound"] ["_law_rng", "_law_kinds_here"] (defScope s__law_glass) := ⟨rfl, rfl, rfl, by decide +kernel, rfl, by decide +kernel, by decide +kernel⟩
noncomputable def b__law_glass : MS :=
    (mSeq (mSet 2 (mCall m__law_draw 2 (mCons (mVar 0) (mCons (mOp fIx (mLst (mCons (mC (.int 9)) (mCons (mC (.int 5)) (mCons (mC (.int 3)) mNil)))) (mOp fSub (mCB bLen (mCons (mVar 1) mNil)) (mC (.int 2)))) mNil))))
    (mRet (mTup (mCons (mVar 2) (mCons (mOp fAdd (mC (.int 1)) (mCall m__law_draw 2 (mCons (mVar 0) (mCons (mOp fIx (mLst (mCons (mC (.int 6)) (mCons (mC (.int 4)) (mCons (mC (.int 3)) mNil)))) (mOp fSub (mCB bLen (mCons (mVar 1) mNil)) (mC (.int 2)))) mNil)))) mNil)))))
noncomputable def m__law_glass : MF1 := fun ds S => (b__law_glass (startD ["_law_rng", "_law_kinds_here", "_law_bound"] ds) S).fin
theorem w__law_glass {f : Addr} {fd : FuncData} {j : Nat} {k__law_draw : Nat} {fd__law_draw : FuncData} (c__law_draw : Cal P w K mg base T "_law_draw" k__law_draw (He.ga K "_law_draw") fd__law_draw ["_law_rng", "_law_sides"] (toSp m__law_draw)) (h__law_draw : k__law_draw ≤ j) (n_len : mg "len" = none) :
    ∀ (cdv : Value) (A : Around) (outer : List Env) (s : Shared) (H : Hp) (E : XK), fd.code = cdv → Room j (A.deeper (envOfC "_law_glass" (defScope s__law_glass) s.heap.objs.size f cdv)) →
      DSs (cxD P w K mg base ["_law_rng", "_law_kinds_here", "_law_bound"] "_law_glass" (defScope s__law_glass) f cdv A outer s H E) T (WD E) (defBody s__law_glass) (toS (b__law_glass)) := by
    intro cdv A outer s H E hcd hr
    refine mss_cons (ms_set (i := 2) sc__law_glass.nd rfl (.inl rfl) ?h102) ?n103
    case h102 =>
      refine (me_calE c__law_draw takesD hr (ma_cons (mv 0) (ma_cons (me_ix (me_lst (ma_cons me_int (ma_cons me_int (ma_cons me_int ma_nil)))) (me_op opd_sub ?h104 me_int) (fun _ _ => rfl)) ma_nil)) (by omega) (by rfl) (by decide) (by rfl) (by rfl) rfl)
      case h104 =>
        exact (me_callB cb_len (by rfl) n_len (by decide +kernel) (ma_cons (mv 1) ma_nil) (by decide) (by decide) (by rfl) (by rfl))
    refine mss_one (ms_ret (me_tup (ma_cons (mv 2) (ma_cons (me_op opd_add me_int ?h105) ma_nil))))
    case h105 =>
      refine (me_calE c__law_draw takesD hr (ma_cons (mv 0) (ma_cons (me_ix (me_lst (ma_cons me_int (ma_cons me_int (ma_cons me_int ma_nil)))) (me_op opd_sub ?h107 me_int) (fun _ _ => rfl)) ma_nil)) (by omega) (by rfl) (by decide) (by rfl) (by rfl) rfl)
      case h107 =>
        exact (me_callB cb_len (by rfl) n_len (by decide +kernel) (ma_cons (mv 1) ma_nil) (by decide) (by decide) (by rfl) (by rfl))


abbrev s__law_bags : Stmt := topS 47
theorem sc__law_bags : FnScope ["_law_kinds_here", "_law_most", "_law_found", "_law_sign", "_law_later", "_law_front", "_law_count"] ["_law_kinds_here", "_law_most"] (defScope s__law_bags) := ⟨rfl, rfl, rfl, by decide +kernel, rfl, by decide +kernel, by decide +kernel⟩
noncomputable def l__law_bags_1 : MS := fun r S =>
    (mExpr (mBM "list" mfAppend (mVar 4) (mCons (mOp fAdd (mVar 5) (mTup (mCons (mVar 6) mNil))) mNil))) r S
noncomputable def l__law_bags_2 : MS := fun r S =>
    (mForW [0, 2, 3, 6] (mIA fRng1 (mCons (mOp fAdd (mVar 1) (mC (.int 1))) mNil)) (mgName 6) l__law_bags_1) r S
noncomputable def l__law_bags_3 : MS := fun r S =>
    (mSeq (mSet 4 (mLstS mNil))
    (mSeq (mForW [0, 2, 3, 5, 6] (mSeqI (mVar 2)) (mgName 5) l__law_bags_2)
    (mSet 2 (mVar 4)))) r S
noncomputable def b__law_bags : MS :=
    (mSeq (mSet 2 (mLst (mCons (mTup mNil) mNil)))
    (mSeq (mForW [0, 3, 4, 5, 6] (mSeqI (mVar 0)) (mgName 3) (mScope l__law_bags_3))
    (mRet (mVar 2))))
noncomputable def m__law_bags : MF1 := fun ds S => (exitR S (b__law_bags (startD ["_law_kinds_here", "_law_most", "_law_found", "_law_sign", "_law_later", "_law_front", "_law_count"] ds) S))
theorem w__law_bags {f : Addr} {fd : FuncData} {j : Nat} (n_range : mg "range" = none) :
    ∀ (cdv : Value) (A : Around) (outer : List Env) (s : Shared) (H : Hp) (E : XK), fd.code = cdv → Room j (A.deeper (envOfC "_law_bags" (defScope s__law_bags) s.heap.objs.size f cdv)) →
      DSs (cxD P w K mg base ["_law_kinds_here", "_law_most", "_law_found", "_law_sign", "_law_later", "_law_front", "_law_count"] "_law_bags" (defScope s__law_bags) f cdv A outer s H E) T (WD E) (defBody s__law_bags) (toS (b__law_bags)) := by
    intro cdv A outer s H E hcd hr
    refine mss_cons (ms_set (i := 2) sc__law_bags.nd rfl (.inl rfl) (me_lst (ma_cons (me_tup ma_nil) ma_nil))) ?n116
    refine mss_cons (ms_forW [0, 3, 4, 5, 6] passD rfl (mi_seq (mv 0)) (mg_name (i := 3) sc__law_bags.nd rfl (.inl rfl)) ?i117) ?n118
    case i117 =>
      refine mss_scope ?_
      delta l__law_bags_3
      refine mss_cons (ms_set (i := 4) sc__law_bags.nd rfl (.inl rfl) (me_lstS ma_nil)) ?n119
      refine mss_cons (ms_forW [0, 2, 3, 5, 6] passD rfl (mi_seq (mv 2)) (mg_name (i := 5) sc__law_bags.nd rfl (.inl rfl)) ?i120) ?n121
      case i120 =>
        delta l__law_bags_2
        refine mss_one (ms_forW [0, 2, 3, 6] passD rfl (mi_rng1 (by rfl) n_range (ma_cons (me_op opd_add (mv 1) me_int) ma_nil)) (mg_name (i := 6) sc__law_bags.nd rfl (.inl rfl)) ?i122)
        case i122 =>
          delta l__law_bags_1
          refine mss_one (ms_expr ?h124)
          case h124 =>
            exact (me_bm PySem.F.plainAttrs_list PySem.F.slot_list_append PySem.F.type_list_append mtd_append (mv 4) (ma_cons (me_op opd_add (mv 5) (me_tup (ma_cons (mv 6) ma_nil))) ma_nil))
      refine mss_one (ms_set (i := 2) sc__law_bags.nd rfl (.inl rfl) (mv 4))
    refine mss_one (ms_ret (mv 2))


abbrev s__law_looks : Stmt := topS 51
theorem sc__law_looks : FnScope ["_law_kinds_here", "_law_glass_here"] ["_law_kinds_here", "_law_glass_here"] (defScope s__law_looks) := ⟨rfl, rfl, rfl, by decide +kernel, rfl, by decide +kernel, by decide +kernel⟩
noncomputable def b__law_looks : MS :=
    (mRet (mCall m__law_bags 2 (mCons (mVar 0) (mCons (mOp fSub (mOp fAdd (mOp fIx (mVar 1) (mC (.int 0))) (mOp fIx (mVar 1) (mC (.int 1)))) (mC (.int 1))) mNil))))
noncomputable def m__law_looks : MF1 := fun ds S => (b__law_looks (startD ["_law_kinds_here", "_law_glass_here"] ds) S).fin
theorem w__law_looks {f : Addr} {fd : FuncData} {j : Nat} {k__law_bags : Nat} {fd__law_bags : FuncData} (c__law_bags : Cal P w K mg base T "_law_bags" k__law_bags (He.ga K "_law_bags") fd__law_bags ["_law_kinds_here", "_law_most"] (toSp m__law_bags)) (h__law_bags : k__law_bags ≤ j) :
    ∀ (cdv : Value) (A : Around) (outer : List Env) (s : Shared) (H : Hp) (E : XK), fd.code = cdv → Room j (A.deeper (envOfC "_law_looks" (defScope s__law_looks) s.heap.objs.size f cdv)) →
      DSs (cxD P w K mg base ["_law_kinds_here", "_law_glass_here"] "_law_looks" (defScope s__law_looks) f cdv A outer s H E) T (WD E) (defBody s__law_looks) (toS (b__law_looks)) := by
    intro cdv A outer s H E hcd hr
    refine mss_one (ms_ret ?h114)
    case h114 =>
      exact (me_calE c__law_bags takesD hr (ma_cons (mv 0) (ma_cons (me_op opd_sub (me_op opd_add (me_ix (mv 1) me_int (fun _ _ => rfl)) (me_ix (mv 1) me_int (fun _ _ => rfl))) me_int) ma_nil)) (by omega) (by rfl) (by decide) (by rfl) (by rfl) rfl)


abbrev s__law_some_looks : Stmt := topS 52
theorem sc__law_some_looks : FnScope ["_law_rng", "_law_kinds_here", "_law_glass_here", "_law_share", "_law_bag"] ["_law_rng", "_law_kinds_here", "_law_glass_here"] (defScope s__law_some_looks) := ⟨rfl, rfl, rfl, by decide +kernel, rfl, by decide +kernel, by decide +kernel⟩
noncomputable def b__law_some_looks : MS :=
    (mSeq (mSet 3 (mCall m__law_pick 2 (mCons (mVar 0) (mCons (mLst (mCons (mC (.int 2)) (mCons (mC (.int 3)) (mCons (mC (.int 6)) mNil)))) mNil))))
    (mRet (mLc (mSeqI (mCall m__law_looks 2 (mCons (mVar 1) (mCons (mVar 2) mNil)))) (mgName 4) (mB (mOp fEq (mCall m__law_draw 2 (mCons (mVar 0) (mCons (mVar 3) mNil))) (mC (.int 0)))) (mVar 4) [4])))
noncomputable def m__law_some_looks : MF1 := fun ds S => (b__law_some_looks (startD ["_law_rng", "_law_kinds_here", "_law_glass_here", "_law_share", "_law_bag"] ds) S).fin
theorem w__law_some_looks {f : Addr} {fd : FuncData} {j : Nat} {k__law_pick : Nat} {fd__law_pick : FuncData} (c__law_pick : Cal P w K mg base T "_law_pick" k__law_pick (He.ga K "_law_pick") fd__law_pick ["_law_rng", "_law_things"] (toSp m__law_pick)) (h__law_pick : k__law_pick ≤ j) {k__law_looks : Nat} {fd__law_looks : FuncData} (c__law_looks : Cal P w K mg base T "_law_looks" k__law_looks (He.ga K "_law_looks") fd__law_looks ["_law_kinds_here", "_law_glass_here"] (toSp m__law_looks)) (h__law_looks : k__law_looks ≤ j) {k__law_draw : Nat} {fd__law_draw : FuncData} (c__law_draw : Cal P w K mg base T "_law_draw" k__law_draw (He.ga K "_law_draw") fd__law_draw ["_law_rng", "_law_sides"] (toSp m__law_draw)) (h__law_draw : k__law_draw ≤ j) :
    ∀ (cdv : Value) (A : Around) (outer : List Env) (s : Shared) (H : Hp) (E : XK), fd.code = cdv → Room j (A.deeper (envOfC "_law_some_looks" (defScope s__law_some_looks) s.heap.objs.size f cdv)) →
      DSs (cxD P w K mg base ["_law_rng", "_law_kinds_here", "_law_glass_here", "_law_share", "_law_bag"] "_law_some_looks" (defScope s__law_some_looks) f cdv A outer s H E) T (WD E) (defBody s__law_some_looks) (toS (b__law_some_looks)) := by
    intro cdv A outer s H E hcd hr
    refine mss_cons (ms_set (i := 3) sc__law_some_looks.nd rfl (.inr rfl) ?h108) ?n109
    case h108 =>
      exact (me_calE c__law_pick takesD hr (ma_cons (mv 0) (ma_cons (me_lst (ma_cons me_int (ma_cons me_int (ma_cons me_int ma_nil)))) ma_nil)) (by omega) (by rfl) (by decide) (by rfl) (by rfl) rfl)
    refine mss_one (ms_ret ?h110)
    case h110 =>
      refine (me_lc (own := [("_law_bag", 4)]) rfl sc__law_some_looks.nd (mi_seq ?h112) (blkOk_by (by rfl)) (mtg_name (by decide)) (fun _ _ _ _ _ => pg_name (i := 4) sc__law_some_looks.nd rfl (.inl rfl)) (fun _ _ _ _ _ => mts_one (mt_cmp (opd_eq hr) ?h113 me_int (nomark _))) (fun _ _ _ _ _ => (mv 4)))
      case h112 =>
        exact (me_calE c__law_looks takesD hr (ma_cons (mv 1) (ma_cons (mv 2) ma_nil)) (by omega) (by rfl) (by decide) (by rfl) (by rfl) rfl)
      case h113 =>
        exact (me_calE c__law_draw L2.takes0 hr (ma_cons (mv 0) (ma_cons (mv 3) ma_nil)) (by omega) (by rfl) (by decide) (by rfl) (by rfl) rfl)


abbrev s__law_some_set : Stmt := topS 53
theorem sc__law_some_set : FnScope ["_law_rng", "_law_kinds_here", "_law_glass_here"] ["_law_rng", "_law_kinds_here"] (defScope s__law_some_set) := ⟨rfl, rfl, rfl, by decide +kernel, rfl, by decide +kernel, by decide +kernel⟩
noncomputable def b__law_some_set : MS :=
    (mSeq (mSet 2 (mCall m__law_glass 2 (mCons (mVar 0) (mCons (mVar 1) mNil))))
    (mRet (mTup (mCons (mVar 2) (mCons (mCall m__law_some_looks 3 (mCons (mVar 0) (mCons (mVar 1) (mCons (mVar 2) mNil)))) mNil)))))
noncomputable def m__law_some_set : MF1 := fun ds S => (b__law_some_set (startD ["_law_rng", "_law_kinds_here", "_law_glass_here"] ds) S).fin
theorem w__law_some_set {f : Addr} {fd : FuncData} {j : Nat} {k__law_glass : Nat} {fd__law_glass : FuncData} (c__law_glass : Cal P w K mg base T "_law_glass" k__law_glass (He.ga K "_law_glass") fd__law_glass ["_law_rng", "_law_kinds_here"] (toSp m__law_glass)) (h__law_glass : k__law_glass ≤ j) {k__law_some_looks : Nat} {fd__law_some_looks : FuncData} (c__law_some_looks : Cal P w K mg base T "_law_some_looks" k__law_some_looks (He.ga K "_law_some_looks") fd__law_some_looks ["_law_rng", "_law_kinds_here", "_law_glass_here"] (toSp m__law_some_looks)) (h__law_some_looks : k__law_some_looks ≤ j) :
    ∀ (cdv : Value) (A : Around) (outer : List Env) (s : Shared) (H : Hp) (E : XK), fd.code = cdv → Room j (A.deeper (envOfC "_law_some_set" (defScope s__law_some_set) s.heap.objs.size f cdv)) →
      DSs (cxD P w K mg base ["_law_rng", "_law_kinds_here", "_law_glass_here"] "_law_some_set" (defScope s__law_some_set) f cdv A outer s H E) T (WD E) (defBody s__law_some_set) (toS (b__law_some_set)) := by
    intro cdv A outer s H E hcd hr
    refine mss_cons (ms_set (i := 2) sc__law_some_set.nd rfl (.inl rfl) ?h98) ?n99
    case h98 =>
      exact (me_calE c__law_glass takesD hr (ma_cons (mv 0) (ma_cons (mv 1) ma_nil)) (by omega) (by rfl) (by decide) (by rfl) (by rfl) rfl)
    refine mss_one (ms_ret (me_tup (ma_cons (mv 2) (ma_cons ?h100 ma_nil))))
    case h100 =>
      exact (me_calE c__law_some_looks takesD hr (ma_cons (mv 0) (ma_cons (mv 1) (ma_cons (mv 2) ma_nil))) (by omega) (by rfl) (by decide) (by rfl) (by rfl) rfl)


abbrev s__law_look : Stmt := topS 48
theorem sc__law_look : FnScope ["_law_number", "_law_glass_here", "_law_bound", "_law_period"] ["_law_number", "_law_glass_here"] (defScope s__law_look) := ⟨rfl, rfl, rfl, by decide +kernel, rfl, by decide +kernel, by decide +kernel⟩
noncomputable def b__law_look : MS :=
    (mSeq (mAsg (mVar 1) (mgTup 2 (mgCons (mgName 2) (mgCons (mgName 3) mgNil))))
    (mSeq (mIfS (mB (mOp fLt (mVar 0) (mOp fAdd (mVar 2) (mVar 3)))) (mRet (mVar 0)) mNext)
    (mRet (mOp fAdd (mVar 2) (mOp fMod (mCB bInt (mCons (mOp fSub (mVar 0) (mVar 2)) mNil)) (mVar 3))))))
noncomputable def m__law_look : MF1 := fun ds S => (b__law_look (startD ["_law_number", "_law_glass_here", "_law_bound", "_law_period"] ds) S).fin
theorem w__law_look {f : Addr} {fd : FuncData} {j : Nat} (n_int : mg "int" = none) :
    ∀ (cdv : Value) (A : Around) (outer : List Env) (s : Shared) (H : Hp) (E : XK), fd.code = cdv → Room j (A.deeper (envOfC "_law_look" (defScope s__law_look) s.heap.objs.size f cdv)) →
      DSs (cxD P w K mg base ["_law_number", "_law_glass_here", "_law_bound", "_law_period"] "_law_look" (defScope s__law_look) f cdv A outer s H E) T (WD E) (defBody s__law_look) (toS (b__law_look)) := by
    intro cdv A outer s H E hcd hr
    refine mss_cons (ms_asg (mv 1) (mg_tup rfl (mgs_cons (mg_name (i := 2) sc__law_look.nd rfl (.inl rfl)) (mgs_cons (mg_name (i := 3) sc__law_look.nd rfl (.inl rfl)) mgs_nil)))) ?n134
    refine mss_cons (ms_if (mt_cmp opd_lt (mv 0) (me_op opd_add (mv 2) (mv 3)) (nomark _)) ?i135 ?i136) ?n137
    case i135 =>
      refine mss_one (ms_ret (mv 0))
    case i136 =>
      exact mss_nil
    refine mss_one (ms_ret (me_op opd_add (mv 2) (me_op opd_mod ?h139 (mv 3))))
    case h139 =>
      exact (me_callTy cb_int (by rfl) n_int (by decide +kernel) (ma_cons (me_op opd_sub (mv 0) (mv 2)) ma_nil) (by decide) (by decide) (by rfl) (by rfl))


abbrev s__law_look_of : Stmt := topS 49
theorem sc__law_look_of : FnScope ["_law_bag", "_law_glass_here", "_law_count"] ["_law_bag", "_law_glass_here"] (defScope s__law_look_of) := ⟨rfl, rfl, rfl, by decide +kernel, rfl, by decide +kernel, by decide +kernel⟩
noncomputable def b__law_look_of : MS :=
    (mRet (mCB bTuple (mCons (mLc (mSeqI (mVar 0)) (mgName 2) mYes (mCall m__law_look 2 (mCons (mVar 2) (mCons (mVar 1) mNil))) [2]) mNil)))
noncomputable def m__law_look_of : MF1 := fun ds S => (b__law_look_of (startD ["_law_bag", "_law_glass_here", "_law_count"] ds) S).fin
theorem w__law_look_of {f : Addr} {fd : FuncData} {j : Nat} {k__law_look : Nat} {fd__law_look : FuncData} (c__law_look : Cal P w K mg base T "_law_look" k__law_look (He.ga K "_law_look") fd__law_look ["_law_number", "_law_glass_here"] (toSp m__law_look)) (h__law_look : k__law_look ≤ j) (n_tuple : mg "tuple" = none) :
    ∀ (cdv : Value) (A : Around) (outer : List Env) (s : Shared) (H : Hp) (E : XK), fd.code = cdv → Room j (A.deeper (envOfC "_law_look_of" (defScope s__law_look_of) s.heap.objs.size f cdv)) →
      DSs (cxD P w K mg base ["_law_bag", "_law_glass_here", "_law_count"] "_law_look_of" (defScope s__law_look_of) f cdv A outer s H E) T (WD E) (defBody s__law_look_of) (toS (b__law_look_of)) := by
    intro cdv A outer s H E hcd hr
    refine mss_one (ms_ret ?h130)
    case h130 =>
      refine (me_callTy cb_tuple (by rfl) n_tuple (by decide +kernel) (ma_cons ?h132 ma_nil) (by decide) (by decide) (by rfl) (by rfl))
      case h132 =>
        refine (me_lc (own := [("_law_count", 2)]) rfl sc__law_look_of.nd (mi_seq (mv 0)) (blkOk_by (by rfl)) (mtg_name (by decide)) (fun _ _ _ _ _ => pg_name (i := 2) sc__law_look_of.nd rfl (.inl rfl)) (fun _ _ _ _ _ => mts_nil) (fun _ _ _ _ _ => ?h133))
        case h133 =>
          exact (me_calE c__law_look L2.takes0 hr (ma_cons (mv 2) (ma_cons (mv 1) ma_nil)) (by omega) (by rfl) (by decide) (by rfl) (by rfl) rfl)


abbrev s__law_in : Stmt := topS 54
theorem sc__law_in : FnScope ["_law_told", "_law_bag"] ["_law_told", "_law_bag"] (defScope s__law_in) := ⟨rfl, rfl, rfl, by decide +kernel, rfl, by decide +kernel, by decide +kernel⟩
noncomputable def b__law_in : MS :=
    (mRet (mOp (fIn false) (mCall m__law_look_of 2 (mCons (mVar 1) (mCons (mOp fIx (mVar 0) (mC (.int 0))) mNil))) (mOp fIx (mVar 0) (mC (.int 1)))))
noncomputable def m__law_in : MF1 := fun ds S => (b__law_in (startD ["_law_told", "_law_bag"] ds) S).fin
theorem w__law_in {f : Addr} {fd : FuncData} {j : Nat} {k__law_look_of : Nat} {fd__law_look_of : FuncData} (c__law_look_of : Cal P w K mg base T "_law_look_of" k__law_look_of (He.ga K "_law_look_of") fd__law_look_of ["_law_bag", "_law_glass_here"] (toSp m__law_look_of)) (h__law_look_of : k__law_look_of ≤ j) :
    ∀ (cdv : Value) (A : Around) (outer : List Env) (s : Shared) (H : Hp) (E : XK), fd.code = cdv → Room j (A.deeper (envOfC "_law_in" (defScope s__law_in) s.heap.objs.size f cdv)) →
      DSs (cxD P w K mg base ["_law_told", "_law_bag"] "_law_in" (defScope s__law_in) f cdv A outer s H E) T (WD E) (defBody s__law_in) (toS (b__law_in)) := by
    intro cdv A outer s H E hcd hr
    refine mss_one (ms_ret (me_cmp (opd_in hr) ?h128 (me_ix (mv 0) me_int (fun _ _ => rfl)) (by rfl)))
    case h128 =>
      exact (me_calE c__law_look_of takesD hr (ma_cons (mv 1) (ma_cons (me_ix (mv 0) me_int (fun _ _ => rfl)) ma_nil)) (by omega) (by rfl) (by decide) (by rfl) (by rfl) rfl)


abbrev s__law_same : Stmt := topS 44
theorem sc__law_same : FnScope ["_law_found", "_law_due", "_law_a", "_law_b"] ["_law_found", "_law_due"] (defScope s__law_same) := ⟨rfl, rfl, rfl, by decide +kernel, rfl, by decide +kernel, by decide +kernel⟩
noncomputable def b__law_same (m__law_same : MF1) : MS :=
    (mSeq (mIfS (mB (mUn (fIsi2 "list" "tuple") (mVar 1))) (mSeq (mIfS (mOr (mB (mOp fNe (mCB bIsi (mCons (mVar 0) (mCons (mC (.ty "list")) mNil))) (mCB bIsi (mCons (mVar 1) (mCons (mC (.ty "list")) mNil))))) (mB (mOp fNe (mCB bIsi (mCons (mVar 0) (mCons (mC (.ty "tuple")) mNil))) (mCB bIsi (mCons (mVar 1) (mCons (mC (.ty "tuple")) mNil)))))) (mRet (mC (.bl false))) mNext)
    (mRet (mAndV (mOp fEq (mCB bLen (mCons (mVar 0) mNil)) (mCB bLen (mCons (mVar 1) mNil))) (mCB bAll (mCons (mLc (mIA fZipG (mCons (mVar 0) (mCons (mVar 1) mNil))) (mgTup 2 (mgCons (mgName 2) (mgCons (mgName 3) mgNil))) mYes (mCall m__law_same 2 (mCons (mVar 2) (mCons (mVar 3) mNil))) [2, 3]) mNil))))) mNext)
    (mSeq (mIfS (mOr (mB (mOp fIsN (mVar 1) (mC .non))) (mB (mOp fIsN (mVar 0) (mC .non)))) (mRet (mAndV (mOp fIsN (mVar 1) (mC .non)) (mOp fIsN (mVar 0) (mC .non)))) mNext)
    (mSeq (mIfS (mOr (mB (mOp fNe (mCB bIsi (mCons (mVar 1) (mCons (mC (.ty "bool")) mNil))) (mCB bIsi (mCons (mVar 0) (mCons (mC (.ty "bool")) mNil))))) (mB (mOp fNe (mCB bIsi (mCons (mVar 1) (mCons (mC (.ty "int")) mNil))) (mCB bIsi (mCons (mVar 0) (mCons (mC (.ty "int")) mNil)))))) (mRet (mC (.bl false))) mNext)
    (mRet (mAndV (mOp fEq (mCB bIsi (mCons (mVar 1) (mCons (mC (.ty "str")) mNil))) (mCB bIsi (mCons (mVar 0) (mCons (mC (.ty "str")) mNil)))) (mOp fEq (mVar 0) (mVar 1)))))))
noncomputable def r__law_same : Nat → MF1
  | 0 => fun _ _ => .no
  | k + 1 => fun ds S => (b__law_same (r__law_same k) (startD ["_law_found", "_law_due", "_law_a", "_law_b"] ds) S).fin
noncomputable def m__law_same : MF1 := r__law_same 8
theorem w__law_same {f : Addr} {fd : FuncData} {j : Nat} {k__law_same : Nat} {fd__law_same : FuncData} {mr : MF1} (c__law_same : Cal P w K mg base T "_law_same" k__law_same (He.ga K "_law_same") fd__law_same ["_law_found", "_law_due"] (toSp mr)) (h__law_same : k__law_same ≤ j) (n_isinstance : mg "isinstance" = none) (n_list : mg "list" = none) (n_tuple : mg "tuple" = none) (n_len : mg "len" = none) (n_zip : mg "zip" = none) (n_all : mg "all" = none) (n_bool : mg "bool" = none) (n_int : mg "int" = none) (n_str : mg "str" = none) :
    ∀ (cdv : Value) (A : Around) (outer : List Env) (s : Shared) (H : Hp) (E : XK), fd.code = cdv → Room j (A.deeper (envOfC "_law_same" (defScope s__law_same) s.heap.objs.size f cdv)) →
      DSs (cxD P w K mg base ["_law_found", "_law_due", "_law_a", "_law_b"] "_law_same" (defScope s__law_same) f cdv A outer s H E) T (WD E) (defBody s__law_same) (toS (b__law_same mr)) := by
    intro cdv A outer s H E hcd hr
    refine mss_cons (ms_if (mt_val ?h143) ?i141 ?i142) ?n144
    case h143 =>
      exact (me_isi2 n_isinstance n_list n_tuple (by decide +kernel) (by decide +kernel) (mv 1))
    case i141 =>
      refine mss_cons (ms_if (mw_dt (mw_or (mt_cmp (opd_ne hr) ?h147 ?h148 (nomark _)) (mw_or1 (mt_cmp (opd_ne hr) ?h149 ?h150 (nomark _))))) ?i145 ?i146) ?n151
      case h147 =>
        exact (me_callB cb_isi (by rfl) n_isinstance (by decide +kernel) (ma_cons (mv 0) (ma_cons (me_ty (by rfl) n_list (by decide +kernel)) ma_nil)) (by decide) (by decide) (by rfl) (by rfl))
      case h148 =>
        exact (me_callB cb_isi (by rfl) n_isinstance (by decide +kernel) (ma_cons (mv 1) (ma_cons (me_ty (by rfl) n_list (by decide +kernel)) ma_nil)) (by decide) (by decide) (by rfl) (by rfl))
      case h149 =>
        exact (me_callB cb_isi (by rfl) n_isinstance (by decide +kernel) (ma_cons (mv 0) (ma_cons (me_ty (by rfl) n_tuple (by decide +kernel)) ma_nil)) (by decide) (by decide) (by rfl) (by rfl))
      case h150 =>
        exact (me_callB cb_isi (by rfl) n_isinstance (by decide +kernel) (ma_cons (mv 1) (ma_cons (me_ty (by rfl) n_tuple (by decide +kernel)) ma_nil)) (by decide) (by decide) (by rfl) (by rfl))
      case i145 =>
        refine mss_one (ms_ret me_bl)
      case i146 =>
        exact mss_nil
      refine mss_one (ms_ret (me_and (me_cmp (opd_eq hr) ?h153 ?h154 (nomark _)) (me_one ?h155)))
      case h153 =>
        exact (me_callB cb_len (by rfl) n_len (by decide +kernel) (ma_cons (mv 0) ma_nil) (by decide) (by decide) (by rfl) (by rfl))
      case h154 =>
        exact (me_callB cb_len (by rfl) n_len (by decide +kernel) (ma_cons (mv 1) ma_nil) (by decide) (by decide) (by rfl) (by rfl))
      case h155 =>
        refine (me_callB (cb_all rfl) (by rfl) n_all (by decide +kernel) (ma_cons ?h157 ma_nil) (by decide) (by decide) (by rfl) (by rfl))
        case h157 =>
          refine (me_lc (own := [("_law_a", 2), ("_law_b", 3)]) rfl sc__law_same.nd (mi_zipG (by rfl) n_zip (ma_cons (mv 0) (ma_cons (mv 1) ma_nil))) (blkOk_by (by rfl)) (mtg_pair (by decide) (by decide)) (fun _ _ _ _ _ => pg_tup rfl (pgs_cons (pg_name (i := 2) sc__law_same.nd rfl (.inl rfl)) (pgs_cons (pg_name (i := 3) sc__law_same.nd rfl (.inl rfl)) pgs_nil))) (fun _ _ _ _ _ => mts_nil) (fun _ _ _ _ _ => ?h158))
          case h158 =>
            exact (me_calE c__law_same L2.takes0 hr (ma_cons (mv 2) (ma_cons (mv 3) ma_nil)) (by omega) (by rfl) (by decide) (by rfl) (by rfl) rfl)
    case i142 =>
      exact mss_nil
    refine mss_cons (ms_if (mw_dt (mw_or (mt_cmp opd_isN (mv 1) me_non (nomark _)) (mw_or1 (mt_cmp opd_isN (mv 0) me_non (nomark _))))) ?i159 ?i160) ?n161
    case i159 =>
      refine mss_one (ms_ret (me_and (me_cmp opd_isN (mv 1) me_non (nomark _)) (me_one (me_cmp opd_isN (mv 0) me_non (nomark _)))))
    case i160 =>
      exact mss_nil
    refine mss_cons (ms_if (mw_dt (mw_or (mt_cmp (opd_ne hr) ?h165 ?h166 (nomark _)) (mw_or1 (mt_cmp (opd_ne hr) ?h167 ?h168 (nomark _))))) ?i163 ?i164) ?n169
    case h165 =>
      exact (me_callB cb_isi (by rfl) n_isinstance (by decide +kernel) (ma_cons (mv 1) (ma_cons (me_ty (by rfl) n_bool (by decide +kernel)) ma_nil)) (by decide) (by decide) (by rfl) (by rfl))
    case h166 =>
      exact (me_callB cb_isi (by rfl) n_isinstance (by decide +kernel) (ma_cons (mv 0) (ma_cons (me_ty (by rfl) n_bool (by decide +kernel)) ma_nil)) (by decide) (by decide) (by rfl) (by rfl))
    case h167 =>
      exact (me_callB cb_isi (by rfl) n_isinstance (by decide +kernel) (ma_cons (mv 1) (ma_cons (me_ty (by rfl) n_int (by decide +kernel)) ma_nil)) (by decide) (by decide) (by rfl) (by rfl))
    case h168 =>
      exact (me_callB cb_isi (by rfl) n_isinstance (by decide +kernel) (ma_cons (mv 0) (ma_cons (me_ty (by rfl) n_int (by decide +kernel)) ma_nil)) (by decide) (by decide) (by rfl) (by rfl))
    case i163 =>
      refine mss_one (ms_ret me_bl)
    case i164 =>
      exact mss_nil
    refine mss_one (ms_ret (me_and (me_cmp (opd_eq hr) ?h171 ?h172 (nomark _)) (me_one (me_cmp (opd_eq hr) (mv 0) (mv 1) (nomark _)))))
    case h171 =>
      exact (me_callB cb_isi (by rfl) n_isinstance (by decide +kernel) (ma_cons (mv 1) (ma_cons (me_ty (by rfl) n_str (by decide +kernel)) ma_nil)) (by decide) (by decide) (by rfl) (by rfl))
    case h172 =>
      exact (me_callB cb_isi (by rfl) n_isinstance (by decide +kernel) (ma_cons (mv 0) (ma_cons (me_ty (by rfl) n_str (by decide +kernel)) ma_nil)) (by decide) (by decide) (by rfl) (by rfl))


abbrev s_check_kinds : Stmt := topS 12
theorem sc_check_kinds : FnScope ["kinds", "sign"] ["kinds"] (defScope s_check_kinds) := ⟨rfl, rfl, rfl, by decide +kernel, rfl, by decide +kernel, by decide +kernel⟩
noncomputable def b_check_kinds : MS :=
    (mSeq (mIfS (mOr (mNot (mB (mChain fLe fLe (mC (.int 2)) (mCB bLen (mCons (mVar 0) mNil)) (mC (.int 4))))) (mB (mOp fLt (mUn fLenSet (mVar 0)) (mCB bLen (mCons (mVar 0) mNil))))) (mRaise "InvalidKinds" "InvalidKinds" [] mNil) mNext)
    (mIfS (mNot (mB (mCB bAll (mCons (mLc (mSeqI (mVar 0)) (mgName 1) mYes (mOp (fIn false) (mVar 1) (mC (.str "abcdefghijklmnopqrstuvwxyz"))) [1]) mNil)))) (mRaise "InvalidKinds" "InvalidKinds" [] mNil) mNext))
noncomputable def m_check_kinds : MF1 := fun ds S => (b_check_kinds (startD ["kinds", "sign"] ds) S).fin
theorem w_check_kinds {f : Addr} {fd : FuncData} {j : Nat} {k_InvalidKinds : Nat} {i_InvalidKinds : Addr} {fd_InvalidKinds : FuncData} (x_InvalidKinds : XCls P w K mg base "InvalidKinds" (He.ga K "InvalidKinds") i_InvalidKinds fd_InvalidKinds "InvalidKinds" [] ["self"] k_InvalidKinds) (h_InvalidKinds : k_InvalidKinds + 1 ≤ j) {tk_LEAST_KINDS : Tok} (g_LEAST_KINDS : mg "LEAST_KINDS" = some (.int 2 tk_LEAST_KINDS)) {tk_MOST_KINDS : Tok} (g_MOST_KINDS : mg "MOST_KINDS" = some (.int 4 tk_MOST_KINDS)) {tk_SMALL : Tok} (g_SMALL : mg "SMALL" = some (.str "abcdefghijklmnopqrstuvwxyz" tk_SMALL)) (n_len : mg "len" = none) (n_set : mg "set" = none) (n_all : mg "all" = none) :
    ∀ (cdv : Value) (A : Around) (outer : List Env) (s : Shared) (H : Hp) (E : XK), fd.code = cdv → Room j (A.deeper (envOfC "check_kinds" (defScope s_check_kinds) s.heap.objs.size f cdv)) →
      DSs (cxD P w K mg base ["kinds", "sign"] "check_kinds" (defScope s_check_kinds) f cdv A outer s H E) T (WD E) (defBody s_check_kinds) (toS (b_check_kinds)) := by
    intro cdv A outer s H E hcd hr
    refine mss_cons (ms_if (mw_dt (mw_or (mt_not (mt_chain opd_le opd_le (me_gint (by rfl) g_LEAST_KINDS) ?h197 (me_gint (by rfl) g_MOST_KINDS))) (mw_or1 (mt_cmp opd_lt ?h198 ?h199 (nomark _))))) ?i195 ?i196) ?n200
    case h197 =>
      exact (me_callB cb_len (by rfl) n_len (by decide +kernel) (ma_cons (mv 0) ma_nil) (by decide) (by decide) (by rfl) (by rfl))
    case h198 =>
      exact (me_lenset rfl n_len n_set (mv 0) (by rfl) (by rfl) (by rfl) (by rfl))
    case h199 =>
      exact (me_callB cb_len (by rfl) n_len (by decide +kernel) (ma_cons (mv 0) ma_nil) (by decide) (by decide) (by rfl) (by rfl))
    case i195 =>
      refine mss_one (ms_raise0 x_InvalidKinds rfl takesD (hr.mono (by omega)) (by rfl))
    case i196 =>
      exact mss_nil
    refine mss_one (ms_if (mt_not (mt_val ?h204)) ?i202 ?i203)
    case h204 =>
      refine (me_callB (cb_all rfl) (by rfl) n_all (by decide +kernel) (ma_cons ?h206 ma_nil) (by decide) (by decide) (by rfl) (by rfl))
      case h206 =>
        exact (me_lc (own := [("sign", 1)]) rfl sc_check_kinds.nd (mi_seq (mv 0)) (blkOk_by (by rfl)) (mtg_name (by decide)) (fun _ _ _ _ _ => pg_name (i := 1) sc_check_kinds.nd rfl (.inl rfl)) (fun _ _ _ _ _ => mts_nil) (fun _ _ _ _ _ => (me_cmp (opd_in hr) (mv 1) (me_gstr (by rfl) g_SMALL) (by rfl))))
    case i202 =>
      refine mss_one (ms_raise0 x_InvalidKinds rfl takesD (hr.mono (by omega)) (by rfl))
    case i203 =>
      exact mss_nil


abbrev s_check_glass : Stmt := topS 19
theorem sc_check_glass : FnScope ["glass", "bound", "period"] ["glass"] (defScope s_check_glass) := ⟨rfl, rfl, rfl, by decide +kernel, rfl, by decide +kernel, by decide +kernel⟩
noncomputable def b_check_glass : MS :=
    (mSeq (mAsg (mVar 0) (mgTup 2 (mgCons (mgName 1) (mgCons (mgName 2) mgNil))))
    (mIfS (mOr (mB (mOp fLt (mVar 1) (mC (.int 0)))) (mB (mOp fLt (mVar 2) (mC (.int 1))))) (mRaise "InvalidGlass" "InvalidGlass" [] mNil) mNext))
noncomputable def m_check_glass : MF1 := fun ds S => (b_check_glass (startD ["glass", "bound", "period"] ds) S).fin
theorem w_check_glass {f : Addr} {fd : FuncData} {j : Nat} {k_InvalidGlass : Nat} {i_InvalidGlass : Addr} {fd_InvalidGlass : FuncData} (x_InvalidGlass : XCls P w K mg base "InvalidGlass" (He.ga K "InvalidGlass") i_InvalidGlass fd_InvalidGlass "InvalidGlass" [] ["self"] k_InvalidGlass) (h_InvalidGlass : k_InvalidGlass + 1 ≤ j) :
    ∀ (cdv : Value) (A : Around) (outer : List Env) (s : Shared) (H : Hp) (E : XK), fd.code = cdv → Room j (A.deeper (envOfC "check_glass" (defScope s_check_glass) s.heap.objs.size f cdv)) →
      DSs (cxD P w K mg base ["glass", "bound", "period"] "check_glass" (defScope s_check_glass) f cdv A outer s H E) T (WD E) (defBody s_check_glass) (toS (b_check_glass)) := by
    intro cdv A outer s H E hcd hr
    refine mss_cons (ms_asg (mv 0) (mg_tup rfl (mgs_cons (mg_name (i := 1) sc_check_glass.nd rfl (.inl rfl)) (mgs_cons (mg_name (i := 2) sc_check_glass.nd rfl (.inl rfl)) mgs_nil)))) ?n208
    refine mss_one (ms_if (mw_dt (mw_or (mt_cmp opd_lt (mv 1) me_int (nomark _)) (mw_or1 (mt_cmp opd_lt (mv 2) me_int (nomark _))))) ?i209 ?i210)
    case i209 =>
      refine mss_one (ms_raise0 x_InvalidGlass rfl takesD (hr.mono (by omega)) (by rfl))
    case i210 =>
      exact mss_nil


abbrev s_class_count : Stmt := topS 25
theorem sc_class_count : FnScope ["kinds", "glass", "number", "sign"] ["kinds", "glass"] (defScope s_class_count) := ⟨rfl, rfl, rfl, by decide +kernel, rfl, by decide +kernel, by decide +kernel⟩
noncomputable def l_class_count_1 : MS := fun r S =>
    (mSet 2 (mOp fMul (mVar 2) (mCB bSumT (mCons (mVar 1) mNil)))) r S
noncomputable def b_class_count : MS :=
    (mSeq (mSet 2 (mC (.int 1)))
    (mSeq (mForW [0, 3] (mSeqI (mVar 0)) (mgName 3) l_class_count_1)
    (mRet (mVar 2))))
noncomputable def m_class_count : MF1 := fun ds S => (b_class_count (startD ["kinds", "glass", "number", "sign"] ds) S).fin
theorem w_class_count {f : Addr} {fd : FuncData} {j : Nat} (n_sum : mg "sum" = none) :
    ∀ (cdv : Value) (A : Around) (outer : List Env) (s : Shared) (H : Hp) (E : XK), fd.code = cdv → Room j (A.deeper (envOfC "class_count" (defScope s_class_count) s.heap.objs.size f cdv)) →
      DSs (cxD P w K mg base ["kinds", "glass", "number", "sign"] "class_count" (defScope s_class_count) f cdv A outer s H E) T (WD E) (defBody s_class_count) (toS (b_class_count)) := by
    intro cdv A outer s H E hcd hr
    refine mss_cons (ms_set (i := 2) sc_class_count.nd rfl (.inl rfl) me_int) ?n218
    refine mss_cons (ms_forW [0, 3] passD rfl (mi_seq (mv 0)) (mg_name (i := 3) sc_class_count.nd rfl (.inl rfl)) ?i219) ?n220
    case i219 =>
      delta l_class_count_1
      refine mss_one (ms_set (i := 2) sc_class_count.nd rfl (.inl rfl) (me_op opd_mul (mv 2) ?h221))
      case h221 =>
        exact (me_callB (cb_sumT rfl) (by rfl) n_sum (by decide +kernel) (ma_cons (mv 1) ma_nil) (by decide) (by decide) (by rfl) (by rfl))
    refine mss_one (ms_ret (mv 2))


abbrev s_check_count : Stmt := topS 26
theorem sc_check_count : FnScope ["kinds", "glass", "limit"] ["kinds", "glass", "limit"] (defScope s_check_count) := ⟨rfl, rfl, rfl, by decide +kernel, rfl, by decide +kernel, by decide +kernel⟩
noncomputable def b_check_count : MS :=
    (mIfS (mB (mOp fGt (mCall m_class_count 2 (mCons (mVar 0) (mCons (mVar 1) mNil))) (mVar 2))) (mRaise "TooMany" "TooMany" ["limit"] (mCons (mVar 2) mNil)) mNext)
noncomputable def m_check_count : MF1 := fun ds S => (b_check_count (startD ["kinds", "glass", "limit"] ds) S).fin
theorem w_check_count {f : Addr} {fd : FuncData} {j : Nat} {k_class_count : Nat} {fd_class_count : FuncData} (c_class_count : Cal P w K mg base T "class_count" k_class_count (He.ga K "class_count") fd_class_count ["kinds", "glass"] (toSp m_class_count)) (h_class_count : k_class_count ≤ j) {k_TooMany : Nat} {i_TooMany : Addr} {fd_TooMany : FuncData} (x_TooMany : XCls P w K mg base "TooMany" (He.ga K "TooMany") i_TooMany fd_TooMany "TooMany" ["limit"] ["self", "limit"] k_TooMany) (h_TooMany : k_TooMany + 1 ≤ j) :
    ∀ (cdv : Value) (A : Around) (outer : List Env) (s : Shared) (H : Hp) (E : XK), fd.code = cdv → Room j (A.deeper (envOfC "check_count" (defScope s_check_count) s.heap.objs.size f cdv)) →
      DSs (cxD P w K mg base ["kinds", "glass", "limit"] "check_count" (defScope s_check_count) f cdv A outer s H E) T (WD E) (defBody s_check_count) (toS (b_check_count)) := by
    intro cdv A outer s H E hcd hr
    refine mss_one (ms_if (mt_cmp opd_gt ?h215 (mv 2) (nomark _)) ?i213 ?i214)
    case h215 =>
      exact (me_calE c_class_count takesD hr (ma_cons (mv 0) (ma_cons (mv 1) ma_nil)) (by omega) (by rfl) (by decide) (by rfl) (by rfl) rfl)
    case i213 =>
      refine mss_one (ms_raise x_TooMany rfl takesD (hr.mono (by omega)) (by rfl) (ma_cons (mv 2) ma_nil))
    case i214 =>
      exact mss_nil


abbrev s_is_bag : Stmt := topS 13
theorem sc_is_bag : FnScope ["kinds", "bag", "count"] ["kinds", "bag"] (defScope s_is_bag) := ⟨rfl, rfl, rfl, by decide +kernel, rfl, by decide +kernel, by decide +kernel⟩
noncomputable def b_is_bag : MS :=
    (mSeq (mIfS (mOr (mNot (mB (mCB bIsi (mCons (mVar 1) (mCons (mC (.ty "tuple")) mNil))))) (mB (mOp fNe (mCB bLen (mCons (mVar 1) mNil)) (mCB bLen (mCons (mVar 0) mNil))))) (mRet (mC (.bl false))) mNext)
    (mRet (mCB bAll (mCons (mLc (mSeqI (mVar 1)) (mgName 2) mYes (mAndV (mCB bIsi (mCons (mVar 2) (mCons (mC (.ty "int")) mNil))) (mAndV (mNotV (mCB bIsi (mCons (mVar 2) (mCons (mC (.ty "bool")) mNil)))) (mOp fGe (mVar 2) (mC (.int 0))))) [2]) mNil))))
noncomputable def m_is_bag : MF1 := fun ds S => (b_is_bag (startD ["kinds", "bag", "count"] ds) S).fin
theorem w_is_bag {f : Addr} {fd : FuncData} {j : Nat} (n_tuple : mg "tuple" = none) (n_isinstance : mg "isinstance" = none) (n_len : mg "len" = none) (n_int : mg "int" = none) (n_bool : mg "bool" = none) (n_all : mg "all" = none) :
    ∀ (cdv : Value) (A : Around) (outer : List Env) (s : Shared) (H : Hp) (E : XK), fd.code = cdv → Room j (A.deeper (envOfC "is_bag" (defScope s_is_bag) s.heap.objs.size f cdv)) →
      DSs (cxD P w K mg base ["kinds", "bag", "count"] "is_bag" (defScope s_is_bag) f cdv A outer s H E) T (WD E) (defBody s_is_bag) (toS (b_is_bag)) := by
    intro cdv A outer s H E hcd hr
    refine mss_cons (ms_if (mw_dt (mw_or (mt_not (mt_val ?h231)) (mw_or1 (mt_cmp (opd_ne hr) ?h232 ?h233 (nomark _))))) ?i229 ?i230) ?n234
    case h231 =>
      exact (me_callB cb_isi (by rfl) n_isinstance (by decide +kernel) (ma_cons (mv 1) (ma_cons (me_ty (by rfl) n_tuple (by decide +kernel)) ma_nil)) (by decide) (by decide) (by rfl) (by rfl))
    case h232 =>
      exact (me_callB cb_len (by rfl) n_len (by decide +kernel) (ma_cons (mv 1) ma_nil) (by decide) (by decide) (by rfl) (by rfl))
    case h233 =>
      exact (me_callB cb_len (by rfl) n_len (by decide +kernel) (ma_cons (mv 0) ma_nil) (by decide) (by decide) (by rfl) (by rfl))
    case i229 =>
      refine mss_one (ms_ret me_bl)
    case i230 =>
      exact mss_nil
    refine mss_one (ms_ret ?h236)
    case h236 =>
      refine (me_callB (cb_all rfl) (by rfl) n_all (by decide +kernel) (ma_cons ?h238 ma_nil) (by decide) (by decide) (by rfl) (by rfl))
      case h238 =>
        refine (me_lc (own := [("count", 2)]) rfl sc_is_bag.nd (mi_seq (mv 1)) (blkOk_by (by rfl)) (mtg_name (by decide)) (fun _ _ _ _ _ => pg_name (i := 2) sc_is_bag.nd rfl (.inl rfl)) (fun _ _ _ _ _ => mts_nil) (fun _ _ _ _ _ => (me_and ?h239 (me_and (me_not ?h240) (me_one (me_cmp opd_ge (mv 2) me_int (nomark _)))))))
        case h239 =>
          exact (me_callB cb_isi (by rfl) n_isinstance (by decide +kernel) (ma_cons (mv 2) (ma_cons (me_ty (by rfl) n_int (by decide +kernel)) ma_nil)) (by decide) (by decide) (by rfl) (by rfl))
        case h240 =>
          exact (me_callB cb_isi (by rfl) n_isinstance (by decide +kernel) (ma_cons (mv 2) (ma_cons (me_ty (by rfl) n_bool (by decide +kernel)) ma_nil)) (by decide) (by decide) (by rfl) (by rfl))


abbrev s_check_bag : Stmt := topS 14
theorem sc_check_bag : FnScope ["kinds", "bag"] ["kinds", "bag"] (defScope s_check_bag) := ⟨rfl, rfl, rfl, by decide +kernel, rfl, by decide +kernel, by decide +kernel⟩
noncomputable def b_check_bag : MS :=
    (mIfS (mNot (mB (mCall m_is_bag 2 (mCons (mVar 0) (mCons (mVar 1) mNil))))) (mRaise "InvalidBag" "InvalidBag" [] mNil) mNext)
noncomputable def m_check_bag : MF1 := fun ds S => (b_check_bag (startD ["kinds", "bag"] ds) S).fin
theorem w_check_bag {f : Addr} {fd : FuncData} {j : Nat} {k_is_bag : Nat} {fd_is_bag : FuncData} (c_is_bag : Cal P w K mg base T "is_bag" k_is_bag (He.ga K "is_bag") fd_is_bag ["kinds", "bag"] (toSp m_is_bag)) (h_is_bag : k_is_bag ≤ j) {k_InvalidBag : Nat} {i_InvalidBag : Addr} {fd_InvalidBag : FuncData} (x_InvalidBag : XCls P w K mg base "InvalidBag" (He.ga K "InvalidBag") i_InvalidBag fd_InvalidBag "InvalidBag" [] ["self"] k_InvalidBag) (h_InvalidBag : k_InvalidBag + 1 ≤ j) :
    ∀ (cdv : Value) (A : Around) (outer : List Env) (s : Shared) (H : Hp) (E : XK), fd.code = cdv → Room j (A.deeper (envOfC "check_bag" (defScope s_check_bag) s.heap.objs.size f cdv)) →
      DSs (cxD P w K mg base ["kinds", "bag"] "check_bag" (defScope s_check_bag) f cdv A outer s H E) T (WD E) (defBody s_check_bag) (toS (b_check_bag)) := by
    intro cdv A outer s H E hcd hr
    refine mss_one (ms_if (mt_not (mt_val ?h226)) ?i224 ?i225)
    case h226 =>
      exact (me_calE c_is_bag takesD hr (ma_cons (mv 0) (ma_cons (mv 1) ma_nil)) (by omega) (by rfl) (by decide) (by rfl) (by rfl) rfl)
    case i224 =>
      refine mss_one (ms_raise0 x_InvalidBag rfl takesD (hr.mono (by omega)) (by rfl))
    case i225 =>
      exact mss_nil


abbrev s_look : Stmt := topS 20
theorem sc_look : FnScope ["number", "glass", "bound", "period"] ["number", "glass"] (defScope s_look) := ⟨rfl, rfl, rfl, by decide +kernel, rfl, by decide +kernel, by decide +kernel⟩
noncomputable def b_look : MS :=
    (mSeq (mAsg (mVar 1) (mgTup 2 (mgCons (mgName 2) (mgCons (mgName 3) mgNil))))
    (mRet (mIf (mB (mOp fLt (mVar 0) (mOp fAdd (mVar 2) (mVar 3)))) (mVar 0) (mOp fAdd (mVar 2) (mOp fMod (mOp fSub (mVar 0) (mVar 2)) (mVar 3))))))
noncomputable def m_look : MF1 := fun ds S => (b_look (startD ["number", "glass", "bound", "period"] ds) S).fin
theorem w_look {f : Addr} {fd : FuncData} {j : Nat} :
    ∀ (cdv : Value) (A : Around) (outer : List Env) (s : Shared) (H : Hp) (E : XK), fd.code = cdv → Room j (A.deeper (envOfC "look" (defScope s_look) s.heap.objs.size f cdv)) →
      DSs (cxD P w K mg base ["number", "glass", "bound", "period"] "look" (defScope s_look) f cdv A outer s H E) T (WD E) (defBody s_look) (toS (b_look)) := by
    intro cdv A outer s H E hcd hr
    refine mss_cons (ms_asg (mv 1) (mg_tup rfl (mgs_cons (mg_name (i := 2) sc_look.nd rfl (.inl rfl)) (mgs_cons (mg_name (i := 3) sc_look.nd rfl (.inl rfl)) mgs_nil)))) ?n245
    refine mss_one (ms_ret (me_ifExp (mt_cmp opd_lt (mv 0) (me_op opd_add (mv 2) (mv 3)) (nomark _)) (mv 0) (me_op opd_add (mv 2) (me_op opd_mod (me_op opd_sub (mv 0) (mv 2)) (mv 3)))))


abbrev s_look_of : Stmt := topS 21
theorem sc_look_of : FnScope ["bag", "glass", "count"] ["bag", "glass"] (defScope s_look_of) := ⟨rfl, rfl, rfl, by decide +kernel, rfl, by decide +kernel, by decide +kernel⟩
noncomputable def b_look_of : MS :=
    (mRet (mCB bTuple (mCons (mLc (mSeqI (mVar 0)) (mgName 2) mYes (mCall m_look 2 (mCons (mVar 2) (mCons (mVar 1) mNil))) [2]) mNil)))
noncomputable def m_look_of : MF1 := fun ds S => (b_look_of (startD ["bag", "glass", "count"] ds) S).fin
theorem w_look_of {f : Addr} {fd : FuncData} {j : Nat} {k_look : Nat} {fd_look : FuncData} (c_look : Cal P w K mg base T "look" k_look (He.ga K "look") fd_look ["number", "glass"] (toSp m_look)) (h_look : k_look ≤ j) (n_tuple : mg "tuple" = none) :
    ∀ (cdv : Value) (A : Around) (outer : List Env) (s : Shared) (H : Hp) (E : XK), fd.code = cdv → Room j (A.deeper (envOfC "look_of" (defScope s_look_of) s.heap.objs.size f cdv)) →
      DSs (cxD P w K mg base ["bag", "glass", "count"] "look_of" (defScope s_look_of) f cdv A outer s H E) T (WD E) (defBody s_look_of) (toS (b_look_of)) := by
    intro cdv A outer s H E hcd hr
    refine mss_one (ms_ret ?h241)
    case h241 =>
      refine (me_callTy cb_tuple (by rfl) n_tuple (by decide +kernel) (ma_cons ?h243 ma_nil) (by decide) (by decide) (by rfl) (by rfl))
      case h243 =>
        refine (me_lc (own := [("count", 2)]) rfl sc_look_of.nd (mi_seq (mv 0)) (blkOk_by (by rfl)) (mtg_name (by decide)) (fun _ _ _ _ _ => pg_name (i := 2) sc_look_of.nd rfl (.inl rfl)) (fun _ _ _ _ _ => mts_nil) (fun _ _ _ _ _ => ?h244))
        case h244 =>
          exact (me_calE c_look L2.takes0 hr (ma_cons (mv 2) (ma_cons (mv 1) ma_nil)) (by omega) (by rfl) (by decide) (by rfl) (by rfl) rfl)


abbrev s_all_looks : Stmt := topS 27
theorem sc_all_looks : FnScope ["kinds", "glass", "found", "sign", "front", "count"] ["kinds", "glass"] (defScope s_all_looks) := ⟨rfl, rfl, rfl, by decide +kernel, rfl, by decide +kernel, by decide +kernel⟩
noncomputable def l_all_looks_1 : MS := fun r S =>
    (mSet 2 (mLc2 (mSeqI (mVar 2)) (mgName 4) mYes (mIA fRng1 (mCons (mCB bSumT (mCons (mVar 1) mNil)) mNil)) (mgName 5) mYes (mTup (mStar (mVar 4) (mCons (mVar 5) mNil))) [4, 5] [5])) r S
noncomputable def b_all_looks : MS :=
    (mSeq (mSet 2 (mLst (mCons (mTup mNil) mNil)))
    (mSeq (mForW [0, 3] (mSeqI (mVar 0)) (mgName 3) l_all_looks_1)
    (mRet (mVar 2))))
noncomputable def m_all_looks : MF1 := fun ds S => (b_all_looks (startD ["kinds", "glass", "found", "sign", "front", "count"] ds) S).fin
theorem w_all_looks {f : Addr} {fd : FuncData} {j : Nat} (n_range : mg "range" = none) (n_sum : mg "sum" = none) :
    ∀ (cdv : Value) (A : Around) (outer : List Env) (s : Shared) (H : Hp) (E : XK), fd.code = cdv → Room j (A.deeper (envOfC "all_looks" (defScope s_all_looks) s.heap.objs.size f cdv)) →
      DSs (cxD P w K mg base ["kinds", "glass", "found", "sign", "front", "count"] "all_looks" (defScope s_all_looks) f cdv A outer s H E) T (WD E) (defBody s_all_looks) (toS (b_all_looks)) := by
    intro cdv A outer s H E hcd hr
    refine mss_cons (ms_set (i := 2) sc_all_looks.nd rfl (.inl rfl) (me_lst (ma_cons (me_tup ma_nil) ma_nil))) ?n272
    refine mss_cons (ms_forW [0, 3] passD rfl (mi_seq (mv 0)) (mg_name (i := 3) sc_all_looks.nd rfl (.inl rfl)) ?i273) ?n274
    case i273 =>
      delta l_all_looks_1
      refine mss_one (ms_setLc2 (i := 2) (own := [("front", 4), ("count", 5)]) (vs1 := [5]) rfl sc_all_looks.nd rfl rfl (sw_true rfl rfl rfl (by decide +kernel)) (mi_seq (mv 2)) (blkOk_by (by rfl)) (by decide) (mtg_name (by decide)) (mtg_name (by decide)) (fun _ _ _ _ _ => pg_name (i := 4) sc_all_looks.nd rfl (.inl rfl)) (fun _ _ _ _ _ => mts_nil) (fun _ _ _ _ _ => (mi_rng1 (by rfl) n_range (ma_cons ?h275 ma_nil))) (fun _ _ _ _ _ => pg_name (i := 5) sc_all_looks.nd rfl (.inl rfl)) (fun _ _ _ _ _ => mts_nil) (fun _ _ _ _ _ => (me_tup (ma_star (mv 4) (ma_cons (mv 5) ma_nil)))))
      case h275 =>
        exact (me_callB (cb_sumT rfl) (by rfl) n_sum (by decide +kernel) (ma_cons (mv 1) ma_nil) (by decide) (by decide) (by rfl) (by rfl))
    refine mss_one (ms_ret (mv 2))


abbrev s_divisors : Stmt := topS 31
theorem sc_divisors : FnScope ["number", "one"] ["number"] (defScope s_divisors) := ⟨rfl, rfl, rfl, by decide +kernel, rfl, by decide +kernel, by decide +kernel⟩
noncomputable def b_divisors : MS :=
    (mRet (mLc (mIA fRng2 (mCons (mC (.int 1)) (mCons (mOp fAdd (mVar 0) (mC (.int 1))) mNil))) (mgName 1) (mB (mOp fEq (mOp fMod (mVar 0) (mVar 1)) (mC (.int 0)))) (mVar 1) [1]))
noncomputable def m_divisors : MF1 := fun ds S => (b_divisors (startD ["number", "one"] ds) S).fin
theorem w_divisors {f : Addr} {fd : FuncData} {j : Nat} (n_range : mg "range" = none) :
    ∀ (cdv : Value) (A : Around) (outer : List Env) (s : Shared) (H : Hp) (E : XK), fd.code = cdv → Room j (A.deeper (envOfC "divisors" (defScope s_divisors) s.heap.objs.size f cdv)) →
      DSs (cxD P w K mg base ["number", "one"] "divisors" (defScope s_divisors) f cdv A outer s H E) T (WD E) (defBody s_divisors) (toS (b_divisors)) := by
    intro cdv A outer s H E hcd hr
    refine mss_one (ms_ret ?h278)
    case h278 =>
      exact (me_lc (own := [("one", 1)]) rfl sc_divisors.nd (mi_rng2 (by rfl) n_range (ma_cons me_int (ma_cons (me_op opd_add (mv 0) me_int) ma_nil))) (blkOk_by (by rfl)) (mtg_name (by decide)) (fun _ _ _ _ _ => pg_name (i := 1) sc_divisors.nd rfl (.inl rfl)) (fun _ _ _ _ _ => mts_one (mt_cmp (opd_eq hr) (me_op opd_mod (mv 0) (mv 1)) me_int (nomark _))) (fun _ _ _ _ _ => (mv 1)))


abbrev s_is_seen : Stmt := topS 32
theorem sc_is_seen : FnScope ["told", "every", "glass", "known", "bag", "small"] ["told", "every", "glass"] (defScope s_is_seen) := ⟨rfl, rfl, rfl, by decide +kernel, rfl, by decide +kernel, by decide +kernel⟩
noncomputable def l_is_seen_1 : MS := fun r S =>
    (mSeq (mSet 5 (mCall m_look_of 2 (mCons (mVar 4) (mCons (mVar 2) mNil))))
    (mSeq (mIfS (mB (mTIn true (mVar 5) (mVar 3))) (mTPut (mVar 3) (mVar 5) (mTGet (mVar 0) (mVar 4))) mNext)
    (mIfS (mB (mOp fNe (mTGet (mVar 3) (mVar 5)) (mTGet (mVar 0) (mVar 4)))) (mRet (mC (.bl false))) mNext))) r S
noncomputable def b_is_seen : MS :=
    (mSeq (mSet 3 mTNew)
    (mSeq (mForW [1, 4, 5] (mSeqI (mVar 1)) (mgName 4) l_is_seen_1)
    (mRet (mC (.bl true)))))
noncomputable def m_is_seen : MF1 := fun ds S => (exitR S (b_is_seen (startD ["told", "every", "glass", "known", "bag", "small"] ds) S))
theorem w_is_seen {f : Addr} {fd : FuncData} {j : Nat} {k_look_of : Nat} {fd_look_of : FuncData} (c_look_of : Cal P w K mg base T "look_of" k_look_of (He.ga K "look_of") fd_look_of ["bag", "glass"] (toSp m_look_of)) (h_look_of : k_look_of ≤ j) :
    ∀ (cdv : Value) (A : Around) (outer : List Env) (s : Shared) (H : Hp) (E : XK), fd.code = cdv → Room j (A.deeper (envOfC "is_seen" (defScope s_is_seen) s.heap.objs.size f cdv)) →
      DSs (cxD P w K mg base ["told", "every", "glass", "known", "bag", "small"] "is_seen" (defScope s_is_seen) f cdv A outer s H E) T (WD E) (defBody s_is_seen) (toS (b_is_seen)) := by
    intro cdv A outer s H E hcd hr
    refine mss_cons (ms_set (i := 3) sc_is_seen.nd rfl (.inl rfl) me_tnew) ?n280
    refine mss_cons (ms_forW [1, 4, 5] passD rfl (mi_seq (mv 1)) (mg_name (i := 4) sc_is_seen.nd rfl (.inl rfl)) ?i281) ?n282
    case i281 =>
      delta l_is_seen_1
      refine mss_cons (ms_set (i := 5) sc_is_seen.nd rfl (.inl rfl) ?h283) ?n284
      case h283 =>
        exact (me_calE c_look_of takesD hr (ma_cons (mv 4) (ma_cons (mv 2) ma_nil)) (by omega) (by rfl) (by decide) (by rfl) (by rfl) rfl)
      refine mss_cons (ms_if (mt_tnotin hr (mv 5) (mv 3) (by rfl)) ?i285 ?i286) ?n287
      case i285 =>
        refine mss_one (ms_tput hr (mv 3) (mv 5) ?h288 (by rfl))
        case h288 =>
          exact (me_tget hr (mv 0) (mv 4) (fun _ _ => rfl))
      case i286 =>
        exact mss_nil
      refine mss_one (ms_if (mt_cmp (opd_ne hr) ?h292 ?h293 (nomark _)) ?i290 ?i291)
      case h292 =>
        exact (me_tget hr (mv 3) (mv 5) (fun _ _ => rfl))
      case h293 =>
        exact (me_tget hr (mv 0) (mv 4) (fun _ _ => rfl))
      case i290 =>
        refine mss_one (ms_ret me_bl)
      case i291 =>
        exact mss_nil
    refine mss_one (ms_ret me_bl)


abbrev s_least_glass : Stmt := topS 33
theorem sc_least_glass : FnScope ["kinds", "glass", "told", "bound", "period", "every", "one"] ["kinds", "glass", "told"] (defScope s_least_glass) := ⟨rfl, rfl, rfl, by decide +kernel, rfl, by decide +kernel, by decide +kernel⟩
noncomputable def l_least_glass_1 : MS := fun r S =>
    (mIfS (mB (mCall m_is_seen 3 (mCons (mVar 2) (mCons (mVar 5) (mCons (mTup (mCons (mVar 3) (mCons (mVar 6) mNil))) mNil))))) (mSeq (mSet 4 (mVar 6))
    mBreak) mNext) r S
noncomputable def l_least_glass_2 : MS := fun r S =>
    (mSet 3 (mOp fSub (mVar 3) (mC (.int 1)))) r S
noncomputable def b_least_glass : MS :=
    (mSeq (mAsg (mVar 1) (mgTup 2 (mgCons (mgName 3) (mgCons (mgName 4) mgNil))))
    (mSeq (mSet 5 (mCall m_all_looks 2 (mCons (mVar 0) (mCons (mVar 1) mNil))))
    (mSeq (mForW [0, 1, 6] (mSeqI (mCall m_divisors 1 (mCons (mVar 4) mNil))) (mgName 6) l_least_glass_1)
    (mSeq (mFore [0, 1, 6] (mWhile (mAnd (mB (mOp fGt (mVar 3) (mC (.int 0)))) (mB (mCall m_is_seen 3 (mCons (mVar 2) (mCons (mVar 5) (mCons (mTup (mCons (mOp fSub (mVar 3) (mC (.int 1))) (mCons (mVar 4) mNil))) mNil)))))) (mWipe [0, 1, 6] l_least_glass_2)))
    (mRet (mTup (mCons (mVar 3) (mCons (mVar 4) mNil))))))))
noncomputable def m_least_glass : MF1 := fun ds S => (b_least_glass (startD ["kinds", "glass", "told", "bound", "period", "every", "one"] ds) S).fin
theorem w_least_glass {f : Addr} {fd : FuncData} {j : Nat} {k_all_looks : Nat} {fd_all_looks : FuncData} (c_all_looks : Cal P w K mg base T "all_looks" k_all_looks (He.ga K "all_looks") fd_all_looks ["kinds", "glass"] (toSp m_all_looks)) (h_all_looks : k_all_looks ≤ j) {k_divisors : Nat} {fd_divisors : FuncData} (c_divisors : Cal P w K mg base T "divisors" k_divisors (He.ga K "divisors") fd_divisors ["number"] (toSp m_divisors)) (h_divisors : k_divisors ≤ j) {k_is_seen : Nat} {fd_is_seen : FuncData} (c_is_seen : Cal P w K mg base T "is_seen" k_is_seen (He.ga K "is_seen") fd_is_seen ["told", "every", "glass"] (toSp m_is_seen)) (h_is_seen : k_is_seen ≤ j) :
    ∀ (cdv : Value) (A : Around) (outer : List Env) (s : Shared) (H : Hp) (E : XK), fd.code = cdv → Room j (A.deeper (envOfC "least_glass" (defScope s_least_glass) s.heap.objs.size f cdv)) →
      DSs (cxD P w K mg base ["kinds", "glass", "told", "bound", "period", "every", "one"] "least_glass" (defScope s_least_glass) f cdv A outer s H E) T (WD E) (defBody s_least_glass) (toS (b_least_glass)) := by
    intro cdv A outer s H E hcd hr
    refine mss_cons (ms_asg (mv 1) (mg_tup rfl (mgs_cons (mg_name (i := 3) sc_least_glass.nd rfl (.inl rfl)) (mgs_cons (mg_name (i := 4) sc_least_glass.nd rfl (.inl rfl)) mgs_nil)))) ?n256
    refine mss_cons (ms_set (i := 5) sc_least_glass.nd rfl (.inl rfl) ?h257) ?n258
    case h257 =>
      exact (me_calE c_all_looks takesD hr (ma_cons (mv 0) (ma_cons (mv 1) ma_nil)) (by omega) (by rfl) (by decide) (by rfl) (by rfl) rfl)
    refine mss_cons (ms_forW [0, 1, 6] passD rfl (mi_seq ?h260) (mg_name (i := 6) sc_least_glass.nd rfl (.inl rfl)) ?i259) ?n261
    case h260 =>
      exact (me_calE c_divisors takesD hr (ma_cons (mv 4) ma_nil) (by omega) (by rfl) (by decide) (by rfl) (by rfl) rfl)
    case i259 =>
      delta l_least_glass_1
      refine mss_one (ms_if (mt_val ?h264) ?i262 ?i263)
      case h264 =>
        exact (me_calE c_is_seen takesD hr (ma_cons (mv 2) (ma_cons (mv 5) (ma_cons (me_tup (ma_cons (mv 3) (ma_cons (mv 6) ma_nil))) ma_nil))) (by omega) (by rfl) (by decide) (by rfl) (by rfl) rfl)
      case i262 =>
        refine mss_cons (ms_set (i := 4) sc_least_glass.nd rfl (.inl rfl) (mv 6)) ?n266
        refine mss_one ms_break
      case i263 =>
        exact mss_nil
    refine mss_cons (ms_fore [0, 1, 6] (ms_while passD (mw_dt (mw_and (mt_cmp opd_gt (mv 3) me_int (nomark _)) (mw_and1 (mt_val ?h268)))) (mss_wipe [0, 1, 6] ?i267))) ?n269
    case h268 =>
      exact (me_calE c_is_seen takesD hr (ma_cons (mv 2) (ma_cons (mv 5) (ma_cons (me_tup (ma_cons (me_op opd_sub (mv 3) me_int) (ma_cons (mv 4) ma_nil))) ma_nil))) (by omega) (by rfl) (by decide) (by rfl) (by rfl) rfl)
    case i267 =>
      delta l_least_glass_2
      refine mss_one (ms_set (i := 3) sc_least_glass.nd rfl (.inl rfl) (me_op opd_sub (mv 3) me_int))
    refine mss_one (ms_ret (me_tup (ma_cons (mv 3) (ma_cons (mv 4) ma_nil))))


abbrev s_least_form : Stmt := topS 34
theorem sc_least_form : FnScope ["kinds", "glass", "found", "good", "small", "bag"] ["kinds", "glass", "found"] (defScope s_least_form) := ⟨rfl, rfl, rfl, by decide +kernel, rfl, by decide +kernel, by decide +kernel⟩
noncomputable def b_least_form : MS :=
    (mSeq (mSet 3 (mTc (mSeqI (mVar 2)) (mgName 5) mYes (mVar 5) (mC (.bl true)) [5]))
    (mSeq (mSet 4 (mCall m_least_glass 3 (mCons (mVar 0) (mCons (mVar 1) (mCons (mTc (mSeqI (mCall m_all_looks 2 (mCons (mVar 0) (mCons (mVar 1) mNil)))) (mgName 5) mYes (mVar 5) (mTIn false (mVar 5) (mVar 3)) [5]) mNil)))))
    (mRet (mTup (mCons (mVar 4) (mCons (mLc (mSeqI (mCall m_all_looks 2 (mCons (mVar 0) (mCons (mVar 4) mNil)))) (mgName 5) (mB (mTIn false (mVar 5) (mVar 3))) (mVar 5) [5]) mNil))))))
noncomputable def m_least_form : MF1 := fun ds S => (exitR S (b_least_form (startD ["kinds", "glass", "found", "good", "small", "bag"] ds) S))
theorem w_least_form {f : Addr} {fd : FuncData} {j : Nat} {k_least_glass : Nat} {fd_least_glass : FuncData} (c_least_glass : Cal P w K mg base T "least_glass" k_least_glass (He.ga K "least_glass") fd_least_glass ["kinds", "glass", "told"] (toSp m_least_glass)) (h_least_glass : k_least_glass ≤ j) {k_all_looks : Nat} {fd_all_looks : FuncData} (c_all_looks : Cal P w K mg base T "all_looks" k_all_looks (He.ga K "all_looks") fd_all_looks ["kinds", "glass"] (toSp m_all_looks)) (h_all_looks : k_all_looks ≤ j) :
    ∀ (cdv : Value) (A : Around) (outer : List Env) (s : Shared) (H : Hp) (E : XK), fd.code = cdv → Room j (A.deeper (envOfC "least_form" (defScope s_least_form) s.heap.objs.size f cdv)) →
      DSs (cxD P w K mg base ["kinds", "glass", "found", "good", "small", "bag"] "least_form" (defScope s_least_form) f cdv A outer s H E) T (WD E) (defBody s_least_form) (toS (b_least_form)) := by
    intro cdv A outer s H E hcd hr
    refine mss_cons (ms_set (i := 3) sc_least_form.nd rfl (.inr rfl) ?h247) ?n248
    case h247 =>
      exact (me_tc (own := [("bag", 5)]) hr rfl sc_least_form.nd (mi_seq (mv 2)) (blkOk_by (by rfl)) (mtg_name (by decide)) (fun _ _ _ _ _ => pg_name (i := 5) sc_least_form.nd rfl (.inl rfl)) (fun _ _ _ _ _ => mts_nil) (fun _ _ _ _ _ => (mv 5)) (fun _ _ _ _ _ => me_bl))
    refine mss_cons (ms_set (i := 4) sc_least_form.nd rfl (.inl rfl) ?h249) ?n250
    case h249 =>
      refine (me_calE c_least_glass takesD hr (ma_cons (mv 0) (ma_cons (mv 1) (ma_cons ?h251 ma_nil))) (by omega) (by rfl) (by decide) (by rfl) (by rfl) rfl)
      case h251 =>
        refine (me_tc (own := [("bag", 5)]) hr rfl sc_least_form.nd (mi_seq ?h252) (blkOk_by (by rfl)) (mtg_name (by decide)) (fun _ _ _ _ _ => pg_name (i := 5) sc_least_form.nd rfl (.inl rfl)) (fun _ _ _ _ _ => mts_nil) (fun _ _ _ _ _ => (mv 5)) (fun _ _ _ _ _ => (me_tin hr (mv 5) (mv 3) (by rfl))))
        case h252 =>
          exact (me_calE c_all_looks takesD hr (ma_cons (mv 0) (ma_cons (mv 1) ma_nil)) (by omega) (by rfl) (by decide) (by rfl) (by rfl) rfl)
    refine mss_one (ms_ret (me_tup (ma_cons (mv 4) (ma_cons ?h253 ma_nil))))
    case h253 =>
      refine (me_lc (own := [("bag", 5)]) rfl sc_least_form.nd (mi_seq ?h255) (blkOk_by (by rfl)) (mtg_name (by decide)) (fun _ _ _ _ _ => pg_name (i := 5) sc_least_form.nd rfl (.inl rfl)) (fun _ _ _ _ _ => mts_one (mt_tin hr (mv 5) (mv 3) (by rfl))) (fun _ _ _ _ _ => (mv 5)))
      case h255 =>
        exact (me_calE c_all_looks takesD hr (ma_cons (mv 0) (ma_cons (mv 4) ma_nil)) (by omega) (by rfl) (by decide) (by rfl) (by rfl) rfl)


abbrev s_BagSet___init__ : Stmt := inClass (topS 39) 0
theorem sc_BagSet___init__ : FnScope ["self", "kinds", "glass", "looks", "bag"] ["self", "kinds", "glass", "looks"] (defScope s_BagSet___init__) := ⟨rfl, rfl, rfl, by decide +kernel, rfl, by decide +kernel, by decide +kernel⟩
noncomputable def l_BagSet___init___1 : MS := fun r S =>
    (mSeq (mExpr (mCall m_check_bag 2 (mCons (mVar 1) (mCons (mVar 4) mNil))))
    (mIfS (mB (mOp fNe (mCall m_look_of 2 (mCons (mVar 4) (mCons (mVar 2) mNil))) (mVar 4))) (mRaise "InvalidBag" "InvalidBag" [] mNil) mNext)) r S
noncomputable def b_BagSet___init__ : MS :=
    (mSeq (mExpr (mCall m_check_kinds 1 (mCons (mVar 1) mNil)))
    (mSeq (mExpr (mCall m_check_glass 1 (mCons (mVar 2) mNil)))
    (mSeq (mExpr (mCall m_check_count 3 (mCons (mVar 1) (mCons (mVar 2) (mCons (mC (.int 2000)) mNil)))))
    (mSeq (mForW [4] (mSeqI (mVar 3)) (mgName 4) l_BagSet___init___1)
    (mSeq (mFld "signs" ["BagSet"] (mVar 0) (mVar 1))
    (mSeq (mAsg (mCall m_least_form 3 (mCons (mVar 1) (mCons (mVar 2) (mCons (mVar 3) mNil)))) (mgTup 2 (mgCons (mgFld "seen_at" ["BagSet"] (mVar 0)) (mgCons (mgFld "found" ["BagSet"] (mVar 0)) mgNil))))
    (mFld "told" ["BagSet"] (mVar 0) (mTup (mCons (mVar 1) (mCons (mAttr "seen_at" ["BagSet"] [] (mVar 0)) (mCons (mAttr "found" ["BagSet"] [] (mVar 0)) mNil)))))))))))
noncomputable def m_BagSet___init__ : MF1 := fun ds S => (b_BagSet___init__ (startD ["self", "kinds", "glass", "looks", "bag"] ds) S).fin
theorem w_BagSet___init__ {f : Addr} {fd : FuncData} {j : Nat} {k_check_kinds : Nat} {fd_check_kinds : FuncData} (c_check_kinds : Cal P w K mg base T "check_kinds" k_check_kinds (He.ga K "check_kinds") fd_check_kinds ["kinds"] (toSp m_check_kinds)) (h_check_kinds : k_check_kinds ≤ j) {k_check_glass : Nat} {fd_check_glass : FuncData} (c_check_glass : Cal P w K mg base T "check_glass" k_check_glass (He.ga K "check_glass") fd_check_glass ["glass"] (toSp m_check_glass)) (h_check_glass : k_check_glass ≤ j) {k_check_count : Nat} {fd_check_count : FuncData} (c_check_count : Cal P w K mg base T "check_count" k_check_count (He.ga K "check_count") fd_check_count ["kinds", "glass", "limit"] (toSp m_check_count)) (h_check_count : k_check_count ≤ j) {k_check_bag : Nat} {fd_check_bag : FuncData} (c_check_bag : Cal P w K mg base T "check_bag" k_check_bag (He.ga K "check_bag") fd_check_bag ["kinds", "bag"] (toSp m_check_bag)) (h_check_bag : k_check_bag ≤ j) {k_look_of : Nat} {fd_look_of : FuncData} (c_look_of : Cal P w K mg base T "look_of" k_look_of (He.ga K "look_of") fd_look_of ["bag", "glass"] (toSp m_look_of)) (h_look_of : k_look_of ≤ j) {k_least_form : Nat} {fd_least_form : FuncData} (c_least_form : Cal P w K mg base T "least_form" k_least_form (He.ga K "least_form") fd_least_form ["kinds", "glass", "found"] (toSp m_least_form)) (h_least_form : k_least_form ≤ j) {k_pt_signs : Nat} (pt_signs : PTab P w K mg base T k_pt_signs "signs" ["BagSet"] []) (h_pt_signs : k_pt_signs + 1 ≤ j) {k_pt_found : Nat} (pt_found : PTab P w K mg base T k_pt_found "found" ["BagSet"] []) (h_pt_found : k_pt_found + 1 ≤ j) {k_pt_seen_at : Nat} (pt_seen_at : PTab P w K mg base T k_pt_seen_at "seen_at" ["BagSet"] []) (h_pt_seen_at : k_pt_seen_at + 1 ≤ j) {k_pt_told : Nat} (pt_told : PTab P w K mg base T k_pt_told "told" ["BagSet"] []) (h_pt_told : k_pt_told + 1 ≤ j) {k_InvalidBag : Nat} {i_InvalidBag : Addr} {fd_InvalidBag : FuncData} (x_InvalidBag : XCls P w K mg base "InvalidBag" (He.ga K "InvalidBag") i_InvalidBag fd_InvalidBag "InvalidBag" [] ["self"] k_InvalidBag) (h_InvalidBag : k_InvalidBag + 1 ≤ j) {tk_MOST_CLASSES : Tok} (g_MOST_CLASSES : mg "MOST_CLASSES" = some (.int 2000 tk_MOST_CLASSES)) :
    ∀ (cdv : Value) (A : Around) (outer : List Env) (s : Shared) (H : Hp) (E : XK), fd.code = cdv → Room j (A.deeper (envOfC "BagSet.__init__" (defScope s_BagSet___init__) s.heap.objs.size f cdv)) →
      DSs (cxD P w K mg base ["self", "kinds", "glass", "looks", "bag"] "BagSet.__init__" (defScope s_BagSet___init__) f cdv A outer s H E) T (WD E) (defBody s_BagSet___init__) (toS (b_BagSet___init__)) := by
    intro cdv A outer s H E hcd hr
    refine mss_cons (ms_expr ?h174) ?n175
    case h174 =>
      exact (me_calE c_check_kinds takesD hr (ma_cons (mv 1) ma_nil) (by omega) (by rfl) (by decide) (by rfl) (by rfl) rfl)
    refine mss_cons (ms_expr ?h176) ?n177
    case h176 =>
      exact (me_calE c_check_glass takesD hr (ma_cons (mv 2) ma_nil) (by omega) (by rfl) (by decide) (by rfl) (by rfl) rfl)
    refine mss_cons (ms_expr ?h178) ?n179
    case h178 =>
      exact (me_calE c_check_count takesD hr (ma_cons (mv 1) (ma_cons (mv 2) (ma_cons (me_gint (by rfl) g_MOST_CLASSES) ma_nil))) (by omega) (by rfl) (by decide) (by rfl) (by rfl) rfl)
    refine mss_cons (ms_forW [4] passD rfl (mi_seq (mv 3)) (mg_name (i := 4) sc_BagSet___init__.nd rfl (.inl rfl)) ?i180) ?n181
    case i180 =>
      delta l_BagSet___init___1
      refine mss_cons (ms_expr ?h182) ?n183
      case h182 =>
        exact (me_calE c_check_bag takesD hr (ma_cons (mv 1) (ma_cons (mv 4) ma_nil)) (by omega) (by rfl) (by decide) (by rfl) (by rfl) rfl)
      refine mss_one (ms_if (mt_cmp (opd_ne hr) ?h186 (mv 4) (nomark _)) ?i184 ?i185)
      case h186 =>
        exact (me_calE c_look_of takesD hr (ma_cons (mv 4) (ma_cons (mv 2) ma_nil)) (by omega) (by rfl) (by decide) (by rfl) (by rfl) rfl)
      case i184 =>
        refine mss_one (ms_raise0 x_InvalidBag rfl takesD (hr.mono (by omega)) (by rfl))
      case i185 =>
        exact mss_nil
    refine mss_cons (ms_fld pt_signs (mv 0) (mv 1) (by rfl)) ?n189
    refine mss_cons (ms_asg ?h190 (mg_tup rfl (mgs_cons (mg_fld pt_seen_at (mv 0)) (mgs_cons (mg_fld pt_found (mv 0)) mgs_nil)))) ?n191
    case h190 =>
      exact (me_calE c_least_form takesD hr (ma_cons (mv 1) (ma_cons (mv 2) (ma_cons (mv 3) ma_nil))) (by omega) (by rfl) (by decide) (by rfl) (by rfl) rfl)
    refine mss_one (ms_fld pt_told (mv 0) (me_tup (ma_cons (mv 1) (ma_cons ?h192 (ma_cons ?h193 ma_nil)))) (by rfl))
    case h192 =>
      exact (me_attr pt_seen_at hr (mv 0) (by omega) (by rfl))
    case h193 =>
      exact (me_attr pt_found hr (mv 0) (by omega) (by rfl))
noncomputable def q_BagSet___init___4 : MF2 := fun ds es S => if ds.length = 4 then m_BagSet___init__ (pick [0, 1, 2, 3] (ds ++ es ++ [])) S else .no

abbrev s_total : Stmt := topS 15
theorem sc_total : FnScope ["bag"] ["bag"] (defScope s_total) := ⟨rfl, rfl, rfl, by decide +kernel, rfl, by decide +kernel, by decide +kernel⟩
noncomputable def b_total : MS :=
    (mRet (mCB bSumT (mCons (mVar 0) mNil)))
noncomputable def m_total : MF1 := fun ds S => (b_total (startD ["bag"] ds) S).fin
theorem w_total {f : Addr} {fd : FuncData} {j : Nat} (n_sum : mg "sum" = none) :
    ∀ (cdv : Value) (A : Around) (outer : List Env) (s : Shared) (H : Hp) (E : XK), fd.code = cdv → Room j (A.deeper (envOfC "total" (defScope s_total) s.heap.objs.size f cdv)) →
      DSs (cxD P w K mg base ["bag"] "total" (defScope s_total) f cdv A outer s H E) T (WD E) (defBody s_total) (toS (b_total)) := by
    intro cdv A outer s H E hcd hr
    refine mss_one (ms_ret ?h313)
    case h313 =>
      exact (me_callB (cb_sumT rfl) (by rfl) n_sum (by decide +kernel) (ma_cons (mv 0) ma_nil) (by decide) (by decide) (by rfl) (by rfl))


abbrev s_ways : Stmt := topS 37
theorem sc_ways : FnScope ["many", "size", "found", "at"] ["many", "size"] (defScope s_ways) := ⟨rfl, rfl, rfl, by decide +kernel, rfl, by decide +kernel, by decide +kernel⟩
noncomputable def l_ways_1 : MS := fun r S =>
    (mSet 2 (mOp fFdiv (mOp fMul (mVar 2) (mOp fAdd (mVar 1) (mVar 3))) (mVar 3))) r S
noncomputable def b_ways : MS :=
    (mSeq (mIfS (mB (mOp fEq (mVar 0) (mC (.int 0)))) (mRet (mCB bInt (mCons (mOp fEq (mVar 1) (mC (.int 0))) mNil))) mNext)
    (mSeq (mSet 2 (mC (.int 1)))
    (mSeq (mForW [0, 3] (mIA fRng2 (mCons (mC (.int 1)) (mCons (mVar 0) mNil))) (mgName 3) l_ways_1)
    (mRet (mVar 2)))))
noncomputable def m_ways : MF1 := fun ds S => (b_ways (startD ["many", "size", "found", "at"] ds) S).fin
theorem w_ways {f : Addr} {fd : FuncData} {j : Nat} (n_int : mg "int" = none) (n_range : mg "range" = none) :
    ∀ (cdv : Value) (A : Around) (outer : List Env) (s : Shared) (H : Hp) (E : XK), fd.code = cdv → Room j (A.deeper (envOfC "ways" (defScope s_ways) s.heap.objs.size f cdv)) →
      DSs (cxD P w K mg base ["many", "size", "found", "at"] "ways" (defScope s_ways) f cdv A outer s H E) T (WD E) (defBody s_ways) (toS (b_ways)) := by
    intro cdv A outer s H E hcd hr
    refine mss_cons (ms_if (mt_cmp (opd_eq hr) (mv 0) me_int (nomark _)) ?i315 ?i316) ?n317
    case i315 =>
      refine mss_one (ms_ret ?h318)
      case h318 =>
        exact (me_callTy cb_int (by rfl) n_int (by decide +kernel) (ma_cons (me_cmp (opd_eq hr) (mv 1) me_int (nomark _)) ma_nil) (by decide) (by decide) (by rfl) (by rfl))
    case i316 =>
      exact mss_nil
    refine mss_cons (ms_set (i := 2) sc_ways.nd rfl (.inl rfl) me_int) ?n320
    refine mss_cons (ms_forW [0, 3] passD rfl (mi_rng2 (by rfl) n_range (ma_cons me_int (ma_cons (mv 0) ma_nil))) (mg_name (i := 3) sc_ways.nd rfl (.inl rfl)) ?i321) ?n322
    case i321 =>
      delta l_ways_1
      refine mss_one (ms_set (i := 2) sc_ways.nd rfl (.inl rfl) (me_op opd_fdiv (me_op opd_mul (mv 2) (me_op opd_add (mv 1) (mv 3))) (mv 3)))
    refine mss_one (ms_ret (mv 2))


abbrev s_BagSet_count : Stmt := inClass (topS 39) 17
theorem sc_BagSet_count : FnScope ["self", "size", "bound", "period", "number", "bag", "rest", "count"] ["self", "size"] (defScope s_BagSet_count) := ⟨rfl, rfl, rfl, by decide +kernel, rfl, by decide +kernel, by decide +kernel⟩
noncomputable def l_BagSet_count_1 : MS := fun r S =>
    (mSeq (mSet 6 (mOp fSub (mVar 1) (mCall m_total 1 (mCons (mVar 5) mNil))))
    (mIfS (mAnd (mB (mOp fGe (mVar 6) (mC (.int 0)))) (mB (mOp fEq (mOp fMod (mVar 6) (mVar 3)) (mC (.int 0))))) (mAug 4 (mCall m_ways 2 (mCons (mCB bLen (mCons (mLc (mSeqI (mVar 5)) (mgName 7) (mB (mOp fGe (mVar 7) (mVar 2))) (mVar 7) [7]) mNil)) (mCons (mOp fFdiv (mVar 6) (mVar 3)) mNil))) fIAdd) mNext)) r S
noncomputable def b_BagSet_count : MS :=
    (mSeq (mAsg (mAttr "seen_at" ["BagSet"] [] (mVar 0)) (mgTup 2 (mgCons (mgName 2) (mgCons (mgName 3) mgNil))))
    (mSeq (mSet 4 (mC (.int 0)))
    (mSeq (mForW [0, 5, 6] (mSeqI (mAttr "found" ["BagSet"] [] (mVar 0))) (mgName 5) l_BagSet_count_1)
    (mRet (mVar 4)))))
noncomputable def m_BagSet_count : MF1 := fun ds S => (b_BagSet_count (startD ["self", "size", "bound", "period", "number", "bag", "rest", "count"] ds) S).fin
theorem w_BagSet_count {f : Addr} {fd : FuncData} {j : Nat} {k_total : Nat} {fd_total : FuncData} (c_total : Cal P w K mg base T "total" k_total (He.ga K "total") fd_total ["bag"] (toSp m_total)) (h_total : k_total ≤ j) {k_ways : Nat} {fd_ways : FuncData} (c_ways : Cal P w K mg base T "ways" k_ways (He.ga K "ways") fd_ways ["many", "size"] (toSp m_ways)) (h_ways : k_ways ≤ j) {k_pt_seen_at : Nat} (pt_seen_at : PTab P w K mg base T k_pt_seen_at "seen_at" ["BagSet"] []) (h_pt_seen_at : k_pt_seen_at + 1 ≤ j) {k_pt_found : Nat} (pt_found : PTab P w K mg base T k_pt_found "found" ["BagSet"] []) (h_pt_found : k_pt_found + 1 ≤ j) (n_len : mg "len" = none) :
    ∀ (cdv : Value) (A : Around) (outer : List Env) (s : Shared) (H : Hp) (E : XK), fd.code = cdv → Room j (A.deeper (envOfC "BagSet.count" (defScope s_BagSet_count) s.heap.objs.size f cdv)) →
      DSs (cxD P w K mg base ["self", "size", "bound", "period", "number", "bag", "rest", "count"] "BagSet.count" (defScope s_BagSet_count) f cdv A outer s H E) T (WD E) (defBody s_BagSet_count) (toS (b_BagSet_count)) := by
    intro cdv A outer s H E hcd hr
    refine mss_cons (ms_asg ?h297 (mg_tup rfl (mgs_cons (mg_name (i := 2) sc_BagSet_count.nd rfl (.inr rfl)) (mgs_cons (mg_name (i := 3) sc_BagSet_count.nd rfl (.inl rfl)) mgs_nil)))) ?n298
    case h297 =>
      exact (me_attr pt_seen_at hr (mv 0) (by omega) (by rfl))
    refine mss_cons (ms_set (i := 4) sc_BagSet_count.nd rfl (.inl rfl) me_int) ?n299
    refine mss_cons (ms_forW [0, 5, 6] passD rfl (mi_seq ?h301) (mg_name (i := 5) sc_BagSet_count.nd rfl (.inl rfl)) ?i300) ?n302
    case h301 =>
      exact (me_attr pt_found hr (mv 0) (by omega) (by rfl))
    case i300 =>
      delta l_BagSet_count_1
      refine mss_cons (ms_set (i := 6) sc_BagSet_count.nd rfl (.inl rfl) (me_op opd_sub (mv 1) ?h303)) ?n304
      case h303 =>
        exact (me_calE c_total takesD hr (ma_cons (mv 5) ma_nil) (by omega) (by rfl) (by decide) (by rfl) (by rfl) rfl)
      refine mss_one (ms_if (mw_dt (mw_and (mt_cmp opd_ge (mv 6) me_int (nomark _)) (mw_and1 (mt_cmp (opd_eq hr) (me_op opd_mod (mv 6) (mv 3)) me_int (nomark _))))) ?i305 ?i306)
      case i305 =>
        refine mss_one (ms_aug (i := 4) sc_BagSet_count.nd rfl (.inl rfl) ?h308 iopd_add)
        case h308 =>
          refine (me_calE c_ways takesD hr (ma_cons ?h310 (ma_cons (me_op opd_fdiv (mv 6) (mv 3)) ma_nil)) (by omega) (by rfl) (by decide) (by rfl) (by rfl) rfl)
          case h310 =>
            refine (me_callB cb_len (by rfl) n_len (by decide +kernel) (ma_cons ?h311 ma_nil) (by decide) (by decide) (by rfl) (by rfl))
            case h311 =>
              exact (me_lc (own := [("count", 7)]) rfl sc_BagSet_count.nd (mi_seq (mv 5)) (blkOk_by (by rfl)) (mtg_name (by decide)) (fun _ _ _ _ _ => pg_name (i := 7) sc_BagSet_count.nd rfl (.inl rfl)) (fun _ _ _ _ _ => mts_one (mt_cmp opd_ge (mv 7) (mv 2) (nomark _))) (fun _ _ _ _ _ => (mv 7)))
      case i306 =>
        exact mss_nil
    refine mss_one (ms_ret (mv 4))
noncomputable def q_BagSet_count_2 : MF2 := fun ds es S => if ds.length = 2 then m_BagSet_count (pick [0, 1] (ds ++ es ++ [])) S else .no

abbrev s_kept_ones : Stmt := topS 38
theorem sc_kept_ones : FnScope ["bags", "others", "wanted", "known", "bag"] ["bags", "others", "wanted"] (defScope s_kept_ones) := ⟨rfl, rfl, rfl, by decide +kernel, rfl, by decide +kernel, by decide +kernel⟩
noncomputable def b_kept_ones : MS :=
    (mSeq (mSet 3 (mTc (mSeqI (mVar 1)) (mgName 4) mYes (mVar 4) (mC (.bl true)) [4]))
    (mRet (mLc (mSeqI (mVar 0)) (mgName 4) (mB (mOp fEq (mTIn false (mVar 4) (mVar 3)) (mVar 2))) (mVar 4) [4])))
noncomputable def m_kept_ones : MF1 := fun ds S => (exitR S (b_kept_ones (startD ["bags", "others", "wanted", "known", "bag"] ds) S))
theorem w_kept_ones {f : Addr} {fd : FuncData} {j : Nat} :
    ∀ (cdv : Value) (A : Around) (outer : List Env) (s : Shared) (H : Hp) (E : XK), fd.code = cdv → Room j (A.deeper (envOfC "kept_ones" (defScope s_kept_ones) s.heap.objs.size f cdv)) →
      DSs (cxD P w K mg base ["bags", "others", "wanted", "known", "bag"] "kept_ones" (defScope s_kept_ones) f cdv A outer s H E) T (WD E) (defBody s_kept_ones) (toS (b_kept_ones)) := by
    intro cdv A outer s H E hcd hr
    refine mss_cons (ms_set (i := 3) sc_kept_ones.nd rfl (.inr rfl) ?h335) ?n336
    case h335 =>
      exact (me_tc (own := [("bag", 4)]) hr rfl sc_kept_ones.nd (mi_seq (mv 1)) (blkOk_by (by rfl)) (mtg_name (by decide)) (fun _ _ _ _ _ => pg_name (i := 4) sc_kept_ones.nd rfl (.inl rfl)) (fun _ _ _ _ _ => mts_nil) (fun _ _ _ _ _ => (mv 4)) (fun _ _ _ _ _ => me_bl))
    refine mss_one (ms_ret ?h337)
    case h337 =>
      exact (me_lc (own := [("bag", 4)]) rfl sc_kept_ones.nd (mi_seq (mv 0)) (blkOk_by (by rfl)) (mtg_name (by decide)) (fun _ _ _ _ _ => pg_name (i := 4) sc_kept_ones.nd rfl (.inl rfl)) (fun _ _ _ _ _ => mts_one (mt_cmp (opd_eq hr) (me_tin hr (mv 4) (mv 3) (by rfl)) (mv 2) (nomark _))) (fun _ _ _ _ _ => (mv 4)))


abbrev s_BagSet___invert__ : Stmt := inClass (topS 39) 13
theorem sc_BagSet___invert__ : FnScope ["self", "every"] ["self"] (defScope s_BagSet___invert__) := ⟨rfl, rfl, rfl, by decide +kernel, rfl, by decide +kernel, by decide +kernel⟩
noncomputable def b_BagSet___invert__ : MS :=
    (mSeq (mSet 1 (mCall m_all_looks 2 (mCons (mAttr "signs" ["BagSet"] [] (mVar 0)) (mCons (mAttr "seen_at" ["BagSet"] [] (mVar 0)) mNil))))
    (mRet (mMake "BagSet" true 0 q_BagSet___init___4 (mCons (mAttr "signs" ["BagSet"] [] (mVar 0)) (mCons (mAttr "seen_at" ["BagSet"] [] (mVar 0)) (mCons (mCall m_kept_ones 3 (mCons (mVar 1) (mCons (mAttr "found" ["BagSet"] [] (mVar 0)) (mCons (mC (.bl false)) mNil)))) mNil))) mNil)))
noncomputable def m_BagSet___invert__ : MF1 := fun ds S => (b_BagSet___invert__ (startD ["self", "every"] ds) S).fin
theorem w_BagSet___invert__ {f : Addr} {fd : FuncData} {j : Nat} {k_all_looks : Nat} {fd_all_looks : FuncData} (c_all_looks : Cal P w K mg base T "all_looks" k_all_looks (He.ga K "all_looks") fd_all_looks ["kinds", "glass"] (toSp m_all_looks)) (h_all_looks : k_all_looks ≤ j) {k_kept_ones : Nat} {fd_kept_ones : FuncData} (c_kept_ones : Cal P w K mg base T "kept_ones" k_kept_ones (He.ga K "kept_ones") fd_kept_ones ["bags", "others", "wanted"] (toSp m_kept_ones)) (h_kept_ones : k_kept_ones ≤ j) {k_pt_seen_at : Nat} (pt_seen_at : PTab P w K mg base T k_pt_seen_at "seen_at" ["BagSet"] []) (h_pt_seen_at : k_pt_seen_at + 1 ≤ j) {k_pt_signs : Nat} (pt_signs : PTab P w K mg base T k_pt_signs "signs" ["BagSet"] []) (h_pt_signs : k_pt_signs + 1 ≤ j) {k_pt_found : Nat} (pt_found : PTab P w K mg base T k_pt_found "found" ["BagSet"] []) (h_pt_found : k_pt_found + 1 ≤ j) {k_mk_BagSet___init___4 : Nat} (mk_BagSet___init___4 : MkC P w K mg base T k_mk_BagSet___init___4 "BagSet" [] q_BagSet___init___4) (h_mk_BagSet___init___4 : k_mk_BagSet___init___4 + 1 ≤ j) :
    ∀ (cdv : Value) (A : Around) (outer : List Env) (s : Shared) (H : Hp) (E : XK), fd.code = cdv → Room j (A.deeper (envOfC "BagSet.__invert__" (defScope s_BagSet___invert__) s.heap.objs.size f cdv)) →
      DSs (cxD P w K mg base ["self", "every"] "BagSet.__invert__" (defScope s_BagSet___invert__) f cdv A outer s H E) T (WD E) (defBody s_BagSet___invert__) (toS (b_BagSet___invert__)) := by
    intro cdv A outer s H E hcd hr
    refine mss_cons (ms_set (i := 1) sc_BagSet___invert__.nd rfl (.inl rfl) ?h325) ?n326
    case h325 =>
      refine (me_calE c_all_looks takesD hr (ma_cons ?h327 (ma_cons ?h328 ma_nil)) (by omega) (by rfl) (by decide) (by rfl) (by rfl) rfl)
      case h327 =>
        exact (me_attr pt_signs hr (mv 0) (by omega) (by rfl))
      case h328 =>
        exact (me_attr pt_seen_at hr (mv 0) (by omega) (by rfl))
    refine mss_one (ms_ret ?h329)
    case h329 =>
      refine (me_make (fz := true) mk_BagSet___init___4 takesD hr (ma_cons ?h331 (ma_cons ?h332 (ma_cons ?h333 ma_nil))) mk_nil (by omega) (by rfl) (.inr ⟨_, _, rfl⟩) (by rfl) (by rfl) rfl (by decide))
      case h331 =>
        exact (me_attr pt_signs hr (mv 0) (by omega) (by rfl))
      case h332 =>
        exact (me_attr pt_seen_at hr (mv 0) (by omega) (by rfl))
      case h333 =>
        refine (me_calE c_kept_ones takesD hr (ma_cons (mv 1) (ma_cons ?h334 (ma_cons me_bl ma_nil))) (by omega) (by rfl) (by decide) (by rfl) (by rfl) rfl)
        case h334 =>
          exact (me_attr pt_found hr (mv 0) (by omega) (by rfl))
noncomputable def q_BagSet___invert___1 : MF2 := fun ds es S => if ds.length = 1 then m_BagSet___invert__ (pick [0] (ds ++ es ++ [])) S else .no

abbrev s_BagSet_everything : Stmt := inClass (topS 39) 1
theorem sc_BagSet_everything : FnScope ["cls", "kinds"] ["cls", "kinds"] (defScope s_BagSet_everything) := ⟨rfl, rfl, rfl, by decide +kernel, rfl, by decide +kernel, by decide +kernel⟩
noncomputable def b_BagSet_everything : MS :=
    (mSeq (mExpr (mCall m_check_kinds 1 (mCons (mVar 1) mNil)))
    (mRet (mMakeV 0 "BagSet" true 0 q_BagSet___init___4 (mCons (mVar 1) (mCons (mTup (mCons (mC (.int 0)) (mCons (mC (.int 1)) mNil))) (mCons (mLst (mCons (mOp fMul (mTup (mCons (mC (.int 0)) mNil)) (mCB bLen (mCons (mVar 1) mNil))) mNil)) mNil))) mNil)))
noncomputable def m_BagSet_everything : MF1 := fun ds S => (b_BagSet_everything (startD ["cls", "kinds"] ds) S).fin
theorem w_BagSet_everything {f : Addr} {fd : FuncData} {j : Nat} {k_check_kinds : Nat} {fd_check_kinds : FuncData} (c_check_kinds : Cal P w K mg base T "check_kinds" k_check_kinds (He.ga K "check_kinds") fd_check_kinds ["kinds"] (toSp m_check_kinds)) (h_check_kinds : k_check_kinds ≤ j) {k_mk_BagSet___init___4 : Nat} (mk_BagSet___init___4 : MkC P w K mg base T k_mk_BagSet___init___4 "BagSet" [] q_BagSet___init___4) (h_mk_BagSet___init___4 : k_mk_BagSet___init___4 + 1 ≤ j) (n_len : mg "len" = none) :
    ∀ (cdv : Value) (A : Around) (outer : List Env) (s : Shared) (H : Hp) (E : XK), fd.code = cdv → Room j (A.deeper (envOfC "BagSet.everything" (defScope s_BagSet_everything) s.heap.objs.size f cdv)) →
      DSs (cxD P w K mg base ["cls", "kinds"] "BagSet.everything" (defScope s_BagSet_everything) f cdv A outer s H E) T (WD E) (defBody s_BagSet_everything) (toS (b_BagSet_everything)) := by
    intro cdv A outer s H E hcd hr
    refine mss_cons (ms_expr ?h339) ?n340
    case h339 =>
      exact (me_calE c_check_kinds takesD hr (ma_cons (mv 1) ma_nil) (by omega) (by rfl) (by decide) (by rfl) (by rfl) rfl)
    refine mss_one (ms_ret ?h341)
    case h341 =>
      refine (me_makeV (fz := true) mk_BagSet___init___4 takesD hr (ma_cons (mv 1) (ma_cons (me_tup (ma_cons me_int (ma_cons me_int ma_nil))) (ma_cons (me_lst (ma_cons (me_op opd_mul (me_tup (ma_cons me_int ma_nil)) ?h343) ma_nil)) ma_nil))) mk_nil (mv 0) (by omega) (.inr ⟨_, _, rfl⟩) (by rfl) (by rfl) rfl)
      case h343 =>
        exact (me_callB cb_len (by rfl) n_len (by decide +kernel) (ma_cons (mv 1) ma_nil) (by decide) (by decide) (by rfl) (by rfl))
noncomputable def q_BagSet_everything_2 : MF2 := fun ds es S => if ds.length = 2 then m_BagSet_everything (pick [0, 1] (ds ++ es ++ [])) S else .no

abbrev s_BagSet_nothing : Stmt := inClass (topS 39) 2
theorem sc_BagSet_nothing : FnScope ["cls", "kinds"] ["cls", "kinds"] (defScope s_BagSet_nothing) := ⟨rfl, rfl, rfl, by decide +kernel, rfl, by decide +kernel, by decide +kernel⟩
noncomputable def b_BagSet_nothing : MS :=
    (mRet (mMakeV 0 "BagSet" true 0 q_BagSet___init___4 (mCons (mVar 1) (mCons (mTup (mCons (mC (.int 0)) (mCons (mC (.int 1)) mNil))) (mCons (mLst mNil) mNil))) mNil))
noncomputable def m_BagSet_nothing : MF1 := fun ds S => (b_BagSet_nothing (startD ["cls", "kinds"] ds) S).fin
theorem w_BagSet_nothing {f : Addr} {fd : FuncData} {j : Nat} {k_mk_BagSet___init___4 : Nat} (mk_BagSet___init___4 : MkC P w K mg base T k_mk_BagSet___init___4 "BagSet" [] q_BagSet___init___4) (h_mk_BagSet___init___4 : k_mk_BagSet___init___4 + 1 ≤ j) :
    ∀ (cdv : Value) (A : Around) (outer : List Env) (s : Shared) (H : Hp) (E : XK), fd.code = cdv → Room j (A.deeper (envOfC "BagSet.nothing" (defScope s_BagSet_nothing) s.heap.objs.size f cdv)) →
      DSs (cxD P w K mg base ["cls", "kinds"] "BagSet.nothing" (defScope s_BagSet_nothing) f cdv A outer s H E) T (WD E) (defBody s_BagSet_nothing) (toS (b_BagSet_nothing)) := by
    intro cdv A outer s H E hcd hr
    refine mss_one (ms_ret ?h344)
    case h344 =>
      exact (me_makeV (fz := true) mk_BagSet___init___4 takesD hr (ma_cons (mv 1) (ma_cons (me_tup (ma_cons me_int (ma_cons me_int ma_nil))) (ma_cons (me_lst ma_nil) ma_nil))) mk_nil (mv 0) (by omega) (.inr ⟨_, _, rfl⟩) (by rfl) (by rfl) rfl)
noncomputable def q_BagSet_nothing_2 : MF2 := fun ds es S => if ds.length = 2 then m_BagSet_nothing (pick [0, 1] (ds ++ es ++ [])) S else .no

abbrev s_law : Stmt := topS 55
theorem sc_law : FnScope ["_law_script", "_law_rng", "_law_turn", "_law_good", "_law_glass_here", "_law_found", "_law_made", "_law_size", "_law_due", "_law_far", "_law_every", "_law_k", "_law_even", "_law_bag"] ["_law_script"] (defScope s_law) := ⟨rfl, rfl, rfl, by decide +kernel, rfl, by decide +kernel, by decide +kernel⟩
noncomputable def l_law_1 : MS := fun r S =>
    (mSet 10 (mOp fFdiv (mOp fMul (mVar 10) (mOp fAdd (mVar 9) (mVar 11))) (mVar 11))) r S
noncomputable def l_law_2 : MS := fun r S =>
    (mSeq (mSet 3 (mCall m__law_few 2 (mCons (mVar 1) (mCons (mC (.int 4)) mNil))))
    (mSeq (mAsg (mCall m__law_some_set 2 (mCons (mVar 1) (mCons (mVar 3) mNil))) (mgTup 2 (mgCons (mgName 4) (mgCons (mgName 5) mgNil))))
    (mSeq (mSet 6 (mMake "BagSet" true 0 q_BagSet___init___4 (mCons (mVar 3) (mCons (mVar 4) (mCons (mVar 5) mNil))) mNil))
    (mSeq (mSet 7 (mCall m__law_draw 2 (mCons (mVar 1) (mCons (mIf (mB (mOp fLt (mCB bLen (mCons (mVar 3) mNil)) (mC (.int 4)))) (mC (.int 12)) (mC (.int 7))) mNil))))
    (mSeq (mSet 8 (mLc (mSeqI (mCall m__law_bags 2 (mCons (mVar 3) (mCons (mVar 7) mNil)))) (mgName 13) (mAnd (mB (mOp fEq (mCB bSumT (mCons (mVar 13) mNil)) (mVar 7))) (mB (mCall m__law_in 2 (mCons (mTup (mCons (mVar 4) (mCons (mVar 5) mNil))) (mCons (mVar 13) mNil))))) (mVar 13) [13]))
    (mSeq (mIfS (mNot (mB (mCall m__law_same 2 (mCons (mLst (mCons (mMeth "count" 0 [("BagSet", q_BagSet_count_2)] (mVar 6) (mCons (mVar 7) mNil) mNil) (mCons (mMeth "count" 0 [("BagSet", q_BagSet_count_2)] (mVar 6) (mCons (mVar 7) mNil) mNil) mNil))) (mCons (mOp fMul (mLst (mCons (mCB bLen (mCons (mVar 8) mNil)) mNil)) (mC (.int 2))) mNil))))) (mRet (mC (.bl false))) mNext)
    (mSeq (mSet 9 (mOp fAdd (mOp fPow (mC (.int 10)) (mC (.int 20))) (mCall m__law_draw 2 (mCons (mVar 1) (mCons (mC (.int 60)) mNil)))))
    (mSeq (mSet 10 (mOp fAdd (mVar 9) (mC (.int 1))))
    (mSeq (mForW [0, 2, 4, 5, 7, 8, 11, 12] (mIA fRng2 (mCons (mC (.int 2)) (mCons (mCB bLen (mCons (mVar 3) mNil)) mNil))) (mgName 11) l_law_1)
    (mIfS (mOr (mB (mOp fNe (mOp fAdd (mMeth "count" 0 [("BagSet", q_BagSet_count_2)] (mVar 6) (mCons (mVar 9) mNil) mNil) (mMeth "count" 0 [("BagSet", q_BagSet_count_2)] (mInv [("BagSet", q_BagSet___invert___1)] (mVar 6)) (mCons (mVar 9) mNil) mNil)) (mVar 10))) (mB (mOp fNe (mMeth "count" 0 [("BagSet", q_BagSet_count_2)] (mCm "BagSet" 0 q_BagSet_everything_2 (mCons (mVar 3) mNil) mNil) (mCons (mVar 9) mNil) mNil) (mVar 10)))) (mRet (mC (.bl false))) mNext)))))))))) r S
noncomputable def b_law : MS :=
    (mSeq (mSet 1 (mCall m__law_draws 1 (mCons (mVar 0) mNil)))
    (mSeq (mForW [0, 2, 3, 4, 5, 6, 7, 8, 9, 10, 11, 12] (mIA fRng1 (mCons (mC (.int 4)) mNil)) (mgName 2) l_law_2)
    (mSeq (mSet 12 (mMake "BagSet" true 0 q_BagSet___init___4 (mCons (mC (.str "ab")) (mCons (mTup (mCons (mC (.int 0)) (mCons (mC (.int 2)) mNil))) (mCons (mLst (mCons (mTup (mCons (mC (.int 0)) (mCons (mC (.int 0)) mNil))) mNil)) mNil))) mNil))
    (mRet (mOp fEq (mLst (mCons (mMeth "count" 0 [("BagSet", q_BagSet_count_2)] (mVar 12) (mCons (mOp fPow (mC (.int 10)) (mC (.int 20))) mNil) mNil) (mCons (mMeth "count" 0 [("BagSet", q_BagSet_count_2)] (mVar 12) (mCons (mOp fAdd (mOp fPow (mC (.int 10)) (mC (.int 20))) (mC (.int 1))) mNil) mNil) (mCons (mMeth "count" 0 [("BagSet", q_BagSet_count_2)] (mCm "BagSet" 0 q_BagSet_nothing_2 (mCons (mC (.str "ab")) mNil) mNil) (mCons (mC (.int 0)) mNil) mNil) mNil)))) (mLst (mCons (mOp fAdd (mOp fMul (mC (.int 5)) (mOp fPow (mC (.int 10)) (mC (.int 19)))) (mC (.int 1))) (mCons (mC (.int 0)) (mCons (mC (.int 0)) mNil)))))))))
noncomputable def m_law : MF1 := fun ds S => (b_law (startD ["_law_script", "_law_rng", "_law_turn", "_law_good", "_law_glass_here", "_law_found", "_law_made", "_law_size", "_law_due", "_law_far", "_law_every", "_law_k", "_law_even", "_law_bag"] ds) S).fin
theorem w_law {f : Addr} {fd : FuncData} {j : Nat} {k__law_draws : Nat} {fd__law_draws : FuncData} (c__law_draws : Cal P w K mg base T "_law_draws" k__law_draws (He.ga K "_law_draws") fd__law_draws ["_law_script"] (toSp m__law_draws)) (h__law_draws : k__law_draws ≤ j) {k__law_few : Nat} {fd__law_few : FuncData} (c__law_few : Cal P w K mg base T "_law_few" k__law_few (He.ga K "_law_few") fd__law_few ["_law_rng", "_law_most"] (toSp m__law_few)) (h__law_few : k__law_few ≤ j) {k__law_some_set : Nat} {fd__law_some_set : FuncData} (c__law_some_set : Cal P w K mg base T "_law_some_set" k__law_some_set (He.ga K "_law_some_set") fd__law_some_set ["_law_rng", "_law_kinds_here"] (toSp m__law_some_set)) (h__law_some_set : k__law_some_set ≤ j) {k__law_draw : Nat} {fd__law_draw : FuncData} (c__law_draw : Cal P w K mg base T "_law_draw" k__law_draw (He.ga K "_law_draw") fd__law_draw ["_law_rng", "_law_sides"] (toSp m__law_draw)) (h__law_draw : k__law_draw ≤ j) {k__law_bags : Nat} {fd__law_bags : FuncData} (c__law_bags : Cal P w K mg base T "_law_bags" k__law_bags (He.ga K "_law_bags") fd__law_bags ["_law_kinds_here", "_law_most"] (toSp m__law_bags)) (h__law_bags : k__law_bags ≤ j) {k__law_in : Nat} {fd__law_in : FuncData} (c__law_in : Cal P w K mg base T "_law_in" k__law_in (He.ga K "_law_in") fd__law_in ["_law_told", "_law_bag"] (toSp m__law_in)) (h__law_in : k__law_in ≤ j) {k__law_same : Nat} {fd__law_same : FuncData} (c__law_same : Cal P w K mg base T "_law_same" k__law_same (He.ga K "_law_same") fd__law_same ["_law_found", "_law_due"] (toSp m__law_same)) (h__law_same : k__law_same ≤ j) {k_mk_BagSet___init___4 : Nat} (mk_BagSet___init___4 : MkC P w K mg base T k_mk_BagSet___init___4 "BagSet" [] q_BagSet___init___4) (h_mk_BagSet___init___4 : k_mk_BagSet___init___4 + 1 ≤ j) {k_mt_count_2 : Nat} (mt_count_2 : MTab P w K mg base T k_mt_count_2 "count" [] [("BagSet", q_BagSet_count_2)]) (h_mt_count_2 : k_mt_count_2 ≤ j) {k_sp___invert__ : Nat} (sp___invert__ : STab P w K mg base T k_sp___invert__ "__invert__" [("BagSet", q_BagSet___invert___1)]) (h_sp___invert__ : k_sp___invert__ + 1 ≤ j) {k_cm_BagSet_everything_2 : Nat} (cm_BagSet_everything_2 : CmC P w K mg base T k_cm_BagSet_everything_2 "BagSet" "everything" [] q_BagSet_everything_2) (h_cm_BagSet_everything_2 : k_cm_BagSet_everything_2 ≤ j) {k_cm_BagSet_nothing_2 : Nat} (cm_BagSet_nothing_2 : CmC P w K mg base T k_cm_BagSet_nothing_2 "BagSet" "nothing" [] q_BagSet_nothing_2) (h_cm_BagSet_nothing_2 : k_cm_BagSet_nothing_2 ≤ j) (n_range : mg "range" = none) (n_len : mg "len" = none) (n_sum : mg "sum" = none) :
    ∀ (cdv : Value) (A : Around) (outer : List Env) (s : Shared) (H : Hp) (E : XK), fd.code = cdv → Room j (A.deeper (envOfC "law" (defScope s_law) s.heap.objs.size f cdv)) →
      DSs (cxD P w K mg base ["_law_script", "_law_rng", "_law_turn", "_law_good", "_law_glass_here", "_law_found", "_law_made", "_law_size", "_law_due", "_law_far", "_law_every", "_law_k", "_law_even", "_law_bag"] "law" (defScope s_law) f cdv A outer s H E) T (WD E) (defBody s_law) (toS (b_law)) := by
    intro cdv A outer s H E hcd hr
    refine mss_cons (ms_set (i := 1) sc_law.nd rfl (.inl rfl) ?h1) ?n2
    case h1 =>
      exact (me_calE c__law_draws takesD hr (ma_cons (mv 0) ma_nil) (by omega) (by rfl) (by decide) (by rfl) (by rfl) rfl)
    refine mss_cons (ms_forW [0, 2, 3, 4, 5, 6, 7, 8, 9, 10, 11, 12] passD rfl (mi_rng1 (by rfl) n_range (ma_cons me_int ma_nil)) (mg_name (i := 2) sc_law.nd rfl (.inl rfl)) ?i3) ?n4
    case i3 =>
      delta l_law_2
      refine mss_cons (ms_set (i := 3) sc_law.nd rfl (.inl rfl) ?h5) ?n6
      case h5 =>
        exact (me_calE c__law_few takesD hr (ma_cons (mv 1) (ma_cons me_int ma_nil)) (by omega) (by rfl) (by decide) (by rfl) (by rfl) rfl)
      refine mss_cons (ms_asg ?h7 (mg_tup rfl (mgs_cons (mg_name (i := 4) sc_law.nd rfl (.inr rfl)) (mgs_cons (mg_name (i := 5) sc_law.nd rfl (.inr rfl)) mgs_nil)))) ?n8
      case h7 =>
        exact (me_calE c__law_some_set takesD hr (ma_cons (mv 1) (ma_cons (mv 3) ma_nil)) (by omega) (by rfl) (by decide) (by rfl) (by rfl) rfl)
      refine mss_cons (ms_set (i := 6) sc_law.nd rfl (.inl rfl) ?h9) ?n10
      case h9 =>
        exact (me_make (fz := true) mk_BagSet___init___4 takesD hr (ma_cons (mv 3) (ma_cons (mv 4) (ma_cons (mv 5) ma_nil))) mk_nil (by omega) (by rfl) (.inr ⟨_, _, rfl⟩) (by rfl) (by rfl) rfl (by decide))
      refine mss_cons (ms_set (i := 7) sc_law.nd rfl (.inr rfl) ?h11) ?n12
      case h11 =>
        refine (me_calE c__law_draw takesD hr (ma_cons (mv 1) (ma_cons (me_ifExp (mt_cmp opd_lt ?h13 me_int (nomark _)) me_int me_int) ma_nil)) (by omega) (by rfl) (by decide) (by rfl) (by rfl) rfl)
        case h13 =>
          exact (me_callB cb_len (by rfl) n_len (by decide +kernel) (ma_cons (mv 3) ma_nil) (by decide) (by decide) (by rfl) (by rfl))
      refine mss_cons (ms_setLc (i := 8) (own := [("_law_bag", 13)]) rfl sc_law.nd rfl rfl (sw_true rfl rfl rfl (by decide +kernel)) (mi_seq ?h14) (blkOk_by (by rfl)) (mtg_name (by decide)) (fun _ _ _ _ _ => pg_name (i := 13) sc_law.nd rfl (.inl rfl)) (fun _ _ _ _ _ => mts_one (mw_dt (mw_and (mt_cmp (opd_eq hr) ?h15 (mv 7) (nomark _)) (mw_and1 (mt_val ?h16))))) (fun _ _ _ _ _ => (mv 13))) ?n17
      case h14 =>
        exact (me_calE c__law_bags takesD hr (ma_cons (mv 3) (ma_cons (mv 7) ma_nil)) (by omega) (by rfl) (by decide) (by rfl) (by rfl) rfl)
      case h15 =>
        exact (me_callB (cb_sumT rfl) (by rfl) n_sum (by decide +kernel) (ma_cons (mv 13) ma_nil) (by decide) (by decide) (by rfl) (by rfl))
      case h16 =>
        exact (me_calE c__law_in L2.takes0 hr (ma_cons (me_tup (ma_cons (mv 4) (ma_cons (mv 5) ma_nil))) (ma_cons (mv 13) ma_nil)) (by omega) (by rfl) (by decide) (by rfl) (by rfl) rfl)
      refine mss_cons (ms_if (mt_not (mt_val ?h20)) ?i18 ?i19) ?n21
      case h20 =>
        refine (me_calE c__law_same takesD hr (ma_cons (me_lst (ma_cons ?h22 (ma_cons ?h23 ma_nil))) (ma_cons (me_op opd_mul (me_lst (ma_cons ?h24 ma_nil)) me_int) ma_nil)) (by omega) (by rfl) (by decide) (by rfl) (by rfl) rfl)
        case h22 =>
          exact (me_meth mt_count_2 takesD hr (mv 6) (ma_cons (mv 7) ma_nil) mk_nil (by omega) (.inr ⟨_, _, rfl⟩) (by rfl) (by rfl) rfl (by rfl))
        case h23 =>
          exact (me_meth mt_count_2 takesD hr (mv 6) (ma_cons (mv 7) ma_nil) mk_nil (by omega) (.inr ⟨_, _, rfl⟩) (by rfl) (by rfl) rfl (by rfl))
        case h24 =>
          exact (me_callB cb_len (by rfl) n_len (by decide +kernel) (ma_cons (mv 8) ma_nil) (by decide) (by decide) (by rfl) (by rfl))
      case i18 =>
        refine mss_one (ms_ret me_bl)
      case i19 =>
        exact mss_nil
      refine mss_cons (ms_set (i := 9) sc_law.nd rfl (.inl rfl) (me_op opd_add (me_op opd_pow me_int me_int) ?h26)) ?n27
      case h26 =>
        exact (me_calE c__law_draw takesD hr (ma_cons (mv 1) (ma_cons me_int ma_nil)) (by omega) (by rfl) (by decide) (by rfl) (by rfl) rfl)
      refine mss_cons (ms_set (i := 10) sc_law.nd rfl (.inl rfl) (me_op opd_add (mv 9) me_int)) ?n28
      refine mss_cons (ms_forW [0, 2, 4, 5, 7, 8, 11, 12] passD rfl (mi_rng2 (by rfl) n_range (ma_cons me_int (ma_cons ?h30 ma_nil))) (mg_name (i := 11) sc_law.nd rfl (.inl rfl)) ?i29) ?n31
      case h30 =>
        exact (me_callB cb_len (by rfl) n_len (by decide +kernel) (ma_cons (mv 3) ma_nil) (by decide) (by decide) (by rfl) (by rfl))
      case i29 =>
        delta l_law_1
        refine mss_one (ms_set (i := 10) sc_law.nd rfl (.inl rfl) (me_op opd_fdiv (me_op opd_mul (mv 10) (me_op opd_add (mv 9) (mv 11))) (mv 11)))
      refine mss_one (ms_if (mw_dt (mw_or (mt_cmp (opd_ne hr) (me_op opd_add ?h35 ?h36) (mv 10) (nomark _)) (mw_or1 (mt_cmp (opd_ne hr) ?h37 (mv 10) (nomark _))))) ?i33 ?i34)
      case h35 =>
        exact (me_meth mt_count_2 takesD hr (mv 6) (ma_cons (mv 9) ma_nil) mk_nil (by omega) (.inr ⟨_, _, rfl⟩) (by rfl) (by rfl) rfl (by rfl))
      case h36 =>
        refine (me_meth mt_count_2 takesD hr ?h39 (ma_cons (mv 9) ma_nil) mk_nil (by omega) (.inr ⟨_, _, rfl⟩) (by rfl) (by rfl) rfl (by rfl))
        case h39 =>
          exact (me_inv sp___invert__ takesD hr (mv 6) (by omega))
      case h37 =>
        refine (me_meth mt_count_2 takesD hr ?h40 (ma_cons (mv 9) ma_nil) mk_nil (by omega) (.inr ⟨_, _, rfl⟩) (by rfl) (by rfl) rfl (by rfl))
        case h40 =>
          exact (me_cm cm_BagSet_everything_2 takesD hr (ma_cons (mv 3) ma_nil) mk_nil (by omega) (by rfl) (.inr ⟨_, _, rfl⟩) (by rfl) (by rfl) rfl (by decide) (by rfl))
      case i33 =>
        refine mss_one (ms_ret me_bl)
      case i34 =>
        exact mss_nil
    refine mss_cons (ms_set (i := 12) sc_law.nd rfl (.inl rfl) ?h42) ?n43
    case h42 =>
      exact (me_make (fz := true) mk_BagSet___init___4 takesD hr (ma_cons me_str (ma_cons (me_tup (ma_cons me_int (ma_cons me_int ma_nil))) (ma_cons (me_lst (ma_cons (me_tup (ma_cons me_int (ma_cons me_int ma_nil))) ma_nil)) ma_nil))) mk_nil (by omega) (by rfl) (.inr ⟨_, _, rfl⟩) (by rfl) (by rfl) rfl (by decide))
    refine mss_one (ms_ret (me_cmp (opd_eq hr) (me_lst (ma_cons ?h44 (ma_cons ?h45 (ma_cons ?h46 ma_nil)))) (me_lst (ma_cons (me_op opd_add (me_op opd_mul me_int (me_op opd_pow me_int me_int)) me_int) (ma_cons me_int (ma_cons me_int ma_nil)))) (nomark _)))
    case h44 =>
      exact (me_meth mt_count_2 takesD hr (mv 12) (ma_cons (me_op opd_pow me_int me_int) ma_nil) mk_nil (by omega) (.inr ⟨_, _, rfl⟩) (by rfl) (by rfl) rfl (by rfl))
    case h45 =>
      exact (me_meth mt_count_2 takesD hr (mv 12) (ma_cons (me_op opd_add (me_op opd_pow me_int me_int) me_int) ma_nil) mk_nil (by omega) (.inr ⟨_, _, rfl⟩) (by rfl) (by rfl) rfl (by rfl))
    case h46 =>
      refine (me_meth mt_count_2 takesD hr ?h48 (ma_cons me_int ma_nil) mk_nil (by omega) (.inr ⟨_, _, rfl⟩) (by rfl) (by rfl) rfl (by rfl))
      case h48 =>
        exact (me_cm cm_BagSet_nothing_2 takesD hr (ma_cons me_str ma_nil) mk_nil (by omega) (by rfl) (.inr ⟨_, _, rfl⟩) (by rfl) (by rfl) rfl (by decide) (by rfl))


end
end DL
namespace DL
open PySem PySem.Spec PyProof.Rows L2
/-! ### the laws' own drawing -/
theorem RngO.parts {o : O} (h : RngO o) : ∃ (cs : List Int) (i b s c : Int), 0 ≤ i ∧ o = .lst [.lst (cs.map D.int), .int i, .int b, .int s, .int c] := h
theorem draw_ex {S : Store} {n : Nat} {m : Int} (hS : RngAt S n) (h0 : 0 < m) (hm : m < 2 ^ 62) : ∃ x o, m__law_draw [.ref n, .int m] S = .ok (.int x) (S.set n o) ∧ 0 ≤ x ∧ x < m ∧ RngO o := by
  obtain ⟨S, cs, i, b, s, c, hn, hi, rfl⟩ := hS.ex
  have hD : DivOk m := divOk_small h0 hm
  have gs : ∀ o : O, (S.set n o)[n]? = some o := fun o => by rw [List.getElem?_set_self hn]
  have ix : ∀ (a b c d e : D) (k : Nat) (z : D), k < 5 → ([a, b, c, d, e] : List D)[k]? = some z → atI [a, b, c, d, e] (k : Int) = some z := fun a b c d e k z _ h => atI_nat h
  have g0 : ∀ (a b c d e : D), pk1 (fIx (S.set n (.lst [a, b, c, d, e])) (.ref n) (.int 0)) (S.set n (.lst [a, b, c, d, e])) = .ok a _ := fun a b c d e => k_ixR (gs _) rfl
  have g1 : ∀ (a b c d e : D), pk1 (fIx (S.set n (.lst [a, b, c, d, e])) (.ref n) (.int 1)) (S.set n (.lst [a, b, c, d, e])) = .ok b _ := fun a b c d e => k_ixR (gs _) rfl
  have g2 : ∀ (a b c d e : D), pk1 (fIx (S.set n (.lst [a, b, c, d, e])) (.ref n) (.int 2)) (S.set n (.lst [a, b, c, d, e])) = .ok c _ := fun a b c d e => k_ixR (gs _) rfl
  have g3 : ∀ (a b c d e : D), pk1 (fIx (S.set n (.lst [a, b, c, d, e])) (.ref n) (.int 3)) (S.set n (.lst [a, b, c, d, e])) = .ok d _ := fun a b c d e => k_ixR (gs _) rfl
  have g4 : ∀ (a b c d e : D), pk1 (fIx (S.set n (.lst [a, b, c, d, e])) (.ref n) (.int 4)) (S.set n (.lst [a, b, c, d, e])) = .ok e _ := fun a b c d e => k_ixR (gs _) rfl
  have s1 : ∀ (a b c d e z : D), setIx (.ref n) (.int 1) z (S.set n (.lst [a, b, c, d, e])) = .ok () (S.set n (.lst [a, z, c, d, e])) := fun a b c d e z => by rw [setIx_ok (gs _) (k := 1) rfl]; simp
  have s2 : ∀ (a b c d e z : D), setIx (.ref n) (.int 2) z (S.set n (.lst [a, b, c, d, e])) = .ok () (S.set n (.lst [a, b, z, d, e])) := fun a b c d e z => by rw [setIx_ok (gs _) (k := 2) rfl]; simp
  have s3 : ∀ (a b c d e z : D), setIx (.ref n) (.int 3) z (S.set n (.lst [a, b, c, d, e])) = .ok () (S.set n (.lst [a, b, c, z, e])) := fun a b c d e z => by rw [setIx_ok (gs _) (k := 3) rfl]; simp
  have s4 : ∀ (a b c d e z : D), setIx (.ref n) (.int 4) z (S.set n (.lst [a, b, c, d, e])) = .ok () (S.set n (.lst [a, b, c, d, z])) := fun a b c d e z => by rw [setIx_ok (gs _) (k := 4) rfl]; simp
  have mu1 : ∀ (T : Store) (x : Int) (k : Int), -(2 ^ 64) < k → k < 2 ^ 64 → pk1 (fMul T (.int x) (.int k)) T = .ok (.int (x * k)) T := fun T x k h1 h2 => k_mulI (mulOk_r ⟨h1, h2⟩)
  have p18 : ∀ T : Store, pk1 (fPow T (.int 10) (.int 18)) T = .ok (.int (10 ^ 18)) T := fun T => k_pow ⟨by omega, by omega, by decide⟩
  have eqI : ∀ (T : Store) (x y : Int), pk1 (fEq T (.int x) (.int y)) T = .ok (.bl (decide (x = y))) T := fun T x y => by rw [k_eq rfl rfl]; simp [dres, lsv, pd, PyData.eqv]; rfl
  simp only [List.set_set]
  unfold m__law_draw
  have ends : ∀ (x : Int) (cs : List Int) (i b s c : Int), 0 ≤ i → 0 ≤ x % m ∧ x % m < m ∧ RngO (.lst [.lst (cs.map D.int), .int i, .int b, .int s, .int c]) := fun x cs i b s c hi => ⟨Int.emod_nonneg _ (by omega), Int.emod_lt_of_pos _ h0, _, _, _, _, _, hi, rfl⟩
  by_cases hb : b = 0
  · subst hb
    by_cases hc : i < cs.length
    · obtain ⟨v, hv⟩ := atI_ints hi hc
      by_cases h1 : (1000000000000000000 : Int) ≤ v
      · have hv0 : 0 < v := by omega
        simp [b__law_draw, startD, wipeD, g0, g1, g2, g3, g4, s1, s2, s3, s4, k_mod, k_fdiv, mu1, divOk_small, h0, hD, eqI, p18, hc, k_ixL hv, h1, hv0]
        exact ⟨_, _, ⟨rfl, rfl⟩, ends _ _ _ _ _ _ (by omega)⟩
      · simp [b__law_draw, startD, wipeD, g0, g1, g2, g3, g4, s1, s2, s3, s4, k_mod, k_fdiv, mu1, divOk_small, h0, hD, eqI, p18, hc, k_ixL hv, h1]
        exact ⟨_, _, ⟨rfl, rfl⟩, ends _ _ _ _ _ _ (by omega)⟩
    · simp [b__law_draw, startD, wipeD, g0, g1, g2, g3, g4, s1, s2, s3, s4, k_mod, k_fdiv, mu1, divOk_small, h0, hD, eqI, p18, hc]
      exact ⟨_, _, ⟨rfl, rfl⟩, ends _ _ _ _ _ _ hi⟩
  · by_cases hb2 : 0 < b
    · simp [b__law_draw, startD, wipeD, g0, g1, g2, g3, g4, s1, s2, s3, s4, k_mod, k_fdiv, mu1, divOk_small, h0, hD, eqI, p18, hb, hb2]
      exact ⟨_, _, ⟨rfl, rfl⟩, ends _ _ _ _ _ _ hi⟩
    · simp [b__law_draw, startD, wipeD, g0, g1, g2, g3, g4, s1, s2, s3, s4, k_mod, k_fdiv, mu1, divOk_small, h0, hD, eqI, p18, hb, hb2]
      exact ⟨_, _, ⟨rfl, rfl⟩, ends _ _ _ _ _ _ hi⟩
theorem draws_ex {S : Store} {ns : List Int} : ∃ o, m__law_draws [.fz (ns.map D.int)] S = .ok (.ref S.length) (S ++ [o]) ∧ RngO o := by
  obtain ⟨ms, hms⟩ : ∃ ms : List Int, cutD (ns.map D.int) none (some 63) = ms.map D.int := ⟨_, by unfold cutD; rw [← List.map_drop, ← List.map_take]⟩
  unfold m__law_draws
  simp [b__law_draws, startD, wipeD, hms]
  generalize hL : mForL _ _ _ _ _ = L
  obtain ⟨r, S', rfl, v, rfl, rfl⟩ := for_at hL (fun r S' => ∃ v : Int, r = [some (.fz (ns.map D.int)), some (.int v), none] ∧ S' = S) ⟨3836, rfl, rfl⟩ (fun x hx r S' ⟨v, e1, e2⟩ => by
    subst e1 e2
    obtain ⟨y, _, rfl⟩ := List.mem_map.mp hx
    have mu1 : ∀ (T : Store) (x : Int) (k : Int), -(2 ^ 64) < k → k < 2 ^ 64 → pk1 (fMul T (.int x) (.int k)) T = .ok (.int (x * k)) T := fun T x k h1 h2 => k_mulI (mulOk_r ⟨h1, h2⟩)
    simp [l__law_draws_1, k_mod, mu1, wipeD])
  simp [fitR_ok, sizeLine_eq, hms]
  exact ⟨ms, 0, 0, v, 0, by omega, rfl⟩
theorem pick_ex {S : Store} {n : Nat} {xs : List D} (hS : RngAt S n) (h0 : 0 < xs.length) (h1 : xs.length < 1000000) : ∃ x o, m__law_pick [.ref n, .lst xs] S = .ok x (S.set n o) ∧ x ∈ xs ∧ RngO o := by
  obtain ⟨x, o, e, hx0, hx1, ho⟩ := draw_ex (m := xs.length) hS (by omega) (by omega)
  obtain ⟨d, hd, e2⟩ := atI_mem (xs := xs) hx0 hx1
  refine ⟨d, o, ?_, hd, ho⟩
  simp [m__law_pick, b__law_pick, startD, e, k_ixL e2]
/-! ### drawing, where the store holds no more -/
theorem rngAt1 {o : O} (ho : RngO o) : RngAt [o] 0 := ⟨o, rfl, ho⟩
theorem draw1 {o : O} {m : Int} (ho : RngO o) (h0 : 0 < m) (hm : m < 2 ^ 62) : ∃ x o', m__law_draw [.ref 0, .int m] [o] = .ok (.int x) [o'] ∧ 0 ≤ x ∧ x < m ∧ RngO o' := draw_ex (rngAt1 ho) h0 hm
theorem draw_at1 {o : O} {m : Int} {L : R D} (hL : m__law_draw [.ref 0, .int m] [o] = L) (ho : RngO o) (h0 : 0 < m) (hm : m < 2 ^ 62) : ∃ x o', L = .ok (.int x) [o'] ∧ 0 ≤ x ∧ x < m ∧ RngO o' := by
  rw [← hL]; exact draw1 ho h0 hm
theorem kinds_ex {S : Store} {n : Nat} {m : Int} (hS : RngAt S n) (h0 : 2 ≤ m) (h1 : m < 100) : ∃ (f s : Int) (k : Nat) (o : O), m__law_kinds [.ref n, .int m] S = .ok (.str (kindStr f s k)) (S.set n o) ∧ 0 ≤ f ∧ f < 26 ∧ s ∈ ([1, 3, 5, 7, 9, 11, 15, 25] : List Int) ∧ 2 ≤ k ∧ (k : Int) ≤ m ∧ RngO o := by
  obtain ⟨f, o, e1, hf0, hf1, ho⟩ := draw_ex (m := 26) hS (by omega) (by omega)
  obtain ⟨sd, o2, e2, hs, ho2⟩ := pick_ex (xs := [.int 1, .int 3, .int 5, .int 7, .int 9, .int 11, .int 15, .int 25]) (hS.set ho) (by simp) (by simp)
  obtain ⟨s, rfl, hsm⟩ : ∃ s' : Int, sd = .int s' ∧ s' ∈ ([1, 3, 5, 7, 9, 11, 15, 25] : List Int) := by
    simp only [List.mem_cons, List.not_mem_nil, or_false] at hs
    rcases hs with rfl | rfl | rfl | rfl | rfl | rfl | rfl | rfl <;> exact ⟨_, rfl, by simp⟩
  obtain ⟨x, o3, e3, hx0, hx1, ho3⟩ := draw_ex (m := m - 1) ((hS.set ho).set ho2) (by omega) (by omega)
  rw [List.set_set] at e2 e3
  rw [List.set_set] at e3
  refine ⟨f, s, (2 + x).toNat, o3, ?_, hf0, hf1, hsm, by omega, by omega, ho3⟩
  have hsb : -(2 ^ 64) < s ∧ s < 2 ^ 64 := by
    simp only [List.mem_cons, List.not_mem_nil, or_false] at hsm
    omega
  simp [m__law_kinds, b__law_kinds, startD, e1, e2, e3, fitR_ok, sizeLine_eq, k_rng1 (show -(2 ^ 62) ≤ 2 + x by omega) (show 2 + x < 2 ^ 62 by omega), wipeD]
  unfold rngD
  rw [lc_map (en := fun k : Nat => .int (0 + (k : Nat))) (f := fun k : Nat => chr1 (97 + (f + s * (k : Nat)) % 26).toNat) (fun k hk => by
    have hm := Int.emod_nonneg (f + s * (k : Nat)) (by omega : (26 : Int) ≠ 0)
    have hl := Int.emod_lt_of_pos (f + s * (k : Nat)) (by omega : (0 : Int) < 26)
    simp [k_mulI (mulOk_l hsb), k_mod, k_ix (itemD_letters hm hl)])]
  have hz : (2 + x).toNat ≤ 100 := by omega
  simp [sizeLine_eq, fitR_ok (show (2 + x).toNat ≤ sizeLine by rw [sizeLine_eq]; omega)]
  rw [k_joinL (ys := (kindCps f s (2 + x).toNat).map fun c => (⟨#[c]⟩ : Str)) (by simp [kindCps, chr1]) (by
    have e0 : (Str.ofString "").length = 0 := by decide +kernel
    rw [e0]
    simp [kindCps, Str.length, Function.comp_def, sum_ones]
    omega), join_ones]
  rfl
theorem pick1 {o : O} {xs : List D} (ho : RngO o) (h0 : 0 < xs.length) (h1 : xs.length < 1000000) : ∃ x o', m__law_pick [.ref 0, .lst xs] [o] = .ok x [o'] ∧ x ∈ xs ∧ RngO o' := pick_ex (rngAt1 ho) h0 h1
theorem pick_at1 {o : O} {xs : List D} {L : R D} (hL : m__law_pick [.ref 0, .lst xs] [o] = L) (ho : RngO o) (h0 : 0 < xs.length) (h1 : xs.length < 1000000) : ∃ x o', L = .ok x [o'] ∧ x ∈ xs ∧ RngO o' := by
  rw [← hL]; exact pick1 ho h0 h1
theorem kinds1 {o : O} {m : Int} (ho : RngO o) (h0 : 2 ≤ m) (h1 : m ≤ 4) : ∃ (a : Str) (o' : O), m__law_kinds [.ref 0, .int m] [o] = .ok (.str a) [o'] ∧ KindsOk a ∧ (a.length : Int) ≤ m ∧ RngO o' := by
  obtain ⟨f, s, k, o', e, h2, h3, h4, h5, h6, ho'⟩ := kinds_ex (rngAt1 ho) h0 (by omega)
  exact ⟨_, o', e, kindStr_ok h2 h3 h4 h5 (by omega), by rw [kindStr_len]; exact h6, ho'⟩
/-! ### kinds and bags -/
theorem check_kinds_eq {S : Store} {x : Str} (hx : x.length < 1000) : m_check_kinds [.str x] S = if KindsOk x then .ok .non S else .ex xIK S := by
  have hsz : x.length ≤ sizeLine := by rw [sizeLine_eq]; omega
  have hm := metS_le (codes x)
  have hn := metS_nodup (codes x)
  have hxl : (codes x).length = x.length := by simp [Str.length]
  unfold m_check_kinds
  by_cases a1 : 2 ≤ x.length
  · by_cases a2 : x.length ≤ 4
    · have b1 : (2 : Int) ≤ x.length := by omega
      have b2 : (x.length : Int) ≤ 4 := by omega
      by_cases a3 : (codes x).Nodup
      · have e := hn.mpr a3
        have b3 : ¬ ((metS (codes x)).length : Int) < x.length := by omega
        cases a4 : (codes x).all low with
        | true =>
          rw [if_pos (KindsOk_iff.mpr ⟨a1, a2, a3, a4⟩)]
          simp [b_check_kinds, startD, k_lenS hsz, b1, b2, k_lenset (show x.length < 4000 by omega), b3, lc_low, fitR_ok hsz, a4]
        | false =>
          rw [if_neg (fun z => by rw [KindsOk_iff, a4] at z; exact nomatch z.2.2.2)]
          simp [b_check_kinds, startD, k_lenS hsz, b1, b2, k_lenset (show x.length < 4000 by omega), b3, lc_low, fitR_ok hsz, a4, xIK]
      · have e : ¬ (metS (codes x)).length = (codes x).length := fun z => a3 (hn.mp z)
        have b3 : ((metS (codes x)).length : Int) < x.length := by omega
        rw [if_neg (fun z => a3 z.2.2.1)]
        simp [b_check_kinds, startD, k_lenS hsz, b1, b2, k_lenset (show x.length < 4000 by omega), b3, xIK]
    · have b1 : (2 : Int) ≤ x.length := by omega
      have b2 : ¬ (x.length : Int) ≤ 4 := by omega
      rw [if_neg (fun z => a2 z.2.1)]
      simp [b_check_kinds, startD, k_lenS hsz, b1, b2, xIK]
  · have b1 : ¬ (2 : Int) ≤ x.length := by omega
    rw [if_neg (fun z => a1 z.1)]
    simp [b_check_kinds, startD, k_lenS hsz, b1, xIK]
theorem is_bag_eq {S : Store} {x : Str} {b : D} (hx : x.length < 1000) (hb : wd 2 b = true) : m_is_bag [.str x, b] S = .ok (.bl (isBag x.length b)) S := by
  have hsz : x.length ≤ sizeLine := by rw [sizeLine_eq]; omega
  unfold m_is_bag
  cases b with
  | tup es =>
    simp [wd] at hb
    by_cases hn : es.length = x.length
    · have hn2 : (es.length : Int) = x.length := by omega
      have lc : mLcL (mgName 2) mYes (mAndV (mCB bIsi (mCons (mVar 2) (mCons (mC (.ty "int")) mNil))) (mAndV (mNotV (mCB bIsi (mCons (mVar 2) (mCons (mC (.ty "bool")) mNil)))) (mOp fGe (mVar 2) (mC (.int 0))))) [some (.str x), some (.tup es), none] (es.map id) S = .ok (es.map fun d => .bl (match d with
          | .int c => decide (0 ≤ c) | _ => false)) S := lc_map id _ fun d hd => by
        have hd1 := hb.2 d hd
        cases d with
        | non => simp
        | bl c => simp
        | int c => simp
        | str c => simp
        | tup c => simp
        | lst c => simp
        | _ => simp [wd] at hd1
      rw [List.map_id] at lc
      simp [b_is_bag, startD, k_lenS hsz, hn2, wipeD, lc, fitR_ok (show es.length ≤ sizeLine by rw [sizeLine_eq]; omega)]
      simp [isBag, hn] <;> rfl
    · have hn2 : ¬ (es.length : Int) = x.length := by omega
      simp [b_is_bag, startD, k_lenS hsz, hn2, isBag, hn]
  | non => simp [b_is_bag, startD, isBag]
  | bl q => simp [b_is_bag, startD, isBag]
  | int q => simp [b_is_bag, startD, isBag]
  | str q => simp [b_is_bag, startD, isBag]
  | lst q => simp [b_is_bag, startD, isBag]
  | _ => simp [wd] at hb
theorem check_bag_eq {S : Store} {x : Str} {b : D} (hx : x.length < 1000) (hb : wd 2 b = true) : m_check_bag [.str x, b] S = if isBag x.length b = true then .ok .non S else .ex xIB S := by
  unfold m_check_bag
  cases q : isBag x.length b with
  | true => simp [b_check_bag, startD, is_bag_eq hx hb, q]
  | false => simp [b_check_bag, startD, is_bag_eq hx hb, q, xIB]
/-! ### glasses and looks -/
theorem look_N {S : Store} {x b p : Nat} (h : 0 < p) : m_look [.int (x : Int), glD b p] S = .ok (.int (lkN b p x : Nat)) S := by
  unfold lkN glD
  by_cases hx : x < b + p
  · have hx' : (x : Int) < (b : Int) + p := by omega
    simp [m_look, b_look, startD, hx, hx']
  · have hx' : ¬ (x : Int) < (b : Int) + p := by omega
    have e : ((x : Int) - b) % p = (((x - b) % p : Nat) : Int) := by rw [← Int.ofNat_sub (by omega)]; rfl
    simp [m_look, b_look, startD, hx, hx', k_mod (show (0 : Int) < p by omega), e]
theorem look_ofN {S : Store} {x : List Nat} {b p : Nat} (h : 0 < p) (hl : x.length ≤ 1000) : m_look_of [bagN x, glD b p] S = .ok (bagN (lkB b p x)) S := by
  have lc : mLcL (mgName 2) mYes (mCall m_look 2 (mCons (mVar 2) (mCons (mVar 1) mNil))) [some (bagN x), some (glD b p), none] (x.map fun c : Nat => D.int (c : Int)) S = .ok (x.map fun c => D.int (lkN b p c : Nat)) S := lc_map _ _ fun c hc => by simp [look_N h]
  simp [m_look_of, b_look_of, startD, wipeD, lc, fitR_ok (show x.length ≤ sizeLine by rw [sizeLine_eq]; omega)]
  simp [bagN, lkB]
theorem check_glass_N {S : Store} {b p : Nat} (h : 0 < p) : m_check_glass [glD b p] S = .ok .non S := by
  have h1 : ¬ (b : Int) < 0 := by omega
  have h2 : ¬ (p : Int) < 1 := by omega
  simp [m_check_glass, b_check_glass, startD, glD, h1, h2]
theorem class_count_N {S : Store} {a : Str} {b p : Nat} (h : b + p < 2 ^ 60) : m_class_count [.str a, glD b p] S = .ok (.int (((b : Int) + p) ^ a.length)) S := by
  unfold m_class_count
  simp [b_class_count, startD, wipeD]
  generalize hL : mForL _ _ _ _ _ = L
  obtain ⟨r, S', rfl, rfl, rfl⟩ := for_ix hL (fun i r S' => r = [none, some (glD b p), some (.int (((b : Int) + p) ^ i)), none] ∧ S' = S) ⟨by simp, rfl⟩ (fun i hi r S' ⟨e1, e2⟩ => by
    subst e1 e2
    refine ⟨_, _, ?_, rfl, rfl⟩
    have mu : pk1 (fMul S' (.int (((b : Int) + p) ^ i)) (.int ((b : Int) + p))) S' = .ok (.int (((b : Int) + p) ^ (i + 1))) S' := by
      rw [k_mulI (mulOk_r (by omega)), Int.pow_succ]
    simp [l_class_count_1, sum_gl, mu])
  simp [codes_len]
def xTM (n : Int) : Xc := ⟨"TooMany", xns ["limit"], [.str "TooMany", .int n]⟩
theorem check_count_N {S : Store} {a : Str} {b p : Nat} {l : Int} (h : b + p < 2 ^ 60) : m_check_count [.str a, glD b p, .int l] S = if l < ((b : Int) + p) ^ a.length then .ex (xTM l) S else .ok .non S := by
  have cc := class_count_N (S := S) (a := a) h
  by_cases h2 : l < ((b : Int) + p) ^ a.length
  · rw [if_pos h2]
    simp [m_check_count, b_check_count, startD, cc, h2, xTM]
  · rw [if_neg h2]
    simp [m_check_count, b_check_count, startD, cc, h2]
theorem pow_le_of {m k i : Nat} (hm : 0 < m) (hi : i ≤ k) : m ^ i ≤ m ^ k := Nat.pow_le_pow_right hm hi
theorem all_looks_N {S : Store} {a : Str} {b p : Nat} (hp : 0 < p) (ha : a.length ≤ 1000) (h : (b + p) ^ a.length ≤ 1000000) (h2 : b + p < 2 ^ 60) : m_all_looks [.str a, glD b p] S = .ok (.lst ((allL a.length (b + p)).map bagN)) S := by
  unfold m_all_looks
  simp [b_all_looks, startD, wipeD, fitR_ok, sizeLine_eq]
  generalize hL : mForL _ _ _ _ _ = L
  have e0 : D.tup [] = bagN [] := rfl
  have rg : ∀ T : Store, pk1 (fRng1 T [.int ((b : Int) + (p : Int))]) T = .ok ((List.range (b + p)).map fun c : Nat => D.int (c : Int)) T := fun T => rng_N (by omega) h2
  obtain ⟨r, S', rfl, rfl, rfl⟩ := for_ix hL (fun i r S' => r = [none, some (glD b p), some (.lst ((allL i (b + p)).map bagN)), none, none, none] ∧ S' = S) ⟨by simp [allL, e0], rfl⟩ (fun i hi r S' ⟨e1, e2⟩ => by
    subst e1 e2
    simp at hi
    refine ⟨_, _, ?_, rfl, rfl⟩
    have hle := pow_le_of (m := b + p) (k := a.length) (i := i + 1) (by omega) (by omega)
    have lc2 : ∀ z : D, mLc2L (mgName 4) mYes (mIA fRng1 (mCons (mCB bSumT (mCons (mVar 1) mNil)) mNil)) (mgName 5) mYes (mTup (mStar (mVar 4) (mCons (mVar 5) mNil))) [5] [none, some (glD b p), some (.lst ((allL i (b + p)).map bagN)), some z, none, none] ((allL i (b + p)).map bagN) S' = .ok ((allL i (b + p)).flatMap fun f => (List.range (b + p)).map fun c => bagN (f ++ [c])) S' := fun z => lc2_map _ _ fun f hf => by
      have hfl := (mem_allL.mp hf).1
      have lc : mLcL (mgName 5) mYes (mTup (mStar (mVar 4) (mCons (mVar 5) mNil))) [none, some (glD b p), some (.lst ((allL i (b + p)).map bagN)), some z, some (bagN f), none] ((List.range (b + p)).map fun c : Nat => D.int (c : Int)) S' = .ok ((List.range (b + p)).map fun c => bagN (f ++ [c])) S' := lc_map _ _ fun c hc => by
        have hfit : f.length + 1 ≤ sizeLine := by rw [hfl, sizeLine_eq]; omega
        simp [fitR_ok hfit, bagN_snoc]
      simp [sum_gl, rg, wipeD, lc]
    have fl : ((allL i (b + p)).flatMap fun f => (List.range (b + p)).map fun c => bagN (f ++ [c])) = (allL (i + 1) (b + p)).map bagN := by
      simp only [allL, List.map_flatMap, List.map_map]; rfl
    have hln : (allL (i + 1) (b + p)).length ≤ sizeLine := by rw [allL_len, sizeLine_eq]; omega
    simp [l_all_looks_1, wipeD, lc2, fl, fitR_ok hln])
  simp [codes_len]
/-! ### the least form of a set -/
/-- told holds F at every look -/
def Told (S : Store) (n : Nat) (F : FS) (every : List (List Nat)) : Prop := ∃ kvs, S[n]? = some (.dT kvs) ∧ ∀ x ∈ every, valG kvs (kN x) = some (.bl (F x))
theorem is_seen_loop {S : Store} {n b p : Nat} {F : FS} {every : List (List Nat)} (hp : 0 < p) (hT : Told S n F every) (hk : ∀ x ∈ every, x.length ≤ 1000) : ∀ (xs pre : List (List Nat)) (kvs : List (List Key × D)) (M : List Nat → Option Bool), (∀ x ∈ xs, x ∈ every) → kvs.length + xs.length < sizeLine → (∀ y, valG kvs (kN y) = (M y).map D.bl) → (∀ x ∈ pre, M (lkB b p x) = some (F x)) → (∀ y v, M y = some v → ∃ x ∈ pre, lkB b p x = y ∧ F x = v) →
    (∃ kvs', mForL (mgName 4) (mWipe [1, 4, 5] l_is_seen_1) (xs.map bagN) [some (.ref n), none, some (glD b p), some (.ref S.length), none, none] (S ++ [.dT kvs]) = .nx [some (.ref n), none, some (glD b p), some (.ref S.length), none, none] (S ++ [.dT kvs']) ∧ ∀ x ∈ pre ++ xs, ∀ y ∈ pre ++ xs, lkB b p x = lkB b p y → F x = F y) ∨
    (∃ kvs', mForL (mgName 4) (mWipe [1, 4, 5] l_is_seen_1) (xs.map bagN) [some (.ref n), none, some (glD b p), some (.ref S.length), none, none] (S ++ [.dT kvs]) = .rt (.bl false) (S ++ [.dT kvs']) ∧ ∃ x ∈ pre ++ xs, ∃ y ∈ pre ++ xs, lkB b p x = lkB b p y ∧ F x ≠ F y) := by
  obtain ⟨tk, hS, hv⟩ := hT
  have hn : n < S.length := (List.getElem?_eq_some_iff.mp hS).1
  have gn : ∀ u : O, (S ++ [u])[n]? = some (.dT tk) := fun u => by rw [List.getElem?_append_left hn]; exact hS
  have ge : ∀ u : O, (S ++ [u])[S.length]? = some u := fun u => by simp
  have se : ∀ u v : O, (S ++ [v]).set S.length u = S ++ [u] := fun u v => by simp
  intro xs
  induction xs with
  | nil =>
    intro pre kvs M _ _ _ h1 _
    refine .inl ⟨kvs, rfl, fun x hx y hy e => ?_⟩
    rw [List.append_nil] at hx hy
    have a1 := h1 x hx
    have a2 := h1 y hy
    rw [e, a2] at a1
    exact (Option.some.inj a1).symm
  | cons x xs ih =>
    intro pre kvs M hsub hl hM h1 h2
    have hx := hsub x List.mem_cons_self
    have lo : ∀ T : Store, m_look_of [bagN x, glD b p] T = .ok (bagN (lkB b p x)) T := fun T => look_ofN hp (hk x hx)
    have gx : ∀ u : O, getT (.ref n) (bagN x) (S ++ [u]) = .ok (.bl (F x)) (S ++ [u]) := fun u => getN_at (gn u) (hv x hx)
    simp only [List.length_cons] at hl
    have hlt : kvs.length < sizeLine := by omega
    rw [List.map_cons, mForL_cons]
    cases q : M (lkB b p x) with
    | none =>
      have iv : valG kvs (kN (lkB b p x)) = none := by rw [hM, q]; rfl
      have hin : inT true (bagN (lkB b p x)) (.ref S.length) (S ++ [.dT kvs]) = .ok (.bl true) (S ++ [.dT kvs]) := by rw [inN_at (ge _), iv]; rfl
      have hput : ∀ r : Sl, putT (.ref S.length) (bagN (lkB b p x)) (.bl (F x)) r (S ++ [.dT kvs]) = .nx r (S ++ [.dT (putG kvs (kN (lkB b p x)) (.bl (F x)))]) := fun r => by rw [putN_at (ge _) hlt, se]
      have hget : getT (.ref S.length) (bagN (lkB b p x)) (S ++ [.dT (putG kvs (kN (lkB b p x)) (.bl (F x)))]) = .ok (.bl (F x)) (S ++ [.dT (putG kvs (kN (lkB b p x)) (.bl (F x)))]) := getN_at (ge _) (by rw [valG_put, if_pos rfl])
      have step : turnR (mgName 4 (bagN x) [some (.ref n), none, some (glD b p), some (.ref S.length), none, none] (S ++ [.dT kvs])) (mWipe [1, 4, 5] l_is_seen_1) = .nx [some (.ref n), none, some (glD b p), some (.ref S.length), none, none] (S ++ [.dT (putG kvs (kN (lkB b p x)) (.bl (F x)))]) := by
        simp [l_is_seen_1, lo, hin, gx, hput, hget, wipeD]
      rw [step]
      simp only [Fl.again_nx]
      have := ih (pre ++ [x]) (putG kvs (kN (lkB b p x)) (.bl (F x))) (fun y => if y = lkB b p x then some (F x) else M y) (fun y hy => hsub y (List.mem_cons_of_mem _ hy)) (by have := putG_len (kvs := kvs) (k := kN (lkB b p x)) (v := D.bl (F x)); omega) (fun y => by
          rw [valG_put, hM]
          by_cases h : y = lkB b p x
          · rw [if_pos (by rw [h]), if_pos h]; rfl
          · rw [if_neg (fun z => h (kN_inj.mp z)), if_neg h]) (fun y hy => by
          rcases List.mem_append.mp hy with hy | hy
          · by_cases h : lkB b p y = lkB b p x
            · have := h1 y hy
              rw [h, q] at this; cases this
            · simp only [if_neg h]; exact h1 y hy
          · rw [List.mem_singleton.mp hy, if_pos rfl]) (fun y v hy => by
          by_cases h : y = lkB b p x
          · simp only [if_pos h] at hy
            cases hy
            exact ⟨x, by simp, h.symm, rfl⟩
          · simp only [if_neg h] at hy
            obtain ⟨z, hz, e1, e2⟩ := h2 y v hy
            exact ⟨z, by simp [hz], e1, e2⟩)
      simpa using this
    | some v =>
      have iv : valG kvs (kN (lkB b p x)) = some (.bl v) := by rw [hM, q]; rfl
      have hin : inT true (bagN (lkB b p x)) (.ref S.length) (S ++ [.dT kvs]) = .ok (.bl false) (S ++ [.dT kvs]) := by rw [inN_at (ge _), iv]; rfl
      have hget : getT (.ref S.length) (bagN (lkB b p x)) (S ++ [.dT kvs]) = .ok (.bl v) (S ++ [.dT kvs]) := getN_at (ge _) iv
      by_cases hvx : v = F x
      · subst hvx
        have step : turnR (mgName 4 (bagN x) [some (.ref n), none, some (glD b p), some (.ref S.length), none, none] (S ++ [.dT kvs])) (mWipe [1, 4, 5] l_is_seen_1) = .nx [some (.ref n), none, some (glD b p), some (.ref S.length), none, none] (S ++ [.dT kvs]) := by
          simp [l_is_seen_1, lo, hin, gx, hget, wipeD]
        rw [step]
        simp only [Fl.again_nx]
        have := ih (pre ++ [x]) kvs M (fun y hy => hsub y (List.mem_cons_of_mem _ hy)) (by omega) hM (fun y hy => by
          rcases List.mem_append.mp hy with hy | hy
          · exact h1 y hy
          · rw [List.mem_singleton.mp hy]; exact q) (fun y v hy => by
          obtain ⟨z, hz, e1, e2⟩ := h2 y v hy
          exact ⟨z, by simp [hz], e1, e2⟩)
        simpa using this
      · have step : turnR (mgName 4 (bagN x) [some (.ref n), none, some (glD b p), some (.ref S.length), none, none] (S ++ [.dT kvs])) (mWipe [1, 4, 5] l_is_seen_1) = .rt (.bl false) (S ++ [.dT kvs]) := by
          have hb : (v == F x) = false := by simpa using hvx
          simp [l_is_seen_1, lo, hin, gx, hget, hb]
        rw [step]
        refine .inr ⟨kvs, rfl, ?_⟩
        obtain ⟨z, hz, e1, e2⟩ := h2 _ _ q
        exact ⟨z, by simp [hz], x, by simp, e1, by rw [e2]; exact hvx⟩
theorem is_seen_N {S : Store} {n b p : Nat} {F : FS} {every : List (List Nat)} (hp : 0 < p) (hT : Told S n F every) (hk : ∀ x ∈ every, x.length ≤ 1000) (hl : every.length < 1000000) : ∃ v, m_is_seen [.ref n, .lst (every.map bagN), glD b p] S = .ok (.bl v) S ∧ (v = true ↔ ∀ x ∈ every, ∀ y ∈ every, lkB b p x = lkB b p y → F x = F y) := by
  rcases is_seen_loop (b := b) hp hT hk every [] [] (fun _ => none) (fun _ h => h) (by simp [sizeLine_eq]; omega) (fun y => rfl) (by simp) (by simp) with ⟨kvs', e, h⟩ | ⟨kvs', e, x, hx, y, hy, h1, h2⟩
  · refine ⟨true, ?_, by simpa using h⟩
    unfold m_is_seen
    simp [b_is_seen, startD, wipeD, e]
    exact exit_rt (Left.all S _) (.keep rfl)
  · refine ⟨false, ?_, ?_⟩
    · unfold m_is_seen
      simp [b_is_seen, startD, wipeD, e]
      exact exit_rt (Left.all S _) (.keep rfl)
    · constructor
      · intro z; cases z
      · intro z
        exact absurd (z x (by simpa using hx) y (by simpa using hy) h1) h2
/-- what the looks tell is what the bags tell -/
theorem seen_all {k B P b p : Nat} {F : FS} (hP : 0 < P) (hp : 0 < p) (hb : b ≤ B) (hd : p ∣ P) (h : Seen k B P F) : (∀ x ∈ allL k (B + P), ∀ y ∈ allL k (B + P), lkB b p x = lkB b p y → F x = F y) ↔ Seen k b p F := by
  have hpP := Nat.le_of_dvd hP hd
  constructor
  · intro z x hx
    have h1 : lkB B P x ∈ allL k (B + P) := lkB_mem hP hx
    have h2 : lkB b p x ∈ allL k (B + P) := mem_allL.mpr ⟨by simp [hx], fun c hc => by
      obtain ⟨d, _, rfl⟩ := List.mem_map.mp hc
      have := lkN_lt (b := b) (x := d) hp
      omega⟩
    rw [← h x hx]
    exact (z _ h1 _ h2 (by rw [lkB_coarse hP hp hb hd, lkB_idem hp])).symm
  · intro z x hx y hy e
    rw [← z x (mem_allL.mp hx).1, ← z y (mem_allL.mp hy).1, e]
theorem divisors_N {S : Store} {P : Nat} (h : P < 1000000) : m_divisors [.int (P : Int)] S = .ok (.lst (((List.range P).filter fun i => P % (i + 1) == 0).map fun i : Nat => D.int ((i : Int) + 1))) S := by
  have rg : ∀ T : Store, pk1 (fRng2 T [.int 1, .int ((P : Int) + 1)]) T = .ok ((List.range P).map fun i : Nat => D.int (1 + (i : Int))) T := fun T => by
    rw [k_rng2 (by omega)]
    simp [rngD]
  have lc := lc_filter (g := mgName 1) (t := mB (mOp fEq (mOp fMod (mVar 0) (mVar 1)) (mC (.int 0)))) (e := mVar 1) (r0 := [some (.int (P : Int)), none]) (S := S) (xs := List.range P) (fun i : Nat => D.int (1 + (i : Int))) (fun i : Nat => D.int ((i : Int) + 1)) (fun i => P % (i + 1) == 0) (fun i hi => ⟨[some (.int (P : Int)), some (.int (1 + (i : Int)))], rfl, by
    have e : (P : Int) % (1 + (i : Int)) = ((P % (i + 1) : Nat) : Int) := by
      rw [show (1 + (i : Int)) = ((i + 1 : Nat) : Int) by omega]; rfl
    simp [k_mod (show (0 : Int) < 1 + (i : Int) by omega), e]
    have e2 : (P : Int) % ((i : Int) + 1) = ((P % (i + 1) : Nat) : Int) := by
      rw [show ((i : Int) + 1) = ((i + 1 : Nat) : Int) by omega]; rfl
    by_cases h : P % (i + 1) = 0
    · have : (P : Int) % ((i : Int) + 1) = 0 := by rw [e2, h]; rfl
      simp [h, this]
    · have : ¬ ((P : Int) % ((i : Int) + 1) = 0) := by rw [e2]; omega
      simp [h, this], fun _ => by simp [Int.add_comm]⟩)
  have hl : ((List.range P).filter fun i => P % (i + 1) == 0).length ≤ sizeLine := by
    have := List.length_filter_le (fun i => P % (i + 1) == 0) (List.range P)
    simp at this
    rw [sizeLine_eq]; omega
  simp [m_divisors, b_divisors, startD, rg, wipeD]
  rw [lc]
  simp [fitR_ok hl]
theorem mgTup_gl {gs : MGs} {b p : Nat} {r : Sl} {S : Store} : mgTup 2 gs (glD b p) r S = gs [.int (b : Int), .int (p : Int)] r S := rfl
theorem glD_tup {b p : Nat} : D.tup [.int (b : Int), .int (p : Int)] = glD b p := rfl
abbrev slG (n B P : Nat) (ev : D) : Sl := [none, none, some (.ref n), some (.int (B : Int)), some (.int (P : Int)), some ev, none]
section
variable {S : Store} {k n B P : Nat} {F : FS}
open Classical in
theorem divs_loop (hP : 0 < P) (hT : Told S n F (allL k (B + P))) (hk : k ≤ 1000) (hc : (B + P) ^ k < 1000000) (hs : Seen k B P F) : ∀ ds : List Nat, (∀ i ∈ ds, (i + 1) ∣ P) →
    mForL (mgName 6) (mWipe [0, 1, 6] l_least_glass_1) (ds.map fun i : Nat => D.int ((i : Int) + 1)) (slG n B P (.lst ((allL k (B + P)).map bagN))) S = .nx (slG n B (match ds.find? (fun i => decide (Seen k B (i + 1) F)) with
      | some i => i + 1
      | none => P) (.lst ((allL k (B + P)).map bagN))) S := by
  intro ds
  induction ds with
  | nil => intro _; rfl
  | cons i ds ih =>
    intro hd
    obtain ⟨v, e, hv⟩ := is_seen_N (b := B) (p := i + 1) (by omega) hT (fun x hx => by rw [(mem_allL.mp hx).1]; exact hk) (by rw [allL_len]; exact hc)
    rw [seen_all hP (by omega) (Nat.le_refl _) (hd i List.mem_cons_self) hs] at hv
    have e : m_is_seen [.ref n, .lst ((allL k (B + P)).map bagN), .tup [.int (B : Int), .int ((i : Int) + 1)]] S = .ok (.bl v) S := e
    rw [List.map_cons, mForL_cons, List.find?_cons]
    by_cases h : Seen k B (i + 1) F
    · have hv' : v = true := hv.mpr h
      subst hv'
      simp [l_least_glass_1, fitR_ok, sizeLine_eq, e, h, wipeD]
    · have hv' : v = false := by
        cases v with
        | false => rfl
        | true => exact absurd (hv.mp rfl) h
      subst hv'
      have := ih fun j hj => hd j (List.mem_cons_of_mem _ hj)
      simp [l_least_glass_1, fitR_ok, sizeLine_eq, e, h, wipeD]
      exact this
theorem low_loop {p : Nat} (hP : 0 < P) (hp : 0 < p) (hd : p ∣ P) (hT : Told S n F (allL k (B + P))) (hk : k ≤ 1000) (hc : (B + P) ^ k < 1000000) (hs : Seen k B P F) : ∀ b, b ≤ B → Seen k b p F → ∃ b', mWhile (mAnd (mB (mOp fGt (mVar 3) (mC (.int 0)))) (mB (mCall m_is_seen 3 (mCons (mVar 2) (mCons (mVar 5) (mCons (mTup (mCons (mOp fSub (mVar 3) (mC (.int 1))) (mCons (mVar 4) mNil))) mNil)))))) (mWipe [0, 1, 6] l_least_glass_2) (slG n b p (.lst ((allL k (B + P)).map bagN))) S = .nx (slG n b' p (.lst ((allL k (B + P)).map bagN))) S ∧ b' ≤ b ∧ Seen k b' p F ∧ (b' = 0 ∨ ¬ Seen k (b' - 1) p F) := by
  intro b
  induction b with
  | zero =>
    intro _ h
    refine ⟨0, ?_, Nat.le_refl _, h, .inl rfl⟩
    rw [mWhile_rd]
    simp
  | succ b ih =>
    intro hb h
    obtain ⟨v, e, hv⟩ := is_seen_N (b := b) (p := p) hp hT (fun x hx => by rw [(mem_allL.mp hx).1]; exact hk) (by rw [allL_len]; exact hc)
    rw [seen_all hP hp (by omega) hd hs] at hv
    have e : m_is_seen [.ref n, .lst ((allL k (B + P)).map bagN), .tup [.int (b : Int), .int (p : Int)]] S = .ok (.bl v) S := e
    have e1 : ((b + 1 : Nat) : Int) - 1 = (b : Int) := by omega
    have e2 : (0 : Int) < (b : Int) + 1 := by omega
    by_cases h2 : Seen k b p F
    · have hv' : v = true := hv.mpr h2
      subst hv'
      obtain ⟨b', e3, h3, h4, h5⟩ := ih (by omega) h2
      refine ⟨b', ?_, by omega, h4, h5⟩
      rw [mWhile_rd]
      simp [e2, fitR_ok, sizeLine_eq, e, l_least_glass_2, wipeD]
      exact e3
    · have hv' : v = false := by
        cases v with
        | false => rfl
        | true => exact absurd (hv.mp rfl) h2
      subst hv'
      refine ⟨b + 1, ?_, Nat.le_refl _, h, .inr (by simpa using h2)⟩
      rw [mWhile_rd]
      simp [e2, fitR_ok, sizeLine_eq, e]
theorem least_glass_N {a : Str} (hP : 0 < P) (ha : a.length ≤ 1000) (hc : (B + P) ^ a.length < 1000000) (hB : B + P < 1000000) (hT : Told S n F (allL a.length (B + P))) (hs : Seen a.length B P F) : ∃ b p, m_least_glass [.str a, glD B P, .ref n] S = .ok (glD b p) S ∧ LeastG a.length F b p ∧ b ≤ B ∧ p ∣ P := by
  classical
  have dl := divs_loop hP hT ha hc hs ((List.range P).filter fun i => P % (i + 1) == 0) (fun i hi => Nat.dvd_of_mod_eq_zero (by simpa using (List.mem_filter.mp hi).2))
  cases q : ((List.range P).filter fun i => P % (i + 1) == 0).find? (fun i => decide (Seen a.length B (i + 1) F)) with
  | none =>
    rw [List.find?_eq_none] at q
    have := q (P - 1) (List.mem_filter.mpr ⟨List.mem_range.mpr (by omega), by rw [show P - 1 + 1 = P by omega]; simp⟩)
    rw [show P - 1 + 1 = P by omega] at this
    simp [hs] at this
  | some i =>
    rw [q] at dl
    rw [List.find?_filter, List.find?_range_eq_some] at q
    obtain ⟨h1, h2, h3⟩ := q
    simp only [Bool.and_eq_true, beq_iff_eq, decide_eq_true_eq] at h1
    have hd : (i + 1) ∣ P := Nat.dvd_of_mod_eq_zero h1.1
    obtain ⟨b', e, hb, h4, h5⟩ := low_loop (p := i + 1) hP (by omega) hd hT ha hc hs B (Nat.le_refl _) h1.2
    refine ⟨b', i + 1, ?_, leastG_of hP (by omega) hd h1.2 (fun q hq hq0 hsq => ?_) hb h4 h5, hb, hd⟩
    · simp [m_least_glass, b_least_glass, startD, mgTup_gl, all_looks_N (S := S) (a := a) (b := B) hP ha (by omega) (by omega), divisors_N (S := S) (P := P) (by omega), wipeD]
      simp only [slG] at dl
      rw [dl]
      simp only [slG] at e
      simp [wipeD]
      simp at e
      rw [e]
      simp [fitR_ok, sizeLine_eq, glD]
    · refine Nat.le_of_not_lt fun hlt => ?_
      have := h3 (q - 1) (by omega)
      rw [show q - 1 + 1 = q by omega] at this
      simp [Nat.mod_eq_zero_of_dvd hq, hsq] at this
end
theorem least_form_N {S : Store} {a : Str} {B P : Nat} {looks : List (List Nat)} (hP : 0 < P) (ha : a.length ≤ 1000) (hc : (B + P) ^ a.length < 1000000) (hB : B + P < 1000000) (hl : looks.length < 1000000) (hk : ∀ x ∈ looks, x ∈ allL a.length (B + P)) :
    ∃ b p, m_least_form [.str a, glD B P, .lst (looks.map bagN)] S = .ok (.tup [glD b p, .lst ((fndL a.length b p fun x => decide (lkB B P x ∈ looks)).map bagN)]) S ∧ LeastG a.length (fun x => decide (lkB B P x ∈ looks)) b p ∧ b ≤ B ∧ p ∣ P := by
  have d1 : mTcL (mgName 5) mYes (mVar 5) (mC (.bl true)) [some (.str a), some (glD B P), some (.lst (looks.map bagN)), none, none, none] (looks.map bagN) [] S = .ok (dictN (fun _ => .bl true) looks) S := tc_dict (by rw [sizeLine_eq]; omega) fun x hx => ⟨[some (.str a), some (glD B P), some (.lst (looks.map bagN)), none, none, some (bagN x)], rfl, rfl, rfl⟩
  have hall : (allL a.length (B + P)).length < sizeLine := by rw [allL_len, sizeLine_eq]; omega
  have gv : ∀ y : List Nat, (valG (dictN (fun _ => D.bl true) looks) (kN y)).isSome = decide (y ∈ looks) := fun y => by
    rw [dictN_val]
    by_cases h : y ∈ looks <;> simp [h]
  have d2 : mTcL (mgName 5) mYes (mVar 5) (mTIn false (mVar 5) (mVar 3)) [some (.str a), some (glD B P), some (.lst (looks.map bagN)), some (.ref S.length), none, none] ((allL a.length (B + P)).map bagN) [] (S ++ [.dT (dictN (fun _ => .bl true) looks)]) = .ok (dictN (fun x => .bl (decide (x ∈ looks))) (allL a.length (B + P))) (S ++ [.dT (dictN (fun _ => .bl true) looks)]) := tc_dict hall fun x hx => ⟨[some (.str a), some (glD B P), some (.lst (looks.map bagN)), some (.ref S.length), none, some (bagN x)], rfl, rfl, by
    have := inN_at (neg := false) (x := x) (S := S ++ [.dT (dictN (fun _ => .bl true) looks)]) (k := S.length) (kvs := dictN (fun _ => .bl true) looks) (by simp)
    simp [this, gv]⟩
  have tl : Told (S ++ [.dT (dictN (fun _ => .bl true) looks), .dT (dictN (fun x => .bl (decide (x ∈ looks))) (allL a.length (B + P)))]) (S.length + 1) (fun x => decide (lkB B P x ∈ looks)) (allL a.length (B + P)) := by
    refine ⟨dictN (fun x => .bl (decide (x ∈ looks))) (allL a.length (B + P)), ?_, fun x hx => ?_⟩
    · rw [List.getElem?_append_right (by omega)]; simp
    · show _ = some (D.bl (decide (lkB B P x ∈ looks)))
      rw [dictN_val, if_pos hx, lkB_of_mem hx]
  obtain ⟨b, p, e, h1, h2, h3⟩ := least_glass_N (a := a) hP ha hc hB tl (Seen.looks hP looks)
  refine ⟨b, p, ?_, h1, h2, h3⟩
  have hpP := Nat.le_of_dvd hP h3
  have hbp : b + p ≤ B + P := by omega
  have hpow : (b + p) ^ a.length ≤ (B + P) ^ a.length := Nat.pow_le_pow_left hbp _
  have al : ∀ T : Store, m_all_looks [.str a, glD B P] T = .ok (.lst ((allL a.length (B + P)).map bagN)) T := fun T => all_looks_N hP ha (by omega) (by omega)
  have al2 : ∀ T : Store, m_all_looks [.str a, glD b p] T = .ok (.lst ((allL a.length (b + p)).map bagN)) T := fun T => all_looks_N h1.pos ha (by omega) (by omega)
  have lc : mLcL (mgName 5) (mB (mTIn false (mVar 5) (mVar 3))) (mVar 5) [some (.str a), some (glD B P), some (.lst (looks.map bagN)), some (.ref S.length), some (glD b p), none] ((allL a.length (b + p)).map bagN) (S ++ [.dT (dictN (fun _ => .bl true) looks), .dT (dictN (fun x => .bl (decide (x ∈ looks))) (allL a.length (B + P)))]) = .ok ((fndL a.length b p fun x => decide (lkB B P x ∈ looks)).map bagN) (S ++ [.dT (dictN (fun _ => .bl true) looks), .dT (dictN (fun x => .bl (decide (x ∈ looks))) (allL a.length (B + P)))]) := by
    refine lc_filter bagN bagN (fun x => decide (lkB B P x ∈ looks)) fun x hx => ⟨[some (.str a), some (glD B P), some (.lst (looks.map bagN)), some (.ref S.length), some (glD b p), some (bagN x)], rfl, ?_, fun _ => rfl⟩
    have hx2 : lkB B P x = x := lkB_id fun c hc => by have := (mem_allL.mp hx).2 c hc; omega
    have := inN_at (neg := false) (x := x) (S := S ++ [.dT (dictN (fun _ => .bl true) looks), .dT (dictN (fun x => .bl (decide (x ∈ looks))) (allL a.length (B + P)))]) (k := S.length) (kvs := dictN (fun _ => .bl true) looks) (by simp)
    simp [this, gv, hx2]
  have hfl : (fndL a.length b p fun x => decide (lkB B P x ∈ looks)).length ≤ sizeLine := by
    have := fndL_len (k := a.length) (b := b) (p := p) (F := fun x => decide (lkB B P x ∈ looks))
    rw [sizeLine_eq]; omega
  unfold m_least_form
  simp [b_least_form, startD, wipeD, d1, al, d2, e, al2, lc, fitR_ok hfl]
  simp [fitR_ok, sizeLine_eq]
  exact exit_rt (Left.all S _) (.keep (by simp [rlt, rlts, glD, rlts_bagN]))
theorem bag_ok_loop {S : Store} {a : Str} {B P n : Nat} {lk : D} (hP : 0 < P) (ha : a.length ≤ 900) : ∀ (looks : List (List Nat)), (∀ x ∈ looks, x ∈ allL a.length (B + P)) → mForL (mgName 4) (mWipe [4] l_BagSet___init___1) (looks.map bagN) [some (.ref n), some (.str a), some (glD B P), some lk, none] S = .nx [some (.ref n), some (.str a), some (glD B P), some lk, none] S := by
  intro looks
  induction looks with
  | nil => intro _; rfl
  | cons x looks ih =>
    intro h
    have hx := h x List.mem_cons_self
    have hl := (mem_allL.mp hx).1
    have cb : m_check_bag [.str a, bagN x] S = .ok .non S := by
      rw [check_bag_eq (by omega) (wd_bagN (k := 0) (by omega)), isBag_bagN, if_pos (by simp [hl])]
    have lo : m_look_of [bagN x, glD B P] S = .ok (bagN x) S := by rw [look_ofN hP (by omega), lkB_of_mem hx]
    have ne : pk1 (fNe S (bagN x) (bagN x)) S = .ok (.bl false) S := by rw [k_neD (x := bagN x) (y := bagN x) sh_bagN sh_bagN]; simp
    rw [List.map_cons, mForL_cons]
    have step : turnR (mgName 4 (bagN x) [some (.ref n), some (.str a), some (glD B P), some lk, none] S) (mWipe [4] l_BagSet___init___1) = .nx [some (.ref n), some (.str a), some (glD B P), some lk, none] S := by
      simp [l_BagSet___init___1, cb, lo, ne, wipeD]
    rw [step]
    exact ih fun y hy => h y (List.mem_cons_of_mem _ hy)
theorem set_make {S : Store} {a : Str} {B P : Nat} {looks : List (List Nat)} (hka : KindsOk a) (hP : 0 < P) (hc : (B + P) ^ a.length ≤ 2000) (hl : looks.length < 1000000) (hk : ∀ x ∈ looks, x ∈ allL a.length (B + P)) :
    mkR "BagSet" true q_BagSet___init___4 [.str a, glD B P, .lst (looks.map bagN)] [] S = .ok (setC a fun x => decide (lkB B P x ∈ looks)) S := by
  have h4 := hka.2.1
  have h2 := hka.1
  have hBP : B + P ≤ 2000 := by
    have : (B + P) ^ 1 ≤ (B + P) ^ a.length := Nat.pow_le_pow_right (by omega) (by omega)
    simp at this; omega
  obtain ⟨b, p, e, h1, h2, h3⟩ := least_form_N (S := S ++ [.ins "BagSet" ["signs"] [.str a]]) (a := a) (B := B) (P := P) (looks := looks) hP (by omega) (by omega) (by omega) hl hk
  rw [setC_eq h1]
  have ck : ∀ T : Store, m_check_kinds [.str a] T = .ok .non T := fun T => by rw [check_kinds_eq (by omega), if_pos hka]
  have cc : ∀ T : Store, m_check_count [.str a, glD B P, .int 2000] T = .ok .non T := fun T => by
    rw [check_count_N (by omega), if_neg]
    have : (((B + P) ^ a.length : Nat) : Int) ≤ 2000 := by omega
    simp only [Int.natCast_pow, Int.natCast_add] at this
    omega
  have lp : ∀ T : Store, mForL (mgName 4) (mWipe [4] l_BagSet___init___1) (looks.map bagN) [some (.ref S.length), some (.str a), some (glD B P), some (.lst (looks.map bagN)), none] T = .nx [some (.ref S.length), some (.str a), some (glD B P), some (.lst (looks.map bagN)), none] T := fun T => bag_ok_loop hP (by omega) looks hk
  have ge : ∀ u : O, (S ++ [u])[S.length]? = some u := fun u => by simp
  have se : ∀ u v : O, (S ++ [v]).set S.length u = S ++ [u] := fun u v => by simp
  refine mkR_ok ?_ (by simp [rlt, rlts, glD, rlts_bagN])
  simp [q_BagSet___init___4, m_BagSet___init__, b_BagSet___init__, startD, ck, check_glass_N hP, cc, lp, wipeD, fldR, ge, se, putD, e, putAt, insD, attrR, List.lookup_cons, fitR_ok, sizeLine_eq]
/-! ### sets put together -/
theorem set_make_of {S : Store} {a : Str} {J L : Nat} {F : FS} {looks : List (List Nat)} (hka : KindsOk a) (hL : 0 < L) (hc : (J + L) ^ a.length ≤ 2000) (hs : Seen a.length J L F) (hl : looks.length < 1000000) (hk : ∀ x, x ∈ looks ↔ x ∈ allL a.length (J + L) ∧ F x = true) :
    mkR "BagSet" true q_BagSet___init___4 [.str a, glD J L, .lst (looks.map bagN)] [] S = .ok (setC a F) S := by
  rw [set_make hka hL hc hl (fun x hx => ((hk x).mp hx).1), setC_congr (F := fun x => decide (lkB J L x ∈ looks)) hL (Seen.looks hL looks) (G := F)]
  intro x hx
  show decide (lkB J L x ∈ looks) = F x
  rw [← hs x hx, Bool.eq_iff_iff, decide_eq_true_eq, hk]
  exact ⟨fun h => h.2, fun h => ⟨lkB_mem hL hx, h⟩⟩
theorem mem_fnd {k J L : Nat} {F : FS} {x : List Nat} : x ∈ fndL k J L F ↔ x ∈ allL k (J + L) ∧ F x = true := by
  unfold fndL; rw [List.mem_filter]
theorem kept_ones_N {S : Store} {xs ys : List (List Nat)} {w : Bool} (hx : xs.length < 1000000) (hy : ys.length < 1000000) : m_kept_ones [.lst (xs.map bagN), .lst (ys.map bagN), .bl w] S = .ok (.lst ((xs.filter fun x => decide (x ∈ ys) == w).map bagN)) S := by
  have d1 : mTcL (mgName 4) mYes (mVar 4) (mC (.bl true)) [some (.lst (xs.map bagN)), some (.lst (ys.map bagN)), some (.bl w), none, none] (ys.map bagN) [] S = .ok (dictN (fun _ => .bl true) ys) S := tc_dict (by rw [sizeLine_eq]; omega) fun x hx => ⟨[some (.lst (xs.map bagN)), some (.lst (ys.map bagN)), some (.bl w), none, some (bagN x)], rfl, rfl, rfl⟩
  have lc : mLcL (mgName 4) (mB (mOp fEq (mTIn false (mVar 4) (mVar 3)) (mVar 2))) (mVar 4) [some (.lst (xs.map bagN)), some (.lst (ys.map bagN)), some (.bl w), some (.ref S.length), none] (xs.map bagN) (S ++ [.dT (dictN (fun _ => .bl true) ys)]) = .ok ((xs.filter fun x => decide (x ∈ ys) == w).map bagN) (S ++ [.dT (dictN (fun _ => .bl true) ys)]) := by
    refine lc_filter bagN bagN (fun x => decide (x ∈ ys) == w) fun x hx => ⟨[some (.lst (xs.map bagN)), some (.lst (ys.map bagN)), some (.bl w), some (.ref S.length), some (bagN x)], rfl, ?_, fun _ => rfl⟩
    have := inN_at (neg := false) (x := x) (S := S ++ [.dT (dictN (fun _ => .bl true) ys)]) (k := S.length) (kvs := dictN (fun _ => .bl true) ys) (by simp)
    have hv : (valG (dictN (fun _ => D.bl true) ys) (kN x)).isSome = decide (x ∈ ys) := by
      rw [dictN_val]
      by_cases h : x ∈ ys <;> simp [h]
    simp [this, hv]
  have hf : (xs.filter fun x => decide (x ∈ ys) == w).length ≤ sizeLine := by
    have := List.length_filter_le (fun x => decide (x ∈ ys) == w) xs
    rw [sizeLine_eq]; omega
  unfold m_kept_ones
  simp [b_kept_ones, startD, wipeD, d1, lc, fitR_ok hf]
  exact exit_rt (Left.all S _) (.keep (by simp [rlt, rlts_bagN]))
section
variable {S : Store} {a : Str} {B P : Nat} {F G : FS}
theorem inv_C (hka : KindsOk a) (h : LeastG a.length F (gOf a.length F).1 (gOf a.length F).2) (hc : ((gOf a.length F).1 + (gOf a.length F).2) ^ a.length ≤ 2000) : q_BagSet___invert___1 [setC a F] [] S = .ok (setC a fun x => !F x) S := by
  have h2 := hka.1
  have h4 := hka.2.1
  have hp := h.pos
  have hJL : (gOf a.length F).1 + (gOf a.length F).2 ≤ 2000 := by
    have : ((gOf a.length F).1 + (gOf a.length F).2) ^ 1 ≤ ((gOf a.length F).1 + (gOf a.length F).2) ^ a.length := Nat.pow_le_pow_right (by omega) (by omega)
    simp at this; omega
  have al : m_all_looks [.str a, glD (gOf a.length F).1 (gOf a.length F).2] S = .ok (.lst ((allL a.length ((gOf a.length F).1 + (gOf a.length F).2)).map bagN)) S := all_looks_N hp (by omega) (by omega) (by omega)
  have f1 := fndL_len (k := a.length) (b := (gOf a.length F).1) (p := (gOf a.length F).2) (F := F)
  have ll := allL_len a.length ((gOf a.length F).1 + (gOf a.length F).2)
  have ko := kept_ones_N (S := S) (xs := allL a.length ((gOf a.length F).1 + (gOf a.length F).2)) (ys := fndL a.length (gOf a.length F).1 (gOf a.length F).2 F) (w := false) (by omega) (by omega)
  have fl := List.length_filter_le (fun x => decide (x ∈ fndL a.length (gOf a.length F).1 (gOf a.length F).2 F) == false) (allL a.length ((gOf a.length F).1 + (gOf a.length F).2))
  have mk := set_make_of (S := S) (looks := (allL a.length ((gOf a.length F).1 + (gOf a.length F).2)).filter fun x => decide (x ∈ fndL a.length (gOf a.length F).1 (gOf a.length F).2 F) == false) hka hp hc (h.seen.op1 (fun u => !u)) (by omega) (fun x => by
    rw [List.mem_filter]
    simp only [beq_iff_eq, decide_eq_false_iff_not, mem_fnd, Bool.not_eq_true', not_and, Bool.not_eq_true]
    exact ⟨fun z => ⟨z.1, z.2 z.1⟩, fun z => ⟨z.1, fun _ => z.2⟩⟩)
  unfold setC at mk ⊢
  generalize setD a (gOf a.length fun x => !F x).1 _ _ = res at mk ⊢
  simp [q_BagSet___invert___1, m_BagSet___invert__, b_BagSet___invert__, startD, attrR, List.lookup_cons, al, ko]
  try simp at mk
  rw [mk]; rfl
end
theorem cnt_of {k B P : Nat} {F : FS} (hP : 0 < P) (hc : (B + P) ^ k ≤ 2000) (h1 : Seen k B P F) : ((gOf k F).1 + (gOf k F).2) ^ k ≤ 2000 := by
  have l1 := gOf_least hP h1
  have m1 := l1.least B P hP h1
  have := Nat.le_of_dvd hP m1.2
  exact Nat.le_trans (Nat.pow_le_pow_left (by omega) _) hc
theorem everything_C {S : Store} {a : Str} (hka : KindsOk a) : q_BagSet_everything_2 [.adr "BagSet", .str a] [] S = .ok (setC a fun _ => true) S := by
  have h4 := hka.2.1
  have h2 := hka.1
  have hsz : a.length ≤ sizeLine := by rw [sizeLine_eq]; omega
  have ck : m_check_kinds [.str a] S = .ok .non S := by rw [check_kinds_eq (by omega), if_pos hka]
  have e0 : D.tup (List.replicate a.length (D.int 0)) = bagN (List.replicate a.length 0) := by simp [bagN]
  have mk := set_make_of (S := S) (a := a) (J := 0) (L := 1) (F := fun _ => true) (looks := [List.replicate a.length 0]) hka (by omega) (by simp) (Seen.const true) (by simp) (fun x => by
    rw [List.mem_singleton, mem_allL]
    simp only [and_true]
    constructor
    · rintro rfl; exact ⟨by simp, fun c hc => by rw [(List.mem_replicate.mp hc).2]; omega⟩
    · rintro ⟨h1, h2⟩
      rw [← h1]
      exact List.eq_replicate_of_mem fun c hc => by have := h2 c hc; omega)
  generalize setC a _ = res at mk ⊢
  simp only [List.map_cons, List.map_nil, glD, ← e0] at mk
  simp [q_BagSet_everything_2, m_BagSet_everything, b_BagSet_everything, startD, ck, k_lenS hsz, fitR_ok, sizeLine_eq, k_mulT (es := [.int 0]) (S := S) (by simp) (show (2 : Int) ≤ (a.length : Nat) by omega) (show ((a.length : Nat) : Int) ≤ 1000 by omega) (by simp)]
  simp at mk
  rw [mk]; rfl
theorem nothing_C {S : Store} {a : Str} (hka : KindsOk a) : q_BagSet_nothing_2 [.adr "BagSet", .str a] [] S = .ok (setC a fun _ => false) S := by
  have mk := set_make_of (S := S) (a := a) (J := 0) (L := 1) (F := fun _ => false) (looks := []) hka (by omega) (by simp) (Seen.const false) (by simp) (fun x => by simp)
  generalize setC a _ = res at mk ⊢
  simp only [List.map_nil, glD] at mk
  simp at mk
  simp [q_BagSet_nothing_2, m_BagSet_nothing, b_BagSet_nothing, startD, fitR_ok, sizeLine_eq, mk]
/-! ### in a list of bags -/
theorem flat_bagN {x : List Nat} : flatD (bagN x) = false := rfl
theorem inL_N {S : Store} {x : List Nat} {l : List (List Nat)} : pk1 (fIn false S (bagN x) (.lst (l.map bagN))) S = .ok (.bl (decide (x ∈ l))) S := by
  have e : ((l.map bagN).any fun d => PyData.eqv (pd d) (pd (bagN x))) = decide (x ∈ l) := by
    show ((l.map bagN).any fun d => deq d (bagN x)) = _
    rw [List.any_map, Bool.eq_iff_iff, List.any_eq_true]
    simp
  refine pk1_eq (.inr (.inr ⟨l.map bagN, rfl, sh_bagN (k := 49), by rw [List.all_map]; simp [sh_bagN (k := 49)], by rw [e]; rfl⟩)) fun z h => ?_
  rcases h with ⟨c2, t2, e1, e2, e3⟩ | ⟨ds, h1, h2, _⟩ | ⟨ds, h1, _, _, e2⟩
  · cases e2
  · rw [flat_bagN] at h2; cases h2
  · cases h1
    rw [e2, e]; rfl
/-! ### the law's own lists of looks -/
theorem law_bags_N {S : Store} {a : Str} {m : Nat} (ha : a.length ≤ 1000) (hc : (m + 1) ^ a.length < 1000000) (hm : m < 1000000) : m__law_bags [.str a, .int (m : Int)] S = .ok (.lst ((allL a.length (m + 1)).map bagN)) S := by
  unfold m__law_bags
  simp [b__law_bags, startD, wipeD, fitR_ok, sizeLine_eq]
  generalize hL : mForL _ _ _ _ _ = L
  have e0 : D.tup [] = bagN [] := rfl
  have rg : ∀ T : Store, pk1 (fRng1 T [.int ((m : Int) + 1)]) T = .ok ((List.range (m + 1)).map fun c : Nat => D.int (c : Int)) T := fun T => rng_N (by omega) (by omega)
  have ge : ∀ u : O, (S ++ [u])[S.length]? = some u := fun u => by simp
  have se : ∀ u v : O, (S ++ [v]).set S.length u = S ++ [u] := fun u v => by simp
  obtain ⟨r, S', rfl, rfl, rfl⟩ := for_ix hL (fun i r S' => r = [none, some (.int (m : Int)), some (.lst ((allL i (m + 1)).map bagN)), none, none, none, none] ∧ S' = S) ⟨by simp [allL, e0], rfl⟩ (fun i hi r S' ⟨e1, e2⟩ => by
    subst e1
    have e3 : S' = S := e2
    subst e3
    simp at hi
    have hle : (m + 1) ^ (i + 1) ≤ (m + 1) ^ a.length := Nat.pow_le_pow_right (by omega) (by omega)
    -- the inner loop over counts
    have inner : ∀ (z : D) (f : List Nat) (acc : List (List Nat)), f.length = i → acc.length + (m + 1) ≤ 1000000 → mForL (mgName 6) (mWipe [0, 2, 3, 6] l__law_bags_1) ((List.range (m + 1)).map fun c : Nat => D.int (c : Int)) [none, some (.int (m : Int)), none, none, some (.ref S'.length), some (bagN f), none] (S' ++ [.lst (acc.map bagN)]) = .nx [none, some (.int (m : Int)), none, none, some (.ref S'.length), some (bagN f), none] (S' ++ [.lst ((acc ++ (List.range (m + 1)).map fun c => f ++ [c]).map bagN)]) := by
      intro z f acc hf hacc
      have key : ∀ (cs : List Nat) (acc : List (List Nat)), acc.length + cs.length ≤ 1000000 → mForL (mgName 6) (mWipe [0, 2, 3, 6] l__law_bags_1) (cs.map fun c : Nat => D.int (c : Int)) [none, some (.int (m : Int)), none, none, some (.ref S'.length), some (bagN f), none] (S' ++ [.lst (acc.map bagN)]) = .nx [none, some (.int (m : Int)), none, none, some (.ref S'.length), some (bagN f), none] (S' ++ [.lst ((acc ++ cs.map fun c => f ++ [c]).map bagN)]) := by
        intro cs
        induction cs with
        | nil => intro acc _; simp
        | cons c cs ih =>
          intro acc hl
          simp only [List.length_cons] at hl
          have hlt : (acc.map bagN).length < sizeLine := by rw [List.length_map, sizeLine_eq]; omega
          have ad : ∀ T : Store, pk1 (fAdd T (bagN f) (.tup [.int (c : Int)])) T = .ok (bagN (f ++ [c])) T := fun T => by
            unfold bagN
            rw [k_addT (by simp [sizeLine_eq]; omega)]
            simp
          have := ih (acc ++ [f ++ [c]]) (by simp; omega)
          rw [List.map_cons, mForL_cons]
          have step : turnR (mgName 6 (.int (c : Int)) [none, some (.int (m : Int)), none, none, some (.ref S'.length), some (bagN f), none] (S' ++ [.lst (acc.map bagN)])) (mWipe [0, 2, 3, 6] l__law_bags_1) = .nx [none, some (.int (m : Int)), none, none, some (.ref S'.length), some (bagN f), none] (S' ++ [.lst ((acc ++ [f ++ [c]]).map bagN)]) := by
            simp [l__law_bags_1, tyM_ref (ge _), fitR_ok, sizeLine_eq, ad, k_append (ge _) hlt, se, wipeD]
          rw [step]
          simpa using this
      exact key _ acc (by simpa using hacc)
    -- over the fronts
    have mid : ∀ (fs acc : List (List Nat)), (∀ f ∈ fs, f.length = i) → acc.length + fs.length * (m + 1) ≤ 1000000 → mForL (mgName 5) (mWipe [0, 2, 3, 5, 6] l__law_bags_2) (fs.map bagN) [none, some (.int (m : Int)), none, none, some (.ref S'.length), none, none] (S' ++ [.lst (acc.map bagN)]) = .nx [none, some (.int (m : Int)), none, none, some (.ref S'.length), none, none] (S' ++ [.lst ((acc ++ fs.flatMap fun f => (List.range (m + 1)).map fun c => f ++ [c]).map bagN)]) := by
      intro fs
      induction fs with
      | nil => intro acc _ _; simp
      | cons f fs ih =>
        intro acc hfs hl
        simp only [List.length_cons, Nat.succ_mul] at hl
        have h1 := inner (.int 0) f acc (hfs f List.mem_cons_self) (by omega)
        have h2 := ih (acc ++ (List.range (m + 1)).map fun c => f ++ [c]) (fun g hg => hfs g (List.mem_cons_of_mem _ hg)) (by simp; omega)
        rw [List.map_cons, mForL_cons]
        have step : turnR (mgName 5 (bagN f) [none, some (.int (m : Int)), none, none, some (.ref S'.length), none, none] (S' ++ [.lst (acc.map bagN)])) (mWipe [0, 2, 3, 5, 6] l__law_bags_2) = .nx [none, some (.int (m : Int)), none, none, some (.ref S'.length), none, none] (S' ++ [.lst ((acc ++ (List.range (m + 1)).map fun c => f ++ [c]).map bagN)]) := by
          simp [l__law_bags_2, rg, wipeD]
          simp at h1
          rw [h1]
          simp [wipeD]
        rw [step]
        simpa using h2
    refine ⟨_, _, ?_, rfl, rfl⟩
    have hmul : (allL i (m + 1)).length * (m + 1) ≤ 1000000 := by
      have e : (m + 1) ^ i * (m + 1) = (m + 1) ^ (i + 1) := (Nat.pow_succ ..).symm
      rw [allL_len, e]; omega
    have h3 := mid (allL i (m + 1)) [] (fun f hf => (mem_allL.mp hf).1) (by simpa using hmul)
    simp only [List.map_nil, List.nil_append] at h3
    have fin : ((allL i (m + 1)).flatMap fun f => (List.range (m + 1)).map fun c => f ++ [c]) = allL (i + 1) (m + 1) := rfl
    rw [fin] at h3
    have sc : ∀ (r : Sl) (u : O), (Fl.nx r (S' ++ [u])).scope S' = .nx (sealSl S'.length (S' ++ [u]) r) S' := fun r u => scope_nx (Left.all S' [u])
    have fz : frz1 S'.length (S' ++ [.lst ((allL (i + 1) (m + 1)).map bagN)]) (.ref S'.length) = some (.lst ((allL (i + 1) (m + 1)).map bagN)) := frz1_lst (Nat.le_refl _) (ge _) rlts_bagN
    have fm : ∀ T : Store, frz1 S'.length T (.int (m : Int)) = some (.int (m : Int)) := fun T => frz1_keep rfl
    simp [l__law_bags_3, fitR_ok, sizeLine_eq, wipeD, h3, sc, fz, fm])
  simp [codes_len]
  exact exit_rt (Left.refl _) (.keep (by simp [rlt, rlts_bagN]))
theorem law_looks_N {S : Store} {a : Str} {b p : Nat} (hp : 0 < p) (ha : a.length ≤ 1000) (hc : (b + p) ^ a.length < 1000000) (hm : b + p < 1000000) : m__law_looks [.str a, glD b p] S = .ok (.lst ((allL a.length (b + p)).map bagN)) S := by
  have e : (b : Int) + p - 1 = ((b + p - 1 : Nat) : Int) := by omega
  have lb := law_bags_N (S := S) (a := a) (m := b + p - 1) ha (by rw [show b + p - 1 + 1 = b + p by omega]; exact hc) (by omega)
  rw [show b + p - 1 + 1 = b + p by omega] at lb
  simp [m__law_looks, b__law_looks, startD, ix_gl0, ix_gl1, e, lb]
theorem some_looks_ex {S : Store} {n : Nat} {a : Str} {b p : Nat} (hS : RngAt S n) (hp : 0 < p) (ha : a.length ≤ 1000) (hc : (b + p) ^ a.length < 1000000) (hm : b + p < 1000000) : ∃ (L : List (List Nat)) (o : O), m__law_some_looks [.ref n, .str a, glD b p] S = .ok (.lst (L.map bagN)) (S.set n o) ∧ (∀ x ∈ L, x ∈ allL a.length (b + p)) ∧ L.length ≤ (b + p) ^ a.length ∧ RngO o := by
  obtain ⟨sd, o1, e1, hs, ho1⟩ := pick_ex (xs := [.int 2, .int 3, .int 6]) hS (by simp) (by simp)
  obtain ⟨s, rfl, hs0, hs1⟩ : ∃ s : Int, sd = .int s ∧ 0 < s ∧ s ≤ 6 := by
    simp only [List.mem_cons, List.not_mem_nil, or_false] at hs
    rcases hs with rfl | rfl | rfl <;> exact ⟨_, rfl, by omega, by omega⟩
  obtain ⟨ys, S2, e2, ⟨o2, rfl, ho2⟩, hl, hsub⟩ := lc_sub (g := mgName 4) (t := mB (mOp fEq (mCall m__law_draw 2 (mCons (mVar 0) (mCons (mVar 3) mNil))) (mC (.int 0)))) (e := mVar 4) (r0 := [some (.ref n), some (.str a), some (glD b p), some (.int s), none]) bagN (fun T => ∃ o, T = S.set n o ∧ RngO o) (xs := allL a.length (b + p)) (fun x hx T ⟨o, eT, ho⟩ => by
    subst eT
    obtain ⟨v, o2, e2, _, _, ho2⟩ := draw_ex (m := s) (hS.set ho) hs0 (by omega)
    rw [List.set_set] at e2
    exact ⟨[some (.ref n), some (.str a), some (glD b p), some (.int s), some (bagN x)], decide (v = 0), S.set n o2, rfl, by simp [e2], ⟨o2, rfl, ho2⟩, rfl⟩) ⟨o1, rfl, ho1⟩
  have hlen := allL_len a.length (b + p)
  refine ⟨ys, o2, ?_, hsub, by omega, ho2⟩
  simp [m__law_some_looks, b__law_some_looks, startD, fitR_ok, sizeLine_eq, e1, law_looks_N hp ha hc hm, wipeD]
  rw [e2]
  simp [fitR_ok (show ys.length ≤ sizeLine by rw [sizeLine_eq]; omega)]
/-! ### _law_same of equal things -/
theorem zipD_self (es : List D) : zipD es es = es.map fun x => .tup [x, x] := by
  unfold zipD
  induction es with
  | nil => rfl
  | cons x es ih => simpa using ih
theorem same_refl : ∀ (n : Nat) (d : D) (S : Store), wd n d = true → r__law_same n [d, d] S = .ok (.bl true) S := by
  intro n
  induction n with
  | zero => intro d S h; simp [wd] at h
  | succ n ih =>
    intro d S h
    have lc : ∀ (T : Store) (x : D) (es : List D), (∀ e ∈ es, wd n e = true) → mLcL (mgTup 2 (mgCons (mgName 2) (mgCons (mgName 3) mgNil))) mYes (mCall (r__law_same n) 2 (mCons (mVar 2) (mCons (mVar 3) mNil))) [some x, some x, none, none] (es.map fun x => .tup [x, x]) T = .ok (es.map fun _ => .bl true) T := fun T x es hes => lc_map _ _ fun e he => by
      simp [ih e T (hes e he)]
    have al : ∀ (T : Store) (es : List D), pk1 (bAll T [.lst (es.map fun _ => .bl true)]) T = .ok (.bl true) T := fun T es => by
      rw [k_all (bs := es.map fun _ => true) (by simp)]; simp
    cases d with
    | non => simp [r__law_same, b__law_same, startD]
    | bl b => simp [r__law_same, b__law_same, startD]
    | int i => simp [r__law_same, b__law_same, startD]
    | str x =>
      have hx : PyData.strOk x = true := by simpa [wd] using h
      simp [r__law_same, b__law_same, startD, k_eqS hx hx]
    | tup es =>
      simp [wd] at h
      have hz : es.length ≤ sizeLine := by rw [sizeLine_eq]; omega
      simp [r__law_same, b__law_same, startD, k_zipG (x := .tup es) (y := .tup es) (S := S) rfl rfl, zipD_self, wipeD, lc S (.tup es) es h.2, fitR_ok hz]
    | lst es =>
      simp [wd] at h
      have hz : es.length ≤ sizeLine := by rw [sizeLine_eq]; omega
      simp [r__law_same, b__law_same, startD, k_zipG (x := .lst es) (y := .lst es) (S := S) rfl rfl, zipD_self, wipeD, lc S (.lst es) es h.2, fitR_ok hz]
    | _ => simp [wd] at h
theorem same_ok {d e : D} {S : Store} (h : wd 8 d = true) (he : e = d) : m__law_same [d, e] S = .ok (.bl true) S := by
  rw [he]
  exact same_refl 8 d S h
/-! ### the law's own looks -/
theorem law_look_N {S : Store} {x b p : Nat} (h : 0 < p) : m__law_look [.int (x : Int), glD b p] S = .ok (.int (lkN b p x : Nat)) S := by
  unfold lkN glD
  by_cases hx : x < b + p
  · have hx' : (x : Int) < (b : Int) + p := by omega
    simp [m__law_look, b__law_look, startD, hx, hx']
  · have hx' : ¬ (x : Int) < (b : Int) + p := by omega
    have e : ((x : Int) - b) % p = (((x - b) % p : Nat) : Int) := by rw [← Int.ofNat_sub (by omega)]; rfl
    simp [m__law_look, b__law_look, startD, hx, hx', k_mod (show (0 : Int) < p by omega), e]
theorem law_look_ofN {S : Store} {x : List Nat} {b p : Nat} (h : 0 < p) (hl : x.length ≤ 1000) : m__law_look_of [bagN x, glD b p] S = .ok (bagN (lkB b p x)) S := by
  have lc : mLcL (mgName 2) mYes (mCall m__law_look 2 (mCons (mVar 2) (mCons (mVar 1) mNil))) [some (bagN x), some (glD b p), none] (x.map fun c : Nat => D.int (c : Int)) S = .ok (x.map fun c => D.int (lkN b p c : Nat)) S := lc_map _ _ fun c hc => by simp [law_look_N h]
  simp [m__law_look_of, b__law_look_of, startD, wipeD, lc, fitR_ok (show x.length ≤ sizeLine by rw [sizeLine_eq]; omega)]
  simp [bagN, lkB]
theorem law_in_N {S : Store} {x : List Nat} {b p : Nat} {l : List (List Nat)} (h : 0 < p) (hl : x.length ≤ 1000) : m__law_in [.tup [glD b p, .lst (l.map bagN)], bagN x] S = .ok (.bl (decide (lkB b p x ∈ l))) S := by
  have i0 : pk1 (fIx S (.tup [glD b p, .lst (l.map bagN)]) (.int 0)) S = .ok (glD b p) S := k_ixT rfl
  have i1 : pk1 (fIx S (.tup [glD b p, .lst (l.map bagN)]) (.int 1)) S = .ok (.lst (l.map bagN)) S := k_ixT rfl
  simp [m__law_in, b__law_in, startD, i0, i1, law_look_ofN h hl, inL_N]
/-! ### counting -/
theorem log2_small {x k : Nat} (h : x < 2 ^ k) (hk : 0 < k) : x.log2 < k := by
  by_cases h0 : x = 0
  · subst h0; rw [show Nat.log2 0 = 0 by decide]; exact hk
  · exact (Nat.log2_lt h0).mpr h
theorem mulOk_N {x y : Nat} (hx : x < 2 ^ 400) (hy : y < 2 ^ 400) : MulOk (x : Int) (y : Int) := .inr (by
  have h1 := log2_small hx (by omega)
  have h2 := log2_small hy (by omega)
  show (x : Int).natAbs.log2 + (y : Int).natAbs.log2 < 1000000
  rw [Int.natAbs_natCast, Int.natAbs_natCast]; omega)
theorem W_big {n j : Nat} (hn : n + 4 < 2 ^ 71) (hj : j ≤ 4) : W j n < 2 ^ 400 := Nat.lt_of_lt_of_le (W_small hn j hj) (Nat.pow_le_pow_right (by omega) (by omega))
theorem big_n {n : Nat} (hn : n + 4 < 2 ^ 71) : n + 4 < 2 ^ 400 := Nat.lt_of_lt_of_le hn (Nat.pow_le_pow_right (by omega) (by omega))
theorem ways_mul {T : Store} {n j : Nat} (hn : n + 4 < 2 ^ 71) (h0 : 0 < j) (hj : j ≤ 3) : pk1 (fMul T (.int (W j n : Nat)) (.int ((n : Int) + (j : Int)))) T = .ok (.int ((W j n * (n + j) : Nat) : Int)) T := by
  have h1 := W_big hn (j := j) (by omega)
  have h2 := big_n hn
  have e : (n : Int) + (j : Int) = ((n + j : Nat) : Int) := by omega
  rw [e, k_mulI (mulOk_N h1 (by omega))]
  simp
theorem ways_div {T : Store} {n j : Nat} (h0 : 0 < j) (hj : j ≤ 3) : pk1 (fFdiv T (.int ((W j n * (n + j) : Nat) : Int)) (.int (j : Int))) T = .ok (.int (W (j + 1) n : Nat)) T := by
  rw [k_fdiv (divOk_small (by omega) (by omega)), ← W_step h0]; rfl
theorem ways_N {S : Store} {m n : Nat} (hm : m ≤ 4) (hn : n + 4 < 2 ^ 71) : m_ways [.int (m : Int), .int (n : Int)] S = .ok (.int (W m n : Nat)) S := by
  by_cases h0 : m = 0
  · subst h0
    by_cases h : n = 0
    · subst h
      simp [m_ways, b_ways, startD, W_zero]
    · simp [m_ways, b_ways, startD, W_pos h, h]
  · have rg : ∀ T : Store, pk1 (fRng2 T [.int 1, .int (m : Int)]) T = .ok ((List.range (m - 1)).map fun i : Nat => D.int (1 + (i : Int))) T := fun T => by
      rw [k_rng2 (by omega)]
      simp [rngD]
    have hm0 : ¬ (m : Int) = 0 := by omega
    unfold m_ways
    simp [b_ways, startD, hm0, h0, rg, wipeD]
    generalize hL : mForL _ _ _ _ _ = L
    obtain ⟨r, S', rfl, rfl, rfl⟩ := for_ix hL (fun i r S' => r = [none, some (.int (n : Int)), some (.int (W (i + 1) n : Nat)), none] ∧ S' = S) ⟨by rw [W_one]; rfl, rfl⟩ (fun i hi r S' ⟨e1, e2⟩ => by
      subst e1 e2
      have hi : i < m - 1 := by simpa using hi
      have mu := ways_mul (T := S') (n := n) (j := i + 1) hn (by omega) (by omega)
      have dv := ways_div (T := S') (n := n) (j := i + 1) (by omega) (by omega)
      generalize W (i + 1) n * (n + (i + 1)) = z at mu dv
      rw [show ((i + 1 : Nat) : Int) = 1 + (i : Int) by omega] at mu dv
      refine ⟨_, _, ?_, rfl, rfl⟩
      simp [l_ways_1, mu, dv, wipeD])
    simp only [List.length_map, List.length_range]
    rw [show m - 1 + 1 = m by omega]
    simp
theorem sumN {S : Store} {x : List Nat} : pk1 (bSumT S [bagN x]) S = .ok (.int (x.sum : Nat)) S := by
  have := k_sumT (S := S) (ns := x.map fun c : Nat => (c : Int))
  rw [show bagN x = .tup ((x.map fun c : Nat => (c : Int)).map D.int) from bagN_bagD, this]
  congr 2
  induction x with
  | nil => rfl
  | cons c x ih => simp only [List.map_cons, List.sum_cons, ih k_sumT]; omega
section
variable {S : Store} {a : Str} {F : FS}
theorem count_loop {b p n : Nat} (hp : 0 < p) (hps : p < 2 ^ 60) (hn : n + 4 < 2 ^ 71) : ∀ (l : List (List Nat)) (acc : Nat), (∀ y ∈ l, y.length ≤ 4) → mForL (mgName 5) (mWipe [0, 5, 6] l_BagSet_count_1) (l.map bagN) [none, some (.int (n : Int)), some (.int (b : Int)), some (.int (p : Int)), some (.int (acc : Int)), none, none, none] S = .nx [none, some (.int (n : Int)), some (.int (b : Int)), some (.int (p : Int)), some (.int ((acc + ls l fun y => Rw p (fr b y) y.sum n : Nat) : Int)), none, none, none] S
  | [], acc, _ => by simp
  | y :: l, acc, h => by
    have hy := h y List.mem_cons_self
    have ih := count_loop (b := b) hp hps hn l (acc + Rw p (fr b y) y.sum n) fun z hz => h z (List.mem_cons_of_mem _ hz)
    have tot : m_total [bagN y] S = .ok (.int (y.sum : Nat)) S := by simp [m_total, b_total, startD, sumN]
    have step : turnR (mgName 5 (bagN y) [none, some (.int (n : Int)), some (.int (b : Int)), some (.int (p : Int)), some (.int (acc : Int)), none, none, none] S) (mWipe [0, 5, 6] l_BagSet_count_1) = .nx [none, some (.int (n : Int)), some (.int (b : Int)), some (.int (p : Int)), some (.int ((acc + Rw p (fr b y) y.sum n : Nat) : Int)), none, none, none] S := by
      by_cases h1 : y.sum ≤ n
      · obtain ⟨d, hd⟩ : ∃ d : Nat, d = n - y.sum := ⟨_, rfl⟩
        have e1 : (n : Int) - (y.sum : Nat) = (d : Int) := by omega
        have e2 : (d : Int) % (p : Int) = ((d % p : Nat) : Int) := rfl
        have md : pk1 (fMod S (.int (d : Int)) (.int (p : Int))) S = .ok (.int ((d % p : Nat) : Int)) S := by rw [k_mod (by omega)]; rfl
        have h0 : (0 : Int) ≤ (d : Int) := by omega
        by_cases h2 : p ∣ d
        · have h3 : d % p = 0 := Nat.mod_eq_zero_of_dvd h2
          have hR : Rw p (fr b y) y.sum n = W (fr b y) (d / p) := by
            unfold Rw
            rw [if_pos ⟨h1, by rw [← hd]; exact h2⟩, ← hd]
          have lc := lc_filter (S := S) (g := mgName 7) (t := mB (mOp fGe (mVar 7) (mVar 2))) (e := mVar 7) (r0 := [none, some (.int (n : Int)), some (.int (b : Int)), some (.int (p : Int)), some (.int (acc : Int)), some (bagN y), some (.int (d : Int)), none]) (xs := y) (fun c : Nat => D.int (c : Int)) (fun c : Nat => D.int (c : Int)) (fun c => decide (b ≤ c)) (fun c hc => ⟨[none, some (.int (n : Int)), some (.int (b : Int)), some (.int (p : Int)), some (.int (acc : Int)), some (bagN y), some (.int (d : Int)), some (.int (c : Int))], rfl, by simp, fun _ => rfl⟩)
          have hfr : fr b y ≤ 4 := Nat.le_trans (List.length_filter_le _ _) hy
          have dv : pk1 (fFdiv S (.int (d : Int)) (.int (p : Int))) S = .ok (.int ((d / p : Nat) : Int)) S := by
            rw [k_fdiv (divOk_small (by omega) (by omega))]; rfl
          have wy := ways_N (S := S) (m := fr b y) (n := d / p) hfr (by have := Nat.div_le_self d p; omega)
          rw [hR]
          rw [h3] at md
          have hlen : ((y.filter fun c => decide (b ≤ c)).map fun c : Nat => D.int (c : Int)).length ≤ sizeLine := by
            rw [List.length_map, sizeLine_eq]; unfold fr at hfr; omega
          have hln : ∀ T : Store, pk1 (bLen T [.lst ((y.filter fun c => decide (b ≤ c)).map fun c : Nat => D.int (c : Int))]) T = .ok (.int (fr b y : Nat)) T := fun T => by rw [k_lenL, List.length_map]; rfl
          generalize ((y.filter fun c => decide (b ≤ c)).map fun c : Nat => D.int (c : Int)) = fl at lc hlen hln
          generalize d / p = e at dv wy ⊢
          generalize fr b y = f at hln wy ⊢
          simp [l_BagSet_count_1, tot, e1, md, wipeD]
          rw [lc]
          simp [fitR_ok hlen, hln, dv, wy, wipeD]
        · have h3 : ¬ d % p = 0 := fun z => h2 (Nat.dvd_of_mod_eq_zero z)
          have hR : Rw p (fr b y) y.sum n = 0 := by
            unfold Rw
            rw [if_neg (by rw [← hd]; exact fun z => h2 z.2)]
          rw [hR]
          generalize d % p = e at md h3
          have h4 : ¬ (e : Int) = 0 := by omega
          simp [l_BagSet_count_1, tot, e1, md, h3, h4, wipeD]
      · have hR : Rw p (fr b y) y.sum n = 0 := by unfold Rw; rw [if_neg fun z => h1 z.1]
        have h2 : ¬ (0 : Int) ≤ (n : Int) - (y.sum : Nat) := by omega
        have h3 : (n : Int) < (y.sum : Nat) := by omega
        rw [hR]
        simp [l_BagSet_count_1, tot, h1, h2, h3, wipeD]
    rw [List.map_cons, mForL_cons, step]
    simp only [Fl.again_nx]
    rw [ih, ls_cons, Nat.add_assoc]
theorem count_C {n : Nat} (hka : KindsOk a) (h : LeastG a.length F (gOf a.length F).1 (gOf a.length F).2) (hc : ((gOf a.length F).1 + (gOf a.length F).2) ^ a.length ≤ 2000) (hn : n + 4 < 2 ^ 71) : q_BagSet_count_2 [setC a F, .int (n : Int)] [] S = .ok (.int (cnt a.length n F : Nat)) S := by
  have h4 := hka.2.1
  have g1 : ∀ T : Store, attrR "seen_at" ["BagSet"] [] (setC a F) (insD T (setC a F)) T = .ok (glD (gOf a.length F).1 (gOf a.length F).2) T := fun T => by rw [insD_C]; exact attrR_fld rfl (by simp) (by simp [List.lookup_cons])
  have g2 : ∀ T : Store, attrR "found" ["BagSet"] [] (setC a F) (insD T (setC a F)) T = .ok (.lst ((fndL a.length (gOf a.length F).1 (gOf a.length F).2 F).map bagN)) T := fun T => by rw [insD_C]; exact attrR_fld rfl (by simp) (by simp [List.lookup_cons])
  have h2 := hka.1
  have hJL : (gOf a.length F).1 + (gOf a.length F).2 ≤ 2000 := by
    have : ((gOf a.length F).1 + (gOf a.length F).2) ^ 1 ≤ ((gOf a.length F).1 + (gOf a.length F).2) ^ a.length := Nat.pow_le_pow_right (by have := h.pos; omega) (by omega)
    simp at this; omega
  have lp := count_loop (S := S) (b := (gOf a.length F).1) (p := (gOf a.length F).2) (n := n) h.pos (by omega) hn (fndL a.length (gOf a.length F).1 (gOf a.length F).2 F) 0 (fun y hy => by have := (mem_fndL.mp hy).1.1; omega)
  rw [cnt_fnd h.pos h.seen, Nat.zero_add] at lp
  simp only [Int.ofNat_zero, Int.natCast_zero] at lp
  simp [q_BagSet_count_2, m_BagSet_count, b_BagSet_count, startD, g1, g2, mgTup_gl, wipeD]
  rw [lp]
  simp
end
/-! ### draws of sets and probes -/
theorem few1 {o : O} (ho : RngO o) : ∃ (a : Str) (o' : O), m__law_few [.ref 0, .int 4] [o] = .ok (.str a) [o'] ∧ KindsOk a ∧ a.length ≤ 4 ∧ RngO o' := by
  obtain ⟨x, o1, e1, _, _, ho1⟩ := draw1 (m := 4) ho (by omega) (by omega)
  by_cases hx : x = 0
  · subst hx
    obtain ⟨a, o2, e2, hk, hl, ho2⟩ := kinds1 (m := 4) ho1 (by omega) (by omega)
    exact ⟨a, o2, by simp [m__law_few, b__law_few, startD, e1, e2], hk, by omega, ho2⟩
  · obtain ⟨a, o2, e2, hk, hl, ho2⟩ := kinds1 (m := 2) ho1 (by omega) (by omega)
    exact ⟨a, o2, by simp [m__law_few, b__law_few, startD, e1, hx, e2], hk, by omega, ho2⟩
theorem glass1 {o : O} {a : Str} (ho : RngO o) (h2 : 2 ≤ a.length) (h3 : a.length ≤ 4) : ∃ (b p : Nat) (o' : O), m__law_glass [.ref 0, .str a] [o] = .ok (glD b p) [o'] ∧ 0 < p ∧ b + p ≤ 14 ∧ (b + p) ^ a.length ≤ 700 ∧ RngO o' := by
  have hsz : a.length ≤ sizeLine := by rw [sizeLine_eq]; omega
  have key : ∃ z1 z2 : Int, atI [D.int 9, D.int 5, D.int 3] ((a.length : Int) - 2) = some (.int z1) ∧ atI [D.int 6, D.int 4, D.int 3] ((a.length : Int) - 2) = some (.int z2) ∧ 0 < z1 ∧ 0 < z2 ∧ z1 - 1 + z2 ≤ 14 ∧ (z1 - 1 + z2).toNat ^ a.length ≤ 700 := by
    have h3 : a.length = 2 ∨ a.length = 3 ∨ a.length = 4 := by omega
    rcases h3 with e | e | e <;> rw [e]
    · exact ⟨9, 6, rfl, rfl, by omega, by omega, by omega, by decide⟩
    · exact ⟨5, 4, rfl, rfl, by omega, by omega, by omega, by decide⟩
    · exact ⟨3, 3, rfl, rfl, by omega, by omega, by omega, by decide⟩
  obtain ⟨z1, z2, e1, e2, h1, h2', h3', h4⟩ := key
  obtain ⟨x, o1, ed1, hx0, hx1, ho1⟩ := draw1 (m := z1) ho (by omega) (by omega)
  obtain ⟨y, o2, ed2, hy0, hy1, ho2⟩ := draw1 (m := z2) ho1 (by omega) (by omega)
  obtain ⟨b, rfl⟩ : ∃ b : Nat, x = (b : Int) := ⟨x.toNat, by omega⟩
  obtain ⟨q, rfl⟩ : ∃ b : Nat, y = (b : Int) := ⟨y.toNat, by omega⟩
  refine ⟨b, 1 + q, o2, ?_, by omega, by omega, Nat.le_trans (Nat.pow_le_pow_left (by omega) _) h4, ho2⟩
  simp [m__law_glass, b__law_glass, startD, k_lenS hsz, fitR_ok, sizeLine_eq, k_ixL e1, ed1, k_ixL e2, ed2, glD]
theorem some_set1 {o : O} {a : Str} (ho : RngO o) (h2 : 2 ≤ a.length) (h3 : a.length ≤ 4) : ∃ (b p : Nat) (l : List (List Nat)) (o' : O), m__law_some_set [.ref 0, .str a] [o] = .ok (.tup [glD b p, .lst (l.map bagN)]) [o'] ∧ 0 < p ∧ b + p ≤ 14 ∧ (b + p) ^ a.length ≤ 700 ∧ (∀ x ∈ l, x ∈ allL a.length (b + p)) ∧ l.length ≤ 700 ∧ RngO o' := by
  obtain ⟨b, p, o1, e1, hp, hbp, hc, ho1⟩ := glass1 ho h2 h3
  obtain ⟨l, o2, e2, hl, hll, ho2⟩ := some_looks_ex (S := [o1]) (n := 0) (a := a) (b := b) (p := p) (rngAt1 ho1) hp (by omega) (by omega) (by omega)
  have e2 : m__law_some_looks [.ref 0, .str a, glD b p] [o1] = .ok (.lst (l.map bagN)) [o2] := e2
  exact ⟨b, p, l, o2, by simp [m__law_some_set, b__law_some_set, startD, e1, e2, fitR_ok, sizeLine_eq], hp, hbp, hc, hl, by omega, ho2⟩
/-! ### the law -/
abbrev s16 (x3 x4 x5 x6 x7 x8 x9 x10 x12 : Option D) : Sl := [none, some (.ref 0), none, x3, x4, x5, x6, x7, x8, x9, x10, none, x12, none]
section
variable {a : Str} {F : FS} {b p : Nat}
theorem cntL (hka : KindsOk a) (hp : 0 < p) (hc : (b + p) ^ a.length ≤ 2000) (T : Store) (F : FS) (hF : Seen a.length b p F) {n : Nat} (hn : n + 4 < 2 ^ 71) : q_BagSet_count_2 [setC a F, .int (n : Int)] [] T = .ok (.int (cnt a.length n F : Nat)) T :=
  count_C hka (gOf_least hp hF) (cnt_of hp hc hF) hn
theorem invL (hka : KindsOk a) (hp : 0 < p) (hc : (b + p) ^ a.length ≤ 2000) (T : Store) (F : FS) (hF : Seen a.length b p F) : spO [("BagSet", q_BagSet___invert___1)] (setC a F) [] T = .ok (setC a (sNot F)) T := by
  rw [spO_C (mf := q_BagSet___invert___1) (by simp), inv_C hka (gOf_least hp hF) (cnt_of hp hc hF)]; rfl
theorem methL (T : Store) (F : FS) (k : R (List D × List D)) : methR "count" 0 [("BagSet", q_BagSet_count_2)] (setC a F) (insD T (setC a F)) k = k.bind fun p S3 => if p.2.length = 0 then q_BagSet_count_2 (setC a F :: p.1) p.2 S3 else .no := meth_C (by simp) (by simp)
end
theorem every_loop {S : Store} {n m : Nat} {x3 x6 : Option D} (hn : n + 4 < 2 ^ 71) (h2 : 2 ≤ m) (h4 : m ≤ 4) {L : Fl} (hL : mForL (mgName 11) (mWipe [0, 2, 4, 5, 7, 8, 11, 12] l_law_1) ((List.range (m - 2)).map fun i : Nat => D.int (2 + (i : Int))) (s16 x3 none none x6 none none (some (.int (n : Int))) (some (.int (W 2 n : Nat))) none) S = L) : L = .nx (s16 x3 none none x6 none none (some (.int (n : Int))) (some (.int (W m n : Nat))) none) S := by
  obtain ⟨r, S', rfl, rfl, rfl⟩ := for_ix hL (fun i r S' => r = s16 x3 none none x6 none none (some (.int (n : Int))) (some (.int (W (i + 2) n : Nat))) none ∧ S' = S) ⟨rfl, rfl⟩ (fun i hi r S' ⟨e1, e2⟩ => by
    subst e1 e2
    have hi : i < m - 2 := by simpa using hi
    have mu := ways_mul (T := S') (n := n) (j := i + 2) hn (by omega) (by omega)
    have dv := ways_div (T := S') (n := n) (j := i + 2) (by omega) (by omega)
    generalize W (i + 2) n * (n + (i + 2)) = z at mu dv
    rw [show ((i + 2 : Nat) : Int) = 2 + (i : Int) by omega] at mu dv
    refine ⟨_, _, ?_, rfl, rfl⟩
    simp [l_law_1, mu, dv, wipeD])
  simp only [List.length_map, List.length_range]
  rw [show m - 2 + 2 = m by omega]
theorem law_turn {x : D} {o : O} (ho : RngO o) : ∃ r' S', turnR (mgName 2 x (s16 none none none none none none none none none) [o]) (mWipe [0, 2, 3, 4, 5, 6, 7, 8, 9, 10, 11, 12] l_law_2) = .nx r' S' ∧ (∃ o', r' = s16 none none none none none none none none none ∧ S' = [o'] ∧ RngO o') := by
  suffices hh : ∃ o', turnR (mgName 2 x (s16 none none none none none none none none none) [o]) (mWipe [0, 2, 3, 4, 5, 6, 7, 8, 9, 10, 11, 12] l_law_2) = .nx (s16 none none none none none none none none none) [o'] ∧ RngO o' from by
    obtain ⟨o', h1, h2⟩ := hh
    exact ⟨_, _, h1, o', rfl, rfl, h2⟩
  obtain ⟨a, o1, e1, hka, ha4, ho1⟩ := few1 ho
  have hk2 := hka.1
  have hsz : a.length ≤ sizeLine := by rw [sizeLine_eq]; omega
  obtain ⟨b, p, l, o2, e2, hp, hbp, hc, hl, hll, ho2⟩ := some_set1 (a := a) ho1 hk2 ha4
  obtain ⟨F, hF⟩ : ∃ F : FS, F = fun x => decide (lkB b p x ∈ l) := ⟨_, rfl⟩
  have sF : Seen a.length b p F := by rw [hF]; exact Seen.looks hp l
  have hc2 : (b + p) ^ a.length ≤ 2000 := by omega
  have mk : ∀ T : Store, mkR "BagSet" true q_BagSet___init___4 [.str a, glD b p, .lst (l.map bagN)] [] T = .ok (setC a F) T := fun T => by rw [hF]; exact set_make hka hp hc2 (by omega) hl
  obtain ⟨M, hM, hM0, hM1⟩ : ∃ M : Int, (if a.length < 4 then (12 : Int) else 7) = M ∧ 0 < M ∧ M ≤ 12 := ⟨_, rfl, by split <;> omega, by split <;> omega⟩
  obtain ⟨v, o3, e3, hv0, hv1, ho3⟩ := draw1 (m := M) ho2 hM0 (by omega)
  obtain ⟨v, rfl⟩ : ∃ w : Nat, v = (w : Int) := ⟨v.toNat, by omega⟩
  obtain ⟨z, o4, e4, hz0, hz1, ho4⟩ := draw1 (m := 60) ho3 (by omega) (by omega)
  obtain ⟨z, rfl⟩ : ∃ w : Nat, z = (w : Int) := ⟨z.toNat, by omega⟩
  have pw : (v + 1) ^ a.length ≤ 12 ^ 4 := Nat.le_trans (Nat.pow_le_pow_left (by omega) _) (Nat.pow_le_pow_right (by omega) ha4)
  have lb : ∀ T : Store, m__law_bags [.str a, .int (v : Int)] T = .ok (.lst ((allL a.length (v + 1)).map bagN)) T := fun T => law_bags_N (by omega) (by omega) (by omega)
  have lc := lc_filter (S := [o3]) (g := mgName 13) (t := mAnd (mB (mOp fEq (mCB bSumT (mCons (mVar 13) mNil)) (mVar 7))) (mB (mCall m__law_in 2 (mCons (mTup (mCons (mVar 4) (mCons (mVar 5) mNil))) (mCons (mVar 13) mNil))))) (e := mVar 13) (r0 := [none, some (.ref 0), some x, some (.str a), some (glD b p), some (.lst (l.map bagN)), some (setC a F), some (.int (v : Int)), none, none, none, none, none, none]) (xs := allL a.length (v + 1)) bagN bagN (fun y => decide (y.sum = v) && F y) (fun y hy => ⟨[none, some (.ref 0), some x, some (.str a), some (glD b p), some (.lst (l.map bagN)), some (setC a F), some (.int (v : Int)), none, none, none, none, none, some (bagN y)], rfl, by
    have hyl := (mem_allL.mp hy).1
    have li := law_in_N (S := [o3]) (x := y) (b := b) (p := p) (l := l) hp (by omega)
    rw [show decide (lkB b p y ∈ l) = F y by rw [hF]] at li
    by_cases h : y.sum = v
    · simp [sumN, h, li, fitR_ok, sizeLine_eq]
    · have h' : ¬ ((y.sum : Nat) : Int) = (v : Int) := by omega
      simp [sumN, h, h'], fun _ => rfl⟩)
  have hdl := cnt_list (m := v + 1) a.length v F (by omega)
  have hdz : ((allL a.length (v + 1)).filter fun y => decide (y.sum = v) && F y).length ≤ sizeLine := by
    have := List.length_filter_le (fun y : List Nat => decide (y.sum = v) && F y) (allL a.length (v + 1))
    rw [allL_len] at this
    rw [sizeLine_eq]; omega
  generalize ((allL a.length (v + 1)).filter fun y => decide (y.sum = v) && F y) = due at lc hdl hdz
  have c1 := fun T => cntL hka hp hc2 T F sF (n := v) (by omega)
  obtain ⟨n, hn⟩ : ∃ n : Nat, n = 100000000000000000000 + z := ⟨_, rfl⟩
  have hnb : n + 4 < 2 ^ 71 := by omega
  have hfar : (100000000000000000000 : Int) + (z : Int) = (n : Int) := by omega
  have c2 := fun T => cntL hka hp hc2 T F sF (n := n) hnb
  have c3 := fun T => cntL hka hp hc2 T (sNot F) sF.not (n := n) hnb
  have iv := fun T => invL hka hp hc2 T F sF
  have ev : ∀ T : Store, q_BagSet_everything_2 [.adr "BagSet", .str a] [] T = .ok (setC a sAll) T := fun T => everything_C hka
  have c4 := fun T => cntL hka (b := 0) (p := 1) (by omega) (by simp) T sAll Seen.all (n := n) hnb
  have hall : cnt a.length n sAll = W a.length n := cnt_all _ _
  have hsum := cnt_not a.length n F
  have p20 : ∀ T : Store, pk1 (fPow T (.int 10) (.int 20)) T = .ok (.int 100000000000000000000) T := fun T => k_pow ⟨by omega, by omega, by decide⟩
  have rg : ∀ T : Store, pk1 (fRng2 T [.int 2, .int ((a.length : Nat) : Int)]) T = .ok ((List.range (a.length - 2)).map fun i : Nat => D.int (2 + (i : Int))) T := fun T => by
    rw [k_rng2 (by omega)]
    simp only [rngD]
    rw [show (((a.length : Nat) : Int) - 2).toNat = a.length - 2 by omega]
  have hM' : ∀ T : Store, (if ((a.length : Nat) : Int) < 4 then R.ok (D.int 12) T else R.ok (D.int 7) T) = .ok (.int M) T := fun T => by
    rw [← hM]
    by_cases h : a.length < 4
    · rw [if_pos h, if_pos (by omega)]
    · rw [if_neg h, if_neg (by omega)]
  have ml : ∀ (T : Store) (d : D), pk1 (fMul T (.lst [d]) (.int 2)) T = .ok (.lst [d, d]) T := fun T d => by
    rw [k_mulL (by omega) (by omega) (by rw [sizeLine_eq]; simp)]; rfl
  have sm : ∀ (T : Store) (i : Int), m__law_same [.lst [.int i, .int i], .lst [.int i, .int i]] T = .ok (.bl true) T := fun T i => same_ok (by simp [wd]) rfl
  have hw2 : (n : Int) + 1 = ((W 2 n : Nat) : Int) := by rw [W_two]; omega
  have tp : ∀ gs : MGs, ∀ (r : Sl) (T : Store), mgTup 2 gs (.tup [glD b p, .lst (l.map bagN)]) r T = gs [glD b p, .lst (l.map bagN)] r T := fun gs r T => rfl
  generalize hL : mForL (mgName 11) (mWipe [0, 2, 4, 5, 7, 8, 11, 12] l_law_1) ((List.range (a.length - 2)).map fun i : Nat => D.int (2 + (i : Int))) (s16 (some (.str a)) none none (some (setC a F)) none none (some (.int (n : Int))) (some (.int (W 2 n : Nat))) none) [o4] = L
  have := every_loop hnb hk2 ha4 hL
  subst this
  have mt := @methL a
  refine ⟨o4, ?_, ho4⟩
  simp only [s16] at hL ⊢
  simp [l_law_2, e1, e2, mk, tp, k_lenS hsz, hM', e3, lb, wipeD]
  rw [lc]
  simp [fitR_ok (show cnt a.length v F ≤ sizeLine by rw [← hdl]; exact hdz), mt, c1, hdl, fitR_ok, sizeLine_eq, ml, sm, p20, e4, hfar, hw2, k_lenS hsz, rg, wipeD]
  rw [hL]
  have nq : ¬ ((cnt a.length n F : Nat) : Int) + (cnt a.length n (sNot F) : Nat) ≠ (W a.length n : Nat) := by omega
  have hs2 : ((cnt a.length n F : Nat) : Int) + (cnt a.length n (sNot F) : Nat) = (W a.length n : Nat) := by omega
  simp [mt, c2, iv, c3, hs2, ev, c4, hall, wipeD]

def evF : FS := fun x => decide (lkB 0 2 x ∈ [[0, 0]])
theorem ev_cnt {n : Nat} : cnt 2 n evF = if 2 ∣ n then n / 2 + 1 else 0 := by
  rw [cnt_looks (b := 0) (p := 2) (by omega) 2 n evF (Seen.looks (by omega) _)]
  have e : allL 2 (0 + 2) = [[0, 0], [0, 1], [1, 0], [1, 1]] := rfl
  rw [e]
  have f1 : evF [0, 0] = true := by decide
  have f2 : evF [0, 1] = false := by decide
  have f3 : evF [1, 0] = false := by decide
  have f4 : evF [1, 1] = false := by decide
  simp only [ls_cons, ls_nil, f1, f2, f3, f4, if_true, Nat.add_zero, Bool.false_eq_true, if_false]
  unfold Rw
  simp only [List.sum_cons, List.sum_nil, Nat.add_zero, Nat.zero_le, true_and, Nat.sub_zero]
  rw [show fr 0 [0, 0] = 2 from rfl, W_two]
theorem kab : KindsOk (Str.ofString "ab") := by decide +kernel
theorem lab : (Str.ofString "ab").length = 2 := by decide +kernel
theorem pure_law (ns : List Int) (hn : ns.length ≤ 63) : (m_law [.fz (ns.map D.int)] []).wp (fun d _ => d = .bl true) (fun _ _ => False) := by
  obtain ⟨o, e, ho⟩ := draws_ex (S := []) (ns := ns)
  unfold m_law
  simp [b_law, startD, e, k_rng1, wipeD]
  generalize hL : mForL _ _ _ _ _ = L
  obtain ⟨r, S', rfl, o2, rfl, rfl, ho2⟩ := for_at hL (fun r S => ∃ o, r = s16 none none none none none none none none none ∧ S = [o] ∧ RngO o) ⟨o, rfl, rfl, ho⟩ (fun x hx r S ⟨o, e1, e2, h3⟩ => by
    subst e1 e2
    exact law_turn h3)
  have s1 : Seen (Str.ofString "ab").length 0 2 evF := Seen.looks (by omega) _
  have mk : ∀ T : Store, mkR "BagSet" true q_BagSet___init___4 [.str "ab", glD 0 2, .lst ([[0, 0]].map bagN)] [] T = .ok (setC "ab" evF) T := fun T => set_make kab (by omega) (by rw [lab]; decide) (by simp) (fun x hx => by
    rw [List.mem_singleton.mp hx, mem_allL, lab]
    exact ⟨rfl, by simp⟩)
  have mk : ∀ T : Store, mkR "BagSet" true q_BagSet___init___4 [.str "ab", .tup [.int 0, .int 2], .lst [.tup [.int 0, .int 0]]] [] T = .ok (setC "ab" evF) T := mk
  have c1 : ∀ T : Store, q_BagSet_count_2 [setC "ab" evF, .int 100000000000000000000] [] T = .ok (.int 50000000000000000001) T := fun T => by
    have := cntL kab (b := 0) (p := 2) (by omega) (by rw [lab]; decide) T evF s1 (n := 100000000000000000000) (by omega)
    rw [lab, ev_cnt, if_pos (by omega)] at this
    exact this
  have c2 : ∀ T : Store, q_BagSet_count_2 [setC "ab" evF, .int 100000000000000000001] [] T = .ok (.int 0) T := fun T => by
    have := cntL kab (b := 0) (p := 2) (by omega) (by rw [lab]; decide) T evF s1 (n := 100000000000000000001) (by omega)
    rw [lab, ev_cnt, if_neg (by omega)] at this
    exact this
  have no : ∀ T : Store, q_BagSet_nothing_2 [.adr "BagSet", .str "ab"] [] T = .ok (setC "ab" sNone) T := fun T => nothing_C kab
  have c3 : ∀ T : Store, q_BagSet_count_2 [setC "ab" sNone, .int 0] [] T = .ok (.int 0) T := fun T => by
    have := cntL kab (b := 0) (p := 1) (by omega) (by rw [lab]; decide) T sNone Seen.none (n := 0) (by omega)
    rw [lab, show cnt 2 0 sNone = 0 from cnt_none 2 0] at this
    exact this
  have p20 : ∀ T : Store, pk1 (fPow T (.int 10) (.int 20)) T = .ok (.int 100000000000000000000) T := fun T => k_pow ⟨by omega, by omega, by decide⟩
  have p19 : ∀ T : Store, pk1 (fPow T (.int 10) (.int 19)) T = .ok (.int 10000000000000000000) T := fun T => k_pow ⟨by omega, by omega, by decide⟩
  have mu : ∀ T : Store, pk1 (fMul T (.int 5) (.int 10000000000000000000)) T = .ok (.int 50000000000000000000) T := fun T => k_mulI (mulOk_l (by omega))
  have mt := @methL "ab"
  have eq : ∀ T : Store, pk1 (fEq T (.lst [.int 50000000000000000001, .int 0, .int 0]) (.lst [.int 50000000000000000001, .int 0, .int 0])) T = .ok (.bl true) T := fun T => by
    have h : sh 60 (.lst [.int 50000000000000000001, .int 0, .int 0]) = true := rfl
    rw [k_eqD h h, deq_refl 60 _ h]
  simp [mk, mt, p20, p19, mu, c1, c2, no, c3, fitR_ok, sizeLine_eq, eq]
end DL
namespace DL
open PySem PySem.Spec PyProof.Rows L2

abbrev s_InvalidKinds___init__ : Stmt := inCls (topS 3) 0
def D_InvalidKinds___init__ : He.DefD := ⟨("InvalidKinds", some "__init__"), "__init__", "InvalidKinds.__init__", defArgs s_InvalidKinds___init__, defBody s_InvalidKinds___init__, defScope s_InvalidKinds___init__, [], []⟩
abbrev s_InvalidGlass___init__ : Stmt := inCls (topS 5) 0
def D_InvalidGlass___init__ : He.DefD := ⟨("InvalidGlass", some "__init__"), "__init__", "InvalidGlass.__init__", defArgs s_InvalidGlass___init__, defBody s_InvalidGlass___init__, defScope s_InvalidGlass___init__, [], []⟩
abbrev s_TooMany___init__ : Stmt := inCls (topS 7) 0
def D_TooMany___init__ : He.DefD := ⟨("TooMany", some "__init__"), "__init__", "TooMany.__init__", defArgs s_TooMany___init__, defBody s_TooMany___init__, defScope s_TooMany___init__, [], []⟩
abbrev s_InvalidBag___init__ : Stmt := inCls (topS 4) 0
def D_InvalidBag___init__ : He.DefD := ⟨("InvalidBag", some "__init__"), "__init__", "InvalidBag.__init__", defArgs s_InvalidBag___init__, defBody s_InvalidBag___init__, defScope s_InvalidBag___init__, [], []⟩
def D__law_draws : He.DefD := ⟨("_law_draws", none), "_law_draws", "_law_draws", defArgs s__law_draws, defBody s__law_draws, defScope s__law_draws, [], []⟩
def D__law_draw : He.DefD := ⟨("_law_draw", none), "_law_draw", "_law_draw", defArgs s__law_draw, defBody s__law_draw, defScope s__law_draw, [], []⟩
def D__law_pick : He.DefD := ⟨("_law_pick", none), "_law_pick", "_law_pick", defArgs s__law_pick, defBody s__law_pick, defScope s__law_pick, [], []⟩
def D__law_kinds : He.DefD := ⟨("_law_kinds", none), "_law_kinds", "_law_kinds", defArgs s__law_kinds, defBody s__law_kinds, defScope s__law_kinds, [], []⟩
def D__law_few : He.DefD := ⟨("_law_few", none), "_law_few", "_law_few", defArgs s__law_few, defBody s__law_few, defScope s__law_few, [], []⟩
def D__law_glass : He.DefD := ⟨("_law_glass", none), "_law_glass", "_law_glass", defArgs s__law_glass, defBody s__law_glass, defScope s__law_glass, [], []⟩
def D__law_bags : He.DefD := ⟨("_law_bags", none), "_law_bags", "_law_bags", defArgs s__law_bags, defBody s__law_bags, defScope s__law_bags, [], []⟩
def D__law_looks : He.DefD := ⟨("_law_looks", none), "_law_looks", "_law_looks", defArgs s__law_looks, defBody s__law_looks, defScope s__law_looks, [], []⟩
def D__law_some_looks : He.DefD := ⟨("_law_some_looks", none), "_law_some_looks", "_law_some_looks", defArgs s__law_some_looks, defBody s__law_some_looks, defScope s__law_some_looks, [], []⟩
def D__law_some_set : He.DefD := ⟨("_law_some_set", none), "_law_some_set", "_law_some_set", defArgs s__law_some_set, defBody s__law_some_set, defScope s__law_some_set, [], []⟩
def D__law_look : He.DefD := ⟨("_law_look", none), "_law_look", "_law_look", defArgs s__law_look, defBody s__law_look, defScope s__law_look, [], []⟩
def D__law_look_of : He.DefD := ⟨("_law_look_of", none), "_law_look_of", "_law_look_of", defArgs s__law_look_of, defBody s__law_look_of, defScope s__law_look_of, [], []⟩
def D__law_in : He.DefD := ⟨("_law_in", none), "_law_in", "_law_in", defArgs s__law_in, defBody s__law_in, defScope s__law_in, [], []⟩
def D__law_same : He.DefD := ⟨("_law_same", none), "_law_same", "_law_same", defArgs s__law_same, defBody s__law_same, defScope s__law_same, [], []⟩
def D_check_kinds : He.DefD := ⟨("check_kinds", none), "check_kinds", "check_kinds", defArgs s_check_kinds, defBody s_check_kinds, defScope s_check_kinds, [], []⟩
def D_check_glass : He.DefD := ⟨("check_glass", none), "check_glass", "check_glass", defArgs s_check_glass, defBody s_check_glass, defScope s_check_glass, [], []⟩
def D_class_count : He.DefD := ⟨("class_count", none), "class_count", "class_count", defArgs s_class_count, defBody s_class_count, defScope s_class_count, [], []⟩
def D_check_count : He.DefD := ⟨("check_count", none), "check_count", "check_count", defArgs s_check_count, defBody s_check_count, defScope s_check_count, [], []⟩
def D_is_bag : He.DefD := ⟨("is_bag", none), "is_bag", "is_bag", defArgs s_is_bag, defBody s_is_bag, defScope s_is_bag, [], []⟩
def D_check_bag : He.DefD := ⟨("check_bag", none), "check_bag", "check_bag", defArgs s_check_bag, defBody s_check_bag, defScope s_check_bag, [], []⟩
def D_look : He.DefD := ⟨("look", none), "look", "look", defArgs s_look, defBody s_look, defScope s_look, [], []⟩
def D_look_of : He.DefD := ⟨("look_of", none), "look_of", "look_of", defArgs s_look_of, defBody s_look_of, defScope s_look_of, [], []⟩
def D_all_looks : He.DefD := ⟨("all_looks", none), "all_looks", "all_looks", defArgs s_all_looks, defBody s_all_looks, defScope s_all_looks, [], []⟩
def D_divisors : He.DefD := ⟨("divisors", none), "divisors", "divisors", defArgs s_divisors, defBody s_divisors, defScope s_divisors, [], []⟩
def D_is_seen : He.DefD := ⟨("is_seen", none), "is_seen", "is_seen", defArgs s_is_seen, defBody s_is_seen, defScope s_is_seen, [], []⟩
def D_least_glass : He.DefD := ⟨("least_glass", none), "least_glass", "least_glass", defArgs s_least_glass, defBody s_least_glass, defScope s_least_glass, [], []⟩
def D_least_form : He.DefD := ⟨("least_form", none), "least_form", "least_form", defArgs s_least_form, defBody s_least_form, defScope s_least_form, [], []⟩
def D_BagSet___init__ : He.DefD := ⟨("BagSet", some "__init__"), "__init__", "BagSet.__init__", defArgs s_BagSet___init__, defBody s_BagSet___init__, defScope s_BagSet___init__, [], []⟩
def D_total : He.DefD := ⟨("total", none), "total", "total", defArgs s_total, defBody s_total, defScope s_total, [], []⟩
def D_ways : He.DefD := ⟨("ways", none), "ways", "ways", defArgs s_ways, defBody s_ways, defScope s_ways, [], []⟩
def D_BagSet_count : He.DefD := ⟨("BagSet", some "count"), "count", "BagSet.count", defArgs s_BagSet_count, defBody s_BagSet_count, defScope s_BagSet_count, [], []⟩
def D_kept_ones : He.DefD := ⟨("kept_ones", none), "kept_ones", "kept_ones", defArgs s_kept_ones, defBody s_kept_ones, defScope s_kept_ones, [], []⟩
def D_BagSet___invert__ : He.DefD := ⟨("BagSet", some "__invert__"), "__invert__", "BagSet.__invert__", defArgs s_BagSet___invert__, defBody s_BagSet___invert__, defScope s_BagSet___invert__, [], []⟩
def D_BagSet_everything : He5.DefA := ⟨fun K => He5.wf K (He.ga K "BagSet") "classmethod" "everything", "everything", "BagSet.everything", defArgs s_BagSet_everything, defBody s_BagSet_everything, defScope s_BagSet_everything, [], []⟩
def D_BagSet_nothing : He5.DefA := ⟨fun K => He5.wf K (He.ga K "BagSet") "classmethod" "nothing", "nothing", "BagSet.nothing", defArgs s_BagSet_nothing, defBody s_BagSet_nothing, defScope s_BagSet_nothing, [], []⟩
def D_law : He.DefD := ⟨("law", none), "law", "law", defArgs s_law, defBody s_law, defScope s_law, [], []⟩
def fnL : List He.DefD := D_InvalidKinds___init__ :: D_InvalidGlass___init__ :: D_TooMany___init__ :: D_InvalidBag___init__ :: D__law_draws :: D__law_draw :: D__law_pick :: D__law_kinds :: D__law_few :: D__law_glass :: D__law_bags :: D__law_looks :: D__law_some_looks :: D__law_some_set :: D__law_look :: D__law_look_of :: D__law_in :: D__law_same :: D_check_kinds :: D_check_glass :: D_class_count :: D_check_count :: D_is_bag :: D_check_bag :: D_look :: D_look_of :: D_all_looks :: D_divisors :: D_is_seen :: D_least_glass :: D_least_form :: D_BagSet___init__ :: D_total :: D_ways :: D_BagSet_count :: D_kept_ones :: D_BagSet___invert__ :: D_law :: []
def fxL : List He5.DefA := D_BagSet_everything :: D_BagSet_nothing :: []
def faL : List He.Fa := .glo "_law_draws" :: .glo "_law_draw" :: .glo "_law_pick" :: .glo "_law_kinds" :: .glo "_law_few" :: .glo "_law_glass" :: .glo "_law_bags" :: .glo "_law_looks" :: .glo "_law_some_looks" :: .glo "_law_some_set" :: .glo "_law_look" :: .glo "_law_look_of" :: .glo "_law_in" :: .glo "_law_same" :: .glo "check_kinds" :: .glo "check_glass" :: .glo "class_count" :: .glo "check_count" :: .glo "is_bag" :: .glo "check_bag" :: .glo "look" :: .glo "look_of" :: .glo "all_looks" :: .glo "divisors" :: .glo "is_seen" :: .glo "least_glass" :: .glo "least_form" :: .glo "total" :: .glo "ways" :: .glo "kept_ones" :: .glo "law" :: .cls "BagSet" :: .noat "BagSet" "signs" :: .noat "BagSet" "found" :: .noat "BagSet" "seen_at" :: .noat "BagSet" "told" :: .mkr "BagSet" :: .glo "BagSet" :: .meth "BagSet" "count" :: .meth "BagSet" "__invert__" :: .glo "InvalidKinds" :: .glo "InvalidGlass" :: .glo "TooMany" :: .glo "InvalidBag" :: .free "int" :: .free "list" :: .free "len" :: .free "range" :: .free "tuple" :: .free "isinstance" :: .free "zip" :: .free "all" :: .free "bool" :: .free "str" :: .free "set" :: .free "sum" :: .int "LEAST_KINDS" 2 :: .int "MOST_KINDS" 4 :: .str "SMALL" "abcdefghijklmnopqrstuvwxyz" :: .int "MOST_CLASSES" 2000 :: []
def tfL : List He.Defn := []
def exL (K : PySem.W.Frag) : Bool := xcl0B K "InvalidKinds" && xcl0B K "InvalidGlass" && xcl0B K "TooMany" && xcl0B K "InvalidBag" && creadB K "BagSet" && cmetB K "BagSet" "everything" && cmetB K "BagSet" "nothing"
abbrev Rl : PySem.W.OpenRow := PySem.W.OpenLaw.row PySem.Challenge.rw_bagturns_k16_totals_of_sets_counted
abbrev hkL : PySem.W.Hook := hookY 5 faL fnL tfL exL fxL
def obL (s : PySem.W.SharedT) : AlY := obsY 5 faL fnL tfL exL fxL (HandSHeadRun.getT s)
theorem obL_eq (s : PySem.W.SharedT) : obL s = hkL.obs s.abs := obsY_eq (HandSHeadRun.getT_eq s)
def looseL : List Str := "_wall" :: "BagError" :: "InvalidKinds" :: "InvalidBag" :: "InvalidGlass" :: "KindsDiffer" :: "TooMany" :: "SMALL" :: "LEAST_KINDS" :: "MOST_KINDS" :: "check_kinds" :: "is_bag" :: "check_bag" :: "total" :: "bags_with" :: "MOST_CLASSES" :: "check_glass" :: "look" :: "look_of" :: "common" :: "multiple" :: "joined_glass" :: "class_count" :: "check_count" :: "all_looks" :: "check_same" :: "divisors" :: "is_seen" :: "least_glass" :: "least_form" :: "looks_beside" :: "wide_glass" :: "ways" :: "kept_ones" :: "BagSet" :: "_law_draws" :: "_law_draw" :: "_law_pick" :: "_law_same" :: "_law_kinds" :: "_law_few" :: "_law_bags" :: "_law_look" :: "_law_look_of" :: "_law_glass" :: "_law_looks" :: "_law_some_looks" :: "_law_some_set" :: "_law_in" :: []
theorem runL (w : World) : HandSHeadRun.RunEq Rl (PySem.W.view Rl.prog [55]) hkL obL 9000 looseL w := by
  intro os
  kernel_rfl
theorem Cal.ofM {P : Program} {w : World} {K : PySem.W.Frag} {mg : Str → Option Value} {base : Heap} {T : List (Addr × Str)} {x : Str} {st : Stmt} {k : Nat} {f : Addr} {fd : FuncData} {ps : List Str} {sp : DSp} (F : FunS K x x st [] [] f fd) (g : mg x = some (.ref f)) (D : FnD P w K mg base T k f fd ps sp)
    (h : ∀ (kV doc pm : Value) (an : Option Addr) (cdv ct : Value) (us : List Value), us.length = ps.length → bindArgs (PySem.W.fnOf x x (defArgs st) (defBody st) (defScope st) .none kV doc pm an cdv ct) ⟨us, []⟩ = pure (ps.zip us)) : Cal P w K mg base T x k f fd ps sp := ⟨D, g, F.kp, F.bd h⟩
theorem fnM_none {P : Program} {w : World} {K : PySem.W.Frag} {mg : Str → Option Value} {base : Heap} {T : List (Addr × Str)} {k : Nat} {f : Addr} {fd : FuncData} {ps : List Str} : FnD P w K mg base T k f fd ps (toSp fun _ _ => .no) :=
  ⟨fun vs H Q E ⟨g, S, ds, Qd, Ed, gd, rs, hl, h, _⟩ => h.elim, fun A outer s H args us vs Q E hr he hb rv ⟨g, S, ds, Qd, Ed, gd, rs, hl, h, _⟩ => h.elim⟩
def spLaw : DSp := toSp m_law
theorem law_start {K : PySem.W.Frag} {H : Hp} {a : Addr} {ns : List Int} {pts : List (Addr × Addr)} {T : List (Addr × Str)} (hTT : ∀ p ∈ T, ∃ q ∈ pts, p.1 = q.2) (hn : ns.length ≤ 63) (hT : ∀ p ∈ pts, H p.2 = some (.tbl #[])) (hS : SqL K H a (ns.map V.int)) : spD K T 1 spLaw [.ref a] H (fun v _ => v = .bl true) fun _ _ _ => False := by
  have g : GoodS K T ⟨[], []⟩ [] H := by
    refine ⟨rfl, by simp, fun n a o h => by simp at h, fun p hp => by simp at hp, fun p hp => ?_⟩
    obtain ⟨q, hq, e⟩ := hTT p hp
    rw [e]
    exact ⟨#[], hT q hq, trivial, fun pos cv h => by cases h⟩
  refine ⟨⟨[], []⟩, [], [.fz (ns.map D.int)], fun d _ => d = .bl true, fun _ _ => False, g, Reps.one ⟨a, _, rfl, ?_, Reps.ofInts ns⟩, rfl, pure_law ns hn, fun d S' g' H' v e _ _ r => ?_, fun x S' g' H' c dd z _ _ _ => z⟩
  · rcases hS with h | h
    · exact .inl ⟨h, fun z => by rcases z with z | z <;> cases z⟩
    · exact .inr h
  · subst e; exact r
theorem facts {P : Program} {w : World} {K : PySem.W.Frag} {h : Heap} {mg : Str → Option Value} (X : K.In h) (G : h.Ns mainGlobals mg) (c : SaysY faL fnL tfL exL fxL w h K) :
    ∃ fd : FuncData, (∀ (s : Shared) (v : Value), BindsTo s fd ⟨[v], []⟩ [("_law_script", v)]) ∧ ∀ base : Heap, K.In base → base.Ns mainGlobals mg → (∀ p ∈ ([] : List (Addr × Addr)), LamX.TabB base mg p.1 p.2) →
      FnD P w K mg base [] 10 (He.ga K "law") fd ["_law_script"] spLaw := by
  obtain ⟨c, ca⟩ := c
  obtain ⟨fd_InvalidKinds___init__, F_InvalidKinds___init__⟩ := c.t.d.def_ 0 (d := D_InvalidKinds___init__) rfl
  replace F_InvalidKinds___init__ : FunS K "__init__" "InvalidKinds.__init__" s_InvalidKinds___init__ [] [] (He.ma K (He.ga K "InvalidKinds") "__init__") fd_InvalidKinds___init__ := F_InvalidKinds___init__
  obtain ⟨fd_InvalidGlass___init__, F_InvalidGlass___init__⟩ := c.t.d.def_ 1 (d := D_InvalidGlass___init__) rfl
  replace F_InvalidGlass___init__ : FunS K "__init__" "InvalidGlass.__init__" s_InvalidGlass___init__ [] [] (He.ma K (He.ga K "InvalidGlass") "__init__") fd_InvalidGlass___init__ := F_InvalidGlass___init__
  obtain ⟨fd_TooMany___init__, F_TooMany___init__⟩ := c.t.d.def_ 2 (d := D_TooMany___init__) rfl
  replace F_TooMany___init__ : FunS K "__init__" "TooMany.__init__" s_TooMany___init__ [] [] (He.ma K (He.ga K "TooMany") "__init__") fd_TooMany___init__ := F_TooMany___init__
  obtain ⟨fd_InvalidBag___init__, F_InvalidBag___init__⟩ := c.t.d.def_ 3 (d := D_InvalidBag___init__) rfl
  replace F_InvalidBag___init__ : FunS K "__init__" "InvalidBag.__init__" s_InvalidBag___init__ [] [] (He.ma K (He.ga K "InvalidBag") "__init__") fd_InvalidBag___init__ := F_InvalidBag___init__
  obtain ⟨fd__law_draws, F__law_draws⟩ := c.t.d.def_ 4 (d := D__law_draws) rfl
  replace F__law_draws : FunS K "_law_draws" "_law_draws" s__law_draws [] [] (He.ga K "_law_draws") fd__law_draws := F__law_draws
  obtain ⟨fd__law_draw, F__law_draw⟩ := c.t.d.def_ 5 (d := D__law_draw) rfl
  replace F__law_draw : FunS K "_law_draw" "_law_draw" s__law_draw [] [] (He.ga K "_law_draw") fd__law_draw := F__law_draw
  obtain ⟨fd__law_pick, F__law_pick⟩ := c.t.d.def_ 6 (d := D__law_pick) rfl
  replace F__law_pick : FunS K "_law_pick" "_law_pick" s__law_pick [] [] (He.ga K "_law_pick") fd__law_pick := F__law_pick
  obtain ⟨fd__law_kinds, F__law_kinds⟩ := c.t.d.def_ 7 (d := D__law_kinds) rfl
  replace F__law_kinds : FunS K "_law_kinds" "_law_kinds" s__law_kinds [] [] (He.ga K "_law_kinds") fd__law_kinds := F__law_kinds
  obtain ⟨fd__law_few, F__law_few⟩ := c.t.d.def_ 8 (d := D__law_few) rfl
  replace F__law_few : FunS K "_law_few" "_law_few" s__law_few [] [] (He.ga K "_law_few") fd__law_few := F__law_few
  obtain ⟨fd__law_glass, F__law_glass⟩ := c.t.d.def_ 9 (d := D__law_glass) rfl
  replace F__law_glass : FunS K "_law_glass" "_law_glass" s__law_glass [] [] (He.ga K "_law_glass") fd__law_glass := F__law_glass
  obtain ⟨fd__law_bags, F__law_bags⟩ := c.t.d.def_ 10 (d := D__law_bags) rfl
  replace F__law_bags : FunS K "_law_bags" "_law_bags" s__law_bags [] [] (He.ga K "_law_bags") fd__law_bags := F__law_bags
  obtain ⟨fd__law_looks, F__law_looks⟩ := c.t.d.def_ 11 (d := D__law_looks) rfl
  replace F__law_looks : FunS K "_law_looks" "_law_looks" s__law_looks [] [] (He.ga K "_law_looks") fd__law_looks := F__law_looks
  obtain ⟨fd__law_some_looks, F__law_some_looks⟩ := c.t.d.def_ 12 (d := D__law_some_looks) rfl
  replace F__law_some_looks : FunS K "_law_some_looks" "_law_some_looks" s__law_some_looks [] [] (He.ga K "_law_some_looks") fd__law_some_looks := F__law_some_looks
  obtain ⟨fd__law_some_set, F__law_some_set⟩ := c.t.d.def_ 13 (d := D__law_some_set) rfl
  replace F__law_some_set : FunS K "_law_some_set" "_law_some_set" s__law_some_set [] [] (He.ga K "_law_some_set") fd__law_some_set := F__law_some_set
  obtain ⟨fd__law_look, F__law_look⟩ := c.t.d.def_ 14 (d := D__law_look) rfl
  replace F__law_look : FunS K "_law_look" "_law_look" s__law_look [] [] (He.ga K "_law_look") fd__law_look := F__law_look
  obtain ⟨fd__law_look_of, F__law_look_of⟩ := c.t.d.def_ 15 (d := D__law_look_of) rfl
  replace F__law_look_of : FunS K "_law_look_of" "_law_look_of" s__law_look_of [] [] (He.ga K "_law_look_of") fd__law_look_of := F__law_look_of
  obtain ⟨fd__law_in, F__law_in⟩ := c.t.d.def_ 16 (d := D__law_in) rfl
  replace F__law_in : FunS K "_law_in" "_law_in" s__law_in [] [] (He.ga K "_law_in") fd__law_in := F__law_in
  obtain ⟨fd__law_same, F__law_same⟩ := c.t.d.def_ 17 (d := D__law_same) rfl
  replace F__law_same : FunS K "_law_same" "_law_same" s__law_same [] [] (He.ga K "_law_same") fd__law_same := F__law_same
  obtain ⟨fd_check_kinds, F_check_kinds⟩ := c.t.d.def_ 18 (d := D_check_kinds) rfl
  replace F_check_kinds : FunS K "check_kinds" "check_kinds" s_check_kinds [] [] (He.ga K "check_kinds") fd_check_kinds := F_check_kinds
  obtain ⟨fd_check_glass, F_check_glass⟩ := c.t.d.def_ 19 (d := D_check_glass) rfl
  replace F_check_glass : FunS K "check_glass" "check_glass" s_check_glass [] [] (He.ga K "check_glass") fd_check_glass := F_check_glass
  obtain ⟨fd_class_count, F_class_count⟩ := c.t.d.def_ 20 (d := D_class_count) rfl
  replace F_class_count : FunS K "class_count" "class_count" s_class_count [] [] (He.ga K "class_count") fd_class_count := F_class_count
  obtain ⟨fd_check_count, F_check_count⟩ := c.t.d.def_ 21 (d := D_check_count) rfl
  replace F_check_count : FunS K "check_count" "check_count" s_check_count [] [] (He.ga K "check_count") fd_check_count := F_check_count
  obtain ⟨fd_is_bag, F_is_bag⟩ := c.t.d.def_ 22 (d := D_is_bag) rfl
  replace F_is_bag : FunS K "is_bag" "is_bag" s_is_bag [] [] (He.ga K "is_bag") fd_is_bag := F_is_bag
  obtain ⟨fd_check_bag, F_check_bag⟩ := c.t.d.def_ 23 (d := D_check_bag) rfl
  replace F_check_bag : FunS K "check_bag" "check_bag" s_check_bag [] [] (He.ga K "check_bag") fd_check_bag := F_check_bag
  obtain ⟨fd_look, F_look⟩ := c.t.d.def_ 24 (d := D_look) rfl
  replace F_look : FunS K "look" "look" s_look [] [] (He.ga K "look") fd_look := F_look
  obtain ⟨fd_look_of, F_look_of⟩ := c.t.d.def_ 25 (d := D_look_of) rfl
  replace F_look_of : FunS K "look_of" "look_of" s_look_of [] [] (He.ga K "look_of") fd_look_of := F_look_of
  obtain ⟨fd_all_looks, F_all_looks⟩ := c.t.d.def_ 26 (d := D_all_looks) rfl
  replace F_all_looks : FunS K "all_looks" "all_looks" s_all_looks [] [] (He.ga K "all_looks") fd_all_looks := F_all_looks
  obtain ⟨fd_divisors, F_divisors⟩ := c.t.d.def_ 27 (d := D_divisors) rfl
  replace F_divisors : FunS K "divisors" "divisors" s_divisors [] [] (He.ga K "divisors") fd_divisors := F_divisors
  obtain ⟨fd_is_seen, F_is_seen⟩ := c.t.d.def_ 28 (d := D_is_seen) rfl
  replace F_is_seen : FunS K "is_seen" "is_seen" s_is_seen [] [] (He.ga K "is_seen") fd_is_seen := F_is_seen
  obtain ⟨fd_least_glass, F_least_glass⟩ := c.t.d.def_ 29 (d := D_least_glass) rfl
  replace F_least_glass : FunS K "least_glass" "least_glass" s_least_glass [] [] (He.ga K "least_glass") fd_least_glass := F_least_glass
  obtain ⟨fd_least_form, F_least_form⟩ := c.t.d.def_ 30 (d := D_least_form) rfl
  replace F_least_form : FunS K "least_form" "least_form" s_least_form [] [] (He.ga K "least_form") fd_least_form := F_least_form
  obtain ⟨fd_BagSet___init__, F_BagSet___init__⟩ := c.t.d.def_ 31 (d := D_BagSet___init__) rfl
  replace F_BagSet___init__ : FunS K "__init__" "BagSet.__init__" s_BagSet___init__ [] [] (He.ma K (He.ga K "BagSet") "__init__") fd_BagSet___init__ := F_BagSet___init__
  obtain ⟨fd_total, F_total⟩ := c.t.d.def_ 32 (d := D_total) rfl
  replace F_total : FunS K "total" "total" s_total [] [] (He.ga K "total") fd_total := F_total
  obtain ⟨fd_ways, F_ways⟩ := c.t.d.def_ 33 (d := D_ways) rfl
  replace F_ways : FunS K "ways" "ways" s_ways [] [] (He.ga K "ways") fd_ways := F_ways
  obtain ⟨fd_BagSet_count, F_BagSet_count⟩ := c.t.d.def_ 34 (d := D_BagSet_count) rfl
  replace F_BagSet_count : FunS K "count" "BagSet.count" s_BagSet_count [] [] (He.ma K (He.ga K "BagSet") "count") fd_BagSet_count := F_BagSet_count
  obtain ⟨fd_kept_ones, F_kept_ones⟩ := c.t.d.def_ 35 (d := D_kept_ones) rfl
  replace F_kept_ones : FunS K "kept_ones" "kept_ones" s_kept_ones [] [] (He.ga K "kept_ones") fd_kept_ones := F_kept_ones
  obtain ⟨fd_BagSet___invert__, F_BagSet___invert__⟩ := c.t.d.def_ 36 (d := D_BagSet___invert__) rfl
  replace F_BagSet___invert__ : FunS K "__invert__" "BagSet.__invert__" s_BagSet___invert__ [] [] (He.ma K (He.ga K "BagSet") "__invert__") fd_BagSet___invert__ := F_BagSet___invert__
  obtain ⟨fd_law, F_law⟩ := c.t.d.def_ 37 (d := D_law) rfl
  replace F_law : FunS K "law" "law" s_law [] [] (He.ga K "law") fd_law := F_law
  obtain ⟨fd_BagSet_everything, F_BagSet_everything⟩ := ca.def_ 0 (d := D_BagSet_everything) rfl
  replace F_BagSet_everything : FunS K "everything" "BagSet.everything" s_BagSet_everything [] [] (He5.wf K (He.ga K "BagSet") "classmethod" "everything") fd_BagSet_everything := F_BagSet_everything
  obtain ⟨fd_BagSet_nothing, F_BagSet_nothing⟩ := ca.def_ 1 (d := D_BagSet_nothing) rfl
  replace F_BagSet_nothing : FunS K "nothing" "BagSet.nothing" s_BagSet_nothing [] [] (He5.wf K (He.ga K "BagSet") "classmethod" "nothing") fd_BagSet_nothing := F_BagSet_nothing
  have g__law_draws := He.glo_ok X G (c.t.d.fact 0 (f := .glo "_law_draws") rfl)
  have g__law_draw := He.glo_ok X G (c.t.d.fact 1 (f := .glo "_law_draw") rfl)
  have g__law_pick := He.glo_ok X G (c.t.d.fact 2 (f := .glo "_law_pick") rfl)
  have g__law_kinds := He.glo_ok X G (c.t.d.fact 3 (f := .glo "_law_kinds") rfl)
  have g__law_few := He.glo_ok X G (c.t.d.fact 4 (f := .glo "_law_few") rfl)
  have g__law_glass := He.glo_ok X G (c.t.d.fact 5 (f := .glo "_law_glass") rfl)
  have g__law_bags := He.glo_ok X G (c.t.d.fact 6 (f := .glo "_law_bags") rfl)
  have g__law_looks := He.glo_ok X G (c.t.d.fact 7 (f := .glo "_law_looks") rfl)
  have g__law_some_looks := He.glo_ok X G (c.t.d.fact 8 (f := .glo "_law_some_looks") rfl)
  have g__law_some_set := He.glo_ok X G (c.t.d.fact 9 (f := .glo "_law_some_set") rfl)
  have g__law_look := He.glo_ok X G (c.t.d.fact 10 (f := .glo "_law_look") rfl)
  have g__law_look_of := He.glo_ok X G (c.t.d.fact 11 (f := .glo "_law_look_of") rfl)
  have g__law_in := He.glo_ok X G (c.t.d.fact 12 (f := .glo "_law_in") rfl)
  have g__law_same := He.glo_ok X G (c.t.d.fact 13 (f := .glo "_law_same") rfl)
  have g_check_kinds := He.glo_ok X G (c.t.d.fact 14 (f := .glo "check_kinds") rfl)
  have g_check_glass := He.glo_ok X G (c.t.d.fact 15 (f := .glo "check_glass") rfl)
  have g_class_count := He.glo_ok X G (c.t.d.fact 16 (f := .glo "class_count") rfl)
  have g_check_count := He.glo_ok X G (c.t.d.fact 17 (f := .glo "check_count") rfl)
  have g_is_bag := He.glo_ok X G (c.t.d.fact 18 (f := .glo "is_bag") rfl)
  have g_check_bag := He.glo_ok X G (c.t.d.fact 19 (f := .glo "check_bag") rfl)
  have g_look := He.glo_ok X G (c.t.d.fact 20 (f := .glo "look") rfl)
  have g_look_of := He.glo_ok X G (c.t.d.fact 21 (f := .glo "look_of") rfl)
  have g_all_looks := He.glo_ok X G (c.t.d.fact 22 (f := .glo "all_looks") rfl)
  have g_divisors := He.glo_ok X G (c.t.d.fact 23 (f := .glo "divisors") rfl)
  have g_is_seen := He.glo_ok X G (c.t.d.fact 24 (f := .glo "is_seen") rfl)
  have g_least_glass := He.glo_ok X G (c.t.d.fact 25 (f := .glo "least_glass") rfl)
  have g_least_form := He.glo_ok X G (c.t.d.fact 26 (f := .glo "least_form") rfl)
  have g_total := He.glo_ok X G (c.t.d.fact 27 (f := .glo "total") rfl)
  have g_ways := He.glo_ok X G (c.t.d.fact 28 (f := .glo "ways") rfl)
  have g_kept_ones := He.glo_ok X G (c.t.d.fact 29 (f := .glo "kept_ones") rfl)
  have g_law := He.glo_ok X G (c.t.d.fact 30 (f := .glo "law") rfl)
  have cls_BagSet := He.cls_ok (c.t.d.fact 31 (f := .cls "BagSet") rfl)
  have noat_BagSet_signs := He.noat_ok (c.t.d.fact 32 (f := .noat "BagSet" "signs") rfl)
  have noat_BagSet_found := He.noat_ok (c.t.d.fact 33 (f := .noat "BagSet" "found") rfl)
  have noat_BagSet_seen_at := He.noat_ok (c.t.d.fact 34 (f := .noat "BagSet" "seen_at") rfl)
  have noat_BagSet_told := He.noat_ok (c.t.d.fact 35 (f := .noat "BagSet" "told") rfl)
  have mkr_BagSet := He.mkr_ok (c.t.d.fact 36 (f := .mkr "BagSet") rfl)
  have g_BagSet := He.glo_ok X G (c.t.d.fact 37 (f := .glo "BagSet") rfl)
  have meth_BagSet_count := He.meth_ok (c.t.d.fact 38 (f := .meth "BagSet" "count") rfl)
  have meth_BagSet___invert__ := He.meth_ok (c.t.d.fact 39 (f := .meth "BagSet" "__invert__") rfl)
  have g_InvalidKinds := He.glo_ok X G (c.t.d.fact 40 (f := .glo "InvalidKinds") rfl)
  have g_InvalidGlass := He.glo_ok X G (c.t.d.fact 41 (f := .glo "InvalidGlass") rfl)
  have g_TooMany := He.glo_ok X G (c.t.d.fact 42 (f := .glo "TooMany") rfl)
  have g_InvalidBag := He.glo_ok X G (c.t.d.fact 43 (f := .glo "InvalidBag") rfl)
  have n_int := He.free_ok X G (c.t.d.fact 44 (f := .free "int") rfl)
  have n_list := He.free_ok X G (c.t.d.fact 45 (f := .free "list") rfl)
  have n_len := He.free_ok X G (c.t.d.fact 46 (f := .free "len") rfl)
  have n_range := He.free_ok X G (c.t.d.fact 47 (f := .free "range") rfl)
  have n_tuple := He.free_ok X G (c.t.d.fact 48 (f := .free "tuple") rfl)
  have n_isinstance := He.free_ok X G (c.t.d.fact 49 (f := .free "isinstance") rfl)
  have n_zip := He.free_ok X G (c.t.d.fact 50 (f := .free "zip") rfl)
  have n_all := He.free_ok X G (c.t.d.fact 51 (f := .free "all") rfl)
  have n_bool := He.free_ok X G (c.t.d.fact 52 (f := .free "bool") rfl)
  have n_str := He.free_ok X G (c.t.d.fact 53 (f := .free "str") rfl)
  have n_set := He.free_ok X G (c.t.d.fact 54 (f := .free "set") rfl)
  have n_sum := He.free_ok X G (c.t.d.fact 55 (f := .free "sum") rfl)
  obtain ⟨tk_LEAST_KINDS, g_LEAST_KINDS⟩ := He.int_ok X G (c.t.d.fact 56 (f := .int "LEAST_KINDS" 2) rfl)
  obtain ⟨tk_MOST_KINDS, g_MOST_KINDS⟩ := He.int_ok X G (c.t.d.fact 57 (f := .int "MOST_KINDS" 4) rfl)
  obtain ⟨tk_SMALL, g_SMALL⟩ := He.str_ok X G (c.t.d.fact 58 (f := .str "SMALL" "abcdefghijklmnopqrstuvwxyz") rfl)
  obtain ⟨tk_MOST_CLASSES, g_MOST_CLASSES⟩ := He.int_ok X G (c.t.d.fact 59 (f := .int "MOST_CLASSES" 2000) rfl)
  have hx : exL K = true := c.more
  simp only [exL, Bool.and_eq_true] at hx
  have xc_InvalidKinds : XclF0 K "InvalidKinds" := xcl0B_ok hx.1.1.1.1.1.1
  have xc_InvalidGlass : XclF0 K "InvalidGlass" := xcl0B_ok hx.1.1.1.1.1.2
  have xc_TooMany : XclF0 K "TooMany" := xcl0B_ok hx.1.1.1.1.2
  have xc_InvalidBag : XclF0 K "InvalidBag" := xcl0B_ok hx.1.1.1.2
  have cread_BagSet := creadB_ok hx.1.1.2
  have cmet_BagSet_everything := cmetB_ok hx.1.2
  have cmet_BagSet_nothing := cmetB_ok hx.2
  refine ⟨fd_law, fun s v => (FunD.bindsA (ps := ["_law_script"]) F_law fun _ _ _ _ _ _ us hl => match us, hl with | [_], _ => rfl) s [v] rfl, fun base KB NB TB => ?_⟩
  generalize hT : ([] : List (Addr × Str)) = T
  have x_InvalidKinds : XCls P w K mg base "InvalidKinds" (He.ga K "InvalidKinds") (He.ma K (He.ga K "InvalidKinds") "__init__") fd_InvalidKinds___init__ "InvalidKinds" [] ["self"] 1 :=
    ⟨xc_InvalidKinds.oex, xc_InvalidKinds.init, xc_InvalidKinds.tyI, init0 F_InvalidKinds___init__ ⟨rfl, rfl, rfl, by decide +kernel, rfl, by decide +kernel, by decide +kernel⟩ (by rfl) xc_InvalidKinds.oex (xc_InvalidKinds.no _ (by decide)) (by rfl), FunS.bd F_InvalidKinds___init__ (fun _ _ _ _ _ _ us hl => match us, hl with | [_], _ => rfl), g_InvalidKinds⟩
  have x_InvalidGlass : XCls P w K mg base "InvalidGlass" (He.ga K "InvalidGlass") (He.ma K (He.ga K "InvalidGlass") "__init__") fd_InvalidGlass___init__ "InvalidGlass" [] ["self"] 1 :=
    ⟨xc_InvalidGlass.oex, xc_InvalidGlass.init, xc_InvalidGlass.tyI, init0 F_InvalidGlass___init__ ⟨rfl, rfl, rfl, by decide +kernel, rfl, by decide +kernel, by decide +kernel⟩ (by rfl) xc_InvalidGlass.oex (xc_InvalidGlass.no _ (by decide)) (by rfl), FunS.bd F_InvalidGlass___init__ (fun _ _ _ _ _ _ us hl => match us, hl with | [_], _ => rfl), g_InvalidGlass⟩
  have x_TooMany : XCls P w K mg base "TooMany" (He.ga K "TooMany") (He.ma K (He.ga K "TooMany") "__init__") fd_TooMany___init__ "TooMany" ["limit"] ["self", "limit"] 1 :=
    ⟨xc_TooMany.oex, xc_TooMany.init, xc_TooMany.tyI, init1 (f1 := "limit") F_TooMany___init__ ⟨rfl, rfl, rfl, by decide +kernel, rfl, by decide +kernel, by decide +kernel⟩ (by rfl) (by rfl) (by decide) (by decide) xc_TooMany.oex (xc_TooMany.no _ (by decide)) (xc_TooMany.no _ (by decide)) (by rfl) (fun _ => rfl), FunS.bd F_TooMany___init__ (fun _ _ _ _ _ _ us hl => match us, hl with | [_, _], _ => rfl), g_TooMany⟩
  have x_InvalidBag : XCls P w K mg base "InvalidBag" (He.ga K "InvalidBag") (He.ma K (He.ga K "InvalidBag") "__init__") fd_InvalidBag___init__ "InvalidBag" [] ["self"] 1 :=
    ⟨xc_InvalidBag.oex, xc_InvalidBag.init, xc_InvalidBag.tyI, init0 F_InvalidBag___init__ ⟨rfl, rfl, rfl, by decide +kernel, rfl, by decide +kernel, by decide +kernel⟩ (by rfl) xc_InvalidBag.oex (xc_InvalidBag.no _ (by decide)) (by rfl), FunS.bd F_InvalidBag___init__ (fun _ _ _ _ _ _ us hl => match us, hl with | [_], _ => rfl), g_InvalidBag⟩
  have fn__law_draws : FnD P w K mg base T 1 (He.ga K "_law_draws") fd__law_draws ["_law_script"] (toSp m__law_draws) := fnM_of (k := 0) F__law_draws sc__law_draws (w__law_draws (j := 0) n_int n_list)
  have c__law_draws : Cal P w K mg base T "_law_draws" 1 (He.ga K "_law_draws") fd__law_draws ["_law_script"] (toSp m__law_draws) := Cal.ofM F__law_draws g__law_draws fn__law_draws (fun _ _ _ _ _ _ us hl => match us, hl with | [_], _ => rfl)
  have fn__law_draw : FnD P w K mg base T 1 (He.ga K "_law_draw") fd__law_draw ["_law_rng", "_law_sides"] (toSp m__law_draw) := fnM_of (k := 0) F__law_draw sc__law_draw (w__law_draw (j := 0) n_len n_int)
  have c__law_draw : Cal P w K mg base T "_law_draw" 1 (He.ga K "_law_draw") fd__law_draw ["_law_rng", "_law_sides"] (toSp m__law_draw) := Cal.ofM F__law_draw g__law_draw fn__law_draw (fun _ _ _ _ _ _ us hl => match us, hl with | [_, _], _ => rfl)
  have fn__law_pick : FnD P w K mg base T 2 (He.ga K "_law_pick") fd__law_pick ["_law_rng", "_law_things"] (toSp m__law_pick) := fnM_of (k := 1) F__law_pick sc__law_pick (w__law_pick (j := 1) c__law_draw (by omega) n_len)
  have c__law_pick : Cal P w K mg base T "_law_pick" 2 (He.ga K "_law_pick") fd__law_pick ["_law_rng", "_law_things"] (toSp m__law_pick) := Cal.ofM F__law_pick g__law_pick fn__law_pick (fun _ _ _ _ _ _ us hl => match us, hl with | [_, _], _ => rfl)
  have fn__law_kinds : FnD P w K mg base T 3 (He.ga K "_law_kinds") fd__law_kinds ["_law_rng", "_law_most"] (toSp m__law_kinds) := fnM_of (k := 2) F__law_kinds sc__law_kinds (w__law_kinds (j := 2) c__law_draw (by omega) c__law_pick (by omega) n_range)
  have c__law_kinds : Cal P w K mg base T "_law_kinds" 3 (He.ga K "_law_kinds") fd__law_kinds ["_law_rng", "_law_most"] (toSp m__law_kinds) := Cal.ofM F__law_kinds g__law_kinds fn__law_kinds (fun _ _ _ _ _ _ us hl => match us, hl with | [_, _], _ => rfl)
  have fn__law_few : FnD P w K mg base T 4 (He.ga K "_law_few") fd__law_few ["_law_rng", "_law_most"] (toSp m__law_few) := fnM_of (k := 3) F__law_few sc__law_few (w__law_few (j := 3) c__law_kinds (by omega) c__law_draw (by omega))
  have c__law_few : Cal P w K mg base T "_law_few" 4 (He.ga K "_law_few") fd__law_few ["_law_rng", "_law_most"] (toSp m__law_few) := Cal.ofM F__law_few g__law_few fn__law_few (fun _ _ _ _ _ _ us hl => match us, hl with | [_, _], _ => rfl)
  have fn__law_glass : FnD P w K mg base T 2 (He.ga K "_law_glass") fd__law_glass ["_law_rng", "_law_kinds_here"] (toSp m__law_glass) := fnM_of (k := 1) F__law_glass sc__law_glass (w__law_glass (j := 1) c__law_draw (by omega) n_len)
  have c__law_glass : Cal P w K mg base T "_law_glass" 2 (He.ga K "_law_glass") fd__law_glass ["_law_rng", "_law_kinds_here"] (toSp m__law_glass) := Cal.ofM F__law_glass g__law_glass fn__law_glass (fun _ _ _ _ _ _ us hl => match us, hl with | [_, _], _ => rfl)
  have fn__law_bags : FnD P w K mg base T 1 (He.ga K "_law_bags") fd__law_bags ["_law_kinds_here", "_law_most"] (toSp m__law_bags) := fnM_ofE (k := 0) F__law_bags sc__law_bags (w__law_bags (j := 0) n_range)
  have c__law_bags : Cal P w K mg base T "_law_bags" 1 (He.ga K "_law_bags") fd__law_bags ["_law_kinds_here", "_law_most"] (toSp m__law_bags) := Cal.ofM F__law_bags g__law_bags fn__law_bags (fun _ _ _ _ _ _ us hl => match us, hl with | [_, _], _ => rfl)
  have fn__law_looks : FnD P w K mg base T 2 (He.ga K "_law_looks") fd__law_looks ["_law_kinds_here", "_law_glass_here"] (toSp m__law_looks) := fnM_of (k := 1) F__law_looks sc__law_looks (w__law_looks (j := 1) c__law_bags (by omega))
  have c__law_looks : Cal P w K mg base T "_law_looks" 2 (He.ga K "_law_looks") fd__law_looks ["_law_kinds_here", "_law_glass_here"] (toSp m__law_looks) := Cal.ofM F__law_looks g__law_looks fn__law_looks (fun _ _ _ _ _ _ us hl => match us, hl with | [_, _], _ => rfl)
  have fn__law_some_looks : FnD P w K mg base T 3 (He.ga K "_law_some_looks") fd__law_some_looks ["_law_rng", "_law_kinds_here", "_law_glass_here"] (toSp m__law_some_looks) := fnM_of (k := 2) F__law_some_looks sc__law_some_looks (w__law_some_looks (j := 2) c__law_pick (by omega) c__law_looks (by omega) c__law_draw (by omega))
  have c__law_some_looks : Cal P w K mg base T "_law_some_looks" 3 (He.ga K "_law_some_looks") fd__law_some_looks ["_law_rng", "_law_kinds_here", "_law_glass_here"] (toSp m__law_some_looks) := Cal.ofM F__law_some_looks g__law_some_looks fn__law_some_looks (fun _ _ _ _ _ _ us hl => match us, hl with | [_, _, _], _ => rfl)
  have fn__law_some_set : FnD P w K mg base T 4 (He.ga K "_law_some_set") fd__law_some_set ["_law_rng", "_law_kinds_here"] (toSp m__law_some_set) := fnM_of (k := 3) F__law_some_set sc__law_some_set (w__law_some_set (j := 3) c__law_glass (by omega) c__law_some_looks (by omega))
  have c__law_some_set : Cal P w K mg base T "_law_some_set" 4 (He.ga K "_law_some_set") fd__law_some_set ["_law_rng", "_law_kinds_here"] (toSp m__law_some_set) := Cal.ofM F__law_some_set g__law_some_set fn__law_some_set (fun _ _ _ _ _ _ us hl => match us, hl with | [_, _], _ => rfl)
  have fn__law_look : FnD P w K mg base T 1 (He.ga K "_law_look") fd__law_look ["_law_number", "_law_glass_here"] (toSp m__law_look) := fnM_of (k := 0) F__law_look sc__law_look (w__law_look (j := 0) n_int)
  have c__law_look : Cal P w K mg base T "_law_look" 1 (He.ga K "_law_look") fd__law_look ["_law_number", "_law_glass_here"] (toSp m__law_look) := Cal.ofM F__law_look g__law_look fn__law_look (fun _ _ _ _ _ _ us hl => match us, hl with | [_, _], _ => rfl)
  have fn__law_look_of : FnD P w K mg base T 2 (He.ga K "_law_look_of") fd__law_look_of ["_law_bag", "_law_glass_here"] (toSp m__law_look_of) := fnM_of (k := 1) F__law_look_of sc__law_look_of (w__law_look_of (j := 1) c__law_look (by omega) n_tuple)
  have c__law_look_of : Cal P w K mg base T "_law_look_of" 2 (He.ga K "_law_look_of") fd__law_look_of ["_law_bag", "_law_glass_here"] (toSp m__law_look_of) := Cal.ofM F__law_look_of g__law_look_of fn__law_look_of (fun _ _ _ _ _ _ us hl => match us, hl with | [_, _], _ => rfl)
  have fn__law_in : FnD P w K mg base T 3 (He.ga K "_law_in") fd__law_in ["_law_told", "_law_bag"] (toSp m__law_in) := fnM_of (k := 2) F__law_in sc__law_in (w__law_in (j := 2) c__law_look_of (by omega))
  have c__law_in : Cal P w K mg base T "_law_in" 3 (He.ga K "_law_in") fd__law_in ["_law_told", "_law_bag"] (toSp m__law_in) := Cal.ofM F__law_in g__law_in fn__law_in (fun _ _ _ _ _ _ us hl => match us, hl with | [_, _], _ => rfl)
  have rc__law_same : ∀ n : Nat, Cal P w K mg base T "_law_same" (0 + n) (He.ga K "_law_same") fd__law_same ["_law_found", "_law_due"] (toSp (r__law_same n)) := by
    intro n
    induction n with
    | zero => exact Cal.ofM F__law_same g__law_same fnM_none (fun _ _ _ _ _ _ us hl => match us, hl with | [_, _], _ => rfl)
    | succ n ih => exact Cal.ofM F__law_same g__law_same (fnM_of (k := 0 + n) F__law_same sc__law_same (w__law_same (j := 0 + n) (ih) (by omega) n_isinstance n_list n_tuple n_len n_zip n_all n_bool n_int n_str)) (fun _ _ _ _ _ _ us hl => match us, hl with | [_, _], _ => rfl)
  have c__law_same : Cal P w K mg base T "_law_same" 8 (He.ga K "_law_same") fd__law_same ["_law_found", "_law_due"] (toSp m__law_same) := rc__law_same 8
  have fn_check_kinds : FnD P w K mg base T 3 (He.ga K "check_kinds") fd_check_kinds ["kinds"] (toSp m_check_kinds) := fnM_of (k := 2) F_check_kinds sc_check_kinds (w_check_kinds (j := 2) x_InvalidKinds (by omega) g_LEAST_KINDS g_MOST_KINDS g_SMALL n_len n_set n_all)
  have c_check_kinds : Cal P w K mg base T "check_kinds" 3 (He.ga K "check_kinds") fd_check_kinds ["kinds"] (toSp m_check_kinds) := Cal.ofM F_check_kinds g_check_kinds fn_check_kinds (fun _ _ _ _ _ _ us hl => match us, hl with | [_], _ => rfl)
  have fn_check_glass : FnD P w K mg base T 3 (He.ga K "check_glass") fd_check_glass ["glass"] (toSp m_check_glass) := fnM_of (k := 2) F_check_glass sc_check_glass (w_check_glass (j := 2) x_InvalidGlass (by omega))
  have c_check_glass : Cal P w K mg base T "check_glass" 3 (He.ga K "check_glass") fd_check_glass ["glass"] (toSp m_check_glass) := Cal.ofM F_check_glass g_check_glass fn_check_glass (fun _ _ _ _ _ _ us hl => match us, hl with | [_], _ => rfl)
  have fn_class_count : FnD P w K mg base T 1 (He.ga K "class_count") fd_class_count ["kinds", "glass"] (toSp m_class_count) := fnM_of (k := 0) F_class_count sc_class_count (w_class_count (j := 0) n_sum)
  have c_class_count : Cal P w K mg base T "class_count" 1 (He.ga K "class_count") fd_class_count ["kinds", "glass"] (toSp m_class_count) := Cal.ofM F_class_count g_class_count fn_class_count (fun _ _ _ _ _ _ us hl => match us, hl with | [_, _], _ => rfl)
  have fn_check_count : FnD P w K mg base T 3 (He.ga K "check_count") fd_check_count ["kinds", "glass", "limit"] (toSp m_check_count) := fnM_of (k := 2) F_check_count sc_check_count (w_check_count (j := 2) c_class_count (by omega) x_TooMany (by omega))
  have c_check_count : Cal P w K mg base T "check_count" 3 (He.ga K "check_count") fd_check_count ["kinds", "glass", "limit"] (toSp m_check_count) := Cal.ofM F_check_count g_check_count fn_check_count (fun _ _ _ _ _ _ us hl => match us, hl with | [_, _, _], _ => rfl)
  have fn_is_bag : FnD P w K mg base T 1 (He.ga K "is_bag") fd_is_bag ["kinds", "bag"] (toSp m_is_bag) := fnM_of (k := 0) F_is_bag sc_is_bag (w_is_bag (j := 0) n_tuple n_isinstance n_len n_int n_bool n_all)
  have c_is_bag : Cal P w K mg base T "is_bag" 1 (He.ga K "is_bag") fd_is_bag ["kinds", "bag"] (toSp m_is_bag) := Cal.ofM F_is_bag g_is_bag fn_is_bag (fun _ _ _ _ _ _ us hl => match us, hl with | [_, _], _ => rfl)
  have fn_check_bag : FnD P w K mg base T 3 (He.ga K "check_bag") fd_check_bag ["kinds", "bag"] (toSp m_check_bag) := fnM_of (k := 2) F_check_bag sc_check_bag (w_check_bag (j := 2) c_is_bag (by omega) x_InvalidBag (by omega))
  have c_check_bag : Cal P w K mg base T "check_bag" 3 (He.ga K "check_bag") fd_check_bag ["kinds", "bag"] (toSp m_check_bag) := Cal.ofM F_check_bag g_check_bag fn_check_bag (fun _ _ _ _ _ _ us hl => match us, hl with | [_, _], _ => rfl)
  have fn_look : FnD P w K mg base T 1 (He.ga K "look") fd_look ["number", "glass"] (toSp m_look) := fnM_of (k := 0) F_look sc_look (w_look (j := 0) )
  have c_look : Cal P w K mg base T "look" 1 (He.ga K "look") fd_look ["number", "glass"] (toSp m_look) := Cal.ofM F_look g_look fn_look (fun _ _ _ _ _ _ us hl => match us, hl with | [_, _], _ => rfl)
  have fn_look_of : FnD P w K mg base T 2 (He.ga K "look_of") fd_look_of ["bag", "glass"] (toSp m_look_of) := fnM_of (k := 1) F_look_of sc_look_of (w_look_of (j := 1) c_look (by omega) n_tuple)
  have c_look_of : Cal P w K mg base T "look_of" 2 (He.ga K "look_of") fd_look_of ["bag", "glass"] (toSp m_look_of) := Cal.ofM F_look_of g_look_of fn_look_of (fun _ _ _ _ _ _ us hl => match us, hl with | [_, _], _ => rfl)
  have fn_all_looks : FnD P w K mg base T 1 (He.ga K "all_looks") fd_all_looks ["kinds", "glass"] (toSp m_all_looks) := fnM_of (k := 0) F_all_looks sc_all_looks (w_all_looks (j := 0) n_range n_sum)
  have c_all_looks : Cal P w K mg base T "all_looks" 1 (He.ga K "all_looks") fd_all_looks ["kinds", "glass"] (toSp m_all_looks) := Cal.ofM F_all_looks g_all_looks fn_all_looks (fun _ _ _ _ _ _ us hl => match us, hl with | [_, _], _ => rfl)
  have fn_divisors : FnD P w K mg base T 1 (He.ga K "divisors") fd_divisors ["number"] (toSp m_divisors) := fnM_of (k := 0) F_divisors sc_divisors (w_divisors (j := 0) n_range)
  have c_divisors : Cal P w K mg base T "divisors" 1 (He.ga K "divisors") fd_divisors ["number"] (toSp m_divisors) := Cal.ofM F_divisors g_divisors fn_divisors (fun _ _ _ _ _ _ us hl => match us, hl with | [_], _ => rfl)
  have fn_is_seen : FnD P w K mg base T 3 (He.ga K "is_seen") fd_is_seen ["told", "every", "glass"] (toSp m_is_seen) := fnM_ofE (k := 2) F_is_seen sc_is_seen (w_is_seen (j := 2) c_look_of (by omega))
  have c_is_seen : Cal P w K mg base T "is_seen" 3 (He.ga K "is_seen") fd_is_seen ["told", "every", "glass"] (toSp m_is_seen) := Cal.ofM F_is_seen g_is_seen fn_is_seen (fun _ _ _ _ _ _ us hl => match us, hl with | [_, _, _], _ => rfl)
  have fn_least_glass : FnD P w K mg base T 4 (He.ga K "least_glass") fd_least_glass ["kinds", "glass", "told"] (toSp m_least_glass) := fnM_of (k := 3) F_least_glass sc_least_glass (w_least_glass (j := 3) c_all_looks (by omega) c_divisors (by omega) c_is_seen (by omega))
  have c_least_glass : Cal P w K mg base T "least_glass" 4 (He.ga K "least_glass") fd_least_glass ["kinds", "glass", "told"] (toSp m_least_glass) := Cal.ofM F_least_glass g_least_glass fn_least_glass (fun _ _ _ _ _ _ us hl => match us, hl with | [_, _, _], _ => rfl)
  have fn_least_form : FnD P w K mg base T 5 (He.ga K "least_form") fd_least_form ["kinds", "glass", "found"] (toSp m_least_form) := fnM_ofE (k := 4) F_least_form sc_least_form (w_least_form (j := 4) c_least_glass (by omega) c_all_looks (by omega))
  have c_least_form : Cal P w K mg base T "least_form" 5 (He.ga K "least_form") fd_least_form ["kinds", "glass", "found"] (toSp m_least_form) := Cal.ofM F_least_form g_least_form fn_least_form (fun _ _ _ _ _ _ us hl => match us, hl with | [_, _, _], _ => rfl)
  have pt_signs : PTab P w K mg base T 0 "signs" ["BagSet"] [] := (PTab.fld cls_BagSet noat_BagSet_signs PTab.nil)
  have pt_found : PTab P w K mg base T 0 "found" ["BagSet"] [] := (PTab.fld cls_BagSet noat_BagSet_found PTab.nil)
  have pt_seen_at : PTab P w K mg base T 0 "seen_at" ["BagSet"] [] := (PTab.fld cls_BagSet noat_BagSet_seen_at PTab.nil)
  have pt_told : PTab P w K mg base T 0 "told" ["BagSet"] [] := (PTab.fld cls_BagSet noat_BagSet_told PTab.nil)
  have fn_BagSet___init__ : FnD P w K mg base T 6 (He.ma K (He.ga K "BagSet") "__init__") fd_BagSet___init__ ["self", "kinds", "glass", "looks"] (toSp m_BagSet___init__) := fnM_of (k := 5) F_BagSet___init__ sc_BagSet___init__ (w_BagSet___init__ (j := 5) c_check_kinds (by omega) c_check_glass (by omega) c_check_count (by omega) c_check_bag (by omega) c_look_of (by omega) c_least_form (by omega) pt_signs (by omega) pt_found (by omega) pt_seen_at (by omega) pt_told (by omega) x_InvalidBag (by omega) g_MOST_CLASSES)
  have kc_BagSet___init___4 : KC P w K mg base T 6 (He.ma K (He.ga K "BagSet") "__init__") [] q_BagSet___init___4 := KC.of (n := 4) (ix := [0, 1, 2, 3]) (dfl := []) fn_BagSet___init__ (FunS.kbn F_BagSet___init__ fun _ _ _ _ _ _ us ws h1 h2 => match us, ws, h1, h2 with | [_, _, _, _], [], _, _ => rfl) (by decide) rfl
  have fn_total : FnD P w K mg base T 1 (He.ga K "total") fd_total ["bag"] (toSp m_total) := fnM_of (k := 0) F_total sc_total (w_total (j := 0) n_sum)
  have c_total : Cal P w K mg base T "total" 1 (He.ga K "total") fd_total ["bag"] (toSp m_total) := Cal.ofM F_total g_total fn_total (fun _ _ _ _ _ _ us hl => match us, hl with | [_], _ => rfl)
  have fn_ways : FnD P w K mg base T 1 (He.ga K "ways") fd_ways ["many", "size"] (toSp m_ways) := fnM_of (k := 0) F_ways sc_ways (w_ways (j := 0) n_int n_range)
  have c_ways : Cal P w K mg base T "ways" 1 (He.ga K "ways") fd_ways ["many", "size"] (toSp m_ways) := Cal.ofM F_ways g_ways fn_ways (fun _ _ _ _ _ _ us hl => match us, hl with | [_, _], _ => rfl)
  have fn_BagSet_count : FnD P w K mg base T 2 (He.ma K (He.ga K "BagSet") "count") fd_BagSet_count ["self", "size"] (toSp m_BagSet_count) := fnM_of (k := 1) F_BagSet_count sc_BagSet_count (w_BagSet_count (j := 1) c_total (by omega) c_ways (by omega) pt_seen_at (by omega) pt_found (by omega) n_len)
  have kc_BagSet_count_2 : KC P w K mg base T 2 (He.ma K (He.ga K "BagSet") "count") [] q_BagSet_count_2 := KC.of (n := 2) (ix := [0, 1]) (dfl := []) fn_BagSet_count (FunS.kbn F_BagSet_count fun _ _ _ _ _ _ us ws h1 h2 => match us, ws, h1, h2 with | [_, _], [], _, _ => rfl) (by decide) rfl
  have fn_kept_ones : FnD P w K mg base T 1 (He.ga K "kept_ones") fd_kept_ones ["bags", "others", "wanted"] (toSp m_kept_ones) := fnM_ofE (k := 0) F_kept_ones sc_kept_ones (w_kept_ones (j := 0) )
  have c_kept_ones : Cal P w K mg base T "kept_ones" 1 (He.ga K "kept_ones") fd_kept_ones ["bags", "others", "wanted"] (toSp m_kept_ones) := Cal.ofM F_kept_ones g_kept_ones fn_kept_ones (fun _ _ _ _ _ _ us hl => match us, hl with | [_, _, _], _ => rfl)
  have mk_BagSet___init___4 : MkC P w K mg base T 6 "BagSet" [] q_BagSet___init___4 := ⟨⟨_, mkr_BagSet, kc_BagSet___init___4⟩, g_BagSet⟩
  have fn_BagSet___invert__ : FnD P w K mg base T 8 (He.ma K (He.ga K "BagSet") "__invert__") fd_BagSet___invert__ ["self"] (toSp m_BagSet___invert__) := fnM_of (k := 7) F_BagSet___invert__ sc_BagSet___invert__ (w_BagSet___invert__ (j := 7) c_all_looks (by omega) c_kept_ones (by omega) pt_seen_at (by omega) pt_signs (by omega) pt_found (by omega) mk_BagSet___init___4 (by omega))
  have kc_BagSet___invert___1 : KC P w K mg base T 8 (He.ma K (He.ga K "BagSet") "__invert__") [] q_BagSet___invert___1 := KC.of (n := 1) (ix := [0]) (dfl := []) fn_BagSet___invert__ (FunS.kbn F_BagSet___invert__ fun _ _ _ _ _ _ us ws h1 h2 => match us, ws, h1, h2 with | [_], [], _, _ => rfl) (by decide) rfl
  have fn_BagSet_everything : FnD P w K mg base T 8 (He5.wf K (He.ga K "BagSet") "classmethod" "everything") fd_BagSet_everything ["cls", "kinds"] (toSp m_BagSet_everything) := fnM_of (k := 7) F_BagSet_everything sc_BagSet_everything (w_BagSet_everything (j := 7) c_check_kinds (by omega) mk_BagSet___init___4 (by omega) n_len)
  have kc_BagSet_everything_2 : KC P w K mg base T 8 (He5.wf K (He.ga K "BagSet") "classmethod" "everything") [] q_BagSet_everything_2 := KC.of (n := 2) (ix := [0, 1]) (dfl := []) fn_BagSet_everything (FunS.kbn F_BagSet_everything fun _ _ _ _ _ _ us ws h1 h2 => match us, ws, h1, h2 with | [_, _], [], _, _ => rfl) (by decide) rfl
  have fn_BagSet_nothing : FnD P w K mg base T 8 (He5.wf K (He.ga K "BagSet") "classmethod" "nothing") fd_BagSet_nothing ["cls", "kinds"] (toSp m_BagSet_nothing) := fnM_of (k := 7) F_BagSet_nothing sc_BagSet_nothing (w_BagSet_nothing (j := 7) mk_BagSet___init___4 (by omega))
  have kc_BagSet_nothing_2 : KC P w K mg base T 8 (He5.wf K (He.ga K "BagSet") "classmethod" "nothing") [] q_BagSet_nothing_2 := KC.of (n := 2) (ix := [0, 1]) (dfl := []) fn_BagSet_nothing (FunS.kbn F_BagSet_nothing fun _ _ _ _ _ _ us ws h1 h2 => match us, ws, h1, h2 with | [_, _], [], _, _ => rfl) (by decide) rfl
  have mt_count_2 : MTab P w K mg base T 2 "count" [] [("BagSet", q_BagSet_count_2)] := (MTab.cons cls_BagSet meth_BagSet_count kc_BagSet_count_2 (by decide) MTab.nil)
  have sp___invert__ : STab P w K mg base T 8 "__invert__" [("BagSet", q_BagSet___invert___1)] := (STab.cons meth_BagSet___invert__.at_ meth_BagSet___invert__.fn kc_BagSet___invert___1 (by decide) STab.nil)
  have cm_BagSet_everything_2 : CmC P w K mg base T 8 "BagSet" "everything" [] q_BagSet_everything_2 := ⟨⟨_, _, cread_BagSet, cmet_BagSet_everything, kc_BagSet_everything_2⟩, g_BagSet⟩
  have cm_BagSet_nothing_2 : CmC P w K mg base T 8 "BagSet" "nothing" [] q_BagSet_nothing_2 := ⟨⟨_, _, cread_BagSet, cmet_BagSet_nothing, kc_BagSet_nothing_2⟩, g_BagSet⟩
  exact fnM_of (k := 9) F_law sc_law (w_law (j := 9) c__law_draws (by omega) c__law_few (by omega) c__law_some_set (by omega) c__law_draw (by omega) c__law_bags (by omega) c__law_in (by omega) c__law_same (by omega) mk_BagSet___init___4 (by omega) mt_count_2 (by omega) sp___invert__ (by omega) cm_BagSet_everything_2 (by omega) cm_BagSet_nothing_2 (by omega) n_range n_len n_sum)
end DL
open PySem PySem.W PySem.Calls PyProof.Rows
theorem PySem.Challenge.cw_bagturns_k16_totals_of_sets_counted_holds : PySem.Challenge.rw_bagturns_k16_totals_of_sets_counted.Holds := by
  w_on; o_law
  refine HandSHeadRun.head_any (r := OpenLaw.row PySem.Challenge.rw_bagturns_k16_totals_of_sets_counted) (q := view (OpenLaw.row PySem.Challenge.rw_bagturns_k16_totals_of_sets_counted).prog [55]) (H := DL.hkL) (ob := DL.obL) (M := 9000) (loose := DL.looseL) (d := HandSHeadRun.topDef (OpenLaw.row PySem.Challenge.rw_bagturns_k16_totals_of_sets_counted).prog 55) (kwd := []) DL.obL_eq
    (by kernel_rfl) (fun s => by kernel_rfl) DL.runL (by kernel_rfl) (by kernel_rfl) (by kernel_rfl) (by rfl) (by first | assumption | decide +kernel) (by decide +kernel) ⟨rfl, rfl, rfl, rfl, rfl, by decide +kernel⟩ ?hw ?hc
  case hw => w_witness2
  case hc =>
    refine LamX.walk_ofTsE (l := PySem.Challenge.rw_bagturns_k16_totals_of_sets_counted) (n := 63) (k := 10) (x := "_law_script") (CX := fun w => L2.CX (PySem.Challenge.rw_bagturns_k16_totals_of_sets_counted).prog w) rfl (by decide) (by kernel_rfl) ⟨rfl, by decide, by decide⟩ ?F (fun w H s e s' ⟨_, _, _, _, _, _, _, _, _, _, _, _, z⟩ => z)
    intro w mg fa h Y G hmg0
    obtain ⟨K, KX, c⟩ := Y
    have hmg : mg ("law" : PySem.Str) = some (.ref fa) := by
      have e : (HandSHeadRun.topDef (OpenLaw.row PySem.Challenge.rw_bagturns_k16_totals_of_sets_counted).prog 55).name = ("law" : PySem.Str) := by kernel_rfl
      rw [← e]
      exact hmg0
    obtain ⟨fd, hb, hF⟩ := DL.facts (P := (PySem.Challenge.rw_bagturns_k16_totals_of_sets_counted).prog) (w := w) KX G c
    have eg := hmg.symm.trans (He.glo_ok KX G (c.x.t.d.fact 30 (f := .glo "law") rfl))
    cases eg
    refine ⟨K, KX, fd, [], _, fun p hp => ?_, fun p hp => ?_, fun p hp => ?_, hb, fun H a ns hl hbits hT hS => ?_, hF⟩
    · exact absurd hp (by simp)
    · exact absurd hp (by simp)
    · exact absurd hp (by simp)
    · exact DL.law_start (fun p hp => by cases hp) hl hT hS

