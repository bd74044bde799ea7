import PyProof.Rows.All
import Wide.All
import OpenK.AllK
import Wide.FinOn
import HandS.ForMost
import HandS.ForExc
import HandS.CallSlots
import HandS.Lambda
import HandS.Defaults
import HandS.Deep
import HandS.TupAny
import HandS.TupMul
import HandS.Wide
import HandS.IsInst
import HandS.SortInts
import HandS.Zip
import HandS.ExcInit
import HandS.ExcField
import HandS.HotCalls
import HandS.EndTab
import HandS.HeadWalk
import HandS.HeadHook4
import HandS.Head2
import HandS.Head0
import HandS.Head1
import HandS.HeadEnd
import HandS.HeadHook1
import HandS.HeadHook2
import HandS.HeadHook3
import PySem.Challenge.RW_bagturns_k08_looks_of_numbers_and_bags
set_option Elab.async false
set_option linter.all false
set_option maxRecDepth 100000
set_option maxHeartbeats 0
/-! The D layer, over HandS: values as plain data. -/
namespace DL
open PySem PySem.Spec PyProof.Rows L2

/-- plain data; .ref n: the n-th thing of the store (what may be changed); .adr a: a def or class of the top -/
inductive D where
  | non | bl (b : Bool) | int (i : Int) | str (x : Str)
  | tup (ds : List D) | lst (ds : List D) | fz (ds : List D)
  | obj (C : Addr) (ns : List Str) (ds : List D)
  | ref (n : Nat) | adr (a : Addr) | ty (n : String)

/-- ps: where the store's things stand; hs: what is under making and not to be leaned upon -/
structure Gh where
  ps : List Addr
  hs : List Addr
def Gh.off (g : Gh) (a : Addr) : Prop := a ∈ g.ps ∨ a ∈ g.hs

def WrT (K : PySem.W.Frag) (a : Addr) (xs : List V) : Prop :=
  ∃ (o : Obj) (its : Array Value) (n : Nat), K.lookup a = some o ∧ o.cls = .type "tuple" ∧ o.data = .seq its n ∧ its.size ≤ sizeLine ∧ Vals xs its.toList
def WrL (K : PySem.W.Frag) (a : Addr) (xs : List V) : Prop :=
  ∃ (o : Obj) (its : Array Value) (n : Nat), K.lookup a = some o ∧ o.cls = .type "list" ∧ o.dict = none ∧ o.data = .seq its n ∧ its.size ≤ sizeLine ∧ Vals xs its.toList
mutual
def Rep (K : PySem.W.Frag) (g : Gh) (H : Hp) : D → V → Prop
  | .non, v => v = .non
  | .bl b, v => v = .bl b
  | .int i, v => v = .int i
  | .str x, v => v = .str x
  | .tup ds, v => ∃ a vs, v = .ref a ∧ ((Rd H a (.tup vs) ∧ ¬ g.off a) ∨ WrT K a vs) ∧ Reps K g H ds vs
  | .lst ds, v => ∃ a vs, v = .ref a ∧ (H a = some (.lst vs) ∧ ¬ g.off a) ∧ Reps K g H ds vs
  | .fz ds, v => ∃ a vs, v = .ref a ∧ ((Rd H a (.lst vs) ∧ ¬ g.off a) ∨ WrL K a vs) ∧ Reps K g H ds vs
  | .obj C ns ds, v => ∃ a dx vs, v = .ref a ∧ (H a = some (.ins C dx (ns.zip vs)) ∧ ¬ g.off a ∧ ns.length = vs.length) ∧ Reps K g H ds vs
  | .ref n, v => ∃ a, v = .ref a ∧ g.ps[n]? = some a
  | .adr a, v => v = .ref a
  | .ty n, v => v = .ty n
def Reps (K : PySem.W.Frag) (g : Gh) (H : Hp) : List D → List V → Prop
  | [], vs => vs = []
  | d :: ds, vs => ∃ v r, vs = v :: r ∧ Rep K g H d v ∧ Reps K g H ds r
end

/-- no table -/
def NT (o : HO) : Prop := ∀ t, o ≠ .tbl t
/-- from g, H to g', H': all that is not the store's stands, the store may have grown -/
structure Ext (g : Gh) (H : Hp) (g' : Gh) (H' : Hp) : Prop where
  keep : ∀ a o, H a = some o → a ∉ g.ps → (∀ t, o ≠ .tbl t) → H' a = some o
  there : ∀ a o, H a = some o → NT o → ∃ o', H' a = some o' ∧ NT o'
  ps : ∃ new, g'.ps = g.ps ++ new ∧ ∀ a ∈ new, ∀ o, H a = some o → ¬ NT o
  hs : g'.hs = g.hs

theorem Ext.refl (g : Gh) (H : Hp) : Ext g H g H := ⟨fun _ _ h _ _ => h, fun _ o h n => ⟨o, h, n⟩, ⟨[], by simp, by simp⟩, rfl⟩
theorem Ext.trans {g g1 g2 : Gh} {H H1 H2 : Hp} (a : Ext g H g1 H1) (b : Ext g1 H1 g2 H2) : Ext g H g2 H2 := by
  obtain ⟨n1, e1, f1⟩ := a.ps
  obtain ⟨n2, e2, f2⟩ := b.ps
  refine ⟨fun x o h hp ht => ?_, fun x o h n => ?_, ⟨n1 ++ n2, by rw [e2, e1, List.append_assoc], fun x hx o h n => ?_⟩, b.hs.trans a.hs⟩
  · refine b.keep x o (a.keep x o h hp ht) (fun z => ?_) ht
    rw [e1] at z
    rcases List.mem_append.mp z with z | z
    · exact hp z
    · exact f1 x z o h ht
  · obtain ⟨o1, h1, m1⟩ := a.there x o h n
    exact b.there x o1 h1 m1
  · rcases List.mem_append.mp hx with z | z
    · exact f1 x z o h n
    · obtain ⟨o1, h1, m1⟩ := a.there x o h n
      exact f2 x z o1 h1 m1
/-- nothing but new things -/
theorem Ext.same {g : Gh} {H H' : Hp} (s : Same H H') : Ext g H g H' := ⟨fun a o h _ _ => s a o h, fun a o h n => ⟨o, s a o h, n⟩, ⟨[], by simp, by simp⟩, rfl⟩
theorem Ext.off {g g' : Gh} {H H' : Hp} (x : Ext g H g' H') {a : Addr} {o : HO} (h : H a = some o) (nt : NT o) (n : ¬ g.off a) : ¬ g'.off a := by
  obtain ⟨new, e, f⟩ := x.ps
  rintro (z | z)
  · rw [e] at z
    rcases List.mem_append.mp z with z | z
    · exact n (.inl z)
    · exact f a z o h nt
  · rw [x.hs] at z
    exact n (.inr z)
/-- what a thing that stands still needs: it stands, and is leaned upon still -/
structure Ex0 (g : Gh) (H : Hp) (g' : Gh) (H' : Hp) : Prop where
  keep : ∀ a o, H a = some o → ¬ g.off a → (∀ t, o ≠ .tbl t) → H' a = some o ∧ ¬ g'.off a
  ps : ∃ new, g'.ps = g.ps ++ new
theorem Ex0.rd {g g' : Gh} {H H' : Hp} (x : Ex0 g H g' H') {a : Addr} {u : HO} (hu : ∀ t, u ≠ .tbl t) (h : Rd H a u ∧ ¬ g.off a) : Rd H' a u ∧ ¬ g'.off a := by
  obtain ⟨h, n⟩ := h
  rcases h with h | ⟨o, h⟩
  · exact ⟨.inl (x.keep a _ h n hu).1, (x.keep a _ h n hu).2⟩
  · exact ⟨.inr ⟨o, (x.keep a _ h n (fun _ => nofun)).1⟩, (x.keep a _ h n (fun _ => nofun)).2⟩
theorem Ext.ex0 {g g' : Gh} {H H' : Hp} (x : Ext g H g' H') : Ex0 g H g' H' :=
  ⟨fun a o h n ht => ⟨x.keep a o h (fun z => n (.inl z)) ht, x.off h ht n⟩, let ⟨new, e, _⟩ := x.ps; ⟨new, e⟩⟩
theorem Ex0.refl (g : Gh) (H : Hp) : Ex0 g H g H := ⟨fun _ _ h n _ => ⟨h, n⟩, ⟨[], by simp⟩⟩
theorem Ex0.trans {g g1 g2 : Gh} {H H1 H2 : Hp} (a : Ex0 g H g1 H1) (b : Ex0 g1 H1 g2 H2) : Ex0 g H g2 H2 := by
  obtain ⟨n1, e1⟩ := a.ps
  obtain ⟨n2, e2⟩ := b.ps
  exact ⟨fun x o h n t => b.keep x o (a.keep x o h n t).1 (a.keep x o h n t).2 t, ⟨n1 ++ n2, by rw [e2, e1, List.append_assoc]⟩⟩
mutual
theorem Rep.ex0 {K : PySem.W.Frag} {g g' : Gh} {H H' : Hp} (x : Ex0 g H g' H') : ∀ (d : D) (v : V), Rep K g H d v → Rep K g' H' d v
  | .non, _, h => h
  | .bl _, _, h => h
  | .int _, _, h => h
  | .str _, _, h => h
  | .tup ds, _, ⟨a, vs, e, h, r⟩ => ⟨a, vs, e, h.elim (fun h => .inl (x.rd (fun _ => nofun) h)) .inr, Reps.ex0 x ds vs r⟩
  | .lst ds, _, ⟨a, vs, e, h, r⟩ => ⟨a, vs, e, x.keep a _ h.1 h.2 (fun _ => nofun), Reps.ex0 x ds vs r⟩
  | .fz ds, _, ⟨a, vs, e, h, r⟩ => ⟨a, vs, e, h.elim (fun h => .inl (x.rd (fun _ => nofun) h)) .inr, Reps.ex0 x ds vs r⟩
  | .obj _ _ ds, _, ⟨a, dx, vs, e, ⟨h, n, l⟩, r⟩ => ⟨a, dx, vs, e, ⟨(x.keep a _ h n (fun _ => nofun)).1, (x.keep a _ h n (fun _ => nofun)).2, l⟩, Reps.ex0 x ds vs r⟩
  | .ref n, _, ⟨a, e, h⟩ => by
    obtain ⟨new, q⟩ := x.ps
    exact ⟨a, e, by rw [q, List.getElem?_append_left (List.getElem?_eq_some_iff.mp h).1]; exact h⟩
  | .adr _, _, h => h
  | .ty _, _, h => h
theorem Reps.ex0 {K : PySem.W.Frag} {g g' : Gh} {H H' : Hp} (x : Ex0 g H g' H') : ∀ (ds : List D) (vs : List V), Reps K g H ds vs → Reps K g' H' ds vs
  | [], _, h => h
  | d :: ds, _, ⟨v, r, e, h, hr⟩ => ⟨v, r, e, Rep.ex0 x d v h, Reps.ex0 x ds r hr⟩
end
theorem Rep.ext {K : PySem.W.Frag} {g g' : Gh} {H H' : Hp} (x : Ext g H g' H') (d : D) (v : V) (h : Rep K g H d v) : Rep K g' H' d v := Rep.ex0 x.ex0 d v h
theorem Reps.ext {K : PySem.W.Frag} {g g' : Gh} {H H' : Hp} (x : Ext g H g' H') (ds : List D) (vs : List V) (h : Reps K g H ds vs) : Reps K g' H' ds vs := Reps.ex0 x.ex0 ds vs h
/-- a thing of the store is written -/
theorem Ex0.wr {g : Gh} {H H' : Hp} (x : ∀ b, ¬ g.off b → H' b = H b) : Ex0 g H g H' := ⟨fun a o h n _ => ⟨(x a n).trans h, n⟩, ⟨[], by simp⟩⟩
theorem Rep.wr {K : PySem.W.Frag} {g : Gh} {H H' : Hp} (x : ∀ b, ¬ g.off b → H' b = H b) (d : D) (v : V) (h : Rep K g H d v) : Rep K g H' d v := Rep.ex0 (Ex0.wr x) d v h
theorem Reps.wr {K : PySem.W.Frag} {g : Gh} {H H' : Hp} (x : ∀ b, ¬ g.off b → H' b = H b) (ds : List D) (vs : List V) (h : Reps K g H ds vs) : Reps K g H' ds vs := Reps.ex0 (Ex0.wr x) ds vs h
/-- what is hidden changes, the store's places stay -/
theorem Ex0.hid {g g' : Gh} {H : Hp} (hp : g'.ps = g.ps) (x : ∀ b o, H b = some o → ¬ g.off b → ¬ g'.off b) : Ex0 g H g' H := ⟨fun a o h n _ => ⟨h, x a o h n⟩, ⟨[], by simp [hp]⟩⟩
theorem Rep.hid {K : PySem.W.Frag} {g g' : Gh} {H : Hp} (hp : g'.ps = g.ps) (x : ∀ b o, H b = some o → ¬ g.off b → ¬ g'.off b) (d : D) (v : V) (h : Rep K g H d v) : Rep K g' H d v := Rep.ex0 (Ex0.hid hp x) d v h
theorem Reps.hid {K : PySem.W.Frag} {g g' : Gh} {H : Hp} (hp : g'.ps = g.ps) (x : ∀ b o, H b = some o → ¬ g.off b → ¬ g'.off b) (ds : List D) (vs : List V) (h : Reps K g H ds vs) : Reps K g' H ds vs := Reps.ex0 (Ex0.hid hp x) ds vs h
theorem Reps.length {K : PySem.W.Frag} {g : Gh} {H : Hp} : ∀ {ds : List D} {vs : List V}, Reps K g H ds vs → ds.length = vs.length
  | [], _, h => by cases h; rfl
  | d :: ds, _, ⟨v, r, e, h, hr⟩ => by subst e; simp [Reps.length hr]
theorem Reps.get {K : PySem.W.Frag} {g : Gh} {H : Hp} : ∀ {ds : List D} {vs : List V} {i : Nat} {d : D}, Reps K g H ds vs → ds[i]? = some d → ∃ v, vs[i]? = some v ∧ Rep K g H d v
  | [], _, _, _, _, e => by simp at e
  | d :: ds, _, 0, _, ⟨v, r, e, h, hr⟩, q => by subst e; simp at q; subst q; exact ⟨v, rfl, h⟩
  | d :: ds, _, i + 1, _, ⟨v, r, e, h, hr⟩, q => by subst e; exact Reps.get (i := i) hr (by simpa using q)
theorem Reps.getV {K : PySem.W.Frag} {g : Gh} {H : Hp} : ∀ {ds : List D} {vs : List V} {i : Nat} {v : V}, Reps K g H ds vs → vs[i]? = some v → ∃ d, ds[i]? = some d ∧ Rep K g H d v
  | [], _, _, _, h, e => by cases h; simp at e
  | d :: ds, _, 0, _, ⟨v, r, e, h, hr⟩, q => by subst e; simp at q; subst q; exact ⟨d, rfl, h⟩
  | d :: ds, _, i + 1, _, ⟨v, r, e, h, hr⟩, q => by subst e; exact Reps.getV (i := i) hr (by simpa using q)
theorem Reps.append {K : PySem.W.Frag} {g : Gh} {H : Hp} : ∀ {ds es : List D} {vs us : List V}, Reps K g H ds vs → Reps K g H es us → Reps K g H (ds ++ es) (vs ++ us)
  | [], _, _, _, h, q => by cases h; exact q
  | d :: ds, _, _, _, ⟨v, r, e, h, hr⟩, q => by subst e; exact ⟨v, _, rfl, h, Reps.append hr q⟩
theorem Reps.take {K : PySem.W.Frag} {g : Gh} {H : Hp} : ∀ {ds : List D} {vs : List V} (n : Nat), Reps K g H ds vs → Reps K g H (ds.take n) (vs.take n)
  | _, _, 0, _ => by simp [Reps]
  | [], _, n + 1, h => by cases h; simp [Reps]
  | d :: ds, _, n + 1, ⟨v, r, e, h, hr⟩ => by subst e; exact ⟨v, _, rfl, h, Reps.take n hr⟩
theorem Reps.drop {K : PySem.W.Frag} {g : Gh} {H : Hp} : ∀ {ds : List D} {vs : List V} (n : Nat), Reps K g H ds vs → Reps K g H (ds.drop n) (vs.drop n)
  | _, _, 0, h => h
  | [], _, n + 1, h => by cases h; simp [Reps]
  | d :: ds, _, n + 1, ⟨v, r, e, h, hr⟩ => by subst e; exact Reps.drop n hr
theorem Reps.set {K : PySem.W.Frag} {g : Gh} {H : Hp} {x : D} {y : V} (q : Rep K g H x y) : ∀ {ds : List D} {vs : List V} (i : Nat), Reps K g H ds vs → Reps K g H (ds.set i x) (vs.set i y)
  | [], _, _, h => by cases h; simp [Reps]
  | d :: ds, _, 0, ⟨v, r, e, h, hr⟩ => by subst e; exact ⟨y, _, rfl, q, hr⟩
  | d :: ds, _, i + 1, ⟨v, r, e, h, hr⟩ => by subst e; exact ⟨v, _, rfl, h, Reps.set q i hr⟩
theorem Reps.one {K : PySem.W.Frag} {g : Gh} {H : Hp} {x : D} {y : V} (q : Rep K g H x y) : Reps K g H [x] [y] := ⟨y, [], rfl, q, rfl⟩
theorem Reps.ints {K : PySem.W.Frag} {g : Gh} {H : Hp} : ∀ {ns : List Int} {vs : List V}, Reps K g H (ns.map D.int) vs → vs = ns.map V.int
  | [], _, h => h
  | n :: ns, _, ⟨v, r, e, h, hr⟩ => by
    have h' : v = .int n := h
    subst e h'
    rw [Reps.ints hr]; rfl
theorem Reps.ofInts {K : PySem.W.Frag} {g : Gh} {H : Hp} : ∀ (ns : List Int), Reps K g H (ns.map D.int) (ns.map V.int)
  | [] => rfl
  | n :: ns => ⟨_, _, rfl, rfl, Reps.ofInts ns⟩

/-! ### the store -/
inductive O where
  | lst (ds : List D)
  | dK (kvs : List (Key × D))
  | dT (kvs : List (List Key × D))
  | ins (C : Addr) (ns : List Str) (ds : List D)
abbrev Store := List O
def ORep (K : PySem.W.Frag) (g : Gh) (H : Hp) (a : Addr) : O → Prop
  | .lst ds => ∃ vs, H a = some (.lst vs) ∧ Reps K g H ds vs
  | .dK kvs => ∃ vs, H a = some (.dK ((kvs.map (·.1)).zip vs)) ∧ Reps K g H (kvs.map (·.2)) vs
  | .dT kvs => ∃ vs, H a = some (.dT ((kvs.map (·.1)).zip vs)) ∧ Reps K g H (kvs.map (·.2)) vs
  | .ins C ns ds => ∃ dx vs, H a = some (.ins C dx (ns.zip vs)) ∧ ns.length = vs.length ∧ Reps K g H ds vs
structure GoodS (K : PySem.W.Frag) (T : List (Addr × Str)) (g : Gh) (S : Store) (H : Hp) : Prop where
  len : g.ps.length = S.length
  nd : (g.ps ++ g.hs).Nodup
  st : ∀ (n : Nat) a o, g.ps[n]? = some a → S[n]? = some o → ORep K g H a o
  hid : ∀ p ∈ g.hs, ∃ o, H p = some o ∧ NT o
  tabs : LamX.Tabs T H
theorem ORep.same {K : PySem.W.Frag} {g : Gh} {H H' : Hp} (s : Same H H') {a : Addr} : ∀ {o : O}, ORep K g H a o → ORep K g H' a o
  | .lst _, ⟨vs, h, r⟩ => ⟨vs, s _ _ h, Reps.ext (Ext.same s) _ _ r⟩
  | .dK _, ⟨vs, h, r⟩ => ⟨vs, s _ _ h, Reps.ext (Ext.same s) _ _ r⟩
  | .dT _, ⟨vs, h, r⟩ => ⟨vs, s _ _ h, Reps.ext (Ext.same s) _ _ r⟩
  | .ins _ _ _, ⟨dx, vs, h, l, r⟩ => ⟨dx, vs, s _ _ h, l, Reps.ext (Ext.same s) _ _ r⟩
theorem GoodS.same {K : PySem.W.Frag} {T : List (Addr × Str)} {g : Gh} {S : Store} {H H' : Hp} (x : GoodS K T g S H) (s : Same H H') : GoodS K T g S H' :=
  ⟨x.len, x.nd, fun n a o h1 h2 => (x.st n a o h1 h2).same s, fun p hp => let ⟨o, h, n⟩ := x.hid p hp; ⟨o, s p o h, n⟩, x.tabs.ext s⟩
theorem ORep.ext {K : PySem.W.Frag} {g g' : Gh} {H H' : Hp} (x : Ext g H g' H') {a : Addr} (e : H' a = H a) : ∀ {o : O}, ORep K g H a o → ORep K g' H' a o
  | .lst _, ⟨vs, h, r⟩ => ⟨vs, e.trans h, Reps.ext x _ _ r⟩
  | .dK _, ⟨vs, h, r⟩ => ⟨vs, e.trans h, Reps.ext x _ _ r⟩
  | .dT _, ⟨vs, h, r⟩ => ⟨vs, e.trans h, Reps.ext x _ _ r⟩
  | .ins _ _ _, ⟨dx, vs, h, l, r⟩ => ⟨dx, vs, e.trans h, l, Reps.ext x _ _ r⟩
theorem ORep.ex0 {K : PySem.W.Frag} {g g' : Gh} {H H' : Hp} (x : Ex0 g H g' H') {a : Addr} (e : H' a = H a) : ∀ {o : O}, ORep K g H a o → ORep K g' H' a o
  | .lst _, ⟨vs, h, r⟩ => ⟨vs, e.trans h, Reps.ex0 x _ _ r⟩
  | .dK _, ⟨vs, h, r⟩ => ⟨vs, e.trans h, Reps.ex0 x _ _ r⟩
  | .dT _, ⟨vs, h, r⟩ => ⟨vs, e.trans h, Reps.ex0 x _ _ r⟩
  | .ins _ _ _, ⟨dx, vs, h, l, r⟩ => ⟨dx, vs, e.trans h, l, Reps.ex0 x _ _ r⟩
theorem ORep.wr {K : PySem.W.Frag} {g : Gh} {H H' : Hp} (x : ∀ b, ¬ g.off b → H' b = H b) {a : Addr} (e : H' a = H a) : ∀ {o : O}, ORep K g H a o → ORep K g H' a o
  | .lst _, ⟨vs, h, r⟩ => ⟨vs, e.trans h, Reps.wr x _ _ r⟩
  | .dK _, ⟨vs, h, r⟩ => ⟨vs, e.trans h, Reps.wr x _ _ r⟩
  | .dT _, ⟨vs, h, r⟩ => ⟨vs, e.trans h, Reps.wr x _ _ r⟩
  | .ins _ _ _, ⟨dx, vs, h, l, r⟩ => ⟨dx, vs, e.trans h, l, Reps.wr x _ _ r⟩
theorem ORep.hid {K : PySem.W.Frag} {g g' : Gh} {H : Hp} (hp : g'.ps = g.ps) (x : ∀ b o, H b = some o → ¬ g.off b → ¬ g'.off b) {a : Addr} : ∀ {o : O}, ORep K g H a o → ORep K g' H a o
  | .lst _, ⟨vs, h, r⟩ => ⟨vs, h, Reps.hid hp x _ _ r⟩
  | .dK _, ⟨vs, h, r⟩ => ⟨vs, h, Reps.hid hp x _ _ r⟩
  | .dT _, ⟨vs, h, r⟩ => ⟨vs, h, Reps.hid hp x _ _ r⟩
  | .ins _ _ _, ⟨dx, vs, h, l, r⟩ => ⟨dx, vs, h, l, Reps.hid hp x _ _ r⟩
theorem ORep.there {K : PySem.W.Frag} {g : Gh} {H : Hp} {a : Addr} : ∀ {o : O}, ORep K g H a o → H a ≠ none
  | .lst _, ⟨vs, h, _⟩, e => by rw [h] at e; cases e
  | .dK _, ⟨vs, h, _⟩, e => by rw [h] at e; cases e
  | .dT _, ⟨vs, h, _⟩, e => by rw [h] at e; cases e
  | .ins _ _ _, ⟨dx, vs, h, _⟩, e => by rw [h] at e; cases e
/-- a free place is not the store's, not hidden -/
theorem GoodS.notOff {K : PySem.W.Frag} {T : List (Addr × Str)} {g : Gh} {S : Store} {H : Hp} (h : GoodS K T g S H) {p : Addr} (e : H p = none) : ¬ g.off p := by
  rintro (z | z)
  · obtain ⟨n, hn, e1⟩ := List.getElem_of_mem z
    have hn' : n < S.length := by rw [← h.len]; exact hn
    exact (h.st n p S[n] (by rw [List.getElem?_eq_getElem hn, e1]) (List.getElem?_eq_getElem hn')).there e
  · obtain ⟨o, q, _⟩ := h.hid p z
    rw [q] at e; cases e
theorem same_upd {H : Hp} {p : Addr} {o : HO} (h : H p = none) : Same H (upd H p o) := fun b x e => by
  rw [upd_ne (ne_of_none e h)]
  exact e

/-- a new thing in the store -/
theorem Ext.new {g : Gh} {H : Hp} {p : Addr} {o : HO} (e : H p = none) : Ext g H ⟨g.ps ++ [p], g.hs⟩ (upd H p o) :=
  ⟨fun a u h _ _ => same_upd e a u h, fun a u h n => ⟨u, same_upd e a u h, n⟩, ⟨[p], rfl, fun a ha u h => by rw [List.mem_singleton.mp ha, e] at h; cases h⟩, rfl⟩
theorem GoodS.new {K : PySem.W.Frag} {T : List (Addr × Str)} {g : Gh} {S : Store} {H : Hp} (h : GoodS K T g S H) {p : Addr} (e : H p = none) {u : HO} {o : O} (ho : ORep K ⟨g.ps ++ [p], g.hs⟩ (upd H p u) p o) : GoodS K T ⟨g.ps ++ [p], g.hs⟩ (S ++ [o]) (upd H p u) := by
  have no := h.notOff e
  refine ⟨by simp [h.len], ?_, fun n a q h1 h2 => ?_, fun x hx => let ⟨o, q, n⟩ := h.hid x hx; ⟨o, same_upd e x o q, n⟩, h.tabs.ext (same_upd e)⟩
  · have nd := h.nd
    rw [List.append_assoc, List.nodup_append] at *
    obtain ⟨n1, n2, n3⟩ := nd
    refine ⟨n1, List.nodup_cons.mpr ⟨fun z => no (.inr z), n2⟩, fun x hx y hy => ?_⟩
    rcases List.mem_cons.mp hy with rfl | hy
    · exact fun z => no (.inl (z ▸ hx))
    · exact n3 x hx y hy
  · by_cases hn : n < g.ps.length
    · rw [List.getElem?_append_left hn] at h1
      rw [List.getElem?_append_left (by rw [← h.len]; exact hn)] at h2
      have q1 := h.st n a q h1 h2
      refine q1.ext (Ext.new e) (upd_ne fun z => ?_)
      subst z
      exact q1.there e
    · rw [List.getElem?_append_right (by omega)] at h1
      rw [List.getElem?_append_right (by rw [← h.len]; omega)] at h2
      rw [h.len] at h1
      have hn0 : n - S.length = 0 := by
        cases hk : n - S.length with
        | zero => rfl
        | succ k => rw [hk] at h1; simp at h1
      rw [hn0] at h1 h2
      simp at h1 h2
      subst h1 h2
      exact ho

/-! ### slots, readings -/
abbrev Sl := List (Option D)
structure Rel (K : PySem.W.Frag) (T : List (Addr × Str)) (g : Gh) (r : Sl) (S : Store) (s : L2.St) (H : Hp) : Prop where
  good : GoodS K T g S H
  len : r.length = s.length
  sl : ∀ (i : Nat) d, r[i]? = some (some d) → ∃ v, s[i]? = some (some v) ∧ Rep K g H d v
theorem Rel.same {K : PySem.W.Frag} {T : List (Addr × Str)} {g : Gh} {r : Sl} {S : Store} {σ : L2.St} {H H' : Hp} (x : Rel K T g r S σ H) (s : Same H H') : Rel K T g r S σ H' :=
  ⟨x.good.same s, x.len, fun i d h => let ⟨v, e, q⟩ := x.sl i d h; ⟨v, e, Rep.ext (Ext.same s) _ _ q⟩⟩
/-- an exception: its class, its fields -/
structure Xc where
  cls : Addr
  ns : List Str
  ds : List D
def XRep (K : PySem.W.Frag) (g : Gh) (H : Hp) (x : Xc) (c : Value) (dd : Option Addr) : Prop :=
  c = .ref x.cls ∧ ∃ d vs, dd = some d ∧ (H d = some (.xd (x.ns.zip vs)) ∧ ¬ g.off d ∧ x.ns.length = vs.length) ∧ Reps K g H x.ds vs
theorem XRep.ext {K : PySem.W.Frag} {g g' : Gh} {H H' : Hp} (e : Ext g H g' H') {x : Xc} {c : Value} {dd : Option Addr} (h : XRep K g H x c dd) : XRep K g' H' x c dd := by
  obtain ⟨h1, d, vs, h2, ⟨h3, h4, h5⟩, h6⟩ := h
  exact ⟨h1, d, vs, h2, ⟨e.keep d _ h3 (fun z => h4 (.inl z)) (fun _ => nofun), e.off h3 (fun _ => nofun) h4, h5⟩, Reps.ext e _ _ h6⟩

abbrev DQ := D → Store → Prop
abbrev DX := Xc → Store → Prop
abbrev DTE := Sl → Store → DQ → DX → Prop
abbrev DTA := Sl → Store → (List D → Store → Prop) → DX → Prop
abbrev DTT := Sl → Store → (Bool → Store → Prop) → DX → Prop
section
variable (K : PySem.W.Frag) (T : List (Addr × Str)) (W : WX)
def WOk (g : Gh) (H : Hp) (r : Sl) (σ : L2.St) (Ed : DX) : Prop := ∀ x S' g' H' c dd, Ed x S' → Ext g H g' H' → Rel K T g' r S' σ H' → XRep K g' H' x c dd → W c dd σ H'
def lift (t : DTE) : TE := fun σ H Q => ∃ g r S Qd Ed, Rel K T g r S σ H ∧ t r S Qd Ed ∧
  (∀ d S' g' H' v, Qd d S' → Ext g H g' H' → Rel K T g' r S' σ H' → Rep K g' H' d v → Q v H') ∧ WOk K T W g H r σ Ed
def liftA (t : DTA) : TA := fun σ H Q => ∃ g r S Qd Ed, Rel K T g r S σ H ∧ t r S Qd Ed ∧
  (∀ ds S' g' H' vs, Qd ds S' → Ext g H g' H' → Rel K T g' r S' σ H' → Reps K g' H' ds vs → Q vs H') ∧ WOk K T W g H r σ Ed
def liftT (t : DTT) : TT := fun σ H Q => ∃ g r S Qd Ed, Rel K T g r S σ H ∧ t r S Qd Ed ∧
  (∀ b S' g' H', Qd b S' → Ext g H g' H' → Rel K T g' r S' σ H' → Q b H') ∧ WOk K T W g H r σ Ed
end
theorem WOk.ext {K : PySem.W.Frag} {T : List (Addr × Str)} {W : WX} {g g' : Gh} {H H' : Hp} {r : Sl} {σ : L2.St} {Ed : DX} (h : WOk K T W g H r σ Ed) (x : Ext g H g' H') : WOk K T W g' H' r σ Ed :=
  fun y S' g2 H2 c dd e x2 rl xr => h y S' g2 H2 c dd e (x.trans x2) rl xr
def DE (X : Cx) (T : List (Addr × Str)) (W : WX) (e : Expr) (t : DTE) : Prop := PE X e (lift X.K T W t)
def DT (X : Cx) (T : List (Addr × Str)) (W : WX) (e : Expr) (t : DTT) : Prop := PT X e (liftT X.K T W t)
def DA (X : Cx) (T : List (Addr × Str)) (W : WX) (es : List Expr) (t : DTA) : Prop := PA X es (liftA X.K T W t)
theorem PE.imp {X : Cx} {e : Expr} {t t' : TE} (h : PE X e t) (i : ∀ σ H Q, t' σ H Q → t σ H Q) : PE X e t' := ⟨fun pins s σ H Q I q => h.run pins s σ H Q I (i σ H Q q)⟩
theorem PT.imp {X : Cx} {e : Expr} {t t' : TT} (h : PT X e t) (i : ∀ σ H Q, t' σ H Q → t σ H Q) : PT X e t' := ⟨fun pins s σ H Q I q => h.run pins s σ H Q I (i σ H Q q)⟩
theorem PA.imp {X : Cx} {e : List Expr} {t t' : TA} (h : PA X e t) (i : ∀ σ H Q, t' σ H Q → t σ H Q) : PA X e t' := ⟨fun pos pins s σ H Q I q => h.run pos pins s σ H Q I (i σ H Q q)⟩
theorem PS.imp {X : Cx} {e : Stmt} {t t' : TS} (h : PS X e t) (i : ∀ D σ H, t' D σ H → t D σ H) : PS X e t' := ⟨fun pins s σ H Q I q => h.run pins s σ H Q I (i Q σ H q)⟩
theorem PSs.imp {X : Cx} {e : List Stmt} {t t' : TS} (h : PSs X e t) (i : ∀ D σ H, t' D σ H → t D σ H) : PSs X e t' := ⟨fun pins s σ H Q I q => h.run pins s σ H Q I (i Q σ H q)⟩

section
variable {X : Cx} {T : List (Addr × Str)} {W : WX} {a b c : Expr} {ta tb tc : DTE} {pos : Pos}
/-! ### names, constants -/
def dVar (i : Nat) : DTE := fun r S Q _ => ∃ d, r[i]? = some (some d) ∧ Q d S
def dC (d : D) : DTE := fun _ S Q _ => Q d S
theorem de_var {i : Nat} {x : Str} (h : PE X (.Name x pos) (tVar i)) : DE X T W (.Name x pos) (dVar i) := PE.imp h fun σ H Q ⟨g, r, S, Qd, Ed, rl, ⟨d, e, q⟩, hq, _⟩ => by
  obtain ⟨v, ev, rv⟩ := rl.sl i d e
  exact ⟨v, ev, hq d S g H v q (Ext.refl g H) rl rv⟩
/-- the value in slot i -/
theorem dv (i : Nat) {x : Str} (hN : X.N[i]? = some x := by rfl) (hv : Vis X.env.scope x := by first | exact Or.inl rfl | exact Or.inr (Or.inl rfl) | exact Or.inr (Or.inr rfl)) (hd : (x == ("__debug__" : Str)) = false := by decide)
    (hcd : (x == ("__classdict__" : Str)) = false := by decide) : DE X T W (.Name x pos) (dVar i) := de_var (pe_var hN hv hd hcd)
theorem de_c {d : D} {v : V} (h : PE X a (tC v)) (r : ∀ g H, Rep X.K g H d v) : DE X T W a (dC d) := PE.imp h fun σ H Q ⟨g, ρ, S, Qd, Ed, rl, q, hq, _⟩ => hq d S g H v q (Ext.refl g H) rl (r g H)
theorem de_int {i j} : DE X T W (.Constant (.int i) j pos) (dC (.int i)) := de_c pe_int fun _ _ => rfl
theorem de_bl {i j} : DE X T W (.Constant (.bool i) j pos) (dC (.bl i)) := de_c pe_bl fun _ _ => rfl
theorem de_non {j} : DE X T W (.Constant .none j pos) (dC .non) := de_c pe_non fun _ _ => rfl
theorem de_str {i j} : DE X T W (.Constant (.str i) j pos) (dC (.str i)) := de_c pe_str fun _ _ => rfl
/-- a def, a class of the top, as a value -/
theorem de_adr {x : Str} {f : Addr} (hg : Gl X x) (hm : X.mg x = some (.ref f)) (hd : (x == ("__debug__" : Str)) = false := by decide) : DE X T W (.Name x pos) (dC (.adr f)) := de_c (pe_glob hg hm (v := .ref f) rfl hd) fun _ _ => rfl
/-- a built-in class as a value -/
theorem de_ty {x : Str} {n : String} (hg : Gl X x) (hm : X.mg x = none) (hv : bootBuiltins x = some (.type n)) (hn : x ≠ "__name__" := by decide) (hd : (x == ("__debug__" : Str)) = false := by decide) : DE X T W (.Name x pos) (dC (.ty n)) := de_c (pe_bltn hg hm hv (v := .ty n) rfl hn hd) fun _ _ => rfl
/-- an int, a text of the top -/
theorem de_gint {x : Str} {i : Int} {t : Tok} (hg : Gl X x) (hm : X.mg x = some (.int i t)) (hd : (x == ("__debug__" : Str)) = false := by decide) : DE X T W (.Name x pos) (dC (.int i)) := de_c (pe_glob hg hm (v := .int i) ⟨t, rfl⟩ hd) fun _ _ => rfl
theorem de_gstr {x : Str} {i : Str} {t : Tok} (hg : Gl X x) (hm : X.mg x = some (.str i t)) (hd : (x == ("__debug__" : Str)) = false := by decide) : DE X T W (.Name x pos) (dC (.str i)) := de_c (pe_glob hg hm (v := .str i) ⟨t, rfl⟩ hd) fun _ _ => rfl

/-! ### operators -/
/-- an operator by data; the heap may grow -/
def rD (K : PySem.W.Frag) (T : List (Addr × Str)) (f : Store → D → D → D → Prop) : R2 := fun x y H Q => ∃ g S dx dy dz, GoodS K T g S H ∧ Rep K g H dx x ∧ Rep K g H dy y ∧ f S dx dy dz ∧ ∀ v H', Same H H' → Rep K g H' dz v → Q v H'
def dOp (f : Store → D → D → D → Prop) (ta tb : DTE) : DTE := fun r S Q E => ta r S (fun x S1 => tb r S1 (fun y S2 => ∃ z, f S2 x y z ∧ Q z S2) E) E
theorem lift_op {f : Store → D → D → D → Prop} {K : PySem.W.Frag} {σ : L2.St} {H : Hp} {Q : VK} (h : lift K T W (dOp f ta tb) σ H Q) : tOp (rD K T f) (lift K T W ta) (lift K T W tb) σ H Q := by
  obtain ⟨g, r, S, Qd, Ed, rl, h, hq, hx⟩ := h
  refine ⟨g, r, S, _, Ed, rl, h, fun d S1 g1 H1 v h1 x1 rl1 rp1 => ?_, hx⟩
  refine ⟨g1, r, S1, _, Ed, rl1, h1, fun d2 S2 g2 H2 v2 h2 x2 rl2 rp2 => ?_, hx.ext x1⟩
  obtain ⟨z, hf, hz⟩ := h2
  exact ⟨g2, S2, d, d2, z, rl2.good, Rep.ext x2 _ _ rp1, rp2, hf, fun v' H' s rp => hq z S2 g2 H' v' hz ((x1.trans x2).trans (Ext.same s)) (rl2.same s) rp⟩
theorem de_op {op : Operator} {f : Store → D → D → D → Prop} (ho : OpR X (binaryOp op) (rD X.K T f)) (ha : DE X T W a ta) (hb : DE X T W b tb) : DE X T W (.BinOp a op b pos) (dOp f ta tb) := PE.imp (pe_op ho ha hb) fun σ H Q h => lift_op h
theorem de_cmp {op : CmpOp} {f : Store → D → D → D → Prop} (ho : OpR X (compareOp op) (rD X.K T f)) (ha : DE X T W a ta) (hb : DE X T W b tb) (hm : behindInMarks op b = false) : DE X T W (.Compare a [op] [b] pos) (dOp f ta tb) := PE.imp (pe_cmpR ho ha hb hm) fun σ H Q h => lift_op h
end
end DL
namespace DL
open PySem PySem.Spec PyProof.Rows L2
section
variable {X : Cx} {T : List (Addr × Str)} {W : WX} {a b c : Expr} {ta tb tc : DTE} {pos : Pos} {tA tB' : DTT} {rest : List Expr} {es : List Expr} {tes : DTA}
/-! ### tests -/
def dB (t : DTE) : DTT := fun r S Q E => t r S (fun x S1 => ∃ c, x = .bl c ∧ Q c S1) E
theorem lift_b {K : PySem.W.Frag} {σ : L2.St} {H : Hp} {Q : Bool → Hp → Prop} (h : liftT K T W (dB ta) σ H Q) : tB (lift K T W ta) σ H Q := by
  obtain ⟨g, r, S, Qd, Ed, rl, h, hq, hx⟩ := h
  refine ⟨g, r, S, _, Ed, rl, h, fun d S1 g1 H1 v h1 x1 rl1 rp1 => ?_, hx⟩
  obtain ⟨k, rfl, h1⟩ := h1
  have e : v = .bl k := rp1
  exact ⟨k, e, hq k S1 g1 H1 h1 x1 rl1⟩
theorem dt_val (h : DE X T W a ta) (he : ∀ whole, isTrue a X.env whole = (do let v ← whole; standAt a.pos; holding [v] (truthy v)) := by intro _; rfl) : DT X T W a (dB ta) := PT.imp (pt_val h he) fun σ H Q h => lift_b h
theorem dt_cmp {op : CmpOp} {f : Store → D → D → D → Prop} (ho : OpR X (compareOp op) (rD X.K T f)) (ha : DE X T W a ta) (hb : DE X T W b tb) (hm : behindInMarks op b = false) : DT X T W (.Compare a [op] [b] pos) (dB (dOp f ta tb)) :=
  PT.imp (pt_cmpR ho ha hb hm) fun σ H Q h => by
    obtain ⟨g, r, S, Qd, Ed, rl, h, hq, hx⟩ := h
    refine lift_op ⟨g, r, S, _, Ed, rl, h, fun d S1 g1 H1 v h1 x1 rl1 rp1 => ?_, hx⟩
    obtain ⟨k, rfl, h1⟩ := h1
    have e : v = .bl k := rp1
    exact ⟨k, e, hq k S1 g1 H1 h1 x1 rl1⟩
def DW (X : Cx) (T : List (Addr × Str)) (W : WX) (e : Expr) (t : DTT) : Prop := PW X e (liftT X.K T W t)
theorem PW.imp {X : Cx} {e : Expr} {t t' : TT} (h : PW X e t) (i : ∀ σ H Q, t' σ H Q → t σ H Q) : PW X e t' := ⟨fun wh pins s σ H Q I q => h.run wh pins s σ H Q I (i σ H Q q)⟩
theorem DW.dt {e : Expr} {t : DTT} (h : DW X T W e t) : DT X T W e t := L2.PW.pt h
def dAnd (t u : DTT) : DTT := fun r S Q E => t r S (fun c S1 => if c = true then u r S1 Q E else Q false S1) E
def dOr (t u : DTT) : DTT := fun r S Q E => t r S (fun c S1 => if c = true then Q true S1 else u r S1 Q E) E
def dNot (t : DTT) : DTT := fun r S Q E => t r S (fun c S1 => Q (!c) S1) E
theorem dw_and1 (ha : DT X T W a tA) : DW X T W (.BoolOp .And [a] pos) tA := pw_and1 ha
theorem dw_or1 (ha : DT X T W a tA) : DW X T W (.BoolOp .Or [a] pos) tA := pw_or1 ha
theorem dw_and (ha : DT X T W a tA) (hb : DW X T W (.BoolOp .And (b :: rest) pos) tB') : DW X T W (.BoolOp .And (a :: b :: rest) pos) (dAnd tA tB') := PW.imp (pw_and ha hb) fun σ H Q h => by
  obtain ⟨g, r, S, Qd, Ed, rl, h, hq, hx⟩ := h
  refine ⟨g, r, S, _, Ed, rl, h, fun k S1 g1 H1 h1 x1 rl1 => ?_, hx⟩
  cases k with
  | true => exact ⟨g1, r, S1, Qd, Ed, rl1, h1, fun k S2 g2 H2 h2 x2 rl2 => hq k S2 g2 H2 h2 (x1.trans x2) rl2, hx.ext x1⟩
  | false => exact hq false S1 g1 H1 h1 x1 rl1
theorem dw_or (ha : DT X T W a tA) (hb : DW X T W (.BoolOp .Or (b :: rest) pos) tB') : DW X T W (.BoolOp .Or (a :: b :: rest) pos) (dOr tA tB') := PW.imp (pw_or ha hb) fun σ H Q h => by
  obtain ⟨g, r, S, Qd, Ed, rl, h, hq, hx⟩ := h
  refine ⟨g, r, S, _, Ed, rl, h, fun k S1 g1 H1 h1 x1 rl1 => ?_, hx⟩
  cases k with
  | false => exact ⟨g1, r, S1, Qd, Ed, rl1, h1, fun k S2 g2 H2 h2 x2 rl2 => hq k S2 g2 H2 h2 (x1.trans x2) rl2, hx.ext x1⟩
  | true => exact hq true S1 g1 H1 h1 x1 rl1
theorem dt_not (ha : DT X T W a tA) : DT X T W (.UnaryOp .Not a pos) (dNot tA) := PT.imp (pt_not ha) fun σ H Q h => by
  obtain ⟨g, r, S, Qd, Ed, rl, h, hq, hx⟩ := h
  exact ⟨g, r, S, _, Ed, rl, h, fun k S1 g1 H1 h1 x1 rl1 => hq (!k) S1 g1 H1 h1 x1 rl1, hx⟩
/-- as values -/
def dAndV (t u : DTE) : DTE := fun r S Q E => t r S (fun x S1 => ∃ c, x = .bl c ∧ if c = true then u r S1 Q E else Q (.bl false) S1) E
def dOrV (t u : DTE) : DTE := fun r S Q E => t r S (fun x S1 => ∃ c, x = .bl c ∧ if c = true then Q (.bl true) S1 else u r S1 Q E) E
def dNotV (t : DTE) : DTE := fun r S Q E => t r S (fun x S1 => ∃ c, x = .bl c ∧ Q (.bl (!c)) S1) E
theorem de_one {op} (h : DE X T W a ta) : DE X T W (.BoolOp op [a] pos) ta := pe_one h
theorem de_and (ha : DE X T W a ta) (hb : DE X T W (.BoolOp .And (b :: rest) pos) tb) : DE X T W (.BoolOp .And (a :: b :: rest) pos) (dAndV ta tb) := PE.imp (pe_and ha hb) fun σ H Q h => by
  obtain ⟨g, r, S, Qd, Ed, rl, h, hq, hx⟩ := h
  refine ⟨g, r, S, _, Ed, rl, h, fun d S1 g1 H1 v h1 x1 rl1 rp1 => ?_, hx⟩
  obtain ⟨k, rfl, h1⟩ := h1
  have e : v = .bl k := rp1
  refine ⟨k, e, ?_⟩
  cases k with
  | true => exact ⟨g1, r, S1, Qd, Ed, rl1, h1, fun k S2 g2 H2 v2 h2 x2 rl2 rp2 => hq k S2 g2 H2 v2 h2 (x1.trans x2) rl2 rp2, hx.ext x1⟩
  | false => exact hq _ S1 g1 H1 _ h1 x1 rl1 rfl
theorem de_or (ha : DE X T W a ta) (hb : DE X T W (.BoolOp .Or (b :: rest) pos) tb) : DE X T W (.BoolOp .Or (a :: b :: rest) pos) (dOrV ta tb) := PE.imp (pe_or ha hb) fun σ H Q h => by
  obtain ⟨g, r, S, Qd, Ed, rl, h, hq, hx⟩ := h
  refine ⟨g, r, S, _, Ed, rl, h, fun d S1 g1 H1 v h1 x1 rl1 rp1 => ?_, hx⟩
  obtain ⟨k, rfl, h1⟩ := h1
  have e : v = .bl k := rp1
  refine ⟨k, e, ?_⟩
  cases k with
  | false => exact ⟨g1, r, S1, Qd, Ed, rl1, h1, fun k S2 g2 H2 v2 h2 x2 rl2 rp2 => hq k S2 g2 H2 v2 h2 (x1.trans x2) rl2 rp2, hx.ext x1⟩
  | true => exact hq _ S1 g1 H1 _ h1 x1 rl1 rfl
theorem de_not (ha : DE X T W a ta) : DE X T W (.UnaryOp .Not a pos) (dNotV ta) := PE.imp (pe_not ha) fun σ H Q h => by
  obtain ⟨g, r, S, Qd, Ed, rl, h, hq, hx⟩ := h
  refine ⟨g, r, S, _, Ed, rl, h, fun d S1 g1 H1 v h1 x1 rl1 rp1 => ?_, hx⟩
  obtain ⟨k, rfl, h1⟩ := h1
  have e : v = .bl k := rp1
  exact ⟨k, e, hq _ S1 g1 H1 _ h1 x1 rl1 rfl⟩
def dIf (t : DTT) (u v : DTE) : DTE := fun r S Q E => t r S (fun c S1 => if c = true then u r S1 Q E else v r S1 Q E) E
theorem de_ifExp (hc : DT X T W c tA) (ha : DE X T W a ta) (hb : DE X T W b tb) : DE X T W (.IfExp c a b pos) (dIf tA ta tb) := PE.imp (pe_ifExp hc ha hb) fun σ H Q h => by
  obtain ⟨g, r, S, Qd, Ed, rl, h, hq, hx⟩ := h
  refine ⟨g, r, S, _, Ed, rl, h, fun k S1 g1 H1 h1 x1 rl1 => ?_, hx⟩
  cases k with
  | true => exact ⟨g1, r, S1, Qd, Ed, rl1, h1, fun k S2 g2 H2 v2 h2 x2 rl2 rp2 => hq k S2 g2 H2 v2 h2 (x1.trans x2) rl2 rp2, hx.ext x1⟩
  | false => exact ⟨g1, r, S1, Qd, Ed, rl1, h1, fun k S2 g2 H2 v2 h2 x2 rl2 rp2 => hq k S2 g2 H2 v2 h2 (x1.trans x2) rl2 rp2, hx.ext x1⟩
/-- a op b op' c -/
def dChain (f f' : Store → D → D → D → Prop) (ta tb tc : DTE) : DTE := fun r S Q E => ta r S (fun x S1 => tb r S1 (fun y S2 => ∃ k, f S2 x y (.bl k) ∧
  (if k = true then tc r S2 (fun z S3 => ∃ w, f' S3 y z w ∧ Q w S3) E else Q (.bl false) S2)) E) E
theorem lift_chain {f f' : Store → D → D → D → Prop} {K : PySem.W.Frag} {σ : L2.St} {H : Hp} {Q : VK} (h : lift K T W (dChain f f' ta tb tc) σ H Q) : tChain (rD K T f) (rD K T f') (lift K T W ta) (lift K T W tb) (lift K T W tc) σ H Q := by
  obtain ⟨g, r, S, Qd, Ed, rl, h, hq, hx⟩ := h
  refine ⟨g, r, S, _, Ed, rl, h, fun d S1 g1 H1 v h1 x1 rl1 rp1 => ?_, hx⟩
  refine ⟨g1, r, S1, _, Ed, rl1, h1, fun d2 S2 g2 H2 v2 h2 x2 rl2 rp2 => ?_, hx.ext x1⟩
  obtain ⟨k, hf, hz⟩ := h2
  refine ⟨g2, S2, d, d2, .bl k, rl2.good, Rep.ext x2 _ _ rp1, rp2, hf, fun v' H' s rp => ?_⟩
  have e : v' = .bl k := rp
  refine ⟨k, e, ?_⟩
  have x3 := (x1.trans x2).trans (Ext.same (g := g2) s)
  cases k with
  | false => exact hq _ S2 g2 H' _ hz x3 (rl2.same s) rfl
  | true =>
    refine ⟨g2, r, S2, _, Ed, rl2.same s, hz, fun d4 S4 g4 H4 v4 h4 x4 rl4 rp4 => ?_, hx.ext x3⟩
    obtain ⟨w, hw, hQ⟩ := h4
    exact ⟨g4, S4, d2, d4, w, rl4.good, Rep.ext ((Ext.same s).trans x4) _ _ rp2, rp4, hw, fun v5 H5 s5 rp5 => hq w S4 g4 H5 v5 hQ ((x3.trans x4).trans (Ext.same s5)) (rl4.same s5) rp5⟩
theorem de_chain {op op' : CmpOp} {f f' : Store → D → D → D → Prop} (ho : OpR X (compareOp op) (rD X.K T f)) (ho' : OpR X (compareOp op') (rD X.K T f')) (ha : DE X T W a ta) (hb : DE X T W b tb) (hc : DE X T W c tc)
    (hm : lastMarks [op, op'] [b, c] = false := by with_unfolding_all rfl) : DE X T W (.Compare a [op, op'] [b, c] pos) (dChain f f' ta tb tc) := PE.imp (pe_chain ho ho' ha hb hc hm) fun σ H Q h => lift_chain h
theorem dt_chain {op op' : CmpOp} {f f' : Store → D → D → D → Prop} (ho : OpR X (compareOp op) (rD X.K T f)) (ho' : OpR X (compareOp op') (rD X.K T f')) (ha : DE X T W a ta) (hb : DE X T W b tb) (hc : DE X T W c tc)
    (hm : lastMarks [op, op'] [b, c] = false := by with_unfolding_all rfl) : DT X T W (.Compare a [op, op'] [b, c] pos) (dB (dChain f f' ta tb tc)) := PT.imp (pt_chain ho ho' ha hb hc hm) fun σ H Q h => by
    obtain ⟨g, r, S, Qd, Ed, rl, h, hq, hx⟩ := h
    refine lift_chain ⟨g, r, S, _, Ed, rl, h, fun d S1 g1 H1 v h1 x1 rl1 rp1 => ?_, hx⟩
    obtain ⟨k, rfl, h1⟩ := h1
    have e : v = .bl k := rp1
    exact ⟨k, e, hq k S1 g1 H1 h1 x1 rl1⟩

/-! ### argument lists, displays -/
def dNil : DTA := fun _ S Q _ => Q [] S
def dCons (t : DTE) (u : DTA) : DTA := fun r S Q E => t r S (fun d S1 => u r S1 (fun ds S2 => Q (d :: ds) S2) E) E
theorem da_nil : DA X T W [] dNil := PA.imp pa_nil fun σ H Q ⟨g, r, S, Qd, Ed, rl, h, hq, hx⟩ => hq [] S g H [] h (Ext.refl g H) rl rfl
theorem da_cons (ha : DE X T W a ta) (hr : DA X T W es tes) (hs : starEach (a :: es) X.env = (false, eval a X.env) :: starEach es X.env := by rfl) : DA X T W (a :: es) (dCons ta tes) := PA.imp (pa_cons ha hr hs) fun σ H Q ⟨g, r, S, Qd, Ed, rl, h, hq, hx⟩ => by
  refine ⟨g, r, S, _, Ed, rl, h, fun d S1 g1 H1 v h1 x1 rl1 rp1 => ?_, hx⟩
  exact ⟨g1, r, S1, _, Ed, rl1, h1, fun ds S2 g2 H2 vs h2 x2 rl2 rp2 => hq _ S2 g2 H2 _ h2 (x1.trans x2) rl2 ⟨v, vs, rfl, Rep.ext x2 _ _ rp1, rp2⟩, hx.ext x1⟩
/-- a new tuple; a new list that stands still; a new list of the store -/
def dTup (t : DTA) : DTE := fun r S Q E => t r S (fun ds S1 => ds.length ≤ sizeLine ∧ Q (.tup ds) S1) E
def dLst (t : DTA) : DTE := fun r S Q E => t r S (fun ds S1 => ds.length ≤ sizeLine ∧ Q (.lst ds) S1) E
def dLstS (t : DTA) : DTE := fun r S Q E => t r S (fun ds S1 => ds.length ≤ sizeLine ∧ Q (.ref S1.length) (S1 ++ [.lst ds])) E
theorem Rep.tupNew {K : PySem.W.Frag} {g : Gh} {S : Store} {H : Hp} {ds : List D} {vs : List V} (h : GoodS K T g S H) (r : Reps K g H ds vs) {p : Addr} (e : H p = none) : Rep K g (upd H p (.tup vs)) (.tup ds) (.ref p) :=
  ⟨p, vs, rfl, .inl ⟨.inl upd_same, h.notOff e⟩, Reps.ext (Ext.same (same_upd e)) _ _ r⟩
theorem Rep.lstNew {K : PySem.W.Frag} {g : Gh} {S : Store} {H : Hp} {ds : List D} {vs : List V} (h : GoodS K T g S H) (r : Reps K g H ds vs) {p : Addr} (e : H p = none) : Rep K g (upd H p (.lst vs)) (.lst ds) (.ref p) :=
  ⟨p, vs, rfl, ⟨upd_same, h.notOff e⟩, Reps.ext (Ext.same (same_upd e)) _ _ r⟩
theorem de_tup {x1} (h : DA X T W es tes) : DE X T W (.Tuple es x1 pos) (dTup tes) := PE.imp (pe_tup h) fun σ H Q ⟨g, r, S, Qd, Ed, rl, h, hq, hx⟩ => by
  refine ⟨g, r, S, _, Ed, rl, h, fun ds S1 g1 H1 vs ⟨h1, h2⟩ x1 rl1 rp1 => ⟨by rw [← rp1.length]; exact h1, fun p hp => ?_⟩, hx⟩
  exact hq _ S1 g1 _ _ h2 (x1.trans (Ext.same (same_upd hp))) (rl1.same (same_upd hp)) (Rep.tupNew rl1.good rp1 hp)
theorem de_lst (h : DA X T W es tes) : DE X T W (.List es pos) (dLst tes) := PE.imp (pe_lst h) fun σ H Q ⟨g, r, S, Qd, Ed, rl, h, hq, hx⟩ => by
  refine ⟨g, r, S, _, Ed, rl, h, fun ds S1 g1 H1 vs ⟨h1, h2⟩ x1 rl1 rp1 => ⟨by rw [← rp1.length]; exact h1, fun p hp => ?_⟩, hx⟩
  exact hq _ S1 g1 _ _ h2 (x1.trans (Ext.same (same_upd hp))) (rl1.same (same_upd hp)) (Rep.lstNew rl1.good rp1 hp)
theorem Rel.new {K : PySem.W.Frag} {g : Gh} {r : Sl} {S : Store} {σ : L2.St} {H : Hp} (h : Rel K T g r S σ H) {p : Addr} (e : H p = none) {u : HO} {o : O} (ho : ORep K ⟨g.ps ++ [p], g.hs⟩ (upd H p u) p o) : Rel K T ⟨g.ps ++ [p], g.hs⟩ r (S ++ [o]) σ (upd H p u) :=
  ⟨h.good.new e ho, h.len, fun i d q => let ⟨v, e1, q1⟩ := h.sl i d q; ⟨v, e1, Rep.ext (Ext.new e) _ _ q1⟩⟩
theorem de_lstS (h : DA X T W es tes) : DE X T W (.List es pos) (dLstS tes) := PE.imp (pe_lst h) fun σ H Q ⟨g, r, S, Qd, Ed, rl, h, hq, hx⟩ => by
  refine ⟨g, r, S, _, Ed, rl, h, fun ds S1 g1 H1 vs ⟨h1, h2⟩ x1 rl1 rp1 => ⟨by rw [← rp1.length]; exact h1, fun p hp => ?_⟩, hx⟩
  refine hq _ _ ⟨g1.ps ++ [p], g1.hs⟩ _ _ h2 (x1.trans (Ext.new hp)) (rl1.new hp ⟨vs, upd_same, Reps.ext (Ext.new hp) _ _ rp1⟩) ⟨p, rfl, ?_⟩
  rw [← rl1.good.len]
  simp
/-! ### statements -/
structure DEnds where
  nx : Sl → Store → Prop
  rt : D → Store → Prop
  ex : Xc → Sl → Store → Prop
  bk : Sl → Store → Prop := fun _ _ => False
  ct : Sl → Store → Prop := fun _ _ => False
abbrev DTS := DEnds → Sl → Store → Prop
/-- what the ends at the D level say of the ends below -/
structure EOk (K : PySem.W.Frag) (T : List (Addr × Str)) (W : WX) (g : Gh) (H : Hp) (d : DEnds) (N : Ends) : Prop where
  nx : ∀ r' S' g' σ' H', d.nx r' S' → Ext g H g' H' → Rel K T g' r' S' σ' H' → N.nx σ' H'
  rt : ∀ d0 S' g' H' v, d.rt d0 S' → Ext g H g' H' → GoodS K T g' S' H' → Rep K g' H' d0 v → N.rt v H'
  ex : ∀ x r' S' g' σ' H' c dd, d.ex x r' S' → Ext g H g' H' → Rel K T g' r' S' σ' H' → XRep K g' H' x c dd → W c dd σ' H'
  bk : ∀ r' S' g' σ' H', d.bk r' S' → Ext g H g' H' → Rel K T g' r' S' σ' H' → N.bk σ' H'
  ct : ∀ r' S' g' σ' H', d.ct r' S' → Ext g H g' H' → Rel K T g' r' S' σ' H' → N.ct σ' H'
theorem EOk.ext {K : PySem.W.Frag} {g g' : Gh} {H H' : Hp} {d : DEnds} {N : Ends} (e : EOk K T W g H d N) (x : Ext g H g' H') : EOk K T W g' H' d N :=
  ⟨fun r2 S2 g2 σ2 H2 h x2 rl => e.nx r2 S2 g2 σ2 H2 h (x.trans x2) rl, fun d0 S2 g2 H2 v h x2 rl rp => e.rt d0 S2 g2 H2 v h (x.trans x2) rl rp, fun y r2 S2 g2 σ2 H2 c dd h x2 rl rp => e.ex y r2 S2 g2 σ2 H2 c dd h (x.trans x2) rl rp,
    fun r2 S2 g2 σ2 H2 h x2 rl => e.bk r2 S2 g2 σ2 H2 h (x.trans x2) rl, fun r2 S2 g2 σ2 H2 h x2 rl => e.ct r2 S2 g2 σ2 H2 h (x.trans x2) rl⟩
def liftS (K : PySem.W.Frag) (T : List (Addr × Str)) (W : WX) (t : DTS) : TS := fun N σ H => ∃ g r S d, Rel K T g r S σ H ∧ t d r S ∧ EOk K T W g H d N
def DS (X : Cx) (T : List (Addr × Str)) (W : WX) (s : Stmt) (t : DTS) : Prop := PS X s (liftS X.K T W t)
def DSs (X : Cx) (T : List (Addr × Str)) (W : WX) (s : List Stmt) (t : DTS) : Prop := PSs X s (liftS X.K T W t)
/-- the exceptions of an expression in a statement -/
theorem EOk.wok {K : PySem.W.Frag} {g : Gh} {H : Hp} {d : DEnds} {N : Ends} (e : EOk K T W g H d N) (r : Sl) (σ : L2.St) : WOk K T W g H r σ (fun x S => d.ex x r S) := fun x S' g' H' c dd h x1 rl xr => e.ex x r S' g' σ H' c dd h x1 rl xr
variable {st : Stmt} {sts sts' : List Stmt} {t u : DTS}
def dNext : DTS := fun d r S => d.nx r S
def dSeq (t u : DTS) : DTS := fun d r S => t { d with nx := u d } r S
theorem dss_nil : DSs X T W [] dNext := PSs.imp pss_nil fun N σ H ⟨g, r, S, d, rl, h, e⟩ => e.nx r S g σ H h (Ext.refl g H) rl
theorem dss_cons (h1 : DS X T W st t) (h2 : DSs X T W sts u) : DSs X T W (st :: sts) (dSeq t u) := PSs.imp (pss_cons h1 h2) fun N σ H ⟨g, r, S, d, rl, h, e⟩ =>
  ⟨g, r, S, { d with nx := u d }, rl, h, ⟨fun r' S' g' σ' H' q x rl' => ⟨g', r', S', d, rl', q, e.ext x⟩, e.rt, e.ex, e.bk, e.ct⟩⟩
theorem dss_one (h1 : DS X T W st t) : DSs X T W [st] t := pss_one h1
theorem ds_pass : DS X T W (.Pass pos) dNext := PS.imp ps_pass fun N σ H ⟨g, r, S, d, rl, h, e⟩ => e.nx r S g σ H h (Ext.refl g H) rl
def dBreak : DTS := fun d r S => d.bk r S
def dCont : DTS := fun d r S => d.ct r S
theorem ds_break : DS X T W (.Break pos) dBreak := PS.imp ps_break fun N σ H ⟨g, r, S, d, rl, h, e⟩ => e.bk r S g σ H h (Ext.refl g H) rl
theorem ds_continue : DS X T W (.Continue pos) dCont := PS.imp ps_continue fun N σ H ⟨g, r, S, d, rl, h, e⟩ => e.ct r S g σ H h (Ext.refl g H) rl
def dExpr (t : DTE) : DTS := fun d r S => t r S (fun _ S1 => d.nx r S1) (fun x S1 => d.ex x r S1)
theorem ds_expr (h : DE X T W a ta) (hs : swapsWith a none pos.line X.env = pure false := by rfl) : DS X T W (.Expr a pos) (dExpr ta) := PS.imp (ps_expr h hs) fun N σ H ⟨g, r, S, d, rl, h, e⟩ =>
  ⟨g, r, S, _, _, rl, h, fun d1 S1 g1 H1 v h1 x1 rl1 rp1 => e.nx r S1 g1 σ H1 h1 x1 rl1, e.wok r σ⟩
def dRet (t : DTE) : DTS := fun d r S => t r S (fun x S1 => d.rt x S1) (fun x S1 => d.ex x r S1)
theorem ds_ret (h : DE X T W a ta) : DS X T W (.Return (some a) pos) (dRet ta) := PS.imp (ps_ret h) fun N σ H ⟨g, r, S, d, rl, h, e⟩ =>
  ⟨g, r, S, _, _, rl, h, fun d1 S1 g1 H1 v h1 x1 rl1 rp1 => e.rt d1 S1 g1 H1 v h1 x1 rl1.good rp1, e.wok r σ⟩
def dIfS (c : DTT) (t u : DTS) : DTS := fun d r S => c r S (fun b S1 => if b = true then t d r S1 else u d r S1) (fun x S1 => d.ex x r S1)
theorem ds_if (hc : DT X T W c tA) (ha : DSs X T W sts t) (hb : DSs X T W sts' u) : DS X T W (.If c sts sts' pos) (dIfS tA t u) := PS.imp (ps_if hc ha hb) fun N σ H ⟨g, r, S, d, rl, h, e⟩ => by
  refine ⟨g, r, S, _, _, rl, h, fun b S1 g1 H1 h1 x1 rl1 => ?_, e.wok r σ⟩
  cases b with
  | true => exact ⟨g1, r, S1, d, rl1, h1, e.ext x1⟩
  | false => exact ⟨g1, r, S1, d, rl1, h1, e.ext x1⟩
/-! ### targets -/
abbrev DTG := D → Sl → Store → (Sl → Store → Prop) → Prop
def liftG (K : PySem.W.Frag) (T : List (Addr × Str)) (t : DTG) : TG := fun v σ H Q => ∃ g r S d Qd, Rel K T g r S σ H ∧ Rep K g H d v ∧ t d r S Qd ∧ ∀ r' S' g' σ' H', Qd r' S' → Ext g H g' H' → Rel K T g' r' S' σ' H' → Q σ' H'
def liftGs (K : PySem.W.Frag) (T : List (Addr × Str)) (t : List D → Sl → Store → (Sl → Store → Prop) → Prop) : TGs := fun vs σ H Q => ∃ g r S ds Qd, Rel K T g r S σ H ∧ Reps K g H ds vs ∧ t ds r S Qd ∧ ∀ r' S' g' σ' H', Qd r' S' → Ext g H g' H' → Rel K T g' r' S' σ' H' → Q σ' H'
def DG (X : Cx) (T : List (Addr × Str)) (e : Expr) (t : DTG) : Prop := PG X e (liftG X.K T t)
def DGs (X : Cx) (T : List (Addr × Str)) (e : List Expr) (t : List D → Sl → Store → (Sl → Store → Prop) → Prop) : Prop := PGs X e (liftGs X.K T t)
theorem PG.imp {e : Expr} {t t' : TG} (h : PG X e t) (i : ∀ v σ H Q, t' v σ H Q → t v σ H Q) : PG X e t' := ⟨fun pins s σ H v u Q I r q => h.run pins s σ H v u Q I r (i v σ H Q q)⟩
theorem PGs.imp {e : List Expr} {t t' : TGs} (h : PGs X e t) (i : ∀ v σ H Q, t' v σ H Q → t v σ H Q) : PGs X e t' := ⟨fun pins s σ H v u Q I r q => h.run pins s σ H v u Q I r (i v σ H Q q)⟩
theorem Rel.set {K : PySem.W.Frag} {g : Gh} {r : Sl} {S : Store} {σ : L2.St} {H : Hp} (h : Rel K T g r S σ H) {d : D} {v : V} (rp : Rep K g H d v) (i : Nat) : Rel K T g (r.set i (some d)) S (σ.set i (some v)) H :=
  ⟨h.good, by simp [h.len], fun j d' q => by
    by_cases hj : i = j
    · subst hj
      by_cases hi : i < r.length
      · rw [List.getElem?_set_self hi] at q
        cases q
        exact ⟨v, List.getElem?_set_self (by rw [← h.len]; exact hi), rp⟩
      · rw [List.getElem?_eq_none (by simpa using hi)] at q; cases q
    · rw [List.getElem?_set_ne hj] at q
      rw [List.getElem?_set_ne hj]
      exact h.sl j d' q⟩
def dgName (i : Nat) : DTG := fun d r S Q => Q (r.set i (some d)) S
theorem dg_of {e : Expr} {i : Nat} (h : PG X e (gName i)) : DG X T e (dgName i) := PG.imp h fun v σ H Q ⟨g, r, S, d, Qd, rl, rp, h, hq⟩ => hq _ S g _ H h (Ext.refl g H) (rl.set rp i)
theorem dg_name {i : Nat} {x : Str} (hN : X.N.Nodup) (hi : X.N[i]? = some x) (hx : Loc X.env.scope x) (hf : X.fn x = true ∨ X.env.scope.names.lookup x = some .local := by first | exact .inl rfl | exact .inr rfl | assumption) : DG X T (.Name x pos) (dgName i) := dg_of (pg_name hN hi hx hf)
def dgNil : List D → Sl → Store → (Sl → Store → Prop) → Prop := fun ds r S Q => ds = [] ∧ Q r S
def dgCons (t : DTG) (u : List D → Sl → Store → (Sl → Store → Prop) → Prop) : List D → Sl → Store → (Sl → Store → Prop) → Prop := fun ds r S Q => ∃ d q, ds = d :: q ∧ t d r S fun r' S' => u q r' S' Q
theorem dgs_nil : DGs X T [] dgNil := PGs.imp pgs_nil fun v σ H Q ⟨g, r, S, ds, Qd, rl, rp, ⟨e, h⟩, hq⟩ => by
  subst e
  exact ⟨rp, hq r S g σ H h (Ext.refl g H) rl⟩
theorem dgs_cons {e : Expr} {t : DTG} {u : List D → Sl → Store → (Sl → Store → Prop) → Prop} (h1 : DG X T e t) (h2 : DGs X T es u)
    (hs : (assignEach (e :: es) X.env).map (·.2) = assign e X.env :: (assignEach es X.env).map (·.2) := by rfl) : DGs X T (e :: es) (dgCons t u) := PGs.imp (pgs_cons h1 h2 hs) fun vs σ H Q ⟨g, r, S, ds, Qd, rl, rp, ⟨d, q, e, h⟩, hq⟩ => by
  subst e
  obtain ⟨v, vr, e2, r1, r2⟩ := rp
  subst e2
  refine ⟨v, vr, rfl, g, r, S, d, _, rl, r1, h, fun r' S' g' σ' H' q1 x1 rl1 => ?_⟩
  exact ⟨g', r', S', q, _, rl1, Reps.ext x1 _ _ r2, q1, fun r2' S2 g2 σ2 H2 q2 x2 rl2 => hq r2' S2 g2 σ2 H2 q2 (x1.trans x2) rl2⟩
/-- (a, b, ..) = a tuple -/
def dgTup (n : Nat) (t : List D → Sl → Store → (Sl → Store → Prop) → Prop) : DTG := fun d r S Q => ∃ ds, d = .tup ds ∧ ds.length = n ∧ t ds r S Q
theorem Rep.tup_sq {K : PySem.W.Frag} {g : Gh} {H : Hp} {ds : List D} {v : V} (h : Rep K g H (.tup ds) v) : ∃ a vs, v = .ref a ∧ SqT K H a vs ∧ Reps K g H ds vs := by
  obtain ⟨a, vs, e, h, r⟩ := h
  exact ⟨a, vs, e, h.elim (fun q => .inl q.1) .inr, r⟩
theorem Rep.lst_sq {K : PySem.W.Frag} {g : Gh} {H : Hp} {ds : List D} {v : V} (h : Rep K g H (.lst ds) v) : ∃ a vs, v = .ref a ∧ SqL K H a vs ∧ Reps K g H ds vs := by
  obtain ⟨a, vs, e, h, r⟩ := h
  exact ⟨a, vs, e, .inl (.inl h.1), r⟩
theorem dg_tup {k n : Nat} {t : List D → Sl → Store → (Sl → Store → Prop) → Prop} (hc : X.calm = true) (h : DGs X T es t)
    (hn : (assignEach es X.env).length = n := by rfl) (hst : (assignEach es X.env).findIdx? (·.1) = none := by rfl) : DG X T (.Tuple es k pos) (dgTup n t) := PG.imp (pg_tup hc h hn hst) fun v σ H Q ⟨g, r, S, d, Qd, rl, rp, ⟨ds, e, hl, h⟩, hq⟩ => by
  subst e
  obtain ⟨a, vs, e2, sq, rs⟩ := rp.tup_sq
  exact ⟨a, vs, e2, sq, by rw [← rs.length]; exact hl, g, r, S, ds, Qd, rl, rs, h, hq⟩
def dAsg (t : DTE) (g : DTG) : DTS := fun d r S => t r S (fun x S1 => g x r S1 d.nx) (fun x S1 => d.ex x r S1)
theorem ds_asg {tg : Expr} {g : DTG} (he : DE X T W a ta) (hg : DG X T tg g) (hs : swapsWithSole [tg] a pos.line X.env = pure false := by rfl) (hw : swappedStores [tg] a X.env = pure none := by rfl)
    (h1 : (assignEach [tg] X.env).map (·.2) = [assign tg X.env] := by rfl) : DS X T W (.Assign [tg] a pos) (dAsg ta g) := PS.imp (ps_asg he hg hs hw h1) fun N σ H ⟨g, r, S, d, rl, h, e⟩ =>
  ⟨g, r, S, _, _, rl, h, fun d1 S1 g1 H1 v h1 x1 rl1 rp1 => ⟨g1, r, S1, d1, _, rl1, rp1, h1, fun r' S' g' σ' H' q x2 rl2 => e.nx r' S' g' σ' H' q (x1.trans x2) rl2⟩, e.wok r σ⟩
theorem ds_set {i : Nat} {x : Str} {pos' : Pos} (hN : X.N.Nodup) (hi : X.N[i]? = some x) (hx : Loc X.env.scope x) (he : DE X T W a ta) (hs : swapsWith a (some (.Name x pos')) pos.line X.env = pure false := by rfl) (hf : X.fn x = true ∨ X.env.scope.names.lookup x = some .local := by first | exact .inl rfl | exact .inr rfl | assumption) :
    DS X T W (.Assign [.Name x pos'] a pos) (dAsg ta (dgName i)) := PS.imp (ps_set hN hi hx he hs hf) fun N σ H ⟨g, r, S, d, rl, h, e⟩ =>
  ⟨g, r, S, _, _, rl, h, fun d1 S1 g1 H1 v h1 x1 rl1 rp1 => e.nx _ S1 g1 _ H1 h1 x1 (rl1.set rp1 i), e.wok r σ⟩
/-- a, b = x, y of plain local names -/
def dPar (i j : Nat) (t : DTA) : DTS := fun d r S => t r S (fun ds S1 => ∃ v w, ds = [v, w] ∧ d.nx ((r.set i (some v)).set j (some w)) S1) (fun x S1 => d.ex x r S1)
theorem ds_par {i j : Nat} {x y : Str} {px py pt : Pos} {kt k2 pt2} (hc : X.calm = true) (hN : X.N.Nodup) (hi : X.N[i]? = some x) (hj : X.N[j]? = some y) (hij : i ≠ j)
    (hx : X.env.scope.names.lookup x = some .local) (hy : X.env.scope.names.lookup y = some .local) (ha : DA X T W [a, b] tes)
    (hw : swappedStores [.Tuple [.Name x px, .Name y py] kt pt] (.Tuple [a, b] k2 pt2) X.env = pure (some [x, y]))
    (hs : swapsWithSole [.Tuple [.Name x px, .Name y py] kt pt] (.Tuple [a, b] k2 pt2) pos.line X.env = pure false := by rfl) :
    DS X T W (.Assign [.Tuple [.Name x px, .Name y py] kt pt] (.Tuple [a, b] k2 pt2) pos) (dPar i j tes) := PS.imp (ps_par hc hN hi hj hij hx hy ha hw hs) fun N σ H ⟨g, r, S, d, rl, h, e⟩ => by
  refine ⟨g, r, S, _, _, rl, h, fun ds S1 g1 H1 vs ⟨v, w, e1, h1⟩ x1 rl1 rp1 => ?_, e.wok r σ⟩
  subst e1
  obtain ⟨v1, r1, rfl, p1, v2, r2, rfl, p2, rfl⟩ := rp1
  exact ⟨v1, v2, rfl, e.nx _ S1 g1 _ H1 h1 x1 ((rl1.set p1 i).set p2 j)⟩
/-- name op= e -/
def dAug (i : Nat) (t : DTE) (f : Store → D → D → D → Prop) : DTS := fun d r S => ∃ x, r[i]? = some (some x) ∧ t r S (fun y S1 => ∃ z, f S1 x y z ∧ d.nx (r.set i (some z)) S1) (fun x S1 => d.ex x r S1)
theorem ds_aug {i : Nat} {x : Str} {op : Operator} {pos' : Pos} {f : Store → D → D → D → Prop} (hN : X.N.Nodup) (hi : X.N[i]? = some x) (hx : Loc X.env.scope x) (he : DE X T W a ta) (ho : OpR X (inplaceOp op) (rD X.K T f)) (hf : X.fn x = true ∨ X.env.scope.names.lookup x = some .local := by first | exact .inl rfl | exact .inr rfl | assumption) :
    DS X T W (.AugAssign (.Name x pos') op a pos) (dAug i ta f) := PS.imp (ps_aug (ti := rD X.K T f) hN hi hx he (fun pins s σ H x y v u Q I r1 r2 h => ho pins s σ H x y v u Q I r1 r2 h) hf) fun N σ H ⟨g, r, S, d, rl, ⟨x, hx, h⟩, e⟩ => by
  obtain ⟨v, ev, rv⟩ := rl.sl i x hx
  refine ⟨v, ev, g, r, S, _, _, rl, h, fun y S1 g1 H1 w h1 x1 rl1 rp1 => ?_, e.wok r σ⟩
  obtain ⟨z, hf, hz⟩ := h1
  exact ⟨g1, S1, x, y, z, rl1.good, Rep.ext x1 _ _ rv, rp1, hf, fun v' H' s rp => e.nx _ S1 g1 _ H' hz (x1.trans (Ext.same s)) ((rl1.same s).set rp i)⟩
end
end DL
namespace DL
open PySem PySem.Spec PyProof.Rows L2
/-! ### what is walked -/
abbrev DTI := Sl → Store → (List D → Store → Prop) → DX → Prop
def Walks (K : PySem.W.Frag) (g : Gh) (H : Hp) (ds : List D) (J : It) : Prop := ∀ g2 H2, Ex0 g H g2 H2 →
  (∀ (i : Nat) d, ds[i]? = some d → J.go i H2 ∧ ∀ x H', J.yld i H2 x H' → Same H2 H' ∧ ∀ S T, GoodS K T g2 S H2 → Rep K g2 H' d x) ∧ J.stop ds.length H2
def liftI (K : PySem.W.Frag) (T : List (Addr × Str)) (W : WX) (t : DTI) : TI := fun σ H R => ∃ g r S Qd Ed, Rel K T g r S σ H ∧ t r S Qd Ed ∧
  (∀ ds S' g' H' J, Qd ds S' → Ext g H g' H' → Rel K T g' r S' σ H' → Walks K g' H' ds J → R J H') ∧ WOk K T W g H r σ Ed
def DI (X : Cx) (T : List (Addr × Str)) (W : WX) (tg e : Expr) (t : DTI) : Prop := PI X tg e (liftI X.K T W t)
theorem PI.imp {X : Cx} {tg e : Expr} {t t' : TI} (h : PI X tg e t) (i : ∀ σ H Q, t' σ H Q → t σ H Q) : PI X tg e t' := ⟨fun pins s σ H Q I q => h.run pins s σ H Q I (i σ H Q q)⟩
section
variable {X : Cx} {T : List (Addr × Str)} {W : WX} {a b c tg : Expr} {ta tb tc : DTE} {pos : Pos} {tA : DTT} {es : List Expr} {tes : DTA} {sts : List Stmt} {ts : DTS}
theorem walks_list {K : PySem.W.Frag} {g : Gh} {H : Hp} {a : Addr} {vs : List V} {ds : List D} (h : H a = some (.lst vs) ∧ ¬ g.off a) (r : Reps K g H ds vs) : Walks K g H ds (Itl K a) := fun g2 H2 x => by
  have h2 : SqL K H2 a vs := .inl (.inl (x.keep a _ h.1 h.2 (fun _ => nofun)).1)
  have r2 := Reps.ex0 (K := K) x _ _ r
  refine ⟨fun i d hd => ?_, ⟨vs, h2, by rw [r.length]; exact Nat.le_refl _⟩⟩
  obtain ⟨v, hv, rv⟩ := r2.get hd
  refine ⟨⟨vs, v, h2, hv⟩, fun x H' ⟨e, y⟩ => ?_⟩
  subst e
  refine ⟨Same.refl _, fun _ _ _ => ?_⟩
  have e2 := y vs h2
  rw [hv] at e2
  cases e2
  exact rv
theorem walks_tup {K : PySem.W.Frag} {g : Gh} {H : Hp} {a : Addr} {vs : List V} {ds : List D} (h : (Rd H a (.tup vs) ∧ ¬ g.off a) ∨ WrT K a vs) (r : Reps K g H ds vs) : Walks K g H ds (Itt K a) := fun g2 H2 x => by
  have h2 : SqT K H2 a vs := h.elim (fun h => .inl (x.rd (u := .tup vs) (fun _ => nofun) h).1) .inr
  have r2 := Reps.ex0 (K := K) x _ _ r
  refine ⟨fun i d hd => ?_, ⟨vs, h2, by rw [r.length]; exact Nat.le_refl _⟩⟩
  obtain ⟨v, hv, rv⟩ := r2.get hd
  refine ⟨⟨vs, v, h2, hv⟩, fun x H' ⟨e, y⟩ => ?_⟩
  subst e
  refine ⟨Same.refl _, fun _ _ _ => ?_⟩
  have e2 := y vs h2
  rw [hv] at e2
  cases e2
  exact rv
/-- over a list that stands still; over a tuple -/
def diList (t : DTE) : DTI := fun r S Q E => t r S (fun d S1 => ∃ ds, d = .lst ds ∧ Q ds S1) E
def diTup (t : DTE) : DTI := fun r S Q E => t r S (fun d S1 => ∃ ds, d = .tup ds ∧ Q ds S1) E
theorem di_list (h : DE X T W a ta) : DI X T W tg a (diList ta) := PI.imp (pi_list h) fun σ H R ⟨g, r, S, Qd, Ed, rl, h, hq, hx⟩ => by
  refine ⟨g, r, S, _, Ed, rl, h, fun d S1 g1 H1 v ⟨ds, e, h1⟩ x1 rl1 rp1 => ?_, hx⟩
  subst e
  obtain ⟨p, vs, e2, hl, rs⟩ := rp1
  exact ⟨p, e2, ⟨vs, .inl (.inl hl.1)⟩, hq ds S1 g1 H1 _ h1 x1 rl1 (walks_list hl rs)⟩
theorem di_tup (h : DE X T W a ta) : DI X T W tg a (diTup ta) := PI.imp (pi_tup h) fun σ H R ⟨g, r, S, Qd, Ed, rl, h, hq, hx⟩ => by
  refine ⟨g, r, S, _, Ed, rl, h, fun d S1 g1 H1 v ⟨ds, e, h1⟩ x1 rl1 rp1 => ?_, hx⟩
  subst e
  obtain ⟨p, vs, e2, hl, rs⟩ := rp1
  exact ⟨p, e2, ⟨vs, hl.elim (fun q => .inl q.1) .inr⟩, hq ds S1 g1 H1 _ h1 x1 rl1 (walks_tup hl rs)⟩
/-! ### for -/
def dFor (ti : DTI) (tg : DTG) (tb : DTS) : DTS := fun d r S => ti r S (fun ds S1 => ∃ Iv : Nat → Sl → Store → Prop, Iv 0 r S1 ∧
  (∀ (i : Nat) x r S, ds[i]? = some x → Iv i r S → tg x r S fun r2 S2 => tb { d with nx := Iv (i + 1), ct := Iv (i + 1), bk := d.nx } r2 S2) ∧ (∀ r S, Iv ds.length r S → d.nx r S)) (fun x S1 => d.ex x r S1)
theorem ds_for {ti : DTI} {dg : DTG} (hp : PassesOwn (model X.prog X.w) X.A X.env X.xe) (hc : X.calm = true) (hi : DI X T W tg a ti) (hg : DG X T tg dg) (hb : DSs X T W sts ts)
    (hs : ∀ x, foldedSetIterable a X.env x = pure x := by intro _; rfl) : DS X T W (.For tg a sts [] pos) (dFor ti dg ts) := PS.imp (ps_for hp hc hi hg hb hs) fun N σ H ⟨g, r, S, d, rl, h, e⟩ => by
  refine ⟨g, r, S, _, _, rl, h, fun ds S1 g1 H1 J ⟨Iv, h0, hst, hen⟩ x1 rl1 wk => ?_, e.wok r σ⟩
  refine ⟨fun i m σ H => m = ds.length - i ∧ i ≤ ds.length ∧ ∃ g' r' S', Rel X.K T g' r' S' σ H ∧ Iv i r' S' ∧ Ext g1 H1 g' H, ⟨ds.length, by simp, Nat.zero_le _, g1, r, S1, rl1, h0, Ext.refl _ _⟩, ?_⟩
  rintro i m σ' H' ⟨rfl, hi, g', r', S', rl', iv, x'⟩
  obtain ⟨w1, w2⟩ := wk g' H' x'.ex0
  by_cases hlt : i < ds.length
  · obtain ⟨go, yl⟩ := w1 i ds[i] (List.getElem?_eq_getElem hlt)
    refine .inr ⟨go, fun σ2 H2 => ∃ g2 r2 S2, Rel X.K T g2 r2 S2 σ2 H2 ∧ Iv (i + 1) r2 S2 ∧ Ext g1 H1 g2 H2, fun σ2 H2 q => ⟨ds.length - (i + 1), by omega, rfl, hlt, q⟩, fun x H2 y => ?_⟩
    obtain ⟨sm, rp⟩ := yl x H2 y
    have rp := rp S' T rl'.good
    have x2 := x'.trans (Ext.same (g := g') sm)
    refine ⟨g', r', S', ds[i], _, rl'.same sm, rp, hst i ds[i] r' S' (List.getElem?_eq_getElem hlt) iv, fun r3 S3 g3 σ3 H3 q3 x3 rl3 => ?_⟩
    have x13 := x2.trans x3
    refine ⟨g3, r3, S3, _, rl3, q3, ⟨fun r4 S4 g4 σ4 H4 q4 x4 rl4 => ⟨g4, r4, S4, rl4, q4, x13.trans x4⟩, fun d0 S4 g4 H4 v q4 x4 gd rp4 => e.rt d0 S4 g4 H4 v q4 ((x1.trans x13).trans x4) gd rp4,
      fun y r4 S4 g4 σ4 H4 c dd q4 x4 rl4 xr => e.ex y r4 S4 g4 σ4 H4 c dd q4 ((x1.trans x13).trans x4) rl4 xr, fun r4 S4 g4 σ4 H4 q4 x4 rl4 => e.nx r4 S4 g4 σ4 H4 q4 ((x1.trans x13).trans x4) rl4, fun r4 S4 g4 σ4 H4 q4 x4 rl4 => ⟨g4, r4, S4, rl4, q4, x13.trans x4⟩⟩⟩
  · have e2 : i = ds.length := by omega
    subst e2
    exact .inl ⟨w2, e.nx r' S' g' σ' H' (hen r' S' iv) (x1.trans x') rl'⟩
/-! ### while -/
def dWhile (c : DTT) (tb : DTS) : DTS := fun d r S => ∃ Iv : Nat → Sl → Store → Prop, (∃ m, Iv m r S) ∧ ∀ m r S, Iv m r S →
  c r S (fun b S1 => if b = true then tb { d with nx := fun r' S' => ∃ m', m' < m ∧ Iv m' r' S', ct := fun r' S' => ∃ m', m' < m ∧ Iv m' r' S', bk := d.nx } r S1 else d.nx r S1) (fun x S1 => d.ex x r S1)
theorem ds_while (hp : PassesOwn (model X.prog X.w) X.A X.env X.xe) (hc : DT X T W c tA) (hb : DSs X T W sts ts) : DS X T W (.While c sts [] pos) (dWhile tA ts) := PS.imp (ps_while hp hc hb) fun N σ H ⟨g, r, S, d, rl, ⟨Iv, ⟨m0, h0⟩, hst⟩, e⟩ => by
  refine ⟨fun m σ H2 => ∃ g' r' S', Rel X.K T g' r' S' σ H2 ∧ Iv m r' S' ∧ Ext g H g' H2, ⟨m0, g, r, S, rl, h0, Ext.refl _ _⟩, ?_⟩
  rintro m σ' H' ⟨g', r', S', rl', iv, x'⟩
  refine ⟨g', r', S', _, _, rl', hst m r' S' iv, fun b S1 g1 H1 h1 x1 rl1 => ?_, (e.ext x').wok r' σ'⟩
  have x2 := x'.trans x1
  cases b with
  | true =>
    refine ⟨fun σ2 H2 => ∃ m', m' < m ∧ ∃ g2 r2 S2, Rel X.K T g2 r2 S2 σ2 H2 ∧ Iv m' r2 S2 ∧ Ext g H g2 H2, fun σ2 H2 ⟨m', hm, q⟩ => ⟨m', hm, q⟩, ?_⟩
    exact ⟨g1, r', S1, _, rl1, h1, ⟨fun r4 S4 g4 σ4 H4 ⟨m', hm, q4⟩ x4 rl4 => ⟨m', hm, g4, r4, S4, rl4, q4, x2.trans x4⟩, fun d0 S4 g4 H4 v q4 x4 gd rp4 => e.rt d0 S4 g4 H4 v q4 (x2.trans x4) gd rp4,
      fun y r4 S4 g4 σ4 H4 c dd q4 x4 rl4 xr => e.ex y r4 S4 g4 σ4 H4 c dd q4 (x2.trans x4) rl4 xr, fun r4 S4 g4 σ4 H4 q4 x4 rl4 => e.nx r4 S4 g4 σ4 H4 q4 (x2.trans x4) rl4, fun r4 S4 g4 σ4 H4 ⟨m', hm, q4⟩ x4 rl4 => ⟨m', hm, g4, r4, S4, rl4, q4, x2.trans x4⟩⟩⟩
  | false => exact e.nx r' S1 g1 σ' H1 h1 x2 rl1
/-! ### list comprehensions -/
def wipeD (r : Sl) : List Nat → Sl
  | [] => r
  | v :: vs => (wipeD r vs).set v none
theorem wipeD_len (r : Sl) : ∀ vs : List Nat, (wipeD r vs).length = r.length
  | [] => rfl
  | v :: vs => by unfold wipeD; rw [List.length_set, wipeD_len r vs]
theorem wipe_get {σ : L2.St} {i : Nat} : ∀ {vs : List Nat}, i ∉ vs → (wipe σ vs)[i]? = σ[i]?
  | [], _ => rfl
  | v :: vs, h => by
    unfold wipe
    rw [List.getElem?_set_ne (fun z => h (by simp [z])), wipe_get fun z => h (by simp [z])]
theorem wipeD_some {r : Sl} {i : Nat} {x : D} : ∀ {vs : List Nat}, (wipeD r vs)[i]? = some (some x) → r[i]? = some (some x) ∧ i ∉ vs
  | [], h => ⟨h, by simp⟩
  | v :: vs, h => by
    unfold wipeD at h
    by_cases hi : v = i
    · subst hi
      by_cases hv : v < (wipeD r vs).length
      · rw [List.getElem?_set_self hv] at h; cases h
      · rw [List.getElem?_eq_none (by simpa using hv)] at h; cases h
    · rw [List.getElem?_set_ne hi] at h
      obtain ⟨h1, h2⟩ := wipeD_some h
      exact ⟨h1, by simp [h2, Ne.symm hi]⟩
theorem Rel.wipe {K : PySem.W.Frag} {g : Gh} {r : Sl} {S : Store} {σ : L2.St} {H : Hp} (h : Rel K T g r S σ H) (vs : List Nat) : Rel K T g (wipeD r vs) S (wipe σ vs) H :=
  ⟨h.good, by rw [wipeD_len, wipe_length, h.len], fun i d e => by
    obtain ⟨h1, h2⟩ := wipeD_some e
    rw [wipe_get h2]
    exact h.sl i d h1⟩
theorem wipe_ext {σ τ : L2.St} (hl : σ.length = τ.length) (vs : List Nat) (h : ∀ i, i ∉ vs → σ[i]? = τ[i]?) : L2.wipe σ vs = L2.wipe τ vs := by
  apply List.ext_getElem?
  intro i
  by_cases hi : i ∈ vs
  · have key : ∀ (ρ : L2.St) (vs : List Nat), i ∈ vs → (L2.wipe ρ vs)[i]? = if i < ρ.length then some none else none := by
      intro ρ vs
      induction vs with
      | nil => intro h; cases h
      | cons v vs ih =>
        intro h
        unfold L2.wipe
        by_cases hv : v = i
        · subst hv
          by_cases hl : v < ρ.length
          · rw [List.getElem?_set_self (by rw [wipe_length]; exact hl), if_pos hl]
          · rw [List.getElem?_eq_none (by rw [List.length_set, wipe_length]; omega), if_neg hl]
        · rw [List.getElem?_set_ne hv]
          exact ih ((List.mem_cons.mp h).resolve_left (Ne.symm hv))
    rw [key σ vs hi, key τ vs hi, hl]
  · rw [wipe_get hi, wipe_get hi, h i hi]
/-- a comprehension's target: it stores into the block's own slots alone -/
def TgOk (K : PySem.W.Frag) (T : List (Addr × Str)) (vs : List Nat) (gv : TG) (tg : DTG) : Prop := ∀ (g : Gh) (r : Sl) (S : Store) (σ : L2.St) (H : Hp) (d : D) (v : V) (Qd : Sl → Store → Prop) (k : L2.St → Hp → Prop), Rel K T g r S σ H → Rep K g H d v → tg d r S Qd →
  (∀ r2 S2 σ2, Qd r2 S2 → Rel K T g r2 S2 σ2 H → (∀ i, i ∉ vs → σ2[i]? = σ[i]?) → σ2.length = σ.length → k σ2 H) → gv v σ H k
theorem tgOk_name {K : PySem.W.Frag} {vs : List Nat} {i : Nat} (hi : i ∈ vs) : TgOk K T vs (gName i) (dgName i) := fun g r S σ H d v Qd k rl rp h hk =>
  hk _ S _ h (rl.set rp i) (fun j hj => List.getElem?_set_ne (by rintro rfl; exact hj hi)) (by simp)
theorem tgOk_pair {K : PySem.W.Frag} {vs : List Nat} {i j : Nat} (hi : i ∈ vs) (hj : j ∈ vs) : TgOk K T vs (gTup K 2 (gCons (gName i) (gCons (gName j) gNil))) (dgTup 2 (dgCons (dgName i) (dgCons (dgName j) dgNil))) := fun g r S σ H d v Qd k rl rp h hk => by
  obtain ⟨ds, e, hl, d1, q1, e1, d2, q2, e2, e3, h⟩ := h
  subst e e1 e2 e3
  obtain ⟨a, vs', ev, sq, rs⟩ := rp.tup_sq
  obtain ⟨v1, r1, rfl, p1, v2, r2, rfl, p2, rfl⟩ := rs
  refine ⟨a, [v1, v2], ev, sq, rfl, v1, [v2], rfl, v2, [], rfl, rfl, ?_⟩
  refine hk _ S _ h ((rl.set p1 i).set p2 j) (fun m hm => ?_) (by simp)
  rw [List.getElem?_set_ne (by rintro rfl; exact hm hj), List.getElem?_set_ne (by rintro rfl; exact hm hi)]
abbrev WF : WX := fun _ _ _ _ => False
abbrev EF : DX := fun _ _ => False
def dLc (ti : DTI) (tg : DTG) (tt : DTT) (te : DTE) (vs : List Nat) : DTE := fun r S Q E => ti r S (fun ds S1 => ∃ Iv : Nat → List D → Store → Prop, Iv 0 [] S1 ∧
  (∀ (i : Nat) x acc S, ds[i]? = some x → Iv i acc S → tg x (wipeD r vs) S fun r2 S2 => tt r2 S2 (fun b S3 => if b = true then te r2 S3 (fun y S4 => acc.length < sizeLine ∧ Iv (i + 1) (acc ++ [y]) S4) EF else Iv (i + 1) acc S3) EF) ∧
  (∀ acc S, Iv ds.length acc S → Q (.lst acc) S)) E
/-- p is hidden from here on -/
theorem Rel.hide {K : PySem.W.Frag} {g : Gh} {r : Sl} {S : Store} {σ : L2.St} {H : Hp} (h : Rel K T g r S σ H) {p : Addr} {o : HO} (nt : NT o) (e : H p = none) : Rel K T ⟨g.ps, p :: g.hs⟩ r S σ (upd H p o) ∧ Ex0 g H ⟨g.ps, p :: g.hs⟩ (upd H p o) := by
  have no := h.good.notOff e
  have ex : Ex0 g H ⟨g.ps, p :: g.hs⟩ (upd H p o) := ⟨fun a u q n t => ⟨same_upd e a u q, fun z => by
    rcases z with z | z
    · exact n (.inl z)
    · rcases List.mem_cons.mp z with rfl | z
      · rw [e] at q; cases q
      · exact n (.inr z)⟩, ⟨[], by simp⟩⟩
  refine ⟨⟨⟨h.good.len, ?_, fun n a o' h1 h2 => ?_, fun x hx => ?_, h.good.tabs.ext (same_upd e)⟩, h.len, fun i d q => let ⟨v, e1, q1⟩ := h.sl i d q; ⟨v, e1, Rep.ex0 ex _ _ q1⟩⟩, ex⟩
  · have nd := h.good.nd
    rw [List.nodup_append] at *
    obtain ⟨n1, n2, n3⟩ := nd
    refine ⟨n1, List.nodup_cons.mpr ⟨fun z => no (.inr z), n2⟩, fun x hx y hy => ?_⟩
    rcases List.mem_cons.mp hy with rfl | hy
    · exact fun z => no (.inl (z ▸ hx))
    · exact n3 x hx y hy
  · have q1 := h.good.st n a o' h1 h2
    refine q1.ex0 ex (upd_ne fun z => ?_)
    subst z
    exact q1.there e
  · rcases List.mem_cons.mp hx with rfl | hx
    · exact ⟨o, upd_same, nt⟩
    · obtain ⟨u, q, n⟩ := h.good.hid x hx
      exact ⟨u, same_upd e x u q, n⟩
/-- what is hidden is written -/
theorem Rel.wrHid {K : PySem.W.Frag} {g : Gh} {r : Sl} {S : Store} {σ : L2.St} {H : Hp} (h : Rel K T g r S σ H) {p : Addr} {o : HO} (nt : NT o) (hp : p ∈ g.hs) (hps : p ∉ g.ps) (ht : ∀ t, H p ≠ some (.tbl t)) (hc : ∀ c q, H p ≠ some (LamX.CodeO c q)) : Rel K T g r S σ (upd H p o) := by
  have w : ∀ b, ¬ g.off b → upd H p o b = H b := fun b n => upd_ne fun z => n (.inr (z ▸ hp))
  refine ⟨⟨h.good.len, h.good.nd, fun n a o' h1 h2 => (h.good.st n a o' h1 h2).wr w (upd_ne fun z => ?_), fun x hx => ?_, fun y hy => ?_⟩, h.len, fun i d q => let ⟨v, e1, q1⟩ := h.sl i d q; ⟨v, e1, Rep.wr w _ _ q1⟩⟩
  · subst z
    exact hps (List.mem_of_getElem? h1)
  · by_cases e : x = p
    · subst e; exact ⟨o, upd_same, nt⟩
    · rw [upd_ne e]; exact h.good.hid x hx
  · obtain ⟨ps, q1, q2, q3⟩ := h.good.tabs y hy
    refine ⟨ps, ?_, q2, fun pos cv hcv => ?_⟩
    · rw [upd_ne (show y.1 ≠ p from fun z => ht ps (by rw [← z]; exact q1))]; exact q1
    · obtain ⟨c, e1, e2⟩ := q3 pos cv hcv
      refine ⟨c, e1, ?_⟩
      rw [upd_ne (show c ≠ p from fun z => hc c y.2 (by rw [← z]; exact e2))]; exact e2
theorem codeO_lst {c : Addr} {q : Str} {xs : List V} : HO.lst xs ≠ LamX.CodeO c q := fun z => by
  unfold LamX.CodeO at z
  cases z
/-- the hidden thing is let go -/
theorem Rel.unhide {K : PySem.W.Frag} {g : Gh} {hs : List Addr} {p : Addr} {r : Sl} {S : Store} {σ : L2.St} {H : Hp} (h : Rel K T g r S σ H) (e : g.hs = p :: hs) : Rel K T ⟨g.ps, hs⟩ r S σ H ∧ Ex0 g H ⟨g.ps, hs⟩ H := by
  have ex : Ex0 g H ⟨g.ps, hs⟩ H := Ex0.hid rfl fun b o _ n z => n (z.imp id fun q => by rw [e]; exact List.mem_cons_of_mem _ q)
  refine ⟨⟨⟨h.good.len, ?_, fun n a o' h1 h2 => (h.good.st n a o' h1 h2).ex0 ex rfl, fun x hx => h.good.hid x (by rw [e]; exact List.mem_cons_of_mem _ hx), h.good.tabs⟩, h.len, fun i d q => let ⟨v, e1, q1⟩ := h.sl i d q; ⟨v, e1, Rep.ex0 ex _ _ q1⟩⟩, ex⟩
  have nd := h.good.nd
  rw [e, List.nodup_append] at nd
  rw [List.nodup_append]
  exact ⟨nd.1, (List.nodup_cons.mp nd.2.1).2, fun x hx y hy => nd.2.2 x hx y (List.mem_cons_of_mem _ hy)⟩
theorem nd_not {g : Gh} {p : Addr} {hs : List Addr} (nd : (g.ps ++ g.hs).Nodup) (e : g.hs = p :: hs) : p ∉ g.ps ∧ p ∉ hs := by
  rw [e, List.nodup_append] at nd
  exact ⟨fun z => nd.2.2 p z p List.mem_cons_self rfl, (List.nodup_cons.mp nd.2.1).1⟩
/-- back to the outer slots -/
theorem Rel.slots {K : PySem.W.Frag} {g g' : Gh} {r r' : Sl} {S S' : Store} {σ σ' : L2.St} {H H' : Hp} (h : Rel K T g r S σ H) (h' : Rel K T g' r' S' σ' H') (x : Ex0 g H g' H') : Rel K T g' r S' σ H' :=
  ⟨h'.good, h.len, fun i d q => let ⟨v, e1, q1⟩ := h.sl i d q; ⟨v, e1, Rep.ex0 x _ _ q1⟩⟩
theorem Ext.norm {g g' : Gh} {H H' : Hp} (x : Ext g H g' H') {p : Addr} {u : HO} (hp : H p = some u) (nu : NT u) {o : HO} (no : NT o) : Ext g (upd H p o) g' (upd H' p o) := by
  obtain ⟨new, e, f⟩ := x.ps
  refine ⟨fun a u q n t => ?_, fun a u q n => ?_, ⟨new, e, fun a ha u' q n => ?_⟩, x.hs⟩
  · by_cases h : a = p
    · subst h; rw [upd_same] at *; exact q
    · rw [upd_ne h] at *; exact x.keep a u q n t
  · by_cases h : a = p
    · subst h; exact ⟨o, upd_same, no⟩
    · rw [upd_ne h] at *; exact x.there a u q n
  · by_cases h : a = p
    · subst h; exact f a ha u hp nu
    · rw [upd_ne h] at q; exact f a ha u' q n
/-- around a hidden thing that changes -/
structure Hx (g : Gh) (H : Hp) (p : Addr) (g' : Gh) (H' : Hp) : Prop where
  free : H p = none
  hs : g'.hs = p :: g.hs
  ext : Ext ⟨g.ps, p :: g.hs⟩ (upd H p (.lst [])) g' (upd H' p (.lst []))
theorem Hx.ex0 {g g' : Gh} {H H' : Hp} {p : Addr} (x : Hx g H p g' H') : Ex0 g H g' H' := by
  obtain ⟨new, e, f⟩ := x.ext.ps
  refine ⟨fun a o h n t => ?_, ⟨new, e⟩⟩
  have ne : a ≠ p := fun z => by rw [z, x.free] at h; cases h
  refine ⟨?_, ?_⟩
  · have q := x.ext.keep a o (by rw [upd_ne ne]; exact h) (fun z => n (.inl z)) t
    rw [upd_ne ne] at q
    exact q
  · rintro (z | z)
    · rw [e] at z
      rcases List.mem_append.mp z with z | z
      · exact n (.inl z)
      · exact f a z o (by rw [upd_ne ne]; exact h) t
    · rw [x.hs] at z
      rcases List.mem_cons.mp z with z | z
      · exact ne z
      · exact n (.inr z)
theorem Hx.out {g g' : Gh} {H H' : Hp} {p : Addr} (x : Hx g H p g' H') : Ext g H ⟨g'.ps, g.hs⟩ H' := by
  obtain ⟨new, e, f⟩ := x.ext.ps
  refine ⟨fun a o h n t => ?_, fun a o h n => ?_, ⟨new, e, fun a ha o h n => ?_⟩, rfl⟩
  · have ne : a ≠ p := fun z => by rw [z, x.free] at h; cases h
    have q := x.ext.keep a o (by rw [upd_ne ne]; exact h) n t
    rw [upd_ne ne] at q
    exact q
  · have ne : a ≠ p := fun z => by rw [z, x.free] at h; cases h
    have q2 := x.ext.there a o (by rw [upd_ne ne]; exact h) n
    rw [upd_ne ne] at q2
    exact q2
  · have ne : a ≠ p := fun z => by rw [z, x.free] at h; cases h
    exact f a ha o (by rw [upd_ne ne]; exact h) n
theorem Hx.step {g g1 g2 : Gh} {H H1 H2 : Hp} {p : Addr} {u : HO} (x : Hx g H p g1 H1) (hp : H1 p = some u) (nu : NT u) (e : Ext g1 H1 g2 H2) (o : HO) : Hx g H p g2 (upd H2 p o) :=
  ⟨x.free, e.hs.trans x.hs, by rw [upd_upd]; exact x.ext.trans (e.norm hp nu (fun _ => nofun))⟩
theorem Hx.stay {g g1 g2 : Gh} {H H1 H2 : Hp} {p : Addr} {u : HO} (x : Hx g H p g1 H1) (hp : H1 p = some u) (nu : NT u) (e : Ext g1 H1 g2 H2) : Hx g H p g2 H2 := ⟨x.free, e.hs.trans x.hs, x.ext.trans (e.norm hp nu (fun _ => nofun))⟩
theorem lift_lc {K : PySem.W.Frag} {ti : DTI} {gv : TG} {dg : DTG} {tt : DTT} {te : DTE} {vs : List Nat} (ok : TgOk K T vs gv dg) {σ : L2.St} {H : Hp} {Q : VK} (h : lift K T W (dLc ti dg tt te vs) σ H Q) :
    tLc (liftI K T W ti) gv (liftT K T WF tt) (lift K T WF te) vs σ H Q := by
  obtain ⟨g, r, S, Qd, Ed, rl, h, hq, hx⟩ := h
  refine ⟨g, r, S, _, Ed, rl, h, fun ds S1 g1 H1 J ⟨Iv, h0, hst, hen⟩ x1 rl1 wk D hD => ?_, hx⟩
  refine ⟨fun i m H2 => m = ds.length - i ∧ i ≤ ds.length ∧ ∃ g2 S2 acc vs2, Rel K T g2 r S2 σ H2 ∧ Iv i acc S2 ∧ H2 D = some (.lst vs2) ∧ Reps K g2 H2 acc vs2 ∧ Hx g1 H1 D g2 H2, ?_, ?_⟩
  · obtain ⟨rh, xh⟩ := rl1.hide (o := .lst []) (fun _ => nofun) hD
    exact ⟨ds.length, by simp, Nat.zero_le _, ⟨g1.ps, D :: g1.hs⟩, S1, [], [], rh, h0, upd_same, rfl, ⟨hD, rfl, by rw [upd_upd]; exact Ext.refl _ _⟩⟩
  rintro i m H2 ⟨rfl, hi, g2, S2, acc, vs2, rl2, iv, hD2, rs, xx⟩
  have nl : ∀ xs : List V, NT (.lst xs) := fun _ _ => nofun
  obtain ⟨w1, w2⟩ := wk g2 H2 xx.ex0
  by_cases hlt : i < ds.length
  · obtain ⟨go, yl⟩ := w1 i ds[i] (List.getElem?_eq_getElem hlt)
    refine .inr ⟨go, fun H3 => ∃ g3 S3 acc3 vs3, Rel K T g3 r S3 σ H3 ∧ Iv (i + 1) acc3 S3 ∧ H3 D = some (.lst vs3) ∧ Reps K g3 H3 acc3 vs3 ∧ Hx g1 H1 D g3 H3, fun H3 q => ⟨ds.length - (i + 1), by omega, rfl, hlt, q⟩, fun x H3 y => ?_⟩
    obtain ⟨sm, rp⟩ := yl x H3 y
    have rp := rp S2 T rl2.good
    have e23 : Ext g2 H2 g2 H3 := Ext.same sm
    have hD3 : H3 D = some (.lst vs2) := sm _ _ hD2
    have rlw : Rel K T g2 (wipeD r vs) S2 (L2.wipe σ vs) H3 := (rl2.wipe vs).same sm
    refine ok g2 _ S2 _ H3 ds[i] x _ _ rlw rp (hst i ds[i] acc S2 (List.getElem?_eq_getElem hlt) iv) fun r4 S4 σ4 q4 rl4 hσ hl4 => ⟨?_, ?_⟩
    · refine wipe_ext (by rw [hl4, wipe_length]) vs fun k hk => ?_
      rw [hσ k hk, wipe_get hk]
    · refine ⟨g2, r4, S4, _, _, rl4, q4, fun b S5 g5 H5 q5 x5 rl5 => ?_, fun _ _ _ _ _ _ z => z.elim⟩
      have nn := nd_not rl2.good.nd xx.hs
      have hD5 : H5 D = some (.lst vs2) := x5.keep D _ hD3 nn.1 (fun _ => nofun)
      cases b with
      | false => exact ⟨g5, S5, acc, vs2, rl2.slots rl5 (e23.trans x5).ex0, q5, hD5, Reps.ext (e23.trans x5) _ _ rs, xx.stay hD2 (nl _) (e23.trans x5)⟩
      | true =>
        refine ⟨g5, r4, S5, _, _, rl5, q5, fun d6 S6 g6 H6 v6 ⟨hz, q6⟩ x6 rl6 rp6 => ?_, fun _ _ _ _ _ _ z => z.elim⟩
        have e26 := (e23.trans x5).trans x6
        have nn5 : D ∉ g5.ps := (nd_not (hs := g1.hs) rl5.good.nd (x5.hs.trans xx.hs)).1
        have nn6 := nd_not (hs := g1.hs) rl6.good.nd (x6.hs.trans (x5.hs.trans xx.hs))
        have hh6 : D ∈ g6.hs := by rw [x6.hs, x5.hs, xx.hs]; exact List.mem_cons_self
        have hD6 : H6 D = some (.lst vs2) := x6.keep D _ hD5 nn5 (fun _ => nofun)
        have w : ∀ b, ¬ g6.off b → upd H6 D (.lst (vs2 ++ [v6])) b = H6 b := fun b n => upd_ne fun z => n (.inr (by rw [z]; exact hh6))
        refine ⟨vs2, hD6, by rw [← rs.length]; exact hz, g6, S6, acc ++ [d6], vs2 ++ [v6], ?_, q6, upd_same, ?_, xx.step hD2 (nl _) e26 _⟩
        · exact (rl2.slots rl6 e26.ex0).wrHid (nl _) hh6 nn6.1 (fun t z => by rw [hD6] at z; cases z) (fun c q z => by rw [hD6] at z; exact codeO_lst (Option.some.inj z))
        · exact Reps.append (Reps.wr w _ _ (Reps.ext e26 _ _ rs)) (Reps.one (Rep.wr w _ _ rp6))
  · have e2 : i = ds.length := by omega
    subst e2
    obtain ⟨ru, xu⟩ := rl2.unhide xx.hs
    refine .inl ⟨w2, ?_⟩
    have nn := nd_not rl2.good.nd xx.hs
    refine hq _ S2 ⟨g2.ps, g1.hs⟩ H2 _ (hen acc S2 iv) (x1.trans xx.out) ru ⟨D, vs2, rfl, ⟨hD2, fun z => ?_⟩, Reps.ex0 xu _ _ rs⟩
    exact z.elim nn.1 nn.2
theorem de_lc {elt iter : Expr} {ifs : List Expr} {scope : Scope} {own : List (Str × Nat)} {ti : DTI} {gv : TG} {dg : DTG} {tt : DTT} {te : DTE} (hc : X.calm = true) (hN : X.N.Nodup) (hi : DI X T W tg iter ti) (ok : BlkOk X.N X.env.scope scope own) (tok : TgOk X.K T (own.map (·.2)) gv dg)
    (hg : ∀ (s : Shared) (H : Hp) (C : Addr) (cl : List (Str × Addr)) (fp : List Addr), PG (X.blk s H scope (compEnvC scope cl C X.env) fp) tg gv) (ht : ∀ (s : Shared) (H : Hp) (C : Addr) (cl : List (Str × Addr)) (fp : List Addr), PTs (X.blk s H scope (compEnvC scope cl C X.env) fp) ifs (liftT X.K T WF tt))
    (he : ∀ (s : Shared) (H : Hp) (C : Addr) (cl : List (Str × Addr)) (fp : List Addr), DE (X.blk s H scope (compEnvC scope cl C X.env) fp) T WF elt te) (hs : ∀ x, foldedSetIterable iter X.env x = pure x := by intro _; rfl) :
    DE X T W (.ListComp elt [⟨tg, iter, ifs, 0⟩] scope pos) (dLc ti dg tt te (own.map (·.2))) := PE.imp (pe_lc (te := lift X.K T WF te) hc hN hi ok hg ht he hs) fun σ H Q h => lift_lc tok h
theorem ds_setLc {i : Nat} {y : Str} {py spos : Pos} {elt iter : Expr} {ifs : List Expr} {scope : Scope} {own : List (Str × Nat)} {ti : DTI} {gv : TG} {dg : DTG} {tt : DTT} {te : DTE} (hc : X.calm = true) (hN : X.N.Nodup) (hy : X.N[i]? = some y) (hyl : X.env.scope.names.lookup y = some .local)
    (hsw : swapsWith (.ListComp elt [⟨tg, iter, ifs, 0⟩] scope pos) (some (.Name y py)) spos.line X.env = pure true) (hi : DI X T W tg iter ti) (ok : BlkOk X.N X.env.scope scope own) (tok : TgOk X.K T (own.map (·.2)) gv dg)
    (hg : ∀ (s : Shared) (H : Hp) (C : Addr) (cl : List (Str × Addr)) (fp : List Addr), PG (X.blk s H scope (compEnvC scope cl C X.env) fp) tg gv) (ht : ∀ (s : Shared) (H : Hp) (C : Addr) (cl : List (Str × Addr)) (fp : List Addr), PTs (X.blk s H scope (compEnvC scope cl C X.env) fp) ifs (liftT X.K T WF tt))
    (he : ∀ (s : Shared) (H : Hp) (C : Addr) (cl : List (Str × Addr)) (fp : List Addr), DE (X.blk s H scope (compEnvC scope cl C X.env) fp) T WF elt te) (hs : ∀ x, foldedSetIterable iter X.env x = pure x := by intro _; rfl) :
    DS X T W (.Assign [.Name y py] (.ListComp elt [⟨tg, iter, ifs, 0⟩] scope pos) spos) (dAsg (dLc ti dg tt te (own.map (·.2))) (dgName i)) := PS.imp (ps_setLc (te := lift X.K T WF te) hc hN hy hyl hsw hi ok hg ht he hs) fun N σ H ⟨g, r, S, d, rl, h, e⟩ =>
  lift_lc tok ⟨g, r, S, _, _, rl, h, fun d1 S1 g1 H1 v h1 x1 rl1 rp1 => e.nx _ S1 g1 _ H1 h1 x1 (rl1.set rp1 i), e.wok r σ⟩
def dYes : DTT := fun _ S Q _ => Q true S
theorem dts_nil {Y : Cx} : PTs Y [] (liftT Y.K T WF dYes) := ⟨fun pins s σ H Q I ⟨g, r, S, Qd, Ed, rl, h, hq, _⟩ => pts_nil.run pins s σ H Q I (hq true S g H h (Ext.refl g H) rl)⟩
theorem dts_one {Y : Cx} {t : DTT} (h : DT Y T WF c t) : PTs Y [c] (liftT Y.K T WF t) := pts_one h
/-! ### calls of defs -/
abbrev DSp := List D → Store → DQ → DX → Prop
def spD (K : PySem.W.Frag) (T : List (Addr × Str)) (n : Nat) (t : DSp) : Sp := fun vs H Q E => ∃ g S ds Qd Ed, GoodS K T g S H ∧ Reps K g H ds vs ∧ ds.length = n ∧ t ds S Qd Ed ∧
  (∀ d S' g' H' v, Qd d S' → Ext g H g' H' → GoodS K T g' S' H' → Rep K g' H' d v → Q v H') ∧ (∀ x S' g' H' c dd, Ed x S' → Ext g H g' H' → GoodS K T g' S' H' → XRep K g' H' x c dd → E c dd H')
def FnD (P : Program) (w : World) (K : PySem.W.Frag) (mg : Str → Option Value) (base : Heap) (T : List (Addr × Str)) (k : Nat) (f : Addr) (fd : FuncData) (ps : List Str) (t : DSp) : Prop := FnOk P w K mg base (L2.CX P w) k f fd ps (spD K T ps.length t)
def dCall (sp : DSp) (n : Nat) (t : DTA) : DTE := fun r S Q E => t r S (fun ds S1 => ds.length = n ∧ sp ds S1 Q E) E
theorem Rel.good' {K : PySem.W.Frag} {g g' : Gh} {r : Sl} {S S' : Store} {σ : L2.St} {H H' : Hp} (h : Rel K T g r S σ H) (h' : GoodS K T g' S' H') (x : Ext g H g' H') : Rel K T g' r S' σ H' :=
  ⟨h', h.len, fun i d q => let ⟨v, e1, q1⟩ := h.sl i d q; ⟨v, e1, Rep.ext x _ _ q1⟩⟩
variable {k : Nat} {f : Addr} {fd : FuncData} {ps : List Str} {sp : DSp} {x : Str} {p : Pos} {e : Expr}
theorem lift_call {K : PySem.W.Frag} {σ : L2.St} {H : Hp} {Q : VK} (h : lift K T W (dCall sp ps.length tes) σ H Q) : tCallS (spD K T ps.length sp) (WE W) (liftA K T W tes) σ H Q := by
  obtain ⟨g, r, S, Qd, Ed, rl, h, hq, hx⟩ := h
  refine ⟨g, r, S, _, Ed, rl, h, fun ds S1 g1 H1 vs ⟨hl, h1⟩ x1 rl1 rp1 => ?_, hx⟩
  exact ⟨g1, S1, ds, Qd, Ed, rl1.good, rp1, hl, h1, fun d S2 g2 H2 v q2 x2 gd rp => hq d S2 g2 H2 v q2 (x1.trans x2) (rl1.good' gd x2) rp, fun y S2 g2 H2 c dd q2 x2 gd xr => hx y S2 g2 H2 c dd q2 (x1.trans x2) (rl1.good' gd x2) xr⟩
theorem de_call (F : FnD X.prog X.w X.K X.mg X.base T k f fd ps sp) (tk : Takes X W) (hr : Room k X.A) (hg : Gl X x) (hm : X.mg x = some (.ref f)) (hk : PySem.W.keepIn X.K (.ref f) = true) (hb : Binds X.K fd ps [])
    (ha : DA X T W (e :: es) tes) (hdb : (x == ("__debug__" : Str)) = false := by decide) (he : starEach (e :: es) X.env = (false, eval e X.env) :: starEach es X.env := by rfl) (hpl : (backTo pos (starEach es X.env)).any (·.1) = false := by rfl) :
    DE X T W (.Call (.Name x p) (e :: es) [] pos) (dCall sp ps.length tes) := PE.imp (pe_callS F hr hg hm hk hb (fun σ => passAt tk σ) ha hdb he hpl) fun σ H Q h => lift_call h
/-! ### a def by its body -/
def startD (N : List Str) (ds : List D) : Sl := ds.map some ++ List.replicate (N.length - ds.length) none
theorem Rel.start {K : PySem.W.Frag} {g : Gh} {S : Store} {H : Hp} {N : List Str} {ds : List D} {vs : List V} (h : GoodS K T g S H) (r : Reps K g H ds vs) : Rel K T g (startD N ds) S (start N vs) H := by
  have hl := r.length
  refine ⟨h, by simp [startD, L2.start, hl], fun i d e => ?_⟩
  unfold startD at e
  by_cases hi : i < ds.length
  · rw [List.getElem?_append_left (by simpa using hi), List.getElem?_map, List.getElem?_eq_getElem hi] at e
    simp at e
    obtain ⟨v, hv, rv⟩ := r.get (List.getElem?_eq_getElem hi)
    refine ⟨v, ?_, by rw [← e]; exact rv⟩
    unfold L2.start
    rw [List.getElem?_append_left (by rw [List.length_map, ← hl]; exact hi), List.getElem?_map, hv]
    rfl
  · rw [List.getElem?_append_right (by simpa using hi), List.getElem?_replicate] at e
    split at e <;> cases e
section
variable {P : Program} {w : World} {K : PySem.W.Frag} {mg : Str → Option Value} {base : Heap}
/-- a def of the text as it stands behind the top -/
abbrev FunS (K : PySem.W.Frag) (x qual : Str) (st : Stmt) (dvs : List V) (kws : List (Str × V)) (f : Addr) (fd : FuncData) : Prop := FunD K x qual (defArgs st) (defBody st) (defScope st) dvs kws f fd
abbrev WD (E : XK) : WX := fun c dd _ H => E c dd H
/-- the context of a def's body -/
abbrev cxD (P : Program) (w : World) (K : PySem.W.Frag) (mg : Str → Option Value) (base : Heap) (N : List Str) (qual : Str) (sc : Scope) (f : Addr) (cdv : Value) (A : Around) (outer : List Env) (s : Shared) (H : Hp) (E : XK) : Cx := cxOf (L2.CX P w) P w K mg base N qual sc f cdv A outer s H E
theorem takesD {N : List Str} {qual : Str} {sc : Scope} {f : Addr} {cdv : Value} {A : Around} {outer : List Env} {s : Shared} {H : Hp} {E : XK} : Takes (cxD P w K mg base N qual sc f cdv A outer s H E) (WD E) := takes_of rfl rfl rfl rfl
theorem passD {N : List Str} {qual : Str} {sc : Scope} {f : Addr} {cdv : Value} {A : Around} {outer : List Env} {s : Shared} {H : Hp} {E : XK} : PassesOwn (model P w) (cxD P w K mg base N qual sc f cdv A outer s H E).A (cxD P w K mg base N qual sc f cdv A outer s H E).env (cxD P w K mg base N qual sc f cdv A outer s H E).xe :=
  passes_of (X := cxD P w K mg base N qual sc f cdv A outer s H E) rfl
theorem FunS.okC {CXx : CXT} {x qual : Str} {st : Stmt} {f : Addr} {fd : FuncData} {N ps : List Str} {k : Nat} {sp : Sp} {dvs : List V} {kws : List (Str × V)} (F : FunS K x qual st dvs kws f fd) (Sc : FnScope N ps (defScope st)) (len : ∀ vs H Q E, sp vs H Q E → vs.length = ps.length)
    (hbody : ∀ (cdv : Value) (A : Around) (outer : List Env) (s : Shared) (H : Hp) (vs : List V) (Q : VK) (E : XK), fd.code = cdv → Room k (A.deeper (envOfC qual (defScope st) s.heap.objs.size f cdv)) → sp vs H Q E →
      ∃ t, PSs (cxOf CXx P w K mg base N qual (defScope st) f cdv A outer s H E) (defBody st) t ∧ t { nx := fun _ H' => Q .non H', rt := Q } (L2.start N vs) H) : FnOk P w K mg base CXx (k + 1) f fd ps sp := by
  obtain ⟨oc, od, dV, kV, doc, pm, an, cdv, ct, osl, rfl, lk, hcd, _, _⟩ := F.ex
  exact fn_of lk hcd Sc len fun A outer s H vs Q E hr hsp => hbody cdv A outer s H vs Q E rfl hr hsp
theorem fnD_of {x qual : Str} {st : Stmt} {f : Addr} {fd : FuncData} {N ps : List Str} {k : Nat} {t : DTS} {sp : DSp} {dvs : List V} {kws : List (Str × V)} (F : FunS K x qual st dvs kws f fd) (Sc : FnScope N ps (defScope st))
    (hb : ∀ (cdv : Value) (A : Around) (outer : List Env) (s : Shared) (H : Hp) (E : XK), fd.code = cdv → Room k (A.deeper (envOfC qual (defScope st) s.heap.objs.size f cdv)) → DSs (cxD P w K mg base N qual (defScope st) f cdv A outer s H E) T (WD E) (defBody st) t)
    (hs : ∀ ds S Qd Ed, ds.length = ps.length → sp ds S Qd Ed → t { nx := fun _ S' => Qd .non S', rt := Qd, ex := fun x _ S' => Ed x S' } (startD N ds) S) : FnD P w K mg base T (k + 1) f fd ps sp := by
  refine FunS.okC F Sc (fun vs H Q E h => ?_) (fun cdv A outer s H vs Q E hcd hr h => ⟨_, hb cdv A outer s H E hcd hr, ?_⟩)
  · obtain ⟨g, S, ds, Qd, Ed, gd, rs, hl, _⟩ := h
    rw [← rs.length, hl]
  · obtain ⟨g, S, ds, Qd, Ed, gd, rs, hl, h, hq, hx⟩ := h
    refine ⟨g, _, S, _, Rel.start gd rs, hs ds S Qd Ed hl h, ⟨fun r' S' g' σ' H' q x1 rl1 => hq _ S' g' H' _ q x1 rl1.good rfl, fun d0 S' g' H' v q x1 gd1 rp1 => hq _ S' g' H' v q x1 gd1 rp1, fun y r' S' g' σ' H' c dd q x1 rl1 xr => hx y S' g' H' c dd q x1 rl1.good xr, fun _ _ _ _ _ z => z.elim, fun _ _ _ _ _ z => z.elim⟩⟩
end
end
end DL
namespace DL
open PySem PySem.Spec PyProof.Rows L2
/-! ### lists as they are seen -/
def lsv (S : Store) : D → Option (List D)
  | .lst ds => some ds
  | .ref n => match S[n]? with
    | some (.lst ds) => some ds
    | _ => none
  | _ => none
section
variable {K : PySem.W.Frag} {T : List (Addr × Str)} {g : Gh} {S : Store} {H : Hp} {d : D} {v : V} {ds : List D}
theorem ref_at (gd : GoodS K T g S H) {n : Nat} {o : O} (rp : Rep K g H (.ref n) v) (h : S[n]? = some o) : ∃ a, v = .ref a ∧ g.ps[n]? = some a ∧ ORep K g H a o := by
  obtain ⟨a, e, q⟩ := rp
  exact ⟨a, e, q, gd.st n a o q h⟩
theorem lsv_at (gd : GoodS K T g S H) (rp : Rep K g H d v) (h : lsv S d = some ds) : ∃ a vs, v = .ref a ∧ H a = some (.lst vs) ∧ Reps K g H ds vs := by
  cases d with
  | lst es =>
    cases h
    obtain ⟨a, vs, e, q, r⟩ := rp
    exact ⟨a, vs, e, q.1, r⟩
  | ref n =>
    cases hS : S[n]? with
    | none => simp only [lsv, hS] at h; cases h
    | some o =>
      simp only [lsv, hS] at h
      cases o with
      | lst es =>
        cases h
        obtain ⟨a, e, _, vs, q, r⟩ := ref_at gd rp hS
        exact ⟨a, vs, e, q, r⟩
      | _ => cases h
  | _ => cases h
end
/-! ### pure data -/
mutual
def pd : D → PyData
  | .bl b => .bool b
  | .int i => .int i
  | .str x => .str x
  | .tup ds => .tuple (pds ds)
  | .lst ds => .list (pds ds)
  | _ => .none
def pds : List D → List PyData
  | [] => []
  | d :: ds => pd d :: pds ds
end
theorem pds_map : ∀ ds : List D, pds ds = ds.map pd
  | [] => rfl
  | d :: ds => by simp [pds, pds_map ds]
/-- data of depth at most n -/
def sh : Nat → D → Bool
  | _, .non => true
  | _, .bl _ => true
  | _, .int _ => true
  | _, .str x => PyData.strOk x
  | n + 1, .tup ds => ds.all (sh n)
  | n + 1, .lst ds => ds.all (sh n)
  | _, _ => false
theorem canLayAll0_of : ∀ {l : List PyData}, (∀ d ∈ l, d.canLay0 = true) → PyData.canLayAll0 l = true
  | [], _ => by simp [PyData.canLayAll0]
  | d :: l, h => by
    have h1 := h d (by simp)
    have h2 := canLayAll0_of (l := l) fun x hx => h x (by simp [hx])
    simp [PyData.canLayAll0, h1, h2]
theorem depthAll_le {n : Nat} : ∀ {l : List PyData}, (∀ d ∈ l, d.depth ≤ n) → PyData.depthAll l ≤ n
  | [], _ => by simp [PyData.depthAll]
  | d :: l, h => by
    simp only [PyData.depthAll]
    exact Nat.max_le.mpr ⟨h d (by simp), depthAll_le fun x hx => h x (by simp [hx])⟩
theorem sh_ok : ∀ (n : Nat) (d : D), sh n d = true → (pd d).canLay0 = true ∧ (pd d).depth ≤ n
  | n, .non, _ => by simp [pd, PyData.canLay0, PyData.depth]
  | n, .bl _, _ => by simp [pd, PyData.canLay0, PyData.depth]
  | n, .int _, _ => by simp [pd, PyData.canLay0, PyData.depth]
  | n, .str x, h => by
    have h' : PyData.strOk x = true := by simpa [sh] using h
    simp [pd, PyData.canLay0, PyData.depth, h']
  | 0, .tup ds, h => by simp [sh] at h
  | 0, .lst ds, h => by simp [sh] at h
  | n + 1, .tup ds, h => by
    have h' : ∀ d ∈ ds, sh n d = true := by simpa [sh] using h
    simp only [pd, PyData.canLay0, PyData.depth, pds_map]
    refine ⟨canLayAll0_of fun x hx => ?_, Nat.succ_le_succ (depthAll_le fun x hx => ?_)⟩
    · obtain ⟨d, hd, e⟩ := List.mem_map.mp hx
      rw [← e]; exact (sh_ok n d (h' d hd)).1
    · obtain ⟨d, hd, e⟩ := List.mem_map.mp hx
      rw [← e]; exact (sh_ok n d (h' d hd)).2
  | n + 1, .lst ds, h => by
    have h' : ∀ d ∈ ds, sh n d = true := by simpa [sh] using h
    simp only [pd, PyData.canLay0, PyData.depth, pds_map]
    refine ⟨canLayAll0_of fun x hx => ?_, Nat.succ_le_succ (depthAll_le fun x hx => ?_)⟩
    · obtain ⟨d, hd, e⟩ := List.mem_map.mp hx
      rw [← e]; exact (sh_ok n d (h' d hd)).1
    · obtain ⟨d, hd, e⟩ := List.mem_map.mp hx
      rw [← e]; exact (sh_ok n d (h' d hd)).2
  | n, .fz _, h => by cases n <;> simp [sh] at h
  | n, .obj _ _ _, h => by cases n <;> simp [sh] at h
  | n, .ref _, h => by cases n <;> simp [sh] at h
  | n, .adr _, h => by cases n <;> simp [sh] at h
  | n, .ty _, h => by cases n <;> simp [sh] at h
theorem sh_shaped {n : Nat} {d : D} (h : sh n d = true) (hn : n ≤ 64) : SeqAt.shaped (pd d) = true := by
  obtain ⟨h1, h2⟩ := sh_ok n d h
  unfold SeqAt.shaped
  rw [h1, Bool.true_and]
  exact decide_eq_true (Nat.le_trans h2 hn)
section
variable {K : PySem.W.Frag} {T : List (Addr × Str)} {g : Gh} {S : Store} {H : Hp}
mutual
theorem dp_of : ∀ (n : Nat) (d : D) (v : V), sh n d = true → Rep K g H d v → Dp K H v (pd d)
  | _, .non, _, _, r => by cases r; simp only [pd]; exact .non
  | _, .bl b, _, _, r => by cases r; simp only [pd]; exact .bl b
  | _, .int b, _, _, r => by cases r; simp only [pd]; exact .int b
  | _, .str b, _, _, r => by cases r; simp only [pd]; exact .str b
  | 0, .tup ds, _, h, _ => by simp [sh] at h
  | 0, .lst ds, _, h, _ => by simp [sh] at h
  | n + 1, .tup ds, v, h, r => by
    obtain ⟨a, vs, e, sq, rs⟩ := Rep.tup_sq r
    subst e
    simp only [pd]
    exact .tup sq (dps_of n ds vs (by simpa [sh] using h) rs)
  | n + 1, .lst ds, v, h, r => by
    obtain ⟨a, vs, e, sq, rs⟩ := Rep.lst_sq r
    subst e
    simp only [pd]
    exact .lst sq (dps_of n ds vs (by simpa [sh] using h) rs)
  | n, .fz _, _, h, _ => by cases n <;> simp [sh] at h
  | n, .obj _ _ _, _, h, _ => by cases n <;> simp [sh] at h
  | n, .ref _, _, h, _ => by cases n <;> simp [sh] at h
  | n, .adr _, _, h, _ => by cases n <;> simp [sh] at h
  | n, .ty _, _, h, _ => by cases n <;> simp [sh] at h
theorem dps_of : ∀ (n : Nat) (ds : List D) (vs : List V), (∀ d ∈ ds, sh n d = true) → Reps K g H ds vs → DpAll K H vs (pds ds)
  | _, [], _, _, r => by cases r; simp only [pds]; exact .nil
  | n, d :: ds, _, h, ⟨v, q, e, r1, r2⟩ => by
    subst e
    simp only [pds]
    exact .cons (dp_of n d v (h d (by simp)) r1) (dps_of n ds q (fun x hx => h x (by simp [hx])) r2)
end
end
/-- the value as data, a store's list as it stands -/
def dres (S : Store) (d : D) : D := match lsv S d with
  | some ds => .lst ds
  | none => d
theorem dres_dp {K : PySem.W.Frag} {T : List (Addr × Str)} {g : Gh} {S : Store} {H : Hp} {d : D} {v : V} {n : Nat} (gd : GoodS K T g S H) (r : Rep K g H d v) (h : sh n (dres S d) = true) : Dp K H v (pd (dres S d)) := by
  unfold dres at *
  cases q : lsv S d with
  | none => rw [q] at h; exact dp_of n d v h r
  | some ds =>
    rw [q] at h
    obtain ⟨a, vs, e, ha, rs⟩ := lsv_at gd r q
    subst e
    cases n with
    | zero => simp [sh] at h
    | succ n =>
      simp only [pd]
      exact .lst (SqL.of ha) (dps_of n ds vs (by simpa [sh] using h) rs)
/-! ### operators -/
def MulOk (i j : Int) : Prop := CMul i j ∨ CMulW i j
def DivOk (j : Int) : Prop := 0 < j ∧ j.natAbs.log2 < 9000
def fAdd (S : Store) (x y z : D) : Prop := match x, y with
  | .int i, .int j => z = .int (i + j)
  | .str x, .str y => x.length + y.length ≤ sizeLine ∧ z = .str (x ++ y)
  | .tup x, .tup y => x.length + y.length ≤ sizeLine ∧ z = .tup (x ++ y)
  | x, y => ∃ a b, lsv S x = some a ∧ lsv S y = some b ∧ a.length + b.length ≤ sizeLine ∧ z = .lst (a ++ b)
def fSub (S : Store) : D → D → D → Prop
  | .int i, .int j, z => z = .int (i - j)
  | _, _, _ => False
def fMul (S : Store) (x y z : D) : Prop := match x, y with
  | .int i, .int j => MulOk i j ∧ z = .int (i * j)
  | .tup x, .int k => x ≠ [] ∧ 2 ≤ k ∧ k ≤ 1000 ∧ x.length ≤ 1000 ∧ z = .tup (List.replicate k.toNat x).flatten
  | x, .int k => ∃ a, lsv S x = some a ∧ -(2 ^ 63) ≤ k ∧ k < 2 ^ 63 ∧ a.length * k.toNat ≤ sizeLine ∧ z = .lst (List.replicate k.toNat a).flatten
  | _, _ => False
def fFdiv (S : Store) : D → D → D → Prop
  | .int i, .int j, z => DivOk j ∧ z = .int (i / j)
  | _, _, _ => False
def fMod (S : Store) : D → D → D → Prop
  | .int i, .int j, z => 0 < j ∧ z = .int (i % j)
  | _, _, _ => False
def fPow (S : Store) : D → D → D → Prop
  | .int i, .int j, z => (0 ≤ j ∧ j ≤ 1000000 ∧ i.natAbs < 2 ^ 64) ∧ z = .int (i ^ j.toNat)
  | _, _, _ => False
def fLt (S : Store) : D → D → D → Prop
  | .int i, .int j, z => z = .bl (decide (i < j))
  | _, _, _ => False
def fLe (S : Store) : D → D → D → Prop
  | .int i, .int j, z => z = .bl (decide (i ≤ j))
  | _, _, _ => False
def fGt (S : Store) : D → D → D → Prop
  | .int i, .int j, z => z = .bl (decide (j < i))
  | _, _, _ => False
def fGe (S : Store) : D → D → D → Prop
  | .int i, .int j, z => z = .bl (decide (j ≤ i))
  | _, _, _ => False
def fEq (S : Store) (x y z : D) : Prop := sh 60 (dres S x) = true ∧ sh 60 (dres S y) = true ∧ z = .bl (PyData.eqv (pd (dres S x)) (pd (dres S y)))
def fNe (S : Store) (x y z : D) : Prop := sh 60 (dres S x) = true ∧ sh 60 (dres S y) = true ∧ z = .bl (!PyData.eqv (pd (dres S x)) (pd (dres S y)))
def isNon : D → Bool
  | .non => true
  | _ => false
def fIsN (S : Store) (x y z : D) : Prop := y = .non ∧ z = .bl (isNon x)
def fNotN (S : Store) (x y z : D) : Prop := y = .non ∧ z = .bl (!isNon x)
section
variable {X : Cx} {T : List (Addr × Str)}
theorem opd_add : OpR X (binaryOp .Add) (rD X.K T fAdd) := fun pins s σ H x y v u Q I rx ry ⟨g, S, dx, dy, dz, gd, r1, r2, hf, q⟩ => by
  have lists : (∃ a b, lsv S dx = some a ∧ lsv S dy = some b ∧ a.length + b.length ≤ sizeLine ∧ dz = .lst (a ++ b)) → wpAny (model X.prog X.w) X.A (binaryOp .Add v u) (EP X pins σ Q) X.xe s := by
    rintro ⟨a, b, ha, hb, hz, rfl⟩
    obtain ⟨p, xs, rfl, hp, rs1⟩ := lsv_at gd r1 ha
    obtain ⟨p2, ys, rfl, hp2, rs2⟩ := lsv_at gd r2 hb
    exact op_cat pins s σ H _ _ v u Q I rx ry ⟨p, p2, xs, ys, rfl, rfl, hp, hp2, by rw [← rs1.length, ← rs2.length]; exact hz, fun l hl => q _ _ (same_upd hl) (Rep.lstNew gd (rs1.append rs2) hl)⟩
  unfold fAdd at hf
  split at hf
  case h_1 i j =>
    subst hf
    exact op_add pins s σ H x y v u Q I rx ry ⟨i, j, r1, r2, q _ H (Same.refl H) rfl⟩
  case h_2 i j =>
    obtain ⟨hz, rfl⟩ := hf
    exact op_add_str pins s σ H x y v u Q I rx ry ⟨i, j, r1, r2, hz, q _ H (Same.refl H) rfl⟩
  case h_3 i j =>
    obtain ⟨hz, rfl⟩ := hf
    have r1' := r1
    have r2' := r2
    obtain ⟨p, xs, rfl, hp, rs1⟩ := Rep.tup_sq r1
    obtain ⟨p2, ys, rfl, hp2, rs2⟩ := Rep.tup_sq r2
    refine op_catA pins s σ H _ _ v u Q I rx ry ⟨p, p2, xs, ys, rfl, rfl, hp, hp2, by rw [← rs1.length, ← rs2.length]; exact hz, fun e => ?_, fun _ e => ?_, fun _ _ l hl => q _ _ (same_upd hl) (Rep.tupNew gd (rs1.append rs2) hl)⟩
    · have hi : i = [] := by
        have := rs1.length
        rw [e] at this
        exact List.eq_nil_of_length_eq_zero this
      subst hi
      exact q _ H (Same.refl H) r2'
    · have hj : j = [] := by
        have := rs2.length
        rw [e] at this
        exact List.eq_nil_of_length_eq_zero this
      subst hj
      rw [List.append_nil] at q
      exact q _ H (Same.refl H) r1'
  case h_4 => exact lists hf
theorem opd_sub : OpR X (binaryOp .Sub) (rD X.K T fSub) := fun pins s σ H x y v u Q I rx ry ⟨g, S, dx, dy, dz, gd, r1, r2, hf, q⟩ => by
  match dx, dy, hf with
  | .int i, .int j, hf =>
    subst hf
    exact op_sub pins s σ H x y v u Q I rx ry ⟨i, j, r1, r2, q _ H (Same.refl H) rfl⟩
theorem Reps.replicate {K : PySem.W.Frag} {g : Gh} {H : Hp} {ds : List D} {vs : List V} (r : Reps K g H ds vs) : ∀ n : Nat, Reps K g H (List.replicate n ds).flatten (List.replicate n vs).flatten
  | 0 => rfl
  | n + 1 => by rw [List.replicate_succ, List.replicate_succ, List.flatten_cons, List.flatten_cons]; exact r.append (Reps.replicate r n)
theorem opd_mul : OpR X (binaryOp .Mult) (rD X.K T fMul) := fun pins s σ H x y v u Q I rx ry ⟨g, S, dx, dy, dz, gd, r1, r2, hf, q⟩ => by
  unfold fMul at hf
  split at hf
  case h_1 i j =>
    obtain ⟨h, hf⟩ := hf
    subst hf
    rcases h with h | h
    · exact op_mul pins s σ H x y v u Q I rx ry ⟨i, j, r1, r2, h, q _ H (Same.refl H) rfl⟩
    · exact op_mulW pins s σ H x y v u Q I rx ry ⟨i, j, r1, r2, h, q _ H (Same.refl H) rfl⟩
  case h_2 i k =>
    obtain ⟨h1, h2, h3, h4, rfl⟩ := hf
    obtain ⟨p, xs, rfl, hp, rs1⟩ := Rep.tup_sq r1
    refine op_repT pins s σ H _ _ v u Q I rx ry ⟨p, k, xs, rfl, r2, hp, ?_, h2, h3, by rw [← rs1.length]; exact h4, fun l hl => q _ _ (same_upd hl) (Rep.tupNew gd (rs1.replicate _) hl)⟩
    rintro rfl
    exact h1 (List.eq_nil_of_length_eq_zero rs1.length)
  case h_3 k _ _ =>
    obtain ⟨a, h, h1, h2, h3, hf⟩ := hf
    subst hf
    obtain ⟨p, xs, rfl, hp, rs1⟩ := lsv_at gd r1 h
    exact op_rep pins s σ H _ _ v u Q I rx ry ⟨p, k, xs, rfl, r2, hp, h1, h2, by rw [← rs1.length]; exact h3, fun l hl => q _ _ (same_upd hl) (Rep.lstNew gd (rs1.replicate _) hl)⟩
  case h_4 => exact hf.elim
theorem opd_fdiv : OpR X (binaryOp .FloorDiv) (rD X.K T fFdiv) := fun pins s σ H x y v u Q I rx ry ⟨g, S, dx, dy, dz, gd, r1, r2, hf, q⟩ => by
  match dx, dy, hf with
  | .int i, .int j, ⟨h, hf⟩ =>
    subst hf
    exact op_fdivW pins s σ H x y v u Q I rx ry ⟨i, j, r1, r2, h, q _ H (Same.refl H) rfl⟩
theorem opd_mod : OpR X (binaryOp .Mod) (rD X.K T fMod) := fun pins s σ H x y v u Q I rx ry ⟨g, S, dx, dy, dz, gd, r1, r2, hf, q⟩ => by
  match dx, dy, hf with
  | .int i, .int j, ⟨h, hf⟩ =>
    subst hf
    exact op_mod pins s σ H x y v u Q I rx ry ⟨i, j, r1, r2, h, q _ H (Same.refl H) rfl⟩
theorem opd_pow : OpR X (binaryOp .Pow) (rD X.K T fPow) := fun pins s σ H x y v u Q I rx ry ⟨g, S, dx, dy, dz, gd, r1, r2, hf, q⟩ => by
  match dx, dy, hf with
  | .int i, .int j, ⟨h, hf⟩ =>
    subst hf
    exact op_pow pins s σ H x y v u Q I rx ry ⟨i, j, r1, r2, h, q _ H (Same.refl H) rfl⟩
theorem opd_lt : OpR X (compareOp .Lt) (rD X.K T fLt) := fun pins s σ H x y v u Q I rx ry ⟨g, S, dx, dy, dz, gd, r1, r2, hf, q⟩ => by
  match dx, dy, hf with
  | .int i, .int j, hf => subst hf; exact op_lt pins s σ H x y v u Q I rx ry ⟨i, j, r1, r2, q _ H (Same.refl H) rfl⟩
theorem opd_le : OpR X (compareOp .LtE) (rD X.K T fLe) := fun pins s σ H x y v u Q I rx ry ⟨g, S, dx, dy, dz, gd, r1, r2, hf, q⟩ => by
  match dx, dy, hf with
  | .int i, .int j, hf => subst hf; exact op_le pins s σ H x y v u Q I rx ry ⟨i, j, r1, r2, q _ H (Same.refl H) rfl⟩
theorem opd_gt : OpR X (compareOp .Gt) (rD X.K T fGt) := fun pins s σ H x y v u Q I rx ry ⟨g, S, dx, dy, dz, gd, r1, r2, hf, q⟩ => by
  match dx, dy, hf with
  | .int i, .int j, hf => subst hf; exact op_gt pins s σ H x y v u Q I rx ry ⟨i, j, r1, r2, q _ H (Same.refl H) rfl⟩
theorem opd_ge : OpR X (compareOp .GtE) (rD X.K T fGe) := fun pins s σ H x y v u Q I rx ry ⟨g, S, dx, dy, dz, gd, r1, r2, hf, q⟩ => by
  match dx, dy, hf with
  | .int i, .int j, hf => subst hf; exact op_ge pins s σ H x y v u Q I rx ry ⟨i, j, r1, r2, q _ H (Same.refl H) rfl⟩
theorem opd_eq {k : Nat} (hr : Room k X.A) : OpR X (compareOp .Eq) (rD X.K T fEq) := fun pins s σ H x y v u Q I rx ry ⟨g, S, dx, dy, dz, gd, r1, r2, ⟨h1, h2, hf⟩, q⟩ => by
  subst hf
  exact op_eqD hr.units pins s σ H x y v u Q I rx ry ⟨_, _, dres_dp gd r1 h1, dres_dp gd r2 h2, sh_shaped h1 (by decide), sh_shaped h2 (by decide), q _ H (Same.refl H) rfl⟩
theorem opd_ne {k : Nat} (hr : Room k X.A) : OpR X (compareOp .NotEq) (rD X.K T fNe) := fun pins s σ H x y v u Q I rx ry ⟨g, S, dx, dy, dz, gd, r1, r2, ⟨h1, h2, hf⟩, q⟩ => by
  subst hf
  exact op_neD hr.units pins s σ H x y v u Q I rx ry ⟨_, _, dres_dp gd r1 h1, dres_dp gd r2 h2, sh_shaped h1 (by decide), sh_shaped h2 (by decide), q _ H (Same.refl H) rfl⟩
theorem rep_non {K : PySem.W.Frag} {g : Gh} {H : Hp} {d : D} {v : V} (r : Rep K g H d v) : decide (v = .non) = isNon d := by
  cases d with
  | non => cases r; rfl
  | bl b => cases r; rfl
  | int b => cases r; rfl
  | str b => cases r; rfl
  | tup ds => obtain ⟨a, vs, e, _⟩ := r; subst e; rfl
  | lst ds => obtain ⟨a, vs, e, _⟩ := r; subst e; rfl
  | fz ds => obtain ⟨a, vs, e, _⟩ := r; subst e; rfl
  | obj C ns ds => obtain ⟨a, dx, vs, e, _⟩ := r; subst e; rfl
  | ref n => obtain ⟨a, e, _⟩ := r; subst e; rfl
  | adr a => cases r; rfl
  | ty n => cases r; rfl
theorem opd_isN : OpR X (compareOp .Is) (rD X.K T fIsN) := fun pins s σ H x y v u Q I rx ry ⟨g, S, dx, dy, dz, gd, r1, r2, ⟨h, hf⟩, q⟩ => by
  subst h hf
  exact op_isN pins s σ H x y v u Q I rx ry ⟨r2, q _ H (Same.refl H) (by rw [← rep_non r1]; exact rfl)⟩
theorem opd_notN : OpR X (compareOp .IsNot) (rD X.K T fNotN) := fun pins s σ H x y v u Q I rx ry ⟨g, S, dx, dy, dz, gd, r1, r2, ⟨h, hf⟩, q⟩ => by
  subst h hf
  exact op_notN pins s σ H x y v u Q I rx ry ⟨r2, q _ H (Same.refl H) (by rw [← rep_non r1]; exact rfl)⟩
end
end DL
namespace DL
open PySem PySem.Spec PyProof.Rows L2
/-! ### iteration -/
def chr1 (c : Nat) : D := .str ⟨#[c]⟩
/-- what a for walks -/
def itv : D → Option (List D)
  | .lst ds => some ds
  | .tup ds => some ds
  | .str x => some (x.cps.toList.map chr1)
  | _ => none
section
variable {X : Cx} {T : List (Addr × Str)} {W : WX} {a b c tg : Expr} {ta tb tc : DTE} {pos p tpos : Pos} {es elts : List Expr} {tes : DTA} {kk : Nat}
theorem walks_str {K : PySem.W.Frag} {g : Gh} {H : Hp} (x : Str) : Walks K g H (x.cps.toList.map chr1) (Its x) := fun g2 H2 _ => by
  refine ⟨fun i d hd => ?_, show x.cps.size ≤ _ by simp⟩
  rw [List.getElem?_map] at hd
  cases q : x.cps.toList[i]? with
  | none => rw [q] at hd; cases hd
  | some c =>
    rw [q] at hd
    cases hd
    have hi : i < x.cps.size := by simpa using (List.getElem?_eq_some_iff.mp q).1
    have q' : x.cps[i]? = some c := by simpa using q
    refine ⟨hi, fun v H' ⟨e, c', e1, e2⟩ => ?_⟩
    subst e
    rw [q'] at e1
    cases e1
    exact ⟨Same.refl _, fun _ _ _ => e2⟩
def diSeq (t : DTE) : DTI := fun r S Q E => t r S (fun d S1 => ∃ ds, itv d = some ds ∧ Q ds S1) E
theorem di_seq (h : DE X T W a ta) : DI X T W tg a (diSeq ta) := ⟨fun pins s σ H R I ⟨g, r, S, Qd, Ed, rl, hh, hq, hx⟩ => by
  refine thn (h.run pins s σ H _ I ⟨g, r, S, _, Ed, rl, hh, fun d S1 g1 H1 v h1 x1 rl1 rp1 => (show (∃ ds, itv d = some ds ∧ Qd ds S1) ∧ Ext g H g1 H1 ∧ Rel X.K T g1 r S1 σ H1 ∧ Rep X.K g1 H1 d v → ∃ d S1 g1, (∃ ds, itv d = some ds ∧ Qd ds S1) ∧ Ext g H g1 H1 ∧ Rel X.K T g1 r S1 σ H1 ∧ Rep X.K g1 H1 d v from fun z => ⟨d, S1, g1, z⟩) ⟨h1, x1, rl1, rp1⟩, hx⟩) fun v s1 ⟨x, H1, I1, r1, d, S1, g1, ⟨ds, e, h1⟩, x1, rl1, rp1⟩ => ?_
  cases d with
  | lst es =>
    cases e
    obtain ⟨p, vs, rfl, hl, rs⟩ := rp1
    have q := hq _ S1 g1 H1 _ h1 x1 rl1 (walks_list hl rs)
    cases r1
    obtain ⟨its, rv, pl, hz⟩ := I1.list (SqL.of hl.1)
    refine wpAny_pyIter_list pl.isList ?_
    refine ⟨s1.heap.objs.size, [s1.heap.objs.size], _, _, H1, rfl, I1.kept (t' := s1.toks) fun b o e => Heap.get?_push_of_some _ e, turn_list p _, ⟨_, Heap.get?_push_size _ rfl, rfl, rfl⟩, fun b hb => ?_, q⟩
    have e : b = s1.heap.objs.size := by simpa using hb
    subst e
    exact I1.fpOk (Nat.le_refl _) (I1.hok.fresh (Nat.le_refl _))
  | tup es =>
    cases e
    obtain ⟨p, vs, rfl, hl, rs⟩ := rp1
    have q := hq _ S1 g1 H1 _ h1 x1 rl1 (walks_tup hl rs)
    cases r1
    obtain ⟨its, rv, pl, hz⟩ := I1.tuple (show SqT X.K H1 p vs from hl.elim (fun q => .inl q.1) .inr)
    refine wpAny_pyIter_tuple (show s1.heap.IsTuple p its.toArray from pl) ?_
    refine ⟨s1.heap.objs.size, [s1.heap.objs.size], _, _, H1, rfl, I1.kept (t' := s1.toks) fun b o e => Heap.get?_push_of_some _ e, turn_tuple p _, ⟨_, Heap.get?_push_size _ rfl, rfl, rfl⟩, fun b hb => ?_, q⟩
    have e : b = s1.heap.objs.size := by simpa using hb
    subst e
    exact I1.fpOk (Nat.le_refl _) (I1.hok.fresh (Nat.le_refl _))
  | str y =>
    cases e
    cases rp1
    obtain ⟨t, rfl⟩ := r1
    have q := hq _ S1 g1 H1 _ h1 x1 rl1 (walks_str y)
    cases ha : y.cps.all (· < 128)
    · exact wpAny_pyIter_wide ha (pi_one (tk := s1.toks) I1 _ (turn_str _ y t "str_iterator" (.inr rfl)) ⟨_, Heap.get?_push_size _ rfl, rfl, rfl⟩ q)
    · exact wpAny_pyIter_ascii ha (pi_one (tk := s1.toks) I1 _ (turn_str _ y t "str_ascii_iterator" (.inl rfl)) ⟨_, Heap.get?_push_size _ rfl, rfl, rfl⟩ q)
  | _ => cases e⟩
/-- lo, lo + 1, .., n of them -/
def rngD (lo : Int) (n : Nat) : List D := (List.range n).map fun k => .int (lo + (k : Nat))
theorem rngD_get {lo : Int} {n i : Nat} {d : D} (h : (rngD lo n)[i]? = some d) : i < n ∧ d = .int (lo + (i : Nat)) := by
  unfold rngD at h
  rw [List.getElem?_map] at h
  by_cases hi : i < n
  · rw [List.getElem?_range hi] at h
    exact ⟨hi, (Option.some.inj h).symm⟩
  · rw [List.getElem?_eq_none (by simpa using hi)] at h; cases h
theorem rngD_len (lo : Int) (n : Nat) : (rngD lo n).length = n := by simp [rngD]
theorem walks_rng {K : PySem.W.Frag} {g : Gh} {H : Hp} (lo : Int) (n : Nat) : Walks K g H (rngD lo n) (Itr lo n) := fun g2 H2 _ => by
  refine ⟨fun i d hd => ?_, show n ≤ _ by rw [rngD_len]; exact Nat.le_refl _⟩
  obtain ⟨hi, rfl⟩ := rngD_get hd
  refine ⟨hi, fun v H' ⟨e, e2⟩ => ?_⟩
  subst e e2
  exact ⟨Same.refl _, fun _ _ _ => rfl⟩
def diRng1 (t : DTA) : DTI := fun r S Q E => t r S (fun ds S1 => ∃ j : Int, ds = [.int j] ∧ -(2 ^ 62) ≤ j ∧ j < 2 ^ 62 ∧ Q (rngD 0 j.toNat) S1) E
def diRng2 (t : DTA) : DTI := fun r S Q E => t r S (fun ds S1 => ∃ i j : Int, ds = [.int i, .int j] ∧ (-(2 ^ 62) ≤ i ∧ i < 2 ^ 62 ∧ -(2 ^ 62) ≤ j ∧ j < 2 ^ 62) ∧ Q (rngD i (j - i).toNat) S1) E
theorem di_rng1 (hg : Gl X "range") (hm : X.mg "range" = none) (ha : DA X T W [a] tes) (hs : starEach [a] X.env = [(false, eval a X.env)] := by rfl) : DI X T W tg (.Call (.Name "range" p) [a] [] pos) (diRng1 tes) := PI.imp (pi_range1 hg hm ha hs) fun σ H R ⟨g, r, S, Qd, Ed, rl, h, hq, hx⟩ => by
  refine ⟨g, r, S, _, Ed, rl, h, fun ds S1 g1 H1 vs ⟨j, e, h1, h2, h3⟩ x1 rl1 rp1 => ?_, hx⟩
  subst e
  obtain ⟨v, q, rfl, e1, rfl⟩ := rp1
  exact ⟨j, by rw [show v = .int j from e1], h1, h2, hq _ S1 g1 H1 _ h3 x1 rl1 (walks_rng 0 _)⟩
theorem di_rng2 (hg : Gl X "range") (hm : X.mg "range" = none) (ha : DA X T W [a, b] tes) (hs : starEach [a, b] X.env = [(false, eval a X.env), (false, eval b X.env)] := by rfl) (hs2 : starEach [b] X.env = [(false, eval b X.env)] := by rfl) :
    DI X T W tg (.Call (.Name "range" p) [a, b] [] pos) (diRng2 tes) := PI.imp (pi_range2 hg hm ha hs hs2) fun σ H R ⟨g, r, S, Qd, Ed, rl, h, hq, hx⟩ => by
  refine ⟨g, r, S, _, Ed, rl, h, fun ds S1 g1 H1 vs ⟨i, j, e, h1, h3⟩ x1 rl1 rp1 => ?_, hx⟩
  subst e
  obtain ⟨v, q, rfl, e1, v2, q2, rfl, e2, rfl⟩ := rp1
  exact ⟨i, j, by rw [show v = .int i from e1, show v2 = .int j from e2], h1, hq _ S1 g1 H1 _ h3 x1 rl1 (walks_rng i _)⟩
/-- enumerate of a list -/
def enumD (ds : List D) : List D := ds.zipIdx.map fun p => .tup [.int ((p.2 : Nat) : Int), p.1]
def zipD (xs ys : List D) : List D := (xs.zip ys).map fun p => .tup [p.1, p.2]
theorem enumD_get {ds : List D} {i : Nat} {d : D} (h : (enumD ds)[i]? = some d) : ∃ x, ds[i]? = some x ∧ d = .tup [.int (i : Nat), x] := by
  unfold enumD at h
  rw [List.getElem?_map, List.getElem?_zipIdx] at h
  cases q : ds[i]? with
  | none => rw [q] at h; cases h
  | some x => rw [q] at h; simp at h; exact ⟨x, rfl, h.symm⟩
theorem zipD_get {xs ys : List D} {i : Nat} {d : D} (h : (zipD xs ys)[i]? = some d) : ∃ x y, xs[i]? = some x ∧ ys[i]? = some y ∧ d = .tup [x, y] := by
  unfold zipD at h
  rw [List.getElem?_map] at h
  cases q : (xs.zip ys)[i]? with
  | none => rw [q] at h; cases h
  | some z =>
    rw [q] at h
    obtain ⟨h1, h2⟩ := List.getElem?_zip_eq_some.mp q
    exact ⟨z.1, z.2, h1, h2, (Option.some.inj h).symm⟩
theorem zipD_len (xs ys : List D) : (zipD xs ys).length = min xs.length ys.length := by simp [zipD]
theorem enumD_len (xs : List D) : (enumD xs).length = xs.length := by simp [enumD]
def diEnum (t : DTA) : DTI := fun r S Q E => t r S (fun ds S1 => ∃ xs, ds = [.lst xs] ∧ Q (enumD xs) S1) E
theorem di_enum (hg : Gl X "enumerate") (hm : X.mg "enumerate" = none) (ha : DA X T W [a] tes) (hs : starEach [a] X.env = [(false, eval a X.env)] := by rfl) :
    DI X T W (.Tuple elts kk tpos) (.Call (.Name "enumerate" p) [a] [] pos) (diEnum tes) := PI.imp (pi_enum hg hm ha hs) fun σ H R ⟨g, r, S, Qd, Ed, rl, h, hq, hx⟩ => by
  refine ⟨g, r, S, _, Ed, rl, h, fun ds S1 g1 H1 vs ⟨xs, e, h3⟩ x1 rl1 rp1 => ?_, hx⟩
  subst e
  obtain ⟨v, q, rfl, ⟨l, ws, rfl, hl, rs⟩, rfl⟩ := rp1
  refine ⟨l, ws, rfl, SqL.of hl.1, hq _ S1 g1 H1 _ h3 x1 rl1 fun g2 H2 x2 => ?_⟩
  have hl2 := x2.keep l _ hl.1 hl.2 (fun _ => nofun)
  have rs2 := Reps.ex0 (K := X.K) x2 _ _ rs
  refine ⟨fun i d hd => ?_, ⟨ws, SqL.of hl2.1, by rw [enumD_len, rs.length]; exact Nat.le_refl _⟩⟩
  obtain ⟨x, hx, rfl⟩ := enumD_get hd
  obtain ⟨w, hw, rw'⟩ := rs2.get hx
  refine ⟨⟨ws, w, SqL.of hl2.1, hw⟩, fun v H' ⟨Tp, y, e1, e2, e3, e4⟩ => ?_⟩
  subst e1 e3
  have e5 := e4 ws (SqL.of hl2.1)
  rw [hw] at e5
  cases e5
  exact ⟨same_upd e2, fun S' T' gd => Rep.tupNew gd (ds := [.int (i : Nat), x]) (vs := [.int (i : Nat), w]) ⟨_, _, rfl, rfl, Reps.one rw'⟩ e2⟩
/-- zip of two lists, of two tuples -/
def diZip (t : DTA) : DTI := fun r S Q E => t r S (fun ds S1 => ∃ xs ys, (ds = [.lst xs, .lst ys] ∨ ds = [.tup xs, .tup ys]) ∧ Q (zipD xs ys) S1) E
theorem di_zip (hg : Gl X "zip") (hm : X.mg "zip" = none) (ha : DA X T W [a, b] tes) (hs : starEach [a, b] X.env = (false, eval a X.env) :: starEach [b] X.env := by rfl) (hpl : (backTo pos (starEach [b] X.env)).any (·.1) = false := by rfl) :
    DI X T W (.Tuple elts kk tpos) (.Call (.Name "zip" p) [a, b] [] pos) (diZip tes) := PI.imp (RZ.pi_zipA hg hm ha hs hpl) fun σ H R ⟨g, r, S, Qd, Ed, rl, h, hq, hx⟩ => by
  refine ⟨g, r, S, _, Ed, rl, h, fun ds S1 g1 H1 vs ⟨xs, ys, e, h3⟩ x1 rl1 rp1 => ?_, hx⟩
  rcases e with e | e
  · subst e
    obtain ⟨v, q, rfl, ⟨l, ws, rfl, hl, rs⟩, v', q', rfl, ⟨l', ws', rfl, hl', rs'⟩, rfl⟩ := rp1
    refine ⟨l, l', ws, ws', rfl, .inl ⟨SqL.of hl.1, SqL.of hl'.1, hq _ S1 g1 H1 _ h3 x1 rl1 fun g2 H2 x2 => ?_⟩⟩
    have hl2 := SqL.of (K := X.K) (x2.keep l _ hl.1 hl.2 (fun _ => nofun)).1
    have hl2' := SqL.of (K := X.K) (x2.keep l' _ hl'.1 hl'.2 (fun _ => nofun)).1
    have rs2 := Reps.ex0 (K := X.K) x2 _ _ rs
    have rs2' := Reps.ex0 (K := X.K) x2 _ _ rs'
    refine ⟨fun i d hd => ?_, ⟨ws, ws', hl2, hl2', by rw [zipD_len, rs.length, rs'.length]; omega⟩⟩
    obtain ⟨x, y, hx, hy, rfl⟩ := zipD_get hd
    obtain ⟨w, hw, rw1⟩ := rs2.get hx
    obtain ⟨w', hw', rw2⟩ := rs2'.get hy
    refine ⟨⟨ws, ws', w, w', hl2, hl2', hw, hw'⟩, fun v H' ⟨Tp, z, z', e1, e2, e3, e4, e4'⟩ => ?_⟩
    subst e1 e3
    have e5 := e4 ws hl2
    have e5' := e4' ws' hl2'
    rw [hw] at e5
    rw [hw'] at e5'
    cases e5
    cases e5'
    exact ⟨same_upd e2, fun S' T' gd => Rep.tupNew gd (ds := [x, y]) (vs := [w, w']) ⟨_, _, rfl, rw1, Reps.one rw2⟩ e2⟩
  · subst e
    obtain ⟨v, q, rfl, ⟨l, ws, rfl, hl, rs⟩, v', q', rfl, ⟨l', ws', rfl, hl', rs'⟩, rfl⟩ := rp1
    have sq : ∀ {g : Gh} {H : Hp} {l : Addr} {ws : List V}, ((Rd H l (.tup ws) ∧ ¬ g.off l) ∨ WrT X.K l ws) → SqT X.K H l ws := fun h => h.elim (fun q => .inl q.1) .inr
    refine ⟨l, l', ws, ws', rfl, .inr ⟨sq hl, sq hl', hq _ S1 g1 H1 _ h3 x1 rl1 fun g2 H2 x2 => ?_⟩⟩
    have hl2 : SqT X.K H2 l ws := hl.elim (fun h => .inl (x2.rd (u := .tup ws) (fun _ => nofun) h).1) .inr
    have hl2' : SqT X.K H2 l' ws' := hl'.elim (fun h => .inl (x2.rd (u := .tup ws') (fun _ => nofun) h).1) .inr
    have rs2 := Reps.ex0 (K := X.K) x2 _ _ rs
    have rs2' := Reps.ex0 (K := X.K) x2 _ _ rs'
    refine ⟨fun i d hd => ?_, ⟨ws, ws', hl2, hl2', by rw [zipD_len, rs.length, rs'.length]; omega⟩⟩
    obtain ⟨x, y, hx, hy, rfl⟩ := zipD_get hd
    obtain ⟨w, hw, rw1⟩ := rs2.get hx
    obtain ⟨w', hw', rw2⟩ := rs2'.get hy
    refine ⟨⟨ws, ws', w, w', hl2, hl2', hw, hw'⟩, fun v H' ⟨Tp, z, z', e1, e2, e3, e4, e4'⟩ => ?_⟩
    subst e1 e3
    have e5 := e4 ws hl2
    have e5' := e4' ws' hl2'
    rw [hw] at e5
    rw [hw'] at e5'
    cases e5
    cases e5'
    exact ⟨same_upd e2, fun S' T' gd => Rep.tupNew gd (ds := [x, y]) (vs := [w, w']) ⟨_, _, rfl, rw1, Reps.one rw2⟩ e2⟩
/-! ### calls of built-in functions and classes, by data -/
def rDA (K : PySem.W.Frag) (T : List (Addr × Str)) (f : Store → List D → D → Prop) : List V → Hp → VK → Prop := fun xs H Q => ∃ g S ds dz, GoodS K T g S H ∧ Reps K g H ds xs ∧ f S ds dz ∧ ∀ v H', Same H H' → Rep K g H' dz v → Q v H'
def dCB (f : Store → List D → D → Prop) (t : DTA) : DTE := fun r S Q E => t r S (fun ds S1 => ∃ z, f S1 ds z ∧ Q z S1) E
theorem lift_cb {f : Store → List D → D → Prop} {K : PySem.W.Frag} {σ : L2.St} {H : Hp} {Q : VK} (h : lift K T W (dCB f tes) σ H Q) : tCB (rDA K T f) (liftA K T W tes) σ H Q := by
  obtain ⟨g, r, S, Qd, Ed, rl, h, hq, hx⟩ := h
  refine ⟨g, r, S, _, Ed, rl, h, fun ds S1 g1 H1 vs ⟨z, hf, hz⟩ x1 rl1 rp1 => ?_, hx⟩
  exact ⟨g1, S1, ds, z, rl1.good, rp1, hf, fun v H' s rp => hq z S1 g1 H' v hz (x1.trans (Ext.same s)) (rl1.same s) rp⟩
variable {x : Str} {bid : String} {f : Store → List D → D → Prop}
theorem de_callB (hc : CallR X (.builtin bid) (rDA X.K T f)) (hg : Gl X x) (hm : X.mg x = none) (hv : bootBuiltins x = some (.builtin bid)) (ha : DA X T W (a :: es) tes) (hn : x ≠ "__name__" := by decide) (hdb : (x == ("__debug__" : Str)) = false := by decide)
    (he : starEach (a :: es) X.env = (false, eval a X.env) :: starEach es X.env := by rfl) (hpl : (backTo pos (starEach es X.env)).any (·.1) = false := by rfl) : DE X T W (.Call (.Name x p) (a :: es) [] pos) (dCB f tes) := PE.imp (pe_callB hc hg hm hv ha hn hdb he hpl) fun σ H Q h => lift_cb h
theorem de_callTy (hc : CallR X (.type bid) (rDA X.K T f)) (hg : Gl X x) (hm : X.mg x = none) (hv : bootBuiltins x = some (.type bid)) (ha : DA X T W (a :: es) tes) (hn : x ≠ "__name__" := by decide) (hdb : (x == ("__debug__" : Str)) = false := by decide)
    (he : starEach (a :: es) X.env = (false, eval a X.env) :: starEach es X.env := by rfl) (hpl : (backTo pos (starEach es X.env)).any (·.1) = false := by rfl) : DE X T W (.Call (.Name x p) (a :: es) [] pos) (dCB f tes) := PE.imp (pe_callTy hc hg hm hv ha hn hdb he hpl) fun σ H Q h => lift_cb h
/-- the length; of a text, a list, a tuple -/
def lenD (S : Store) : D → Option Nat
  | .str x => if x.length ≤ sizeLine then some x.length else none
  | .tup ds => some ds.length
  | d => (lsv S d).map (·.length)
def bLen (S : Store) (ds : List D) (z : D) : Prop := ∃ x n, ds = [x] ∧ lenD S x = some n ∧ z = .int (n : Nat)
theorem cb_len : CallR X (.builtin "len") (rDA X.K T bLen) := fun pins s σ H xs us Q I r ⟨g, S, ds, dz, gd, rs, ⟨x, n, e, hl, ez⟩, q⟩ => by
  subst e ez
  obtain ⟨v, q', rfl, r1, rfl⟩ := rs
  refine call_len pins s σ H _ us Q I r ⟨v, n, rfl, ?_, q _ H (Same.refl H) rfl⟩
  have viaL : ∀ {ds : List D}, lsv S x = some ds → n = ds.length → LenV X.K v H n := fun {ds} h e => by
    obtain ⟨p, vs, rfl, hp, rs⟩ := lsv_at gd r1 h
    exact .inl ⟨vs, SqL.of hp, by rw [e, rs.length]⟩
  cases x with
  | str y =>
    cases r1
    have hl' : (if y.length ≤ sizeLine then some y.length else none) = some n := hl
    split at hl'
    · rename_i hz
      exact ⟨hz, (Option.some.inj hl').symm⟩
    · cases hl'
  | tup ds =>
    obtain ⟨p, vs, rfl, hp, rs⟩ := Rep.tup_sq r1
    cases hl
    exact .inr ⟨vs, hp, rs.length⟩
  | lst ds => cases hl; exact viaL rfl rfl
  | ref m =>
    cases h : lsv S (.ref m) with
    | none => simp only [lenD, h] at hl; cases hl
    | some ds => simp only [lenD, h] at hl; cases hl; exact viaL h rfl
  | _ => cases hl
def bAbs (S : Store) (ds : List D) (z : D) : Prop := ∃ i : Int, ds = [.int i] ∧ z = .int (if i < 0 then -i else i)
theorem cb_abs : CallR X (.builtin "abs") (rDA X.K T bAbs) := fun pins s σ H xs us Q I r ⟨g, S, ds, dz, gd, rs, ⟨i, e, ez⟩, q⟩ => by
  subst e ez
  obtain ⟨v, q', rfl, r1, rfl⟩ := rs
  exact call_abs pins s σ H _ us Q I r ⟨i, by rw [show v = .int i from r1], q _ H (Same.refl H) rfl⟩
def bMax2 (S : Store) (ds : List D) (z : D) : Prop := ∃ i j : Int, ds = [.int i, .int j] ∧ z = .int (if j > i then j else i)
theorem cb_max2 (hc : X.calm = true) : CallR X (.builtin "max") (rDA X.K T bMax2) := fun pins s σ H xs us Q I r ⟨g, S, ds, dz, gd, rs, ⟨i, j, e, ez⟩, q⟩ => by
  subst e ez
  obtain ⟨v, q', rfl, r1, v2, q2, rfl, r2, rfl⟩ := rs
  exact call_max2 hc pins s σ H _ us Q I r ⟨i, j, by rw [show v = .int i from r1, show v2 = .int j from r2], q _ H (Same.refl H) rfl⟩
def bMin2 (S : Store) (ds : List D) (z : D) : Prop := ∃ i j : Int, ds = [.int i, .int j] ∧ z = .int (if j < i then j else i)
theorem cb_min2 (hc : X.calm = true) : CallR X (.builtin "min") (rDA X.K T bMin2) := fun pins s σ H xs us Q I r ⟨g, S, ds, dz, gd, rs, ⟨i, j, e, ez⟩, q⟩ => by
  subst e ez
  obtain ⟨v, q', rfl, r1, v2, q2, rfl, r2, rfl⟩ := rs
  exact call_min2 hc pins s σ H _ us Q I r ⟨i, j, by rw [show v = .int i from r1, show v2 = .int j from r2], q _ H (Same.refl H) rfl⟩
/-- int(..) of an int, a truth value, a text -/
def bInt (S : Store) (ds : List D) (z : D) : Prop := match ds with
  | [.int i] => z = .int i
  | [.bl b] => z = .int (if b then 1 else 0)
  | [.str a] => ∃ n, PySem.intText? a = some n ∧ a.length ≤ 640 ∧ z = .int n
  | _ => False
theorem cb_int : CallR X (.type "int") (rDA X.K T bInt) := fun pins s σ H xs us Q I r ⟨g, S, ds, dz, gd, rs, h, q⟩ => by
  unfold bInt at h
  split at h
  · subst h
    obtain ⟨v, q', rfl, r1, rfl⟩ := rs
    exact call_int1 pins s σ H _ us Q I r (.inl ⟨_, by rw [show v = .int _ from r1], q _ H (Same.refl H) rfl⟩)
  · subst h
    obtain ⟨v, q', rfl, r1, rfl⟩ := rs
    exact call_int1 pins s σ H _ us Q I r (.inr ⟨_, by rw [show v = .bl _ from r1], q _ H (Same.refl H) rfl⟩)
  · obtain ⟨n, h1, h2, rfl⟩ := h
    obtain ⟨v, q', rfl, r1, rfl⟩ := rs
    exact call_int_str pins s σ H _ us Q I r ⟨_, n, by rw [show v = .str _ from r1], h1, h2, q _ H (Same.refl H) rfl⟩
  · exact h.elim
def bStr (S : Store) (ds : List D) (z : D) : Prop := ∃ i : Int, ds = [.int i] ∧ i.natAbs.log2 < 1920 ∧ z = .str (toString i)
theorem cb_str : CallR X (.type "str") (rDA X.K T bStr) := fun pins s σ H xs us Q I r ⟨g, S, ds, dz, gd, rs, ⟨i, e, h, ez⟩, q⟩ => by
  subst e ez
  obtain ⟨v, q', rfl, r1, rfl⟩ := rs
  exact call_str_int pins s σ H _ us Q I r ⟨i, by rw [show v = .int i from r1], h, q _ H (Same.refl H) rfl⟩
/-- tuple(list), tuple(tuple); list(list), list(tuple): it stands still -/
def bTuple (S : Store) (ds : List D) (z : D) : Prop := ∃ x, ds = [x] ∧ ((∃ es, lsv S x = some es ∧ z = .tup es) ∨ ∃ es, x = .tup es ∧ z = x)
theorem cb_tuple : CallR X (.type "tuple") (rDA X.K T bTuple) := fun pins s σ H xs us Q I r ⟨g, S, ds, dz, gd, rs, ⟨x, e, h⟩, q⟩ => by
  subst e
  obtain ⟨v, q', rfl, r1, rfl⟩ := rs
  rcases h with ⟨es, h, rfl⟩ | ⟨es, rfl, rfl⟩
  · obtain ⟨p, vs, rfl, hp, rs⟩ := lsv_at gd r1 h
    exact call_tuple_of pins s σ H _ us Q I r ⟨p, vs, rfl, .inl ⟨SqL.of hp, fun l hl => q _ _ (same_upd hl) (Rep.tupNew gd rs hl)⟩⟩
  · have r1' := r1
    obtain ⟨p, vs, rfl, hp, rs⟩ := Rep.tup_sq r1
    exact call_tuple_of pins s σ H _ us Q I r ⟨p, vs, rfl, .inr ⟨hp, q _ H (Same.refl H) r1'⟩⟩
def bList (S : Store) (ds : List D) (z : D) : Prop := ∃ x es, ds = [x] ∧ (lsv S x = some es ∨ x = .tup es ∨ x = .fz es) ∧ z = .lst es
theorem cb_list : CallR X (.type "list") (rDA X.K T bList) := fun pins s σ H xs us Q I r ⟨g, S, ds, dz, gd, rs, ⟨x, es, e, h, ez⟩, q⟩ => by
  subst e ez
  obtain ⟨v, q', rfl, r1, rfl⟩ := rs
  rcases h with h | rfl | rfl
  · obtain ⟨p, vs, rfl, hp, rs⟩ := lsv_at gd r1 h
    exact call_list_of pins s σ H _ us Q I r ⟨p, vs, rfl, .inl (SqL.of hp), fun l hl => q _ _ (same_upd hl) (Rep.lstNew gd rs hl)⟩
  · obtain ⟨p, vs, rfl, hp, rs⟩ := Rep.tup_sq r1
    exact call_list_of pins s σ H _ us Q I r ⟨p, vs, rfl, .inr hp, fun l hl => q _ _ (same_upd hl) (Rep.lstNew gd rs hl)⟩
  · obtain ⟨p, vs, rfl, hp, rs⟩ := r1
    exact call_list_of pins s σ H _ us Q I r ⟨p, vs, rfl, .inl (hp.imp (fun q => q.1) id), fun l hl => q _ _ (same_upd hl) (Rep.lstNew gd rs hl)⟩
/-- all, any of a list of truth values; sum of a list of ints -/
theorem Reps.bls {K : PySem.W.Frag} {g : Gh} {H : Hp} : ∀ {ns : List Bool} {vs : List V}, Reps K g H (ns.map D.bl) vs → vs = ns.map V.bl
  | [], _, h => h
  | n :: ns, _, ⟨v, r, e, h, hr⟩ => by
    have h' : v = .bl n := h
    subst e h'
    rw [Reps.bls hr]; rfl
def bAll (S : Store) (ds : List D) (z : D) : Prop := ∃ (x : D) (bs : List Bool), ds = [x] ∧ lsv S x = some (bs.map D.bl) ∧ z = .bl (bs.all id)
theorem cb_all (hc : X.calm = true) : CallR X (.builtin "all") (rDA X.K T bAll) := fun pins s σ H xs us Q I r ⟨g, S, ds, dz, gd, rs, ⟨x, bs, e, h, ez⟩, q⟩ => by
  subst e ez
  obtain ⟨v, q', rfl, r1, rfl⟩ := rs
  obtain ⟨p, vs, rfl, hp, rs⟩ := lsv_at gd r1 h
  rw [rs.bls] at hp
  exact cr_all hc pins s σ H _ us Q I r ⟨p, bs, rfl, SqL.of hp, q _ H (Same.refl H) rfl⟩
def bAny (S : Store) (ds : List D) (z : D) : Prop := ∃ (x : D) (bs : List Bool), ds = [x] ∧ lsv S x = some (bs.map D.bl) ∧ z = .bl (bs.any id)
theorem cb_any (hc : X.calm = true) : CallR X (.builtin "any") (rDA X.K T bAny) := fun pins s σ H xs us Q I r ⟨g, S, ds, dz, gd, rs, ⟨x, bs, e, h, ez⟩, q⟩ => by
  subst e ez
  obtain ⟨v, q', rfl, r1, rfl⟩ := rs
  obtain ⟨p, vs, rfl, hp, rs⟩ := lsv_at gd r1 h
  rw [rs.bls] at hp
  exact cr_any hc pins s σ H _ us Q I r ⟨p, bs, rfl, SqL.of hp, q _ H (Same.refl H) rfl⟩
def bSum (S : Store) (ds : List D) (z : D) : Prop := ∃ (x : D) (ns : List Int), ds = [x] ∧ lsv S x = some (ns.map D.int) ∧ z = .int ns.sum
theorem cb_sum (hc : X.calm = true) : CallR X (.builtin "sum") (rDA X.K T bSum) := fun pins s σ H xs us Q I r ⟨g, S, ds, dz, gd, rs, ⟨x, bs, e, h, ez⟩, q⟩ => by
  subst e ez
  obtain ⟨v, q', rfl, r1, rfl⟩ := rs
  obtain ⟨p, vs, rfl, hp, rs⟩ := lsv_at gd r1 h
  rw [rs.ints] at hp
  exact cr_sum hc pins s σ H _ us Q I r ⟨p, bs, rfl, SqL.of hp, q _ H (Same.refl H) rfl⟩
/-- isinstance against built-in classes -/
def tyD (S : Store) : D → Option String
  | .non => some "NoneType"
  | .bl _ => some "bool"
  | .int _ => some "int"
  | .str _ => some "str"
  | .tup _ => some "tuple"
  | .lst _ => some "list"
  | _ => none
theorem tyD_ok {K : PySem.W.Frag} {g : Gh} {S : Store} {H : Hp} {d : D} {v : V} {n : String} (r : Rep K g H d v) (h : tyD S d = some n) : TyX K H v (.type n) := by
  cases d with
  | non => cases h; cases r; exact .base .non
  | bl b => cases h; cases r; exact .base (.bl b)
  | int b => cases h; cases r; exact .base (.int b)
  | str b => cases h; cases r; exact .base (.str b)
  | tup ds =>
    cases h
    obtain ⟨a, vs, rfl, hq, _⟩ := r
    rcases hq with ⟨hq | ⟨o, hq⟩, _⟩ | ⟨o, _, _, hk, hc, _⟩
    · exact .base (.tup hq)
    · exact .fTuple hq
    · exact .kTuple hk hc
  | lst ds =>
    cases h
    obtain ⟨a, vs, rfl, hq, _⟩ := r
    exact .base (.lst hq.1)
  | _ => cases h
def bIsi (S : Store) (ds : List D) (z : D) : Prop := ∃ x c n b, ds = [x, .ty c] ∧ tyD S x = some n ∧ kitB n c = some b ∧ z = .bl b
def bIsiT (S : Store) (ds : List D) (z : D) : Prop := ∃ x c1 c2 n b1 b2, ds = [x, .tup [.ty c1, .ty c2]] ∧ tyD S x = some n ∧ kitB n c1 = some b1 ∧ kitB n c2 = some b2 ∧ z = .bl (b1 || b2)
def bIsin (S : Store) (ds : List D) (z : D) : Prop := bIsi S ds z ∨ bIsiT S ds z
theorem cb_isi : CallR X (.builtin "isinstance") (rDA X.K T bIsi) := fun pins s σ H xs us Q I r ⟨g, S, ds, dz, gd, rs, ⟨x, c, n, b, e, h1, h2, ez⟩, q⟩ => by
  subst e ez
  obtain ⟨v, q', rfl, r1, v2, q2, rfl, r2, rfl⟩ := rs
  exact call_isi pins s σ H _ us Q I r ⟨v, .ty c, .type n, .type c, b, by rw [show v2 = .ty c from r2], .ty c, tyD_ok r1 h1, kit_ty h2, q _ H (Same.refl H) rfl⟩
/-! ### items, slices -/
def itemD (S : Store) (x : D) (i : Int) : Option D := match x with
  | .tup ds => atI ds i
  | .str y => if y.length ≤ sizeLine then (atI y.cps.toList i).map chr1 else none
  | x => (lsv S x).bind fun ds => atI ds i
def fIx (S : Store) (x y z : D) : Prop := ∃ i, y = .int i ∧ itemD S x i = some z
theorem Reps.atI {K : PySem.W.Frag} {g : Gh} {H : Hp} {ds : List D} {vs : List V} {i : Int} {d : D} (r : Reps K g H ds vs) (h : L2.atI ds i = some d) : ∃ v, L2.atI vs i = some v ∧ Rep K g H d v := by
  unfold L2.atI at *
  rw [← r.length]
  cases q : ixN ds.length i with
  | none => rw [q] at h; cases h
  | some j => rw [q] at h; exact r.get h
theorem ixd : IxR X (rD X.K T fIx) := fun value slice pins s σ H x y v u Q I rx ry ⟨g, S, dx, dy, dz, gd, r1, r2, ⟨i, e, hf⟩, q⟩ hs => by
  subst e
  have viaL : ∀ {ds : List D}, lsv S dx = some ds → atI ds i = some dz → wpAny (model X.prog X.w) X.A (subscriptTail value slice v u) (EP X pins σ Q) X.xe s := fun {ds} h e => by
    obtain ⟨p, vs, rfl, hp, rs⟩ := lsv_at gd r1 h
    obtain ⟨w, hw, rw'⟩ := rs.atI e
    exact ix_list value slice pins s σ H _ _ v u Q I rx ry ⟨p, vs, i, w, rfl, r2, SqL.of hp, hw, q _ H (Same.refl H) rw'⟩ hs
  cases dx with
  | str z =>
    have hf' : (if z.length ≤ sizeLine then (atI z.cps.toList i).map chr1 else none) = some dz := hf
    split at hf'
    · rename_i hz
      cases q2 : atI z.cps.toList i with
      | none => rw [q2] at hf'; cases hf'
      | some c =>
        rw [q2] at hf'
        cases hf'
        exact ix_str value slice pins s σ H _ _ v u Q I rx ry ⟨z, i, c, r1, r2, hz, q2, q _ H (Same.refl H) rfl⟩ hs
    · cases hf'
  | tup ds =>
    obtain ⟨p, vs, rfl, hp, rs⟩ := Rep.tup_sq r1
    obtain ⟨w, hw, rw'⟩ := rs.atI hf
    exact ix_tup value slice pins s σ H _ _ v u Q I rx ry ⟨p, vs, i, w, rfl, r2, hp, hw, q _ H (Same.refl H) rw'⟩ hs
  | lst ds => exact viaL rfl hf
  | ref m =>
    cases h : lsv S (.ref m) with
    | none => simp only [itemD, h] at hf; cases hf
    | some ds => simp only [itemD, h] at hf; exact viaL h hf
  | _ => cases hf
theorem de_ix (ha : DE X T W a ta) (hb : DE X T W b tb) (hs : PlainIx b) : DE X T W (.Subscript a b pos) (dOp fIx ta tb) := PE.imp (pe_ix ixd ha hb hs) fun σ H Q h => lift_op h
/-- a[lo:hi] -/
def cutD (ds : List D) (lo hi : Option Int) : List D := (ds.drop (HT.sIx ds.length 0 lo)).take (HT.sIx ds.length ds.length hi - HT.sIx ds.length 0 lo)
theorem Reps.cut {K : PySem.W.Frag} {g : Gh} {H : Hp} {ds : List D} {vs : List V} (r : Reps K g H ds vs) (lo hi : Option Int) : Reps K g H (cutD ds lo hi) (cutV vs lo hi) := by
  unfold cutD cutV
  rw [r.length]
  exact (r.drop _).take _
def fSl (S : Store) (x : D) (lo hi : Option Int) (z : D) : Prop := match x with
  | .tup ds => z = .tup (cutD ds lo hi)
  | .str y => y.length ≤ sizeLine ∧ z = .str (cutS y lo hi)
  | .fz ds => z = .lst (cutD ds lo hi)
  | x => ∃ ds, lsv S x = some ds ∧ z = .lst (cutD ds lo hi)
def rSlD (K : PySem.W.Frag) (T : List (Addr × Str)) : V → Option Int → Option Int → Hp → VK → Prop := fun x lo hi H Q => ∃ g S dx dz, GoodS K T g S H ∧ Rep K g H dx x ∧ fSl S dx lo hi dz ∧ ∀ v H', Same H H' → Rep K g H' dz v → Q v H'
theorem sld : SlR X (rSlD X.K T) := fun pins s σ H x v vl vu lo hi sl Q I rx hs pl pu ⟨g, S, dx, dz, gd, r1, hf, q⟩ => by
  unfold fSl at hf
  split at hf
  · subst hf
    have r1' := r1
    obtain ⟨p, vs, rfl, hp, rs⟩ := Rep.tup_sq r1
    refine sl_tupA pins s σ H _ v vl vu lo hi sl Q I rx hs pl pu ⟨p, vs, rfl, hp, fun ⟨e1, e2⟩ => ?_, fun _ l hl => q _ _ (same_upd hl) (Rep.tupNew gd (rs.cut lo hi) hl)⟩
    refine q _ H (Same.refl H) ?_
    have e : ∀ ds : List D, ds.length = vs.length → cutD ds lo hi = ds := fun ds hl => by
      unfold cutD
      rw [hl, e1, e2, List.drop_zero, Nat.sub_zero, ← hl, List.take_length]
    rw [e _ rs.length]
    exact r1'
  · obtain ⟨hz, rfl⟩ := hf
    exact sl_str pins s σ H _ v vl vu lo hi sl Q I rx hs pl pu ⟨_, r1, hz, q _ H (Same.refl H) rfl⟩
  · subst hf
    obtain ⟨p, vs, rfl, hp, rs⟩ := r1
    exact sl_list pins s σ H _ v vl vu lo hi sl Q I rx hs pl pu ⟨p, vs, rfl, hp.imp (fun q => q.1) id, fun l hl => q _ _ (same_upd hl) (Rep.lstNew gd (rs.cut lo hi) hl)⟩
  · obtain ⟨ds, h, rfl⟩ := hf
    obtain ⟨p, vs, rfl, hp, rs⟩ := lsv_at gd r1 h
    exact sl_list pins s σ H _ v vl vu lo hi sl Q I rx hs pl pu ⟨p, vs, rfl, SqL.of hp, fun l hl => q _ _ (same_upd hl) (Rep.lstNew gd (rs.cut lo hi) hl)⟩
abbrev DTO := Sl → Store → (Option Int → Store → Prop) → DX → Prop
def liftO (K : PySem.W.Frag) (T : List (Addr × Str)) (W : WX) (t : DTO) : TO := fun σ H Q => ∃ g r S Qd Ed, Rel K T g r S σ H ∧ t r S Qd Ed ∧ (∀ o S' g' H', Qd o S' → Ext g H g' H' → Rel K T g' r S' σ H' → Q o H') ∧ WOk K T W g H r σ Ed
def DO (X : Cx) (T : List (Addr × Str)) (W : WX) (e : Option Expr) (t : DTO) : Prop := PO X e (liftO X.K T W t)
theorem PO.imp {e : Option Expr} {t t' : TO} (h : PO X e t) (i : ∀ σ H Q, t' σ H Q → t σ H Q) : PO X e t' := ⟨fun pins s σ H Q I q => h.run pins s σ H Q I (i σ H Q q)⟩
def dNoPart : DTO := fun _ S Q _ => Q none S
def dPart (t : DTE) : DTO := fun r S Q E => t r S (fun x S1 => ∃ i, x = .int i ∧ Q (some i) S1) E
theorem do_none : DO X T W none dNoPart := PO.imp po_none fun σ H Q ⟨g, r, S, Qd, Ed, rl, h, hq, hx⟩ => hq none S g H h (Ext.refl g H) rl
theorem do_some (h : DE X T W a ta) : DO X T W (some a) (dPart ta) := PO.imp (po_some h) fun σ H Q ⟨g, r, S, Qd, Ed, rl, h, hq, hx⟩ =>
  ⟨g, r, S, _, Ed, rl, h, fun d S1 g1 H1 v ⟨i, e, h1⟩ x1 rl1 rp1 => ⟨i, by rw [e] at rp1; exact rp1, hq _ S1 g1 H1 h1 x1 rl1⟩, hx⟩
def dSl (t : DTE) (tl th : DTO) : DTE := fun r S Q E => t r S (fun x S1 => tl r S1 (fun l S2 => th r S2 (fun u S3 => ∃ z, fSl S3 x l u z ∧ Q z S3) E) E) E
theorem de_slice {lo hi : Option Expr} {p2 : Pos} {tl th : DTO} (he : DE X T W a ta) (hl : DO X T W lo tl) (hu : DO X T W hi th) : DE X T W (.Subscript a (.Slice lo hi none p2) pos) (dSl ta tl th) := PE.imp (pe_slice sld he hl hu) fun σ H Q ⟨g, r, S, Qd, Ed, rl, h, hq, hx⟩ => by
  refine ⟨g, r, S, _, Ed, rl, h, fun d S1 g1 H1 v h1 x1 rl1 rp1 => ?_, hx⟩
  refine ⟨g1, r, S1, _, Ed, rl1, h1, fun o S2 g2 H2 h2 x2 rl2 => ?_, hx.ext x1⟩
  refine ⟨g2, r, S2, _, Ed, rl2, h2, fun o2 S3 g3 H3 ⟨z, hf, hz⟩ x3 rl3 => ?_, (hx.ext x1).ext x2⟩
  exact ⟨g3, S3, d, z, rl3.good, Rep.ext (x2.trans x3) _ _ rp1, hf, fun v' H' s rp => hq z S3 g3 H' v' hz (((x1.trans x2).trans x3).trans (Ext.same s)) (rl3.same s) rp⟩
end
end DL
namespace DL
open PySem PySem.Spec PyProof.Rows L2
section
variable {K : PySem.W.Frag} {T : List (Addr × Str)} {g : Gh} {S : Store} {H : Hp}
theorem ps_inj (gd : GoodS K T g S H) {n m : Nat} {a : Addr} (h1 : g.ps[n]? = some a) (h2 : g.ps[m]? = some a) : n = m := by
  have nd : g.ps.Nodup := (List.nodup_append.mp gd.nd).1
  obtain ⟨i1, e1⟩ := List.getElem?_eq_some_iff.mp h1
  obtain ⟨i2, e2⟩ := List.getElem?_eq_some_iff.mp h2
  exact (List.getElem_inj nd).mp (e1.trans e2.symm)
/-- a thing of the store is written -/
theorem GoodS.write (gd : GoodS K T g S H) {n : Nat} {a : Addr} {u : HO} {o : O} (nu : NT u) (hn : g.ps[n]? = some a) (hS : n < S.length) (ho : ORep K g (upd H a u) a o) (ht : ∀ t, H a ≠ some (.tbl t)) (hc : ∀ c q, H a ≠ some (LamX.CodeO c q)) : GoodS K T g (S.set n o) (upd H a u) ∧ Ext g H g (upd H a u) := by
  have ha : a ∈ g.ps := List.mem_of_getElem? hn
  have w : ∀ b, ¬ g.off b → upd H a u b = H b := fun b nb => upd_ne fun z => nb (.inl (by rw [z]; exact ha))
  refine ⟨⟨by simp [gd.len], gd.nd, fun m b o' h1 h2 => ?_, fun x hx => ?_, fun y hy => ?_⟩, ⟨fun b o' h1 h2 _ => ?_, fun b o' h1 n1 => ?_, ⟨[], by simp, by simp⟩, rfl⟩⟩
  · by_cases hm : n = m
    · subst hm
      rw [List.getElem?_set_self hS] at h2
      cases h2
      rw [hn] at h1
      cases h1
      exact ho
    · rw [List.getElem?_set_ne hm] at h2
      refine (gd.st m b o' h1 h2).wr w (upd_ne fun z => hm ?_)
      subst z
      exact ps_inj gd hn h1
  · by_cases e : x = a
    · subst e; exact ⟨u, upd_same, nu⟩
    · rw [upd_ne e]; exact gd.hid x hx
  · obtain ⟨ps, q1, q2, q3⟩ := gd.tabs y hy
    refine ⟨ps, ?_, q2, fun pos cv hcv => ?_⟩
    · rw [upd_ne (show y.1 ≠ a from fun z => ht ps (by rw [← z]; exact q1))]; exact q1
    · obtain ⟨c, e1, e2⟩ := q3 pos cv hcv
      refine ⟨c, e1, ?_⟩
      rw [upd_ne (show c ≠ a from fun z => hc c y.2 (by rw [← z]; exact e2))]; exact e2
  · exact (upd_ne (show b ≠ a from fun z => h2 (by rw [z]; exact ha))).trans h1
  · by_cases e : b = a
    · subst e; exact ⟨u, upd_same, nu⟩
    · exact ⟨o', (upd_ne e).trans h1, n1⟩
theorem GoodS.writeL (gd : GoodS K T g S H) {n : Nat} {a : Addr} {vs us : List V} {es : List D} (hn : g.ps[n]? = some a) (hS : n < S.length) (h : H a = some (.lst vs)) (r : Reps K g H es us) : GoodS K T g (S.set n (.lst es)) (upd H a (.lst us)) ∧ Ext g H g (upd H a (.lst us)) :=
  gd.write (fun _ => nofun) hn hS ⟨us, upd_same, Reps.wr (fun b nb => upd_ne fun z => nb (.inl (by rw [z]; exact List.mem_of_getElem? hn))) _ _ r⟩ (fun t z => by rw [h] at z; cases z) (fun c q z => by rw [h] at z; exact codeO_lst (Option.some.inj z))
end
section
variable {X : Cx} {T : List (Addr × Str)} {W : WX} {a b c o e : Expr} {ta tb tc to : DTE} {pos apos cpos : Pos} {es : List Expr} {tes : DTA}
/-- xs[i] = .., xs a list of the store -/
def dgSub (to ti : DTE) : DTG := fun d r S Q => to r S (fun x S1 => ti r S1 (fun y S2 => ∃ (n : Nat) (ds : List D) (k : Int) (j : Nat), x = .ref n ∧ y = .int k ∧ S2[n]? = some (.lst ds) ∧ ixN ds.length k = some j ∧ Q r (S2.set n (.lst (ds.set j d)))) EF) EF
theorem dg_sub (ho : DE X T WF o ta) (hi : DE X T WF a tb)
    (h : ∀ v, assign (.Subscript o a pos) X.env v = (do
      let ov ← holding [v] (eval o X.env)
      let iv ← holding [v, ov] (eval a X.env)
      standAt pos
      holding [v, ov, iv] (setItem ov iv v)
      release [v, ov, iv] []) := by intro _; rfl) : DG X T (.Subscript o a pos) (dgSub ta tb) := PG.imp (pg_sub ho hi set_list h) fun v σ H Q ⟨g, r, S, d, Qd, rl, rp, h, hq⟩ => by
  refine ⟨g, r, S, _, _, rl, h, fun x S1 g1 H1 v1 h1 x1 rl1 rp1 => ?_, fun _ _ _ _ _ _ z => z.elim⟩
  refine ⟨g1, r, S1, _, _, rl1, h1, fun y S2 g2 H2 v2 ⟨n, ds, k, j, e1, e2, hS, hj, hQ⟩ x2 rl2 rp2 => ?_, fun _ _ _ _ _ _ z => z.elim⟩
  subst e1 e2
  obtain ⟨p, e3, hp, vs, hH, rs⟩ := ref_at rl2.good (Rep.ext x2 _ _ rp1) hS
  subst e3
  have rd : Rep X.K g2 H2 d v := Rep.ext (x1.trans x2) _ _ rp
  obtain ⟨gd3, x3⟩ := rl2.good.writeL hp (List.getElem?_eq_some_iff.mp hS).1 hH (rs.set rd j)
  exact ⟨p, vs, k, j, rfl, rp2, hH, by rw [← rs.length]; exact hj, hq r _ g2 σ _ hQ ((x1.trans x2).trans x3) (rl2.good' gd3 x3)⟩
/-! ### methods of built-in classes, by data -/
abbrev MF := Store → D → List D → D → Store → Prop
def rDM (K : PySem.W.Frag) (T : List (Addr × Str)) (f : MF) : V → List V → Hp → VK → Prop := fun x xs H Q => ∃ g S dx ds dz S', GoodS K T g S H ∧ Rep K g H dx x ∧ Reps K g H ds xs ∧ f S dx ds dz S' ∧ ∀ v H' g', Ext g H g' H' → GoodS K T g' S' H' → Rep K g' H' dz v → Q v H'
/-- the receiver's built-in class -/
def tyM (S : Store) (x : D) : Option String := match x with
  | .str _ => some "str"
  | .int _ => some "int"
  | x => (lsv S x).map fun _ => "list"
theorem tyM_ok {K : PySem.W.Frag} {g : Gh} {S : Store} {H : Hp} {d : D} {v : V} {n : String} (gd : GoodS K T g S H) (r : Rep K g H d v) (h : tyM S d = some n) : tyV K n v H := by
  cases d with
  | str y => cases h; cases r; rfl
  | int y => cases h; cases r; rfl
  | lst ds =>
    cases h
    obtain ⟨a, vs, e, q, _⟩ := r
    subst e
    exact .inl ⟨rfl, vs, SqL.of q.1⟩
  | ref m =>
    cases q : lsv S (.ref m) with
    | none => simp only [tyM, q] at h; cases h
    | some ds =>
      simp only [tyM, q] at h
      cases h
      obtain ⟨a, vs, e, q, _⟩ := lsv_at gd r q
      subst e
      exact .inl ⟨rfl, vs, SqL.of q⟩
  | _ => cases h
def dBM (ty : String) (f : MF) (to : DTE) (t : DTA) : DTE := fun r S Q E => to r S (fun x S1 => tyM S1 x = some ty ∧ t r S1 (fun ds S2 => ∃ z S3, f S2 x ds z S3 ∧ Q z S3) E) E
theorem de_bm {ty bid : String} {name : Str} {f : MF} (pa : PlainAttrs ty) (slot : Slot ty name bid) (hty : typeOf (.builtin bid) = pure (.type "method_descriptor")) (hm : MtR X bid (rDM X.K T f)) (ho : DE X T W o to) (ha : DA X T W (e :: es) tes)
    (hbase : attributeBase o name X.env (eval o X.env) = eval o X.env := by rfl)
    (hfew : ((backTo cpos (starEach (e :: es) X.env)).all (fun x => !x.1) && (backToKw cpos (keywordEach [] X.env)).all (fun x => x.1.isSome)
      && decide ((e :: es).length + ([] : List Keyword).length + (if ([] : List Keyword).isEmpty then 0 else 1) < 30)) = true := by rfl)
    (hline : (apos.endLine == cpos.line) = true := by rfl) (hs : starEach (e :: es) X.env = (false, eval e X.env) :: starEach es X.env := by rfl) (hplain : (backTo cpos (starEach es X.env)).any (·.1) = false := by rfl) :
    DE X T W (.Call (.Attribute o name apos) (e :: es) [] cpos) (dBM ty f to tes) := PE.imp (pe_bm pa slot hty hm ho ha hbase hfew hline hs hplain) fun σ H Q ⟨g, r, S, Qd, Ed, rl, h, hq, hx⟩ => by
  refine ⟨g, r, S, _, Ed, rl, h, fun d S1 g1 H1 v ⟨ht, h1⟩ x1 rl1 rp1 => ⟨tyM_ok rl1.good rp1 ht, ?_⟩, hx⟩
  refine ⟨g1, r, S1, _, Ed, rl1, h1, fun ds S2 g2 H2 vs ⟨z, S3, hf, hz⟩ x2 rl2 rp2 => ?_, hx.ext x1⟩
  exact ⟨g2, S2, d, ds, z, S3, rl2.good, Rep.ext x2 _ _ rp1, rp2, hf, fun v' H' g' x3 gd rp => hq z S3 g' H' v' hz ((x1.trans x2).trans x3) (rl2.good' gd x3) rp⟩
theorem de_bm0 {ty bid : String} {name : Str} {f : MF} (pa : PlainAttrs ty) (slot : Slot ty name bid) (hty : typeOf (.builtin bid) = pure (.type "method_descriptor")) (hm : MtR X bid (rDM X.K T f)) (ho : DE X T W o to)
    (hbase : attributeBase o name X.env (eval o X.env) = eval o X.env := by rfl) (hline : (apos.endLine == cpos.line) = true := by rfl) :
    DE X T W (.Call (.Attribute o name apos) [] [] cpos) (dBM ty f to dNil) := PE.imp (pe_bm0 pa slot hty hm ho hbase hline) fun σ H Q ⟨g, r, S, Qd, Ed, rl, h, hq, hx⟩ => by
  refine ⟨g, r, S, _, Ed, rl, h, fun d S1 g1 H1 v ⟨ht, z, S3, hf, hz⟩ x1 rl1 rp1 => ⟨tyM_ok rl1.good rp1 ht, ?_⟩, hx⟩
  exact ⟨g1, S1, d, [], z, S3, rl1.good, rp1, rfl, hf, fun v' H' g' x3 gd rp => hq z S3 g' H' v' hz (x1.trans x3) (rl1.good' gd x3) rp⟩
/-- xs.append(y) -/
def mfAppend : MF := fun S x ds z S' => ∃ (n : Nat) (es : List D) (y : D), x = .ref n ∧ ds = [y] ∧ S[n]? = some (.lst es) ∧ es.length < sizeLine ∧ z = .non ∧ S' = S.set n (.lst (es ++ [y]))
theorem mtd_append : MtR X "list.append" (rDM X.K T mfAppend) := fun pins s σ H x xs v us Q I rx rv ⟨g, S, dx, ds, dz, S', gd, r1, r2, ⟨n, es, y, e1, e2, hS, hz, e3, e4⟩, q⟩ => by
  subst e1 e2 e3 e4
  obtain ⟨p, rfl, hp, vs, hH, rs⟩ := ref_at gd r1 hS
  obtain ⟨w, q', rfl, rw', rfl⟩ := r2
  obtain ⟨gd3, x3⟩ := gd.writeL hp (List.getElem?_eq_some_iff.mp hS).1 hH (rs.append (Reps.one rw'))
  exact mt_append pins s σ H _ _ v us Q I rx rv ⟨p, vs, w, rfl, rfl, hH, by rw [← rs.length]; exact hz, q _ _ g x3 gd3 rfl⟩
theorem Reps.dropLast {K : PySem.W.Frag} {g : Gh} {H : Hp} {ds : List D} {vs : List V} (r : Reps K g H ds vs) : Reps K g H ds.dropLast vs.dropLast := by
  rw [List.dropLast_eq_take, List.dropLast_eq_take, r.length]
  exact r.take _
/-- xs.pop() -/
def mfPop : MF := fun S x ds z S' => ∃ (n : Nat) (es : List D), x = .ref n ∧ ds = [] ∧ S[n]? = some (.lst es) ∧ es[es.length - 1]? = some z ∧ S' = S.set n (.lst es.dropLast)
theorem mtd_pop : MtR X "list.pop" (rDM X.K T mfPop) := fun pins s σ H x xs v us Q I rx rv ⟨g, S, dx, ds, dz, S', gd, r1, r2, ⟨n, es, e1, e2, hS, hz, e4⟩, q⟩ => by
  subst e1 e2 e4
  obtain ⟨p, rfl, hp, vs, hH, rs⟩ := ref_at gd r1 hS
  cases r2
  obtain ⟨gd3, x3⟩ := gd.writeL hp (List.getElem?_eq_some_iff.mp hS).1 hH rs.dropLast
  obtain ⟨w, hw, rw'⟩ := rs.get hz
  exact mt_pop pins s σ H _ _ v us Q I rx rv ⟨p, vs, w, rfl, rfl, hH, by rw [← rs.length]; exact hw, q _ _ g x3 gd3 (Rep.ext x3 _ _ rw')⟩
/-- sep.join(texts) -/
theorem Reps.strs {K : PySem.W.Frag} {g : Gh} {H : Hp} : ∀ {ns : List Str} {vs : List V}, Reps K g H (ns.map D.str) vs → vs = ns.map V.str
  | [], _, h => h
  | n :: ns, _, ⟨v, r, e, h, hr⟩ => by
    have h' : v = .str n := h
    subst e h'
    rw [Reps.strs hr]; rfl
theorem Reps.ofStrs {K : PySem.W.Frag} {g : Gh} {H : Hp} : ∀ ns : List Str, Reps K g H (ns.map D.str) (ns.map V.str)
  | [] => rfl
  | n :: ns => ⟨_, _, rfl, rfl, Reps.ofStrs ns⟩
def mfJoin : MF := fun S x ds z S' => ∃ (a : Str) (y : D) (ys : List Str), x = .str a ∧ ds = [y] ∧ (lsv S y = some (ys.map D.str) ∨ y = .tup (ys.map D.str)) ∧ (ys.map (·.length)).sum + ys.length * a.length ≤ 16777216 ∧ z = .str (Txt.join a ys) ∧ S' = S
theorem mtd_join : MtR X "str.join" (rDM X.K T mfJoin) := fun pins s σ H x xs v us Q I rx rv ⟨g, S, dx, ds, dz, S', gd, r1, r2, ⟨a, y, ys, e1, e2, hy, hz, e3, e4⟩, q⟩ => by
  subst e1 e2 e3 e4
  obtain ⟨w, q', rfl, rw', rfl⟩ := r2
  rcases hy with hy | hy
  · obtain ⟨p, vs, rfl, hp, rs⟩ := lsv_at gd rw' hy
    rw [rs.strs] at hp
    exact mt_join pins s σ H _ _ v us Q I rx rv ⟨a, p, ys, r1, rfl, .inl (SqL.of hp), hz, q _ H g (Ext.refl g H) gd rfl⟩
  · subst hy
    obtain ⟨p, vs, rfl, hp, rs⟩ := Rep.tup_sq rw'
    rw [rs.strs] at hp
    exact mt_join pins s σ H _ _ v us Q I rx rv ⟨a, p, ys, r1, rfl, .inr hp, hz, q _ H g (Ext.refl g H) gd rfl⟩
end
end DL
namespace DL
open PySem PySem.Spec PyProof.Rows L2
/-! ### exceptions of the program's own, made by __init__(self, f1, ..): self.f1 = f1; ..; self.code = c -/
abbrev xns (fs : List Str) : List Str := "code" :: fs.reverse
abbrev xvs (c : Str) (vs : List V) : List V := .str c :: vs.reverse
/-- what __init__ promises of the exception that is being made at a -/
def spXi (C : Addr) (c : Str) (fs : List Str) : Sp := fun vs H Q _ => ∃ (a : Addr) (ws : List V), vs = .ref a :: ws ∧ ws.length = fs.length ∧ H a = some (exo a C none) ∧
  ∀ dx H', H dx = none → dx ≠ a → H' a = some (exo a C (some dx)) → H' dx = some (exd dx ((xns fs).zip (xvs c ws))) → (∀ b, b ≠ a → b ≠ dx → H' b = H b) → Q .non H'
section
variable {X : Cx} {T : List (Addr × Str)} {W : WX} {es : List Expr} {e : Expr} {tes : DTA} {p pos : Pos} {C fI : Addr} {x c : Str} {fs : List Str} {fd : FuncData} {ps : List Str} {k : Nat}
theorem xmk_call {pins : List (Addr × Obj)} {σ : L2.St} {H1 : Hp} {s1 : Shared} {us : List Value} {vs : List V} {Q : XK} (Tc : OexC X.K C) (iC : PySem.W.findIn X.K (.ref C) "__init__" = some (some (.ref fI))) (tI : PySem.W.typeIn X.K (.ref fI) = some (.type "function"))
    (F1 : FnOk X.prog X.w X.K X.mg X.base CX0 k fI fd ps (spXi C c fs)) (hr : Room (k + 1) X.A) (hb : Binds X.K fd ps []) (J1 : Inv X pins σ H1 s1) (rv : Vals vs us) (hn : vs.length = fs.length) (hz : vs.length ≤ 1000)
    (q : ∀ d, H1 d = none → Q (.ref C) (some d) (upd H1 d (.xd ((xns fs).zip (xvs c vs))))) : wpAny (model X.prog X.w) X.A (call (.ref C) us) (MkP X pins σ Q) X.xe s1 := by
  obtain ⟨nm, q0, N, bs, bm, sn, sub, ab, col, dd, k0, k1, k2, k3, k5, hC, hbm⟩ := Tc.cls
  obtain ⟨hp, gn, dr, tk, os⟩ := s1
  have big : hp.objs.size ≤ hp.objs.size + 1 := Nat.le_succ _
  have fresh : H1 (hp.objs.size + 1) = none := J1.hok.fresh big
  have kept : ∀ b o, hp.get? b = some o → ((hp.push (PySem.W.kdv_tup us)).push (PySem.HandSPX.excO C hp.objs.size)).get? b = some o := fun b o e => Heap.get?_push_of_some _ (Heap.get?_push_of_some _ e)
  have got : ((hp.push (PySem.W.kdv_tup us)).push (PySem.HandSPX.excO C hp.objs.size)).get? (hp.objs.size + 1) = some (PySem.HandSPX.excO C hp.objs.size) := by heap_get
  have J2 : Inv X pins σ (upd H1 (hp.objs.size + 1) (exo (hp.objs.size + 1) C none)) ⟨(hp.push (PySem.W.kdv_tup us)).push (PySem.HandSPX.excO C hp.objs.size), gn, dr, tk, os⟩ :=
    J1.laid (t' := tk) (a := hp.objs.size + 1) (o := exo (hp.objs.size + 1) C none) (h' := (hp.push (PySem.W.kdv_tup us)).push (PySem.HandSPX.excO C hp.objs.size)) kept big (exo_ok got)
  have hsp : spXi C c fs (V.ref (hp.objs.size + 1) :: vs) (upd H1 (hp.objs.size + 1) (exo (hp.objs.size + 1) C none)) (fun v H2 => v = .non ∧ ∃ (d : Addr) (gs : List (Str × V)), H2 (hp.objs.size + 1) = some (exo (hp.objs.size + 1) C (some d)) ∧ H2 d = some (exd d gs) ∧ H1 d = none ∧ Q (.ref C) (some d) (upd (del H2 (hp.objs.size + 1)) d (.xd gs))) (fun _ _ _ => False) := by
    refine ⟨_, vs, rfl, hn, upd_same, fun dx H' h1 h2 h3 h4 h5 => ⟨rfl, dx, _, h3, h4, ?_, ?_⟩⟩
    · rw [upd_ne h2] at h1; exact h1
    · have hd : H1 dx = none := by rw [upd_ne h2] at h1; exact h1
      have eq : upd (del H' (hp.objs.size + 1)) dx (.xd ((xns fs).zip (xvs c vs))) = upd H1 dx (.xd ((xns fs).zip (xvs c vs))) := by
        funext b
        by_cases hb1 : b = dx
        · subst hb1; rw [upd_same, upd_same]
        · rw [upd_ne hb1, upd_ne hb1]
          by_cases hb2 : b = hp.objs.size + 1
          · subst hb2; rw [del_same, fresh]
          · rw [del_ne hb2, h5 b hb2 hb1, upd_ne hb2]
      rw [eq]
      exact q dx hd
  have rv2 : Vals (V.ref (hp.objs.size + 1) :: vs) (Value.ref (hp.objs.size + 1) :: us) := .cons rfl rv
  have hl2 : (Value.ref (hp.objs.size + 1) :: us).length = ps.length := by
    rw [← rv2.length]; exact F1.len _ _ _ _ hsp
  have hus : us.length ≤ sizeLine := by
    rw [← Paired.length rv, sizeLine_eq]
    omega
  have bnd := hb _ (Value.ref (hp.objs.size + 1) :: us) J2.kIn (by rw [List.append_nil]; exact hl2)
  rw [List.append_nil] at bnd
  refine wpAny_call (PySem.HandSPX.call_own F.excBase_ValueError (fun Y => PySem.HandSPX.refsVE_contains Y bm hbm) (J1.kIn _ _ hC) (PySem.W.looks_findIn J1.kIn iC) (fun self => PySem.W.bind_fn J1.kIn self tI) hus (codeAny_mono (F1.run _ X.stack _ _ _ _ _ _ (fun _ _ _ => False) (hr.make C us []) (J2.env0.make C us []) bnd rv2 hsp) fun r s' hq' => ?_))
  cases r with
  | error er => exact (show False from hq').elim
  | ok fl =>
    cases fl with
    | ret u =>
      obtain ⟨v, H2, os2, bare2, un2, hok2, rv, ev, d, gs, ea, ed, hd1, q2⟩ := hq'
      subst ev
      obtain ⟨h2, g2, d2, t2, os'⟩ := s'
      exact ⟨rv, mk_end (raises_own Tc.exC Tc.tyC) J1 big kept un2 hok2 os2 bare2 ea ed hd1 q2⟩
    | _ => exact False.elim hq'
/-- raise C(..) -/
def dRaise (C : Addr) (c : Str) (fs : List Str) (t : DTA) : DTS := fun d r S => t r S (fun ds S1 => ds.length = fs.length ∧ d.ex ⟨C, xns fs, .str c :: ds.reverse⟩ r S1) (fun x S1 => d.ex x r S1)
theorem Reps.reverse {K : PySem.W.Frag} {g : Gh} {H : Hp} : ∀ {ds : List D} {vs : List V}, Reps K g H ds vs → Reps K g H ds.reverse vs.reverse
  | [], _, h => by cases h; rfl
  | d :: ds, _, ⟨v, r, e, h, hr⟩ => by
    subst e
    rw [List.reverse_cons, List.reverse_cons]
    exact (Reps.reverse hr).append (Reps.one h)
/-- what is known of a class of exceptions -/
structure XCls (P : Program) (w : World) (K : PySem.W.Frag) (mg : Str → Option Value) (base : Heap) (x : Str) (C fI : Addr) (fd : FuncData) (c : Str) (fs ps : List Str) (k : Nat) : Prop where
  oex : OexC K C
  init : PySem.W.findIn K (.ref C) "__init__" = some (some (.ref fI))
  tyI : PySem.W.typeIn K (.ref fI) = some (.type "function")
  fn : FnOk P w K mg base CX0 k fI fd ps (spXi C c fs)
  binds : Binds K fd ps []
  mgx : mg x = some (.ref C)
theorem lift_raise {K : PySem.W.Frag} {N : Ends} {σ : L2.St} {H : Hp} (hf : fs.length ≤ 1000) (h : liftS K T W (dRaise C c fs tes) N σ H) : liftA K T W tes σ H fun vs H1 => vs.length = fs.length ∧ vs.length ≤ 1000 ∧ ∀ d, H1 d = none → W (.ref C) (some d) σ (upd H1 d (.xd ((xns fs).zip (xvs c vs)))) := by
  obtain ⟨g, r, S, d, rl, h, e⟩ := h
  refine ⟨g, r, S, _, _, rl, h, fun ds S1 g1 H1 vs ⟨hl, h1⟩ x1 rl1 rp1 => ?_, e.wok r σ⟩
  have hl' : vs.length = fs.length := by rw [← rp1.length]; exact hl
  refine ⟨hl', by omega, fun dd hd => e.ex _ r S1 g1 σ _ _ _ h1 (x1.trans (Ext.same (same_upd hd))) (rl1.same (same_upd hd)) ⟨rfl, dd, xvs c vs, rfl, ⟨upd_same, rl1.good.notOff hd, by simp [hl']⟩, ?_⟩⟩
  exact ⟨_, _, rfl, rfl, Reps.ext (Ext.same (same_upd hd)) _ _ rp1.reverse⟩
theorem ds_raise (Tx : XCls X.prog X.w X.K X.mg X.base x C fI fd c fs ps k) (hc : X.calm = true) (tk : Takes X W) (hr : Room (k + 1) X.A) (hg : Gl X x) (ha : DA X T W (e :: es) tes) (hf : fs.length ≤ 1000 := by decide)
    (hdb : (x == ("__debug__" : Str)) = false := by decide) (he : starEach (e :: es) X.env = (false, eval e X.env) :: starEach es X.env := by rfl) (hpl : (backTo pos (starEach es X.env)).any (·.1) = false := by rfl) {pos2 : Pos} :
    DS X T W (.Raise (some (.Call (.Name x p) (e :: es) [] pos)) none pos2) (dRaise C c fs tes) := PS.imp (ps_raise (t := fun σ H Q => liftA X.K T W tes σ H fun vs H1 => vs.length = fs.length ∧ vs.length ≤ 1000 ∧ ∀ d, H1 d = none → Q (.ref C) (some d) (upd H1 d (.xd ((xns fs).zip (xvs c vs))))) hc tk fun pins s σ H Q I h => by
      refine wpAny_Call_Name_kw (ld_glob I hg Tx.mgx ?_ hdb)
      refine PySem.W.callWith_K (h₀ := X.base) I.ok.mod.kin Tx.oex.kC (thn (L2.PA.run ha pos pins s σ H _ I h) fun us s1 ⟨vs, H1, I1, r1, h1, h2, q1⟩ => ⟨I1.kIn, ?_⟩) he hpl
      exact xmk_call Tx.oex Tx.init Tx.tyI Tx.fn hr Tx.binds I1 r1 h1 h2 q1) fun N σ H h => lift_raise hf h
theorem ds_raise0 (Tx : XCls X.prog X.w X.K X.mg X.base x C fI fd c [] ps k) (hc : X.calm = true) (tk : Takes X W) (hr : Room (k + 1) X.A) (hg : Gl X x) (hdb : (x == ("__debug__" : Str)) = false := by decide) {pos2 : Pos} :
    DS X T W (.Raise (some (.Call (.Name x p) [] [] pos)) none pos2) (dRaise C c [] dNil) := PS.imp (ps_raise (t := fun σ H Q => ∀ d, H d = none → Q (.ref C) (some d) (upd H d (.xd ((xns []).zip (xvs c []))))) hc tk fun pins s σ H Q I h => by
      refine wpAny_Call_Name_kw (ld_glob I hg Tx.mgx ?_ hdb)
      exact PySem.W.callWith_K0 I.kIn Tx.oex.kC (xmk_call (us := []) (vs := []) Tx.oex Tx.init Tx.tyI Tx.fn hr Tx.binds I .nil rfl (by decide) h)) fun N σ H h => by
    obtain ⟨g, r, S, d, rl, ⟨_, h1⟩, e⟩ := h
    exact fun dd hd => e.ex _ r S g σ _ _ _ h1 (Ext.same (same_upd hd)) (rl.same (same_upd hd)) ⟨rfl, dd, xvs c [], rfl, ⟨upd_same, rl.good.notOff hd, rfl⟩, ⟨_, _, rfl, rfl, rfl⟩⟩
end
end DL
namespace DL
open PySem PySem.Spec PyProof.Rows L2
/-! ### try .. except (x1, x2) as n -/
/-- what the clause wishes of an exception of the body -/
def wAsT (K : PySem.W.Frag) (c1 c2 : Value) (i : Nat) (ts : Addr → Value → Option Addr → TS) (Wout : WX) (D : Ends) : WX := fun cls d σ H =>
  ∃ b, PySem.W.exmAny K cls [c1, c2] = some b ∧ (b = true → ∀ a, H a = none → ts a cls d { nx := fun σ' H' => D.nx (σ'.set i none) H', rt := D.rt, bk := fun σ' H' => D.bk (σ'.set i none) H', ct := fun σ' H' => D.ct (σ'.set i none) H' } (σ.set i (some (.ref a))) H) ∧
    (b = false → Wout cls d σ H)
section
variable {X : Cx} {x1 x2 n : Str} {c1 c2 : Value} {i : Nat} {body suite : List Stmt} {b0 : Stmt} {np1 np2 tpos pos pos' : Pos} {kk : Nat} {tb : WX → TS} {ts : Addr → Value → Option Addr → TS} {Wout : WX}
theorem flyZ_push {B h : Heap} {l : List Env} {a : Addr} {Z : Obj → Prop} (f : HandSPX.FlyingZ B l a Z h) (o : Obj) : HandSPX.FlyingZ B l a Z (h.push o) := by
  obtain ⟨f1, f2, f3, oe, ws, t, oT, ts, he, hc, hd, h1, hn, hne, hT, hdT, h3⟩ := f
  have k : ∀ b u, h.get? b = some u → (h.push o).get? b = some u := fun _ _ z => Heap.get?_push_of_some _ z
  exact ⟨fun b u q => k b u (f1 b u q), f2, f3.of_keeps fun b u q _ => ⟨u, k b u q, rfl⟩, oe, ws, t, oT, ts, k _ _ he, hc, hd, h1, hn, hne, k _ _ hT, hdT, h3⟩
theorem ps_try_asT (hs : X.stack = X.env :: X.outer) (hf : X.env.frame = some X.env.locals) (hN : X.N.Nodup) (hi : X.N[i]? = some n) (hln : X.env.kindOf n = some .local) (hn1 : Names X x1 c1) (hn2 : Names X x2 c2) (tk : Takes X Wout)
    (hb : ∀ (W : WX) (pn : List (Addr × Obj)) (xe : Value → Shared → Prop), Takes (X.tr pn xe) W → PassesOwn (model X.prog X.w) X.A X.env xe → PSs (X.tr pn xe) body (tb W))
    (hsu : ∀ (a : Addr) (oe : Obj) (cls : Value) (d : Option Addr) (pn : List (Addr × Obj)), Zc cls d oe → (∃ vs, oe.data = .fields vs) → PSs (X.suite a ((a, oe) :: pn)) (b0 :: suite) (ts a cls d)) :
    PS X (.Try body [.ExceptHandler (some (.Tuple [.Name x1 np1, .Name x2 np2] kk tpos)) (some n) (b0 :: suite) pos'] [] [] pos) (fun D σ H => tb (wAsT X.K c1 c2 i ts Wout D) D σ H) := by
  refine ⟨fun pins s σ H D I0 h => ?_⟩
  have ok := I0.ok
  have frm : X.A.frames = some (X.env :: X.outer) := by rw [ok.frames, hs]
  have isLoc : Loc X.env.scope n := .inl hln
  refine wpAny_Try_except ?_
  refine wpAny_mono ((hb (wAsT X.K c1 c2 i ts Wout D) (X.pn ++ pins) (fun e sA => wpAny (model X.prog X.w) X.A (noteFrame e X.env) (fun _ sB => wpAny (model X.prog X.w) X.A (setFlight e none) (fun _ sC =>
    wpAny (model X.prog X.w) X.A (handleBy e X.env [.ExceptHandler (some (.Tuple [.Name x1 np1, .Name x2 np2] kk tpos)) (some n) (b0 :: suite) pos']) (SP X pins D) X.xe sC) X.xe sB) X.xe sA) (fun u s' xx => ?_) PassesOwn.looking).run [] s σ H D (I0.toTry _) h) (fun f sA hsp => ?_) (fun e sA he => he)
  · obtain ⟨a, B, sI, pins', σ', H', cls, d, rfl, Jt, nb, up, sky, na, os, ag, b, hb1, hyes, hno⟩ := xx
    have J : Inv X pins σ' H' sI := Jt.ofTry ok
    have sky2 : Sky B (X.env :: X.outer) a (Zc cls d) X.env.locals s'.heap := by rw [← hs]; exact sky
    show wpAny (model X.prog X.w) X.A (noteFrame (.ref a) X.env) _ _ _
    refine Sky.land Zc.steady frm hf sky2 fun hA flA upA => ?_
    have JA : Inv X pins σ' H' { s' with heap := hA } := J.landed nb flA.1 (up.trans upA) os ag
    obtain ⟨oeA, vsA, heA, hzA, hdA⟩ := flA.there
    have outF : ∀ {h : Heap} {o : Obj} {vs : Array Value}, h.FunFrames B (X.env :: X.outer) → h.get? a = some o → o.data = .fields vs → a ∉ frs (X.env :: X.outer) := fun {h o vs} ff e dd hm => by
      obtain ⟨_, o2, e2, hnf⟩ := ff.mem hm
      rw [e] at e2; cases e2
      exact hnf _ dd
    have nfr := outF flA.2.2.1 heA hdA
    have nL : a ≠ X.env.locals := fun z => nfr (List.mem_filterMap.mpr ⟨X.env, List.mem_cons_self, by rw [hf, z]⟩)
    have nF : a ∉ X.fs := fun hm => by
      obtain ⟨e, he, q⟩ := List.mem_filterMap.mp hm
      exact nfr (List.mem_filterMap.mpr ⟨e, List.mem_cons_of_mem _ he, q⟩)
    have SA := JA.suite heA hdA na nL nF
    refine wpAny_handleBy_cons (codeAny_handlers_test ?_) (by intro q; cases q)
    have LT : PySem.W.Looks (model X.prog X.w) hA (typeOf (.ref a)) cls := fun A Q E s k q => wpAny_typeOf_ref (k _ _ heA) (by rw [hzA.1]; exact q)
    have kp : ∀ q o, hA.get? q = some o → (hA.push { cls := .type "tuple", data := .seq [c1, c2].toArray }).get? q = some o := fun _ _ z => Heap.get?_push_of_some _ z
    have LM := PySem.W.exm_tup2 (M := model X.prog X.w) (JA.kIn.keeps kp) (LT.keeps kp) (Heap.get?_push_size hA rfl) hb1
    have nameOk : ∀ {x : Str} {c : Value} {np : Pos} {Q : Value → Shared → Prop} {E : Value → Shared → Prop}, Names X x c → Q c { s' with heap := hA } → wpAny (model X.prog X.w) (X.A.mark (some (.ref a))) (eval (.Name x np) X.env) Q E { s' with heap := hA } := fun {x c np Q E} hc q => by
      obtain ⟨hg, hdbg, hm | ⟨hm, hv, hnn⟩⟩ := hc
      · exact ld_glob (X := X.suite a ((a, oeA) :: (X.pn ++ pins))) SA hg hm q hdbg
      · exact ld_blt (X := X.suite a ((a, oeA) :: (X.pn ++ pins))) SA hg hm hv q hnn hdbg
    refine wpAny_Tuple (wpAny_items_cons (nameOk hn1 (wpAny_items_cons (nameOk hn2 (wpAny_items_nil ⟨by size_fits, LM.here ?_⟩)))))
    have flP := flyZ_push flA { cls := .type "tuple", data := .seq [c1, c2].toArray }
    have upP : sI.heap.UpToSlots (hA.push { cls := .type "tuple", data := .seq [c1, c2].toArray }) := (up.trans upA).trans (Heap.UpToSlots.of_keeps kp)
    have JP : Inv X pins σ' H' { s' with heap := hA.push { cls := .type "tuple", data := .seq [c1, c2].toArray } } := J.landed nb flP.1 upP os ag
    cases b with
    | true =>
      refine codeAny_handlers_suite_as ?_
      refine HandSPX.lands_againZ flP fun hB flB upB => ?_
      have JB : Inv X pins σ' H' { s' with heap := hB } := J.landed nb flB.1 (upP.trans upB) os ag
      obtain ⟨oeB, vsB, heB, hzB, hdB⟩ := flB.there
      have SB := JB.suite heB hdB na nL nF
      refine store_ok (X := X.suite a ((a, oeB) :: (X.pn ++ pins))) (v := .ref a) SB hN hi isLoc rfl (fun sD SD => ?_) (.inr hln)
      refine wpAny_mono ((hsu a oeB cls d (X.pn ++ pins) hzB ⟨_, hdB⟩).run [] sD _ H' _ SD (hyes rfl a na)) (fun f sE hsp => ?_) (fun _ _ z => False.elim z)
      have close : ∀ {σE : L2.St} {HE : Hp} {Q : Shared → Prop}, Inv (X.suite a ((a, oeB) :: (X.pn ++ pins))) [] σE HE sE → (∀ sF, Inv X pins (σE.set i none) HE sF → Q sF) →
          wpAny (model X.prog X.w) X.A (do bindName X.env n .none; unbindBehindTheSuite X.env n pos') (fun _ sF => Q sF) X.xe sE := fun {σE HE Q} SE hq => gone_ok (SE.unsuite ok) hN hi hln hq
      cases f with
      | next => obtain ⟨σE, HE, SE, qE⟩ := hsp; exact close SE fun sF JF => ⟨_, _, JF, qE⟩
      | brk => obtain ⟨σE, HE, SE, qE⟩ := hsp; exact close SE fun sF JF => ⟨_, _, JF, qE⟩
      | cont => obtain ⟨σE, HE, SE, qE⟩ := hsp; exact close SE fun sF JF => ⟨_, _, JF, qE⟩
      | ret u => obtain ⟨vE, σE, HE, SE, rE, qE⟩ := hsp; exact close SE fun sF JF => ⟨_, _, _, JF, rE, qE⟩
    | false =>
      show wpAny _ X.A (handleBy (.ref a) X.env []) _ _ _
      refine wpAny_handleBy_nil ?_
      obtain ⟨k1, k2, k3, oe, vs, t, oT, ts2, he, hz, hd, h1, hr⟩ := id flP
      unfold PySem.passOn
      refine wpAny_bind (wpAny_field he hd h1 ?_)
      rw [if_neg (show ¬ ((Value.ref t == Value.none) = true) from by simp)]
      have away : wpAny (model X.prog X.w) X.A (setFlight (.ref a) X.env.frame) (fun _ sG => wpAny (model X.prog X.w) X.A (throw (.ref a) : Sem Flow) (SP X pins D) X.xe sG) X.xe { s' with heap := hA.push { cls := .type "tuple", data := .seq [c1, c2].toArray } } := by
        rw [hf]
        refine HandSPX.setFlight_upZ flP fun hG hhG upG => wpAny_throw (tk _ _ ?_)
        exact ⟨a, B, sI, pins, σ', H', cls, d, rfl, J, nb, upP.trans upG, .inr (.inr (by rw [hs]; exact hhG)), na, os, ag, hno rfl⟩
      first
        | exact wpAny_bind (wpAny_pure (wpAny_bind away))
        | exact wpAny_bind away
  · cases f with
    | next => obtain ⟨σ', H', Jt, q⟩ := hsp; exact wpAny_execs_nil ⟨σ', H', Jt.ofTry ok, q⟩
    | brk => obtain ⟨σ', H', Jt, q⟩ := hsp; exact ⟨σ', H', Jt.ofTry ok, q⟩
    | cont => obtain ⟨σ', H', Jt, q⟩ := hsp; exact ⟨σ', H', Jt.ofTry ok, q⟩
    | ret u => obtain ⟨v, σ', H', Jt, r, q⟩ := hsp; exact ⟨v, σ', H', Jt.ofTry ok, r, q⟩
end
/-! ### a def that is called in an except suite with the exception that is handled -/
structure FnP (P : Program) (w : World) (K : PySem.W.Frag) (mg : Str → Option Value) (base : Heap) (k : Nat) (f : Addr) (fd : FuncData) (ps : List Str) (sp : Addr × Obj → Sp) : Prop where
  len : ∀ p vs H Q E, sp p vs H Q E → vs.length = ps.length
  run : ∀ (A : Around) (outer : List Env) (s : Shared) (H : Hp) (args : Args) (us : List Value) (vs : List V) (Q : VK) (p : Addr × Obj), L2H.RoomH k A → L2H.PinOk outer H s p → Env0 P w K mg base A outer s H → BindsTo s fd args (ps.zip us) → Vals vs us → sp p vs H Q E0 →
    codeAny (model P w) A (.call (.ref f) args) (CR CX0 outer P w H s Q E0) s
theorem fnP_of {P : Program} {w : World} {K : PySem.W.Frag} {mg : Str → Option Value} {base : Heap} {k : Nat} {f : Addr} {x qual : Str} {st : Stmt} {fd : FuncData} {N ps : List Str} {sp : Addr × Obj → Sp} {dvs : List V} {kws : List (Str × V)} (F : FunS K x qual st dvs kws f fd) (Sc : FnScope N ps (defScope st))
    (len : ∀ p vs H Q E, sp p vs H Q E → vs.length = ps.length)
    (hbody : ∀ (cdv : Value) (A : Around) (outer : List Env) (s : Shared) (H : Hp) (vs : List V) (Q : VK) (p : Addr × Obj), L2H.RoomH k (A.deeper (envOfC qual (defScope st) s.heap.objs.size f cdv)) → sp p vs H Q E0 →
      ∃ t, PSs (L2H.cxH CX0 P w K mg base N qual (defScope st) f cdv A outer s H E0 p) (defBody st) t ∧ t { nx := fun _ H' => Q .non H', rt := Q } (L2.start N vs) H) :
    FnP P w K mg base (k + 1) f fd ps sp := by
  obtain ⟨oc, od, dV, kV, doc, pm, an, cdv, ct, osl, rfl, lk, hcd, _, _⟩ := F.ex
  refine ⟨len, fun A outer s H args us vs Q p hr hpin e0 hb r hsp => ?_⟩
  have KX : K.In s.heap := e0.mod.kin.keeps fun b o e => (e0.bs b o e).1
  have lim : s.heap.NoLimit := e0.mod.nolimit.keeps fun b o e => (e0.bs b o e).1
  have kinds : ∀ y ∈ ps.zip us, (defScope st).names.lookup y.1 = some .local ∨ ((defScope st).names.lookup y.1 = some .cell ∧ ((cellsFrom (s.heap.objs.size + 1) (defScope st).names []).lookup y.1).isSome = true) := fun ⟨n, v⟩ hy =>
    (Sc.par n (List.of_mem_zip hy).1).imp id fun q => ⟨q, PySem.W.cellsFrom_some _ _ _ (.inl q)⟩
  refine codeAny_call_function hr.depth (KX _ _ lk) rfl Sc.co Sc.gen rfl (PySem.W.codeRec_of KX hcd) (hb _ _ _ _ ?_)
  refine wpAny_newFunctionEnv_cells Sc.kind kinds fun env he s1 x => ?_
  subst he
  refine ⟨lim.keeps x.toInCall.keep, codeAny_func ?_⟩
  obtain ⟨t, ht, hq⟩ := hbody cdv A outer s H vs Q p (hr.deeper _) hsp
  have I1 : Inv (L2H.cxH CX0 P w K mg base N qual (defScope st) f cdv A outer s H E0 p) [] (L2.start N vs) H s1 := L2H.inv_startH Sc hpin e0 (len _ _ _ _ _ hsp) r x
  refine wpAny_mono (ht.run [] s1 (L2.start N vs) H _ I1 hq) (fun fl s' hs => ?_) fun e s' hs => hs
  cases fl with
  | ret u => obtain ⟨v, σ', H', J, rv, q⟩ := hs; exact ⟨v, H', J.os, J.bare, J.base, J.hok, rv, q⟩
  | next => obtain ⟨σ', H', J, q⟩ := hs; exact ⟨.non, H', J.os, J.bare, J.base, J.hok, rfl, q⟩
  | brk => obtain ⟨_, _, _, q⟩ := hs; exact False.elim q
  | cont => obtain ⟨_, _, _, q⟩ := hs; exact False.elim q
section
variable {X : Cx} {k : Nat} {f : Addr} {fd : FuncData} {ps : List Str} {sp : Addr × Obj → Sp} {x : Str} {q pos : Pos} {e : Expr} {es : List Expr} {t : TA} {p : Addr × Obj}
theorem pe_callP (F : FnP X.prog X.w X.K X.mg X.base k f fd ps sp) (hr : L2H.RoomH k X.A) (hp : p ∈ X.pn) (hg : Gl X x) (hm : X.mg x = some (.ref f)) (hk : PySem.W.keepIn X.K (.ref f) = true) (hb : Binds X.K fd ps [])
    (ha : PA X (e :: es) t) (hdb : (x == ("__debug__" : Str)) = false := by decide) (he : starEach (e :: es) X.env = (false, eval e X.env) :: starEach es X.env := by rfl) (hpl : (backTo pos (starEach es X.env)).any (·.1) = false := by rfl) :
    PE X (.Call (.Name x q) (e :: es) [] pos) (fun σ H Q => t σ H fun vs H1 => sp p vs H1 Q E0) := by
  refine ⟨fun pins s σ H Q I h => ?_⟩
  refine wpAny_Call_Name_kw (ld_glob I hg hm ?_ hdb)
  refine PySem.W.callWith_K (h₀ := X.base) I.ok.mod.kin hk (thn (ha.run pos pins s σ H _ I h) fun us s1 ⟨vs, H1, J, r, q⟩ => ⟨J.kIn, ?_⟩) he hpl
  have hl : us.length = ps.length := by rw [← r.length]; exact F.len _ _ _ _ _ q
  have bd := hb s1 us J.kIn (by rw [List.append_nil]; exact hl)
  rw [List.append_nil] at bd
  have P1 := J.pin p (List.mem_append_left _ hp)
  have pin : L2H.PinOk X.stack H1 s1 p := ⟨P1.1, P1.2.1, fun hm => (List.mem_cons.mp (J.stkSub p.1 hm)).elim P1.2.2.1 P1.2.2.2.1, P1.2.2.2.2⟩
  refine wpAny_call (codeAny_mono (F.run X.A X.stack s1 H1 ⟨us, []⟩ us vs Q p hr pin J.env0 bd r q) fun r s' hq => ?_)
  cases r with
  | error e => exact (show False from hq).elim
  | ok fl =>
    cases fl with
    | ret u => exact J.after hq
    | _ => exact False.elim hq
/-- the field n of the exception p that the context bears -/
def tXp (p : Addr × Obj) (n : Str) (te : TE) : TE := fun σ H Q => te σ H fun x H1 => x = .ref p.1 ∧ ∃ (C dd : Addr) (fs : List (Str × V)) (v : V) (gs : Array Value), p.2.cls = .ref C ∧ p.2.dict = some dd ∧ p.2.data = .fields gs ∧ XfC X.K C ∧ PySem.W.findIn X.K (.ref C) n = some none ∧ H1 dd = some (.xd fs) ∧ fs.lookup n = some v ∧ Q v H1
theorem pe_xp {n : Str} {te : TE} (hp : p ∈ X.pn) (h : PE X e te) (hb : attributeBase e n X.env (eval e X.env) = eval e X.env := by rfl) : PE X (.Attribute e n pos) (tXp (X := X) p n te) := by
  refine ⟨fun pins s σ H Q I hw => ?_⟩
  refine attr_of hb (thn (h.run pins s σ H _ I hw) fun u s1 hh => ?_)
  obtain ⟨x, H1, I1, rx, ex, C, dd, fs, v, gs, hc, hdd, hdt, Tx, hno, ea, l, q⟩ := hh
  subst ex
  obtain rfl : u = Value.ref p.1 := rx
  have got := (I1.pin p (List.mem_append_left _ hp)).1
  have okx : ObjOk X.prog X.w H1 s1.heap dd (.xd fs) := I1.hok dd _ ea
  obtain ⟨mA, hns, hr⟩ := okx
  obtain ⟨od, ho, hl⟩ := lookIn_ns hns
  obtain ⟨u, hu, ru⟩ := RelO.some_of (v := v) (o := mA n) (by rw [← l]; exact hr n)
  have J : PySem.W.InstAt s1.heap p.1 p.2 C (some od) := ⟨got, hc, by unfold PySem.W.notCls; rw [hdt] <;> rfl, by rw [hdd]; exact ho⟩
  exact HandSPX.exc_get I1.kIn J Tx.ga Tx.gg Tx.exC (PySem.W.findObj_own Tx.hdC hno rfl (by rw [hl, hu])) (handed_of ru) ⟨v, H1, I1.tok _, ru, q⟩
end
end DL
namespace DL
open PySem PySem.Spec PyProof.Rows L2
/-! ### the laws' own _law_field and _law_try -/
def cLim : List Str := ["TooMany", "TooLong", "LimitReached"]
def cNam : List Str := ["InvalidName", "WrongKind", "CircularName", "NameInUse", "DuplicateName", "UnknownName"]
def cInd : List Str := ["InvalidTurn", "InvalidCommand"]
/-- which field is told of an exception with the code c -/
def fldA (c : Str) : Option (Option Str) :=
  if inV (.str c) (cLim.map V.str) = true then some (some "limit")
  else if inV (.str c) (cNam.map V.str) = true then some (some "name")
  else if inV (.str c) (cInd.map V.str) = true then some (some "index")
  else if c = "InvalidChoice" then some (some "number")
  else if c = "Endless" then none else some none
def fldV (fs : List (Str × V)) (c : Str) (v : V) : Prop := (fldA c = some none ∧ v = .non) ∨ ∃ n, fldA c = some (some n) ∧ fs.lookup n = some v
/-- what is asked of a class of exceptions whose instances are told -/
structure XA (K : PySem.W.Frag) (C : Addr) : Prop where
  xf : XfC K C
  no : ∀ n ∈ (["code", "limit", "name", "index", "number"] : List Str), PySem.W.findIn K (.ref C) n = some none
def spField (K : PySem.W.Frag) (p : Addr × Obj) : Sp := fun vs H Q _ => ∃ (C dd : Addr) (fs : List (Str × V)) (c : Str) (v : V) (gs : Array Value), vs = [.ref p.1] ∧ p.2.cls = .ref C ∧ p.2.dict = some dd ∧ p.2.data = .fields gs ∧ XA K C ∧ H dd = some (.xd fs) ∧
  fs.lookup ("code" : Str) = some (.str c) ∧ fldV fs c v ∧ ∀ H', Same H H' → Q v H'
def tStrs : List Str → TA
  | [] => tNil
  | c :: l => tCons (tC (.str c)) (tStrs l)
section
variable {X : Cx} {p : Addr × Obj}
abbrev tInL (X : Cx) (p : Addr × Obj) (l : List Str) : TT := tTest (tOp (rIn X.K false) (tXp (X := X) p "code" (tVar 0)) (tTup (tStrs l)))
abbrev tField (X : Cx) (p : Addr × Obj) : TS :=
  tSeq (tIfS (tInL X p cLim) (tRet (tXp (X := X) p "limit" (tVar 0))) tNext) (tSeq (tIfS (tInL X p cNam) (tRet (tXp (X := X) p "name" (tVar 0))) tNext) (tSeq (tIfS (tInL X p cInd) (tRet (tXp (X := X) p "index" (tVar 0))) tNext)
    (tSeq (tIfS (tTest (tOp rEq (tXp (X := X) p "code" (tVar 0)) (tC (.str "InvalidChoice")))) (tRet (tXp (X := X) p "number" (tVar 0))) tNext)
      (tRet (tIf (tTest (tOp rEq (tXp (X := X) p "code" (tVar 0)) (tC (.str "Endless")))) (tTup (tCons (tXp (X := X) p "name" (tVar 0)) (tCons (tXp (X := X) p "bag" (tVar 0)) tNil))) (tC .non))))))
theorem strs_rd (σ : L2.St) (H : Hp) : ∀ (l : List Str) (Q : List V → Hp → Prop), Q (l.map V.str) H → tStrs l σ H Q
  | [], Q, h => h
  | c :: l, Q, h => strs_rd σ H l (fun xs H2 => Q (.str c :: xs) H2) h
theorem flat_strs : ∀ l : List Str, (l.map V.str).all flatV = true
  | [] => rfl
  | c :: l => by rw [List.map_cons, List.all_cons, flat_strs l]; rfl
theorem inL_rd {C dd : Addr} {fs : List (Str × V)} {c : Str} {gs : Array Value} {σ : L2.St} {H : Hp} (l : List Str) (hl : l.length ≤ 100) (hσ : σ[0]? = some (some (.ref p.1))) (hc : p.2.cls = .ref C) (hd : p.2.dict = some dd) (hg : p.2.data = .fields gs) (Tx : XA X.K C) (ha : H dd = some (.xd fs)) (hco : fs.lookup ("code" : Str) = some (.str c))
    {Q : Bool → Hp → Prop} (h : ∀ H', Same H H' → Q (inV (.str c) (l.map V.str)) H') : tInL X p l σ H Q := by
  refine ⟨_, hσ, rfl, C, dd, fs, .str c, gs, hc, hd, hg, Tx.xf, Tx.no _ (by decide), ha, hco, ?_⟩
  refine strs_rd σ H l _ ⟨?_, fun t ht => ?_⟩
  · rw [List.length_map, sizeLine_eq]; omega
  · exact ⟨t, _, rfl, .inr (SqT.of upd_same), rfl, flat_strs l, _, rfl, h _ (same_upd ht)⟩
theorem fld_rd {C dd : Addr} {fs : List (Str × V)} {v : V} {gs : Array Value} {σ : L2.St} {H : Hp} {n : Str} (hn : n ∈ (["code", "limit", "name", "index", "number"] : List Str)) (hσ : σ[0]? = some (some (.ref p.1))) (hc : p.2.cls = .ref C) (hd : p.2.dict = some dd) (hg : p.2.data = .fields gs) (Tx : XA X.K C) (ha : H dd = some (.xd fs)) (hco : fs.lookup n = some v)
    {Q : VK} (h : Q v H) : tXp (X := X) p n (tVar 0) σ H Q := ⟨_, hσ, rfl, C, dd, fs, v, gs, hc, hd, hg, Tx.xf, Tx.no _ hn, ha, hco, h⟩
theorem field_rd {N : List Str} {vs : List V} {H : Hp} {Q : VK} (h : spField X.K p vs H Q E0) : tField X p { nx := fun _ H' => Q .non H', rt := Q } (L2.start N vs) H := by
  obtain ⟨C, dd, fs, c, v, gs, e, hc, hd, hg, Tx, ha, hco, hf, q⟩ := h
  subst e
  have hσ : (L2.start N [V.ref p.1])[0]? = some (some (.ref p.1)) := rfl
  refine inL_rd cLim (by decide) hσ hc hd hg Tx ha hco fun H1 s1 => ?_
  have ha1 := s1 _ _ ha
  unfold fldV fldA at hf
  by_cases b1 : inV (.str c) (cLim.map V.str) = true
  · rw [b1, if_pos rfl] at hf
    rw [b1]
    refine iteT ?_
    rcases hf with ⟨hf, _⟩ | ⟨n, hn, hv⟩
    · cases hf
    · cases hn; exact fld_rd (by decide) hσ hc hd hg Tx ha1 hv (q _ s1)
  · rw [if_neg b1] at hf
    rw [Bool.eq_false_iff.mpr b1]
    refine iteF (inL_rd cNam (by decide) hσ hc hd hg Tx ha1 hco fun H2 s2 => ?_)
    have ha2 := s2 _ _ ha1
    by_cases b2 : inV (.str c) (cNam.map V.str) = true
    · rw [b2, if_pos rfl] at hf
      rw [b2]
      refine iteT ?_
      rcases hf with ⟨hf, _⟩ | ⟨n, hn, hv⟩
      · cases hf
      · cases hn; exact fld_rd (by decide) hσ hc hd hg Tx ha2 hv (q _ (s1.trans s2))
    · rw [if_neg b2] at hf
      rw [Bool.eq_false_iff.mpr b2]
      refine iteF (inL_rd cInd (by decide) hσ hc hd hg Tx ha2 hco fun H3 s3 => ?_)
      have ha3 := s3 _ _ ha2
      have s13 := (s1.trans s2).trans s3
      by_cases b3 : inV (.str c) (cInd.map V.str) = true
      · rw [b3, if_pos rfl] at hf
        rw [b3]
        refine iteT ?_
        rcases hf with ⟨hf, _⟩ | ⟨n, hn, hv⟩
        · cases hf
        · cases hn; exact fld_rd (by decide) hσ hc hd hg Tx ha3 hv (q _ s13)
      · rw [if_neg b3] at hf
        rw [Bool.eq_false_iff.mpr b3]
        refine iteF ?_
        refine ⟨_, hσ, rfl, C, dd, fs, .str c, gs, hc, hd, hg, Tx.xf, Tx.no _ (by decide), ha3, hco, rfl, _, rfl, ?_⟩
        by_cases b4 : c = "InvalidChoice"
        · rw [if_pos b4] at hf
          rw [decide_eq_true (by rw [b4])]
          refine iteT ?_
          rcases hf with ⟨hf, _⟩ | ⟨n, hn, hv⟩
          · cases hf
          · cases hn; exact fld_rd (by decide) hσ hc hd hg Tx ha3 hv (q _ s13)
        · rw [if_neg b4] at hf
          rw [decide_eq_false (fun z => b4 (V.str.inj z))]
          refine iteF ?_
          refine ⟨_, hσ, rfl, C, dd, fs, .str c, gs, hc, hd, hg, Tx.xf, Tx.no _ (by decide), ha3, hco, rfl, _, rfl, ?_⟩
          by_cases b5 : c = "Endless"
          · rw [if_pos b5] at hf
            rcases hf with ⟨hf, _⟩ | ⟨n, hn, hv⟩
            · cases hf
            · cases hn
          · rw [if_neg b5] at hf
            rw [decide_eq_false (fun z => b5 (V.str.inj z))]
            refine iteF ?_
            rcases hf with ⟨_, hv⟩ | ⟨n, hn, hv⟩
            · subst hv; exact q _ s13
            · cases hn
end
/-! ### _law_try -/
/-- what a told exception is worth -/
def XTold (K : PySem.W.Frag) (c1 c2 : Value) (Q : VK) : XK := fun cls dd H => ∃ (C d : Addr) (fs : List (Str × V)) (c : Str) (v : V), cls = .ref C ∧ dd = some d ∧ PySem.W.exmAny K (.ref C) [c1, c2] = some true ∧ XA K C ∧ H d = some (.xd fs) ∧ fs.lookup ("code" : Str) = some (.str c) ∧ fldV fs c v ∧
  ∀ H', Same H H' → ∀ p, H' p = none → Q (.ref p) (upd H' p (.tup [.str c, v]))
def TTry (K : PySem.W.Frag) (c1 c2 : Value) : (XK → Hp → VK → Prop) → Hp → VK → Prop := fun tl H Q =>
  tl (XTold K c1 c2 Q) H (fun v H1 => [V.str "value", v].length ≤ sizeLine ∧ ∀ p, H1 p = none → Q (.ref p) (upd H1 p (.tup [.str "value", v])))
section
variable {X : Cx}
theorem try_gives {Ng : List Str} {x a q n b1 b2 fl : Str} {sg : Scope} {g fF : Addr} {fdF : FuncData} {cdg c1 c2 : Value} {j k1 k2 k3 k : Nat} {p1 p2 p3 p4 p5 p6 p7 p8 p9 p10 p11 p12 p13 p14 p15 p16 p17 : Pos} (hr : Room (k + 2) X.A) (hN : Ng.Nodup) (hN0 : Ng[0]? = some a) (hN1 : Ng[1]? = some n) (hNl : 2 ≤ Ng.length)
    (hl : sg.names.lookup n = some .local) (hb1 : sg.names.lookup b1 = some .globalImplicit) (hb2 : sg.names.lookup b2 = some .globalImplicit) (hfl : sg.names.lookup fl = some .globalImplicit) (m1 : X.mg b1 = some c1) (m2 : X.mg b2 = some c2) (mf : X.mg fl = some (.ref fF))
    (d1 : (b1 == ("__debug__" : Str)) = false) (d2 : (b2 == ("__debug__" : Str)) = false) (d3 : (fl == ("__debug__" : Str)) = false) (d4 : (n == ("__debug__" : Str)) = false) (d5 : (n == ("__classdict__" : Str)) = false) (kf : PySem.W.keepIn X.K (.ref fF) = true) (bf : Binds X.K fdF ["_law_e"] [])
    (FF : FnP X.prog X.w X.K X.mg X.base k fF fdF ["_law_e"] (spField X.K)) :
    LamX.GivesTo X Ng x sg g cdg [.Try [.Return (some (.Tuple [.Constant (.str "value") j p1, .Call (.Name a p2) [] [] p3] k1 p4)) p5]
      [.ExceptHandler (some (.Tuple [.Name b1 p6, .Name b2 p7] k2 p8)) (some n) [.Return (some (.Tuple [.Attribute (.Name n p9) "code" p10, .Call (.Name fl p11) [.Name n p12] [] p13] k3 p14)) p15] p16] [] [] p17] a q (TTry X.K c1 c2) := by
  intro f c' s H Q tl act hco h
  refine ⟨_, pss_one (ps_try_asT (X := (cxOf C8.CX0 X.prog X.w X.K X.mg X.base Ng x sg g cdg X.A X.stack s H C8.E0).nox) (i := 1) (c1 := c1) (c2 := c2) (Wout := fun _ _ _ _ => False)
      (tb := fun W D σ H => ∃ Ech : XK, (∀ cls d σ' H', Ech cls d H' → σ'.length = Ng.length → W cls d σ' H') ∧ σ[0]? = some (some (.ref f)) ∧ H c' = some (LamX.CodeO c' q) ∧ tl Ech H (fun v H1 => [V.str "value", v].length ≤ sizeLine ∧ ∀ p, H1 p = none → D.rt (.ref p) (upd H1 p (.tup [.str "value", v]))))
      (ts := fun a0 cls d D σ H => ∃ (C dd : Addr) (fs : List (Str × V)) (c : Str) (v : V), cls = .ref C ∧ d = some dd ∧ XA X.K C ∧ H dd = some (.xd fs) ∧ fs.lookup ("code" : Str) = some (.str c) ∧ fldV fs c v ∧ σ[1]? = some (some (.ref a0)) ∧ ∀ H', Same H H' → ∀ p, H' p = none → D.rt (.ref p) (upd H' p (.tup [.str c, v])))
      rfl rfl hN hN1 hl ⟨hb1, d1, .inl m1⟩ ⟨hb2, d2, .inl m2⟩ LamX.takes0 (fun W pn xe tk _ => ?_) (fun a0 oe cls d pn hz hf => ?_)), ?_⟩
  · refine ⟨fun pins s' σ H' D I h' => ?_⟩
    obtain ⟨Ech, hW, h1, h2, h3⟩ := h'
    have tk2 : Takes ((cxOf C8.CX0 X.prog X.w X.K X.mg X.base Ng x sg g cdg X.A X.stack s H C8.E0).tr pn xe) (fun cls d σ' H' => σ'.length = Ng.length → W cls d σ' H') := fun u s2 ⟨a2, B, sI, pins2, σ2, H2, cls, d, e1, e2, e3, e4, e5, e6, e7, e8, e9⟩ =>
      tk u s2 ⟨a2, B, sI, pins2, σ2, H2, cls, d, e1, e2, e3, e4, e5, e6, e7, e8, e9 e2.len⟩
    exact (pss_one (ps_ret (pe_tup (pa_cons pe_str (pa_cons (act _ pn xe Ech _ _ tk2 hW) pa_nil))))).run pins s' σ H' D I ⟨h1, h2, h3⟩
  · have hp : (a0, oe) ∈ (Cx.suite (cxOf C8.CX0 X.prog X.w X.K X.mg X.base Ng x sg g cdg X.A X.stack s H C8.E0).nox a0 ((a0, oe) :: pn)).pn := List.mem_cons_self
    have rm : L2H.RoomH k (Cx.suite (cxOf C8.CX0 X.prog X.w X.K X.mg X.base Ng x sg g cdg X.A X.stack s H C8.E0).nox a0 ((a0, oe) :: pn)).A := by
      have r1 := L2H.roomH_of ((hr.mono (j := k + 1) (by omega)).deeper (envOfC x sg s.heap.objs.size g cdg))
      exact ⟨r1.dp, r1.un⟩
    have vn : ∀ {pp : Pos}, PE (Cx.suite (cxOf C8.CX0 X.prog X.w X.K X.mg X.base Ng x sg g cdg X.A X.stack s H C8.E0).nox a0 ((a0, oe) :: pn)) (.Name n pp) (tVar 1) := pe_var hN1 (.inl hl) d4 d5
    refine PSs.imp (pss_one (ps_ret (pe_tup (pa_cons (pe_xp hp vn) (pa_cons (pe_callP FF rm hp hfl mf kf bf (pa_cons vn pa_nil) d3) pa_nil))))) fun D σ H' h' => ?_
    obtain ⟨C, dd, fs, c, v, e1, e2, Tx, ha, hc, hv, hσ, hq⟩ := h'
    obtain ⟨gs, hg⟩ := hf
    refine ⟨_, hσ, rfl, C, dd, fs, .str c, gs, by rw [hz.1, e1], by rw [hz.2, e2], hg, Tx.xf, Tx.no _ (by decide), ha, hc, ?_⟩
    refine ⟨_, hσ, C, dd, fs, c, v, gs, rfl, by rw [hz.1, e1], by rw [hz.2, e2], hg, Tx, ha, hc, hv, fun H2 s2 => ⟨?_, fun p hp2 => hq H2 s2 p hp2⟩⟩
    show 2 ≤ sizeLine
    decide
  · refine ⟨XTold X.K c1 c2 Q, fun cls d σ' H' hX hlen => ?_, rfl, hco, h⟩
    obtain ⟨C, dd, fs, c, v, e1, e2, hm, Tx, ha, hc, hv, hq⟩ := hX
    refine ⟨true, by rw [e1]; exact hm, fun _ a0 ha0 => ⟨C, dd, fs, c, v, e1, e2, Tx, ha, hc, hv, ?_, hq⟩, fun z => nomatch z⟩
    rw [List.getElem?_set_self (by rw [hlen]; omega)]
/-! ### _law_try(lambda: e), by data -/
/-- an exception as it is told -/
def xlook (x : Xc) (n : Str) : Option D := (x.ns.zip x.ds).lookup n
def tellD (x : Xc) (c f : D) : Prop := ∃ s : Str, c = .str s ∧ xlook x "code" = some c ∧ ((fldA s = some none ∧ f = .non) ∨ ∃ n, fldA s = some (some n) ∧ xlook x n = some f)
def dTry (ok : Addr → Prop) (t : DTE) : DTE := fun r S Q E => t r S (fun d S1 => Q (.tup [.str "value", d]) S1) (fun x S1 => ok x.cls ∧ ∃ c f, tellD x c f ∧ Q (.tup [c, f]) S1)
theorem Reps.lookup {K : PySem.W.Frag} {g : Gh} {H : Hp} {n : Str} {d : D} : ∀ {ns : List Str} {ds : List D} {vs : List V}, Reps K g H ds vs → (ns.zip ds).lookup n = some d → ∃ v, (ns.zip vs).lookup n = some v ∧ Rep K g H d v
  | [], _, _, _, h => by simp at h
  | _ :: _, [], _, _, h => by simp at h
  | m :: ns, e :: ds, _, ⟨v, r, ev, h1, h2⟩, h => by
    subst ev
    rw [List.zip_cons_cons, List.lookup_cons] at h ⊢
    cases q : n == m with
    | true => rw [q] at h; cases h; exact ⟨v, rfl, h1⟩
    | false => rw [q] at h; exact Reps.lookup h2 h
theorem lamGood {K : PySem.W.Frag} {T : List (Addr × Str)} {g : Gh} {S : Store} {H H1 : Hp} (gd : GoodS K T g S H) (x : LamX.ExtN H H1) (t : LamX.Tabs T H1) : GoodS K T g S H1 ∧ Ext g H g H1 := by
  have ex : Ext g H g H1 := ⟨fun a o h _ n => x a o h n, fun a o h n => ⟨o, x a o h n, n⟩, ⟨[], by simp, by simp⟩, rfl⟩
  refine ⟨⟨gd.len, gd.nd, fun n a o h1 h2 => ?_, fun p hp => let ⟨o, h, n⟩ := gd.hid p hp; ⟨o, x p o h n, n⟩, t⟩, ex⟩
  have q := gd.st n a o h1 h2
  refine q.ext ex ?_
  cases o with
  | lst ds => obtain ⟨vs, e, _⟩ := q; rw [e]; exact x _ _ e (fun _ => nofun)
  | dK ds => obtain ⟨vs, e, _⟩ := q; rw [e]; exact x _ _ e (fun _ => nofun)
  | dT ds => obtain ⟨vs, e, _⟩ := q; rw [e]; exact x _ _ e (fun _ => nofun)
  | ins C ns ds => obtain ⟨dx, vs, e, _⟩ := q; rw [e]; exact x _ _ e (fun _ => nofun)
theorem de_try {T : List (Addr × Str)} {W : WX} {x a : Str} {g c P : Addr} {k : Nat} {pg : Arguments} {bg : List Stmt} {sg : Scope} {dV kV doc pm cdv ct oc : Value} {an od : Option Addr} {osl : Array (Option Value)} {Ng : List Str}
    {params : Arguments} {body : Expr} {scope : Scope} {t : DTE} {p lpos pos : Pos} {c1 c2 : Value} {okc : Addr → Prop} (hok : ∀ C, okc C → XA X.K C ∧ PySem.W.exmAny X.K (.ref C) [c1, c2] = some true) (hg : Gl X x) (hm : X.mg x = some (.ref g)) (hk : PySem.W.keepIn X.K (.ref g) = true)
    (lk : X.K.lookup g = some ⟨oc, od, .func (PySem.W.fnOf x x pg bg sg dV kV doc pm an cdv ct), osl⟩) (hcg : PySem.W.codeIn X.K cdv x = true) (hb : L2.Binds X.K (PySem.W.fnOf x x pg bg sg dV kV doc pm an cdv ct) [a] []) (Sg : FnScope Ng [a] sg) (hNg : Ng[0]? = some a) (hva : Vis sg a)
    (hG : LamX.GivesTo X Ng x sg g cdv bg a (X.env.qual ++ "<lambda>") (TTry X.K c1 c2))
    (TB : LamX.TabB X.base X.mg c P) (hcode : X.env.code = .ref c) (hmT : (P, X.env.qual ++ "<lambda>") ∈ T) (hu : ∀ p ∈ T, p.1 = P → p.2 = X.env.qual ++ "<lambda>") (hr : Room (k + 2) X.A) (L : LamX.LamS X.env.scope scope) (hdef : defaultsOf params X.env = ([], []))
    (hbind : ∀ (q : Str) (cl : List (Str × Addr)) (pm cv ctv : Value), bindArgs (PySem.W.kla_fn "<lambda>" q params body scope cl pm cv ctv) ⟨[], []⟩ = pure [])
    (hbody : ∀ (A : Around) (outer : List Env) (s : Shared) (H : Hp) (E : XK) (f c' : Addr), Room k (A.deeper (LamX.lamEnv X scope s.heap.objs.size f c')) → DE (LamX.lamCx X A outer s H E scope f c') T (WD E) body t)
    (hdb : (x == ("__debug__" : Str)) = false := by decide) (hd : (a == ("__debug__" : Str)) = false := by decide) (hcd : (a == ("__classdict__" : Str)) = false := by decide) :
    DE X T W (.Call (.Name x p) [.Lambda params body scope lpos] [] pos) (dTry okc t) :=
  PE.imp (LamX.pe_lamcall (t := fun E => lift X.K T (WD E) t) hg hm hk lk hcg hb Sg hNg hva hG TB hcode hmT hu hr L hdef hbind hbody hdb hd hcd) fun σ H Q ⟨g0, r, S, Qd, Ed, rl, h, hq, hx⟩ => by
    refine ⟨rl.good.tabs, fun H1 xN tb => ?_⟩
    obtain ⟨gd1, x1⟩ := lamGood rl.good xN tb
    have rl1 := rl.good' gd1 x1
    refine ⟨g0, r, S, _, _, rl1, h, fun d S2 g2 H2 v q2 x2 rl2 rp2 => ⟨by show 2 ≤ sizeLine; decide, fun p hp => ?_⟩, fun y S2 g2 H2 cc dd q2 x2 rl2 xr => ?_⟩
    · exact hq _ S2 g2 _ _ q2 ((x1.trans x2).trans (Ext.same (same_upd hp))) (rl2.same (same_upd hp)) (Rep.tupNew (ds := [.str "value", d]) rl2.good ⟨_, _, rfl, rfl, Reps.one rp2⟩ hp)
    · obtain ⟨hC, cD, fD, ⟨s, ec, hcl, hf⟩, hQ⟩ := q2
      obtain ⟨e1, d0, vs, e2, ⟨hd0, hoff, hl⟩, rs⟩ := xr
      obtain ⟨xa, hm2⟩ := hok _ hC
      subst ec
      obtain ⟨vc, hvc, rvc⟩ := rs.lookup hcl
      have evc : vc = .str s := rvc
      subst evc
      have fin : ∀ vf, Rep X.K g2 H2 fD vf → ∀ H', Same H2 H' → ∀ p, H' p = none → Q (.ref p) (upd H' p (.tup [.str s, vf])) := fun vf rf H' sm p hp =>
        hq _ S2 g2 _ _ hQ (((x1.trans x2).trans (Ext.same sm)).trans (Ext.same (same_upd hp))) ((rl2.same sm).same (same_upd hp)) (Rep.tupNew (ds := [.str s, fD]) (rl2.good.same sm) ⟨_, _, rfl, rfl, Reps.one (Rep.ext (Ext.same sm) _ _ rf)⟩ hp)
      rcases hf with ⟨hf, ef⟩ | ⟨n, hf, hn⟩
      · subst ef
        exact ⟨y.cls, d0, _, s, .non, e1, e2, hm2, xa, hd0, hvc, .inl ⟨hf, rfl⟩, fin _ rfl⟩
      · obtain ⟨vf, hvf, rvf⟩ := rs.lookup hn
        exact ⟨y.cls, d0, _, s, vf, e1, e2, hm2, xa, hd0, hvc, .inr ⟨n, hf, hvf⟩, fin _ rvf⟩
end
end DL
namespace DL
open PySem PySem.Spec PyProof.Rows L2
/-! ### leaving a def: what it made in the store is let go, or stands still from now on -/
mutual
/-- no place of the store from n on -/
def rlt (n : Nat) : D → Bool
  | .ref m => decide (m < n)
  | .tup ds => rlts n ds
  | .lst ds => rlts n ds
  | .fz ds => rlts n ds
  | .obj _ _ ds => rlts n ds
  | _ => true
def rlts (n : Nat) : List D → Bool
  | [] => true
  | d :: ds => rlt n d && rlts n ds
end
theorem rlts_all (n : Nat) : ∀ ds : List D, rlts n ds = ds.all (rlt n)
  | [] => by simp [rlts]
  | d :: ds => by simp [rlts, rlts_all n ds]
theorem rlts_ints (n : Nat) (ns : List Int) : rlts n (ns.map D.int) = true := by
  rw [rlts_all]; simp [rlt]
theorem rlts_strs (n : Nat) (ns : List Str) : rlts n (ns.map D.str) = true := by
  rw [rlts_all]; simp [rlt]
theorem rlts_bls (n : Nat) (ns : List Bool) : rlts n (ns.map D.bl) = true := by
  rw [rlts_all]; simp [rlt]
def rltO (n : Nat) : O → Bool
  | .lst ds => rlts n ds
  | .dK kvs => rlts n (kvs.map (·.2))
  | .dT kvs => rlts n (kvs.map (·.2))
  | .ins _ _ ds => rlts n ds
mutual
theorem rlt_of {K : PySem.W.Frag} {g : Gh} {H : Hp} : ∀ (d : D) (v : V), Rep K g H d v → rlt g.ps.length d = true
  | .non, _, _ => by simp [rlt]
  | .bl _, _, _ => by simp [rlt]
  | .int _, _, _ => by simp [rlt]
  | .str _, _, _ => by simp [rlt]
  | .tup ds, _, ⟨a, vs, e, h, r⟩ => by simp only [rlt]; exact rlts_of ds vs r
  | .lst ds, _, ⟨a, vs, e, h, r⟩ => by simp only [rlt]; exact rlts_of ds vs r
  | .fz ds, _, ⟨a, vs, e, h, r⟩ => by simp only [rlt]; exact rlts_of ds vs r
  | .obj _ _ ds, _, ⟨a, dx, vs, e, h, r⟩ => by simp only [rlt]; exact rlts_of ds vs r
  | .ref n, _, ⟨a, e, h⟩ => by simp only [rlt]; exact decide_eq_true (List.getElem?_eq_some_iff.mp h).1
  | .adr _, _, _ => by simp [rlt]
  | .ty _, _, _ => by simp [rlt]
theorem rlts_of {K : PySem.W.Frag} {g : Gh} {H : Hp} : ∀ (ds : List D) (vs : List V), Reps K g H ds vs → rlts g.ps.length ds = true
  | [], _, _ => by simp [rlts]
  | d :: ds, _, ⟨v, r, e, h, hr⟩ => by simp only [rlts, Bool.and_eq_true]; exact ⟨rlt_of d v h, rlts_of ds r hr⟩
end
mutual
/-- fewer places -/
theorem Rep.less {K : PySem.W.Frag} {g g' : Gh} {H : Hp} {new : List Addr} (hp : g'.ps = g.ps ++ new) (hh : g'.hs = g.hs) : ∀ (d : D) (v : V), rlt g.ps.length d = true → Rep K g' H d v → Rep K g H d v
  | .non, _, _, h => h
  | .bl _, _, _, h => h
  | .int _, _, _, h => h
  | .str _, _, _, h => h
  | .tup ds, _, l, ⟨a, vs, e, h, r⟩ => ⟨a, vs, e, h.imp (fun q => ⟨q.1, fun z => q.2 (z.imp (fun y => by rw [hp]; exact List.mem_append_left _ y) fun y => by rw [hh]; exact y)⟩) id, Reps.less hp hh ds vs (by simpa [rlt] using l) r⟩
  | .lst ds, _, l, ⟨a, vs, e, h, r⟩ => ⟨a, vs, e, ⟨h.1, fun z => h.2 (z.imp (fun y => by rw [hp]; exact List.mem_append_left _ y) fun y => by rw [hh]; exact y)⟩, Reps.less hp hh ds vs (by simpa [rlt] using l) r⟩
  | .fz ds, _, l, ⟨a, vs, e, h, r⟩ => ⟨a, vs, e, h.imp (fun q => ⟨q.1, fun z => q.2 (z.imp (fun y => by rw [hp]; exact List.mem_append_left _ y) fun y => by rw [hh]; exact y)⟩) id, Reps.less hp hh ds vs (by simpa [rlt] using l) r⟩
  | .obj _ _ ds, _, l, ⟨a, dx, vs, e, h, r⟩ => ⟨a, dx, vs, e, ⟨h.1, fun z => h.2.1 (z.imp (fun y => by rw [hp]; exact List.mem_append_left _ y) fun y => by rw [hh]; exact y), h.2.2⟩, Reps.less hp hh ds vs (by simpa [rlt] using l) r⟩
  | .ref n, _, l, ⟨a, e, h⟩ => ⟨a, e, by rw [hp, List.getElem?_append_left (by simpa [rlt] using l)] at h; exact h⟩
  | .adr _, _, _, h => h
  | .ty _, _, _, h => h
theorem Reps.less {K : PySem.W.Frag} {g g' : Gh} {H : Hp} {new : List Addr} (hp : g'.ps = g.ps ++ new) (hh : g'.hs = g.hs) : ∀ (ds : List D) (vs : List V), rlts g.ps.length ds = true → Reps K g' H ds vs → Reps K g H ds vs
  | [], _, _, h => h
  | d :: ds, _, l, ⟨v, r, e, h, hr⟩ => by
    simp only [rlts, Bool.and_eq_true] at l
    exact ⟨v, r, e, Rep.less hp hh d v l.1 h, Reps.less hp hh ds r l.2 hr⟩
end
theorem ORep.rlt {K : PySem.W.Frag} {g : Gh} {H : Hp} {a : Addr} : ∀ {o : O}, ORep K g H a o → rltO g.ps.length o = true
  | .lst _, ⟨vs, h, r⟩ => rlts_of _ _ r
  | .dK _, ⟨vs, h, r⟩ => rlts_of _ _ r
  | .dT _, ⟨vs, h, r⟩ => rlts_of _ _ r
  | .ins _ _ _, ⟨dx, vs, h, l, r⟩ => rlts_of _ _ r
theorem ORep.less {K : PySem.W.Frag} {g g' : Gh} {H : Hp} {a : Addr} {new : List Addr} (hp : g'.ps = g.ps ++ new) (hh : g'.hs = g.hs) : ∀ {o : O}, rltO g.ps.length o = true → ORep K g' H a o → ORep K g H a o
  | .lst _, l, ⟨vs, h, r⟩ => ⟨vs, h, Reps.less hp hh _ _ l r⟩
  | .dK _, l, ⟨vs, h, r⟩ => ⟨vs, h, Reps.less hp hh _ _ l r⟩
  | .dT _, l, ⟨vs, h, r⟩ => ⟨vs, h, Reps.less hp hh _ _ l r⟩
  | .ins _ _ _, l, ⟨dx, vs, h, e, r⟩ => ⟨dx, vs, h, e, Reps.less hp hh _ _ l r⟩
mutual
/-- what is returned, and what it is worth outside -/
inductive Frz (n : Nat) (S : Store) : D → D → Prop
  | keep {d : D} : rlt n d = true → Frz n S d d
  | lst {m : Nat} {ds : List D} : n ≤ m → S[m]? = some (.lst ds) → rlts n ds = true → Frz n S (.ref m) (.lst ds)
  | ins {m : Nat} {C : Addr} {ns : List Str} {ds : List D} : n ≤ m → S[m]? = some (.ins C ns ds) → rlts n ds = true → Frz n S (.ref m) (.obj C ns ds)
  | tup {ds es : List D} : FrzAll n S ds es → Frz n S (.tup ds) (.tup es)
inductive FrzAll (n : Nat) (S : Store) : List D → List D → Prop
  | nil : FrzAll n S [] []
  | cons {d e : D} {ds es : List D} : Frz n S d e → FrzAll n S ds es → FrzAll n S (d :: ds) (e :: es)
end
section
variable {K : PySem.W.Frag} {T : List (Addr × Str)} {g g' : Gh} {S S' : Store} {H' : Hp}
theorem off_new {new : List Addr} (gd : GoodS K T g' S' H') (hp : g'.ps = g.ps ++ new) (hh : g'.hs = g.hs) {m : Nat} {a : Addr} (hm : g.ps.length ≤ m) (h : g'.ps[m]? = some a) : ¬ g.off a := by
  have nd := List.nodup_append.mp gd.nd
  have ha := List.mem_of_getElem? h
  rintro (z | z)
  · obtain ⟨i, hi, e⟩ := List.getElem_of_mem z
    have h2 : g'.ps[i]? = some a := by rw [hp, List.getElem?_append_left hi, List.getElem?_eq_getElem hi, e]
    have := ps_inj gd h h2
    omega
  · exact nd.2.2 a ha a (by rw [hh]; exact z) rfl
mutual
theorem Frz.rep {new : List Addr} (gd : GoodS K T g' S' H') (hp : g'.ps = g.ps ++ new) (hh : g'.hs = g.hs) : ∀ {d e : D} {v : V}, Frz g.ps.length S' d e → Rep K g' H' d v → Rep K g H' e v
  | _, _, _, .keep h, r => Rep.less hp hh _ _ h r
  | _, _, _, .lst hm hS hl, r => by
    obtain ⟨a, e, q, vs, hH, rs⟩ := ref_at gd r hS
    exact ⟨a, vs, e, ⟨hH, off_new gd hp hh hm q⟩, Reps.less hp hh _ _ hl rs⟩
  | _, _, _, .ins hm hS hl, r => by
    obtain ⟨a, e, q, dx, vs, hH, hn, rs⟩ := ref_at gd r hS
    exact ⟨a, dx, vs, e, ⟨hH, off_new gd hp hh hm q, hn⟩, Reps.less hp hh _ _ hl rs⟩
  | _, _, _, .tup f, ⟨a, vs, e, h, r⟩ => ⟨a, vs, e, h.imp (fun q => ⟨q.1, fun z => q.2 (z.imp (fun y => by rw [hp]; exact List.mem_append_left _ y) fun y => by rw [hh]; exact y)⟩) id, FrzAll.reps gd hp hh f r⟩
theorem FrzAll.reps {new : List Addr} (gd : GoodS K T g' S' H') (hp : g'.ps = g.ps ++ new) (hh : g'.hs = g.hs) : ∀ {ds es : List D} {vs : List V}, FrzAll g.ps.length S' ds es → Reps K g' H' ds vs → Reps K g H' es vs
  | _, _, _, .nil, r => r
  | _, _, _, .cons f fs, ⟨v, r, e, h, hr⟩ => ⟨v, r, e, Frz.rep gd hp hh f h, FrzAll.reps gd hp hh fs hr⟩
end
end
/-- the store behind a def: S1, the rest let go -/
structure Left (S S' S1 : Store) : Prop where
  app : ∃ L, S' = S1 ++ L
  len : S1.length = S.length
  old : ∀ (i : Nat) o, S1[i]? = some o → S[i]? = some o ∨ rltO S.length o = true
theorem Left.all (S L : Store) : Left S (S ++ L) S := ⟨⟨L, rfl⟩, rfl, fun _ _ h => .inl h⟩
theorem Left.refl (S : Store) : Left S S S := ⟨⟨[], by simp⟩, rfl, fun _ _ h => .inl h⟩
/-- one old thing was changed -/
theorem Left.set (S L : Store) (n : Nat) (o : O) (h : rltO S.length o = true) : Left S (S.set n o ++ L) (S.set n o) := by
  refine ⟨⟨L, rfl⟩, by simp, fun i u e => ?_⟩
  by_cases hn : n = i
  · subst hn
    by_cases hl : n < S.length
    · rw [List.getElem?_set_self hl] at e; cases e; exact .inr h
    · rw [List.getElem?_eq_none (by simpa using hl)] at e; cases e
  · rw [List.getElem?_set_ne hn] at e; exact .inl e
theorem Left.good {K : PySem.W.Frag} {T : List (Addr × Str)} {g g' : Gh} {S S' S1 : Store} {H H' : Hp} (l : Left S S' S1) (gd : GoodS K T g S H) (gd' : GoodS K T g' S' H') (x : Ext g H g' H') : GoodS K T g S1 H' ∧ Ext g H g H' := by
  obtain ⟨new, hp, hf⟩ := x.ps
  obtain ⟨L, hL⟩ := l.app
  refine ⟨⟨gd.len.trans l.len.symm, gd.nd, fun n a o h1 h2 => ?_, fun p hq => gd'.hid p (by rw [x.hs]; exact hq), gd'.tabs⟩, ⟨x.keep, x.there, ⟨[], by simp, by simp⟩, rfl⟩⟩
  have hn : n < g.ps.length := (List.getElem?_eq_some_iff.mp h1).1
  have q := gd'.st n a o (by rw [hp, List.getElem?_append_left hn]; exact h1) (by rw [hL, List.getElem?_append_left (List.getElem?_eq_some_iff.mp h2).1]; exact h2)
  refine ORep.less hp x.hs ?_ q
  rcases l.old n o h2 with h3 | h3
  · exact (gd.st n a o h1 h3).rlt
  · rw [gd.len]; exact h3
section
variable {P : Program} {w : World} {K : PySem.W.Frag} {mg : Str → Option Value} {base : Heap} {T : List (Addr × Str)}
/-- the ends of a def's body whose own things of the store are let go -/
def exitE (S : Store) (Qd : DQ) (Ed : DX) : DEnds where
  nx := fun _ S' => ∃ S1, Left S S' S1 ∧ Qd .non S1
  rt := fun d S' => ∃ S1 e, Left S S' S1 ∧ Frz S.length S' d e ∧ Qd e S1
  ex := fun x _ S' => ∃ S1, Left S S' S1 ∧ rlts S.length x.ds = true ∧ Ed x S1
theorem fnD_ofE {x qual : Str} {st : Stmt} {f : Addr} {fd : FuncData} {N ps : List Str} {k : Nat} {t : DTS} {sp : DSp} {dvs : List V} {kws : List (Str × V)} (F : FunS K x qual st dvs kws f fd) (Sc : FnScope N ps (defScope st))
    (hb : ∀ (cdv : Value) (A : Around) (outer : List Env) (s : Shared) (H : Hp) (E : XK), fd.code = cdv → Room k (A.deeper (envOfC qual (defScope st) s.heap.objs.size f cdv)) → DSs (cxD P w K mg base N qual (defScope st) f cdv A outer s H E) T (WD E) (defBody st) t)
    (hs : ∀ ds S Qd Ed, ds.length = ps.length → sp ds S Qd Ed → t (exitE S Qd Ed) (startD N ds) S) : FnD P w K mg base T (k + 1) f fd ps sp := by
  refine FunS.okC F Sc (fun vs H Q E h => ?_) (fun cdv A outer s H vs Q E hcd hr h => ⟨_, hb cdv A outer s H E hcd hr, ?_⟩)
  · obtain ⟨g, S, ds, Qd, Ed, gd, rs, hl, _⟩ := h
    rw [← rs.length, hl]
  · obtain ⟨g, S, ds, Qd, Ed, gd, rs, hl, h, hq, hx⟩ := h
    refine ⟨g, _, S, _, Rel.start gd rs, hs ds S Qd Ed hl h, ⟨fun r' S' g' σ' H' q x1 rl1 => ?_, fun d0 S' g' H' v q x1 gd1 rp1 => ?_, fun y r' S' g' σ' H' c dd q x1 rl1 xr => ?_, fun _ _ _ _ _ z => z.elim, fun _ _ _ _ _ z => z.elim⟩⟩
    · obtain ⟨S1, l, q⟩ := q
      obtain ⟨gd2, x2⟩ := l.good gd rl1.good x1
      exact hq _ S1 g H' _ q x2 gd2 rfl
    · obtain ⟨S1, e, l, fz, q⟩ := q
      obtain ⟨gd2, x2⟩ := l.good gd gd1 x1
      obtain ⟨new, hp, _⟩ := x1.ps
      rw [← gd.len] at fz
      exact hq _ S1 g H' v q x2 gd2 (fz.rep gd1 hp x1.hs rp1)
    · obtain ⟨S1, l, hr2, q⟩ := q
      obtain ⟨gd2, x2⟩ := l.good gd rl1.good x1
      obtain ⟨new, hp, _⟩ := x1.ps
      obtain ⟨e1, d, vs, e2, ⟨h3, h4, h5⟩, h6⟩ := xr
      refine hx y S1 g H' c dd q x2 gd2 ⟨e1, d, vs, e2, ⟨h3, fun z => h4 (z.imp (fun y => by rw [hp]; exact List.mem_append_left _ y) fun y => by rw [x1.hs]; exact y), h5⟩, Reps.less hp x1.hs _ _ ?_ h6⟩
      rw [gd.len]; exact hr2
end
end DL
namespace DL
open PySem PySem.Spec PyProof.Rows L2
/-! ### a def that is called by its name -/
structure Cal (P : Program) (w : World) (K : PySem.W.Frag) (mg : Str → Option Value) (base : Heap) (T : List (Addr × Str)) (x : Str) (k : Nat) (f : Addr) (fd : FuncData) (ps : List Str) (sp : DSp) : Prop where
  fn : FnD P w K mg base T k f fd ps sp
  gl : mg x = some (.ref f)
  kp : PySem.W.keepIn K (.ref f) = true
  bd : Binds K fd ps []
section
variable {X : Cx} {T : List (Addr × Str)} {W : WX} {a b c e : Expr} {ta tb tc : DTE} {pos p : Pos} {es : List Expr} {tes : DTA} {x : Str} {k j : Nat} {f : Addr} {fd : FuncData} {ps : List Str} {sp : DSp}
theorem de_cal (F : Cal X.prog X.w X.K X.mg X.base T x k f fd ps sp) (tk : Takes X W) (hr : Room j X.A) (ha : DA X T W (e :: es) tes) (hj : k ≤ j := by decide) (hg : Gl X x := by rfl) (hdb : (x == ("__debug__" : Str)) = false := by decide)
    (he : starEach (e :: es) X.env = (false, eval e X.env) :: starEach es X.env := by rfl) (hpl : (backTo pos (starEach es X.env)).any (·.1) = false := by rfl) :
    DE X T W (.Call (.Name x p) (e :: es) [] pos) (dCall sp ps.length tes) := de_call F.fn tk (hr.mono hj) hg F.gl F.kp F.bd ha hdb he hpl
/-! ### -a, in -/
def dUn (f : Store → D → D → Prop) (t : DTE) : DTE := fun r S Q E => t r S (fun x S1 => ∃ z, f S1 x z ∧ Q z S1) E
def rDU (K : PySem.W.Frag) (T : List (Addr × Str)) (f : Store → D → D → Prop) : V → Hp → VK → Prop := fun x H Q => ∃ g S dx dz, GoodS K T g S H ∧ Rep K g H dx x ∧ f S dx dz ∧ ∀ v H', Same H H' → Rep K g H' dz v → Q v H'
theorem de_un {op : UnaryOp} {f : Store → D → D → Prop} (ho : UnR X (unaryOp op) (rDU X.K T f)) (ha : DE X T W a ta) : DE X T W (.UnaryOp op a pos) (dUn f ta) := PE.imp (pe_un ho ha) fun σ H Q ⟨g, r, S, Qd, Ed, rl, h, hq, hx⟩ => by
  refine ⟨g, r, S, _, Ed, rl, h, fun d S1 g1 H1 v ⟨z, hf, hz⟩ x1 rl1 rp1 => ?_, hx⟩
  exact ⟨g1, S1, d, z, rl1.good, rp1, hf, fun v' H' s rp => hq z S1 g1 H' v' hz (x1.trans (Ext.same s)) (rl1.same s) rp⟩
def fNeg (S : Store) (x z : D) : Prop := ∃ i, x = .int i ∧ z = .int (-i)
theorem und_neg : UnR X (unaryOp .USub) (rDU X.K T fNeg) := fun pins s σ H x v Q I rx ⟨g, S, dx, dz, gd, r1, ⟨i, e1, e2⟩, q⟩ => by
  subst e1 e2
  exact un_neg pins s σ H x v Q I rx ⟨i, r1, q _ H (Same.refl H) rfl⟩
/-- flat data: None, truth values, ints, texts -/
def flatD : D → Bool
  | .non => true
  | .bl _ => true
  | .int _ => true
  | .str _ => true
  | _ => false
def flV : D → V
  | .bl b => .bl b
  | .int i => .int i
  | .str x => .str x
  | _ => .non
theorem flat_rep {K : PySem.W.Frag} {g : Gh} {H : Hp} {d : D} {v : V} (h : flatD d = true) (r : Rep K g H d v) : v = flV d ∧ flatV v = true := by
  cases d with
  | non => cases r; exact ⟨rfl, rfl⟩
  | bl b => cases r; exact ⟨rfl, rfl⟩
  | int b => cases r; exact ⟨rfl, rfl⟩
  | str b => cases r; exact ⟨rfl, rfl⟩
  | _ => cases h
theorem flat_reps {K : PySem.W.Frag} {g : Gh} {H : Hp} : ∀ {ds : List D} {vs : List V}, ds.all flatD = true → Reps K g H ds vs → vs = ds.map flV ∧ vs.all flatV = true
  | [], _, _, r => by cases r; exact ⟨rfl, rfl⟩
  | d :: ds, _, h, ⟨v, q, e, r1, r2⟩ => by
    subst e
    rw [List.all_cons, Bool.and_eq_true] at h
    obtain ⟨e1, f1⟩ := flat_rep h.1 r1
    obtain ⟨e2, f2⟩ := flat_reps h.2 r2
    exact ⟨by rw [List.map_cons, e1, e2], by rw [List.all_cons, f1, f2]; rfl⟩
/-- the items of a list or tuple -/
def sqv (S : Store) : D → Option (List D)
  | .tup ds => some ds
  | d => lsv S d
theorem sqv_at {K : PySem.W.Frag} {g : Gh} {S : Store} {H : Hp} {d : D} {v : V} {ds : List D} (gd : GoodS K T g S H) (rp : Rep K g H d v) (h : sqv S d = some ds) : ∃ a vs, v = .ref a ∧ (SqL K H a vs ∨ SqT K H a vs) ∧ Reps K g H ds vs := by
  cases d with
  | tup es => cases h; obtain ⟨a, vs, e, q, r⟩ := Rep.tup_sq rp; exact ⟨a, vs, e, .inr q, r⟩
  | lst es => obtain ⟨a, vs, e, q, r⟩ := lsv_at gd rp (show lsv S (.lst es) = some ds from h); exact ⟨a, vs, e, .inl (SqL.of q), r⟩
  | ref m => obtain ⟨a, vs, e, q, r⟩ := lsv_at gd rp (show lsv S (.ref m) = some ds from h); exact ⟨a, vs, e, .inl (SqL.of q), r⟩
  | _ => cases h
/-- x in y: a sign in a text; a flat thing among flat things; data in a list -/
def fIn (neg : Bool) (S : Store) (x y z : D) : Prop := (∃ (c : Nat) (t : Str), x = chr1 c ∧ y = .str t ∧ z = .bl (if neg then !decide (c ∈ t.cps.toList) else decide (c ∈ t.cps.toList))) ∨
  (∃ ds, sqv S y = some ds ∧ flatD x = true ∧ ds.all flatD = true ∧ z = .bl (if neg then !inV (flV x) (ds.map flV) else inV (flV x) (ds.map flV))) ∨
  (∃ ds, lsv S y = some ds ∧ sh 50 x = true ∧ ds.all (sh 50) = true ∧ z = .bl (if neg then !(ds.any fun d => PyData.eqv (pd d) (pd x)) else ds.any fun d => PyData.eqv (pd d) (pd x)))
theorem opd_in {j : Nat} (hr : Room j X.A) : OpR X (compareOp .In) (rD X.K T (fIn false)) := fun pins s σ H x y v u Q I rx ry ⟨g, S, dx, dy, dz, gd, r1, r2, hf, q⟩ => by
  rcases hf with ⟨c, t, e1, e2, e3⟩ | ⟨ds, h1, h2, h3, e3⟩ | ⟨ds, h1, h2, h3, e3⟩
  · subst e1 e2 e3
    exact op_in_sign pins s σ H x y v u Q I rx ry ⟨c, t, r1, r2, q _ H (Same.refl H) rfl⟩
  · subst e3
    obtain ⟨a, vs, e, sq, rs⟩ := sqv_at gd r2 h1
    obtain ⟨ex, fx⟩ := flat_rep h2 r1
    obtain ⟨es, fs⟩ := flat_reps h3 rs
    exact op_in_seq pins s σ H x y v u Q I rx ry ⟨a, vs, e, sq, fx, fs, q _ H (Same.refl H) (by rw [ex, es]; rfl)⟩
  · subst e3
    obtain ⟨a, vs, e, hH, rs⟩ := lsv_at gd r2 h1
    have hx := dp_of (K := X.K) (g := g) (H := H) 50 dx x h2 r1
    have hl := dps_of (K := X.K) (g := g) (H := H) 50 ds vs (List.all_eq_true.mp h3) rs
    have shl : SeqAt.shaped (.list (pds ds)) = true := by
      have := sh_shaped (n := 51) (d := .lst ds) (by simpa [sh] using h3) (by decide)
      simpa [pd] using this
    refine op_inD (by have := hr.un; omega) pins s σ H x y v u Q I rx ry ⟨pd dx, pds ds, hx, by rw [e]; exact .lst (SqL.of hH) hl, sh_shaped h2 (by decide), shl, q _ H (Same.refl H) ?_⟩
    show _ = _
    rw [pds_map, List.any_map]
    rfl
theorem opd_notin {j : Nat} (hr : Room j X.A) : OpR X (compareOp .NotIn) (rD X.K T (fIn true)) := fun pins s σ H x y v u Q I rx ry ⟨g, S, dx, dy, dz, gd, r1, r2, hf, q⟩ => by
  rcases hf with ⟨c, t, e1, e2, e3⟩ | ⟨ds, h1, h2, h3, e3⟩ | ⟨ds, h1, h2, h3, e3⟩
  · subst e1 e2 e3
    exact op_notIn_sign pins s σ H x y v u Q I rx ry ⟨c, t, r1, r2, q _ H (Same.refl H) rfl⟩
  · subst e3
    obtain ⟨a, vs, e, sq, rs⟩ := sqv_at gd r2 h1
    obtain ⟨ex, fx⟩ := flat_rep h2 r1
    obtain ⟨es, fs⟩ := flat_reps h3 rs
    exact op_notIn_seq pins s σ H x y v u Q I rx ry ⟨a, vs, e, sq, fx, fs, q _ H (Same.refl H) (by rw [ex, es]; rfl)⟩
  · subst e3
    obtain ⟨a, vs, e, hH, rs⟩ := lsv_at gd r2 h1
    have hx := dp_of (K := X.K) (g := g) (H := H) 50 dx x h2 r1
    have hl := dps_of (K := X.K) (g := g) (H := H) 50 ds vs (List.all_eq_true.mp h3) rs
    have shl : SeqAt.shaped (.list (pds ds)) = true := by
      have := sh_shaped (n := 51) (d := .lst ds) (by simpa [sh] using h3) (by decide)
      simpa [pd] using this
    refine op_notInD (by have := hr.un; omega) pins s σ H x y v u Q I rx ry ⟨pd dx, pds ds, hx, by rw [e]; exact .lst (SqL.of hH) hl, sh_shaped h2 (by decide), shl, q _ H (Same.refl H) ?_⟩
    show _ = _
    rw [pds_map, List.any_map]
    rfl
/-- isinstance(e, (A, B)) of built-in classes -/
def dIsi2 (c1 c2 : String) (t : DTE) : DTE := fun r S Q E => t r S (fun x S1 => ∃ n b1 b2, tyD S1 x = some n ∧ kitB n c1 = some b1 ∧ kitB n c2 = some b2 ∧ Q (.bl (b1 || b2)) S1) E
theorem de_isi2 {x1 x2 : Str} {c1 c2 : String} {p1 p2 p3 : Pos} {kk : Nat} (hm : X.mg "isinstance" = none) (m1 : X.mg x1 = none) (m2 : X.mg x2 = none) (v1 : bootBuiltins x1 = some (.type c1)) (v2 : bootBuiltins x2 = some (.type c2)) (ha : DE X T W a ta)
    (hg : Gl X "isinstance" := by rfl) (g1 : Gl X x1 := by rfl) (g2 : Gl X x2 := by rfl) (n1 : x1 ≠ "__name__" := by decide) (n2 : x2 ≠ "__name__" := by decide) (b1 : (x1 == ("__debug__" : Str)) = false := by decide) (b2 : (x2 == ("__debug__" : Str)) = false := by decide)
    (s1 : starEach [.Name x1 p1, .Name x2 p2] X.env = (false, eval (.Name x1 p1) X.env) :: starEach [.Name x2 p2] X.env := by rfl) (s2 : starEach [.Name x2 p2] X.env = (false, eval (.Name x2 p2) X.env) :: starEach [] X.env := by rfl)
    (s3 : starEach [a, .Tuple [.Name x1 p1, .Name x2 p2] kk p3] X.env = (false, eval a X.env) :: starEach [.Tuple [.Name x1 p1, .Name x2 p2] kk p3] X.env := by rfl) (s4 : starEach [.Tuple [.Name x1 p1, .Name x2 p2] kk p3] X.env = (false, eval (.Tuple [.Name x1 p1, .Name x2 p2] kk p3) X.env) :: starEach [] X.env := by rfl)
    (hpl : (backTo pos (starEach [.Tuple [.Name x1 p1, .Name x2 p2] kk p3] X.env)).any (·.1) = false := by rfl) :
    DE X T W (.Call (.Name "isinstance" p) [a, .Tuple [.Name x1 p1, .Name x2 p2] kk p3] [] pos) (dIsi2 c1 c2 ta) :=
  PE.imp (pe_callB call_isiT hg hm (by decide +kernel) (pa_cons ha (pa_cons (pe_tup (pa_cons (pe_bltn g1 m1 v1 (v := .ty c1) rfl n1 b1) (pa_cons (pe_bltn g2 m2 v2 (v := .ty c2) rfl n2 b2) pa_nil s2) s1)) pa_nil s4) s3) (by decide) (by decide) s3 hpl) fun σ H Q ⟨g, r, S, Qd, Ed, rl, h, hq, hx⟩ => by
    refine ⟨g, r, S, _, Ed, rl, h, fun d S1 g1 H1 v ⟨n, t1, t2, hn, h1, h2, hQ⟩ x1 rl1 rp1 => ⟨by show 2 ≤ sizeLine; decide, fun t ht => ?_⟩, hx⟩
    refine ⟨v, t, _, .type n, [.type c1, .type c2], _, rfl, upd_same, .cons (.ty c1) (.cons (.ty c2) .nil), tyD_ok (S := S1) (Rep.ext (Ext.same (same_upd ht)) _ _ rp1) hn, ?_, hq _ S1 g1 _ _ hQ (x1.trans (Ext.same (same_upd ht))) (rl1.same (same_upd ht)) rfl⟩
    refine kitAny_cons (kit_ty h1) (r := t1 || t2) (fun e => ?_) (fun e => by rw [e]; rfl)
    rw [e, Bool.false_or]
    exact kitAny_cons (kit_ty h2) (fun e => by rw [e]; exact kitAny_nil) (fun e => by rw [e])
end
end DL
namespace DL
open PySem PySem.Spec PyProof.Rows L2
/-! ### calls with keywords -/
def pick {α : Type} (ix : List Nat) (l : List α) : List α := ix.filterMap fun i => l[i]?
theorem pick_vals {vs : List V} {us : List Value} (r : Vals vs us) : ∀ ix : List Nat, Vals (pick ix vs) (pick ix us)
  | [] => .nil
  | i :: ix => by
    have ih := pick_vals r ix
    unfold pick at *
    rw [List.filterMap_cons, List.filterMap_cons]
    cases h : vs[i]? with
    | none => rw [r.none_of h]; exact ih
    | some v => obtain ⟨u, hu, ru⟩ := r.get h; rw [hu]; exact .cons ru ih
theorem pick_reps {K : PySem.W.Frag} {g : Gh} {H : Hp} {ds : List D} {vs : List V} (r : Reps K g H ds vs) : ∀ ix : List Nat, Reps K g H (pick ix ds) (pick ix vs)
  | [] => rfl
  | i :: ix => by
    have ih := pick_reps r ix
    unfold pick at *
    rw [List.filterMap_cons, List.filterMap_cons]
    cases h : ds[i]? with
    | none =>
      have h2 : vs[i]? = none := List.getElem?_eq_none_iff.mpr (by rw [← r.length]; exact List.getElem?_eq_none_iff.mp h)
      rw [h2]; exact ih
    | some d => obtain ⟨v, hv, rv⟩ := r.get h; rw [hv]; exact ⟨v, _, rfl, rv, ih⟩
/-- n values by place, those of the keywords ks; ix: the parameters' values among both, from the left -/
def KBd (K : PySem.W.Frag) (fd : FuncData) (ps : List Str) (n : Nat) (ks : List Str) (ix : List Nat) : Prop :=
  ∀ (s : Shared) (us ws : List Value), K.In s.heap → us.length = n → ws.length = ks.length → BindsTo s fd ⟨us, ks.zip ws⟩ (ps.zip (pick ix (us ++ ws)))
theorem FunS.kbd {K : PySem.W.Frag} {x qual : Str} {st : Stmt} {kws : List (Str × V)} {f : Addr} {fd : FuncData} {ps ks : List Str} {n : Nat} {ix : List Nat} (F : FunS K x qual st [] kws f fd)
    (h : ∀ (kV doc pm : Value) (an : Option Addr) (cdv ct : Value) (us ws : List Value), us.length = n → ws.length = ks.length → bindArgs (PySem.W.fnOf x qual (defArgs st) (defBody st) (defScope st) .none kV doc pm an cdv ct) ⟨us, ks.zip ws⟩ = pure (ps.zip (pick ix (us ++ ws)))) : KBd K fd ps n ks ix := by
  obtain ⟨oc, od, dV, kV, doc, pm, an, cdv, ct, osl, rfl, lk, hcd, hD, hK⟩ := F.ex
  rcases hD with ⟨_, rfl⟩ | ⟨e, _⟩
  · exact fun s us ws _ h1 h2 => .of_eq (h kV doc pm an cdv ct us ws h1 h2)
  · exact absurd rfl e
theorem FunS.bd {K : PySem.W.Frag} {x qual : Str} {st : Stmt} {kws : List (Str × V)} {f : Addr} {fd : FuncData} {ps : List Str} (F : FunS K x qual st [] kws f fd)
    (h : ∀ (kV doc pm : Value) (an : Option Addr) (cdv ct : Value) (us : List Value), us.length = ps.length → bindArgs (PySem.W.fnOf x qual (defArgs st) (defBody st) (defScope st) .none kV doc pm an cdv ct) ⟨us, []⟩ = pure (ps.zip us)) : Binds K fd ps [] := FunD.bindsN F h
def DK (X : Cx) (T : List (Addr × Str)) (W : WX) (kws : List Keyword) (t : DTA) : Prop := PK X kws (liftA X.K T W t)
section
variable {X : Cx} {T : List (Addr × Str)} {W : WX} {e : Expr} {es : List Expr} {ta : DTE} {tes tk : DTA} {pos p kpos : Pos} {x : Str} {k j n : Nat} {f : Addr} {fd : FuncData} {ps ks : List Str} {sp : DSp} {kws : List Keyword} {nm : Option Str} {ix : List Nat}
theorem PK.imp {t t' : TA} (h : PK X kws t) (i : ∀ σ H Q, t' σ H Q → t σ H Q) : PK X kws t' := ⟨fun pos pins s σ H Q I q => h.run pos pins s σ H Q I (i σ H Q q)⟩
theorem dk_nil : DK X T W [] dNil := PK.imp pk_nil fun σ H Q ⟨g, r, S, Qd, Ed, rl, h, hq, hx⟩ => hq [] S g H [] h (Ext.refl g H) rl rfl
theorem dk_cons (ha : DE X T W e ta) (hr : DK X T W kws tes) : DK X T W (⟨nm, e, kpos⟩ :: kws) (dCons ta tes) := PK.imp (pk_cons ha hr) fun σ H Q ⟨g, r, S, Qd, Ed, rl, h, hq, hx⟩ => by
  refine ⟨g, r, S, _, Ed, rl, h, fun d S1 g1 H1 v h1 x1 rl1 rp1 => ?_, hx⟩
  exact ⟨g1, r, S1, _, Ed, rl1, h1, fun ds S2 g2 H2 vs h2 x2 rl2 rp2 => hq _ S2 g2 H2 _ h2 (x1.trans x2) rl2 ⟨v, vs, rfl, Rep.ext x2 _ _ rp1, rp2⟩, hx.ext x1⟩
def dCallK (sp : DSp) (m n l : Nat) (ix : List Nat) (t tk : DTA) : DTE := fun r S Q E => t r S (fun ds S1 => tk r S1 (fun zs S2 => ds.length = n ∧ zs.length = l ∧ (pick ix (ds ++ zs)).length = m ∧ sp (pick ix (ds ++ zs)) S2 Q E) E) E
theorem run_kw {pins : List (Addr × Obj)} {σ : L2.St} {H : Hp} {s : Shared} {Q : VK} {us ws : List Value} {vs zs : List V} {sp : Sp} (F : FnOk X.prog X.w X.K X.mg X.base (L2.CX X.prog X.w) k f fd ps sp) (hr : Room k X.A) (hb : KBd X.K fd ps n ks ix) (tk : Takes X W)
    (I : Inv X pins σ H s) (r : Vals vs us) (rz : Vals zs ws) (h1 : vs.length = n) (h2 : zs.length = ks.length) (h : sp (pick ix (vs ++ zs)) H Q (WE W σ)) : wpAny (model X.prog X.w) X.A (call (.ref f) us (ks.zip ws)) (EP X pins σ Q) X.xe s := by
  have r2 := pick_vals (r.append rz) ix
  refine wpAny_call (codeAny_mono (F.run X.A X.stack s H ⟨us, ks.zip ws⟩ _ _ Q (WE W σ) hr I.env0 (hb s us ws I.kIn (by rw [← r.length]; exact h1) (by rw [← rz.length]; exact h2)) r2 h) fun r s' hq => ?_)
  cases r with
  | error e => exact passAt tk σ pins H s e s' I hq
  | ok fl =>
    cases fl with
    | ret u => exact I.after hq
    | _ => exact False.elim hq
theorem lift_callK {K : PySem.W.Frag} {σ : L2.St} {H : Hp} {Q : VK} (h : lift K T W (dCallK sp ps.length n ks.length ix tes tk) σ H Q) : liftA K T W tes σ H fun vs H1 => liftA K T W tk σ H1 fun zs H2 => vs.length = n ∧ zs.length = ks.length ∧ spD K T ps.length sp (pick ix (vs ++ zs)) H2 Q (WE W σ) := by
  obtain ⟨g, r, S, Qd, Ed, rl, h, hq, hx⟩ := h
  refine ⟨g, r, S, _, Ed, rl, h, fun ds S1 g1 H1 vs h1 x1 rl1 rp1 => ?_, hx⟩
  refine ⟨g1, r, S1, _, Ed, rl1, h1, fun zs S2 g2 H2 ws ⟨hn, hl, hp, h2⟩ x2 rl2 rp2 => ?_, hx.ext x1⟩
  have rp1' := Reps.ext x2 _ _ rp1
  refine ⟨by rw [← rp1.length]; exact hn, by rw [← rp2.length]; exact hl, g2, S2, _, Qd, Ed, rl2.good, pick_reps (rp1'.append rp2) ix, hp, h2, fun d S3 g3 H3 v q3 x3 gd rp => hq d S3 g3 H3 v q3 ((x1.trans x2).trans x3) (rl2.good' gd x3) rp, fun y S3 g3 H3 c dd q3 x3 gd xr => hx y S3 g3 H3 c dd q3 ((x1.trans x2).trans x3) (rl2.good' gd x3) xr⟩
theorem de_calK (F : Cal X.prog X.w X.K X.mg X.base T x k f fd ps sp) (hb : KBd X.K fd ps n ks ix) (tkk : Takes X W) (hr : Room j X.A) (ha : DA X T W (e :: es) tes) (hkw : DK X T W kws tk) (hj : k ≤ j := by decide) (hg : Gl X x := by rfl) (hall : (backToKw pos (keywordEach kws X.env)).all (·.1.isSome) = true := by rfl) (hks : (backToKw pos (keywordEach kws X.env)).filterMap (·.1) = ks := by rfl)
    (hdb : (x == ("__debug__" : Str)) = false := by decide) (he : starEach (e :: es) X.env = (false, eval e X.env) :: starEach es X.env := by rfl)
    (hpl : ((backTo pos (starEach (e :: es) X.env)).any (·.1) || (backToKw pos (keywordEach kws X.env)).any (·.1.isNone)) = false := by rfl) :
    DE X T W (.Call (.Name x p) (e :: es) kws pos) (dCallK sp ps.length n ks.length ix tes tk) := ⟨fun pins s σ H Q I h => by
  refine wpAny_Call_Name_kw (ld_glob I hg F.gl ?_ hdb)
  refine PySem.W.callWith_KW (h₀ := X.base) I.ok.mod.kin F.kp hall (thn (L2.PA.run ha pos pins s σ H _ I (lift_callK h)) fun us s1 ⟨vs, H1, I1, r, q⟩ => ?_) hpl he
  refine thn (L2.PK.run hkw pos pins s1 σ H1 _ I1 q) fun ws s2 ⟨zs, H2, I2, rz, q1, q2, q3⟩ => ⟨I2.kIn, ?_⟩
  rw [hks]
  exact run_kw F.fn (hr.mono hj) hb tkk I2 r rz q1 q2 q3⟩
theorem de_calK0 (F : Cal X.prog X.w X.K X.mg X.base T x k f fd ps sp) (hb : KBd X.K fd ps 0 ks ix) (tkk : Takes X W) (hr : Room j X.A) (hkw : DK X T W kws tk) (hj : k ≤ j := by decide) (hg : Gl X x := by rfl) (hall : (backToKw pos (keywordEach kws X.env)).all (·.1.isSome) = true := by rfl) (hks : (backToKw pos (keywordEach kws X.env)).filterMap (·.1) = ks := by rfl)
    (hdb : (x == ("__debug__" : Str)) = false := by decide) (hpl : ((backTo pos (starEach [] X.env)).any (·.1) || (backToKw pos (keywordEach kws X.env)).any (·.1.isNone)) = false := by rfl) :
    DE X T W (.Call (.Name x p) [] kws pos) (dCallK sp ps.length 0 ks.length ix dNil tk) := ⟨fun pins s σ H Q I h => by
  refine wpAny_Call_Name_kw (ld_glob I hg F.gl ?_ hdb)
  obtain ⟨g, r, S, Qd, Ed, rl, h, hq, hx⟩ := h
  have h' : liftA X.K T W tk σ H fun zs H2 => zs.length = ks.length ∧ spD X.K T ps.length sp (pick ix zs) H2 Q (WE W σ) := by
    refine ⟨g, r, S, _, Ed, rl, h, fun zs S2 g2 H2 ws ⟨_, hl, hp, h2⟩ x2 rl2 rp2 => ?_, hx⟩
    exact ⟨by rw [← rp2.length]; exact hl, g2, S2, _, Qd, Ed, rl2.good, pick_reps rp2 ix, hp, h2, fun d S3 g3 H3 v q3 x3 gd rp => hq d S3 g3 H3 v q3 (x2.trans x3) (rl2.good' gd x3) rp, fun y S3 g3 H3 c dd q3 x3 gd xr => hx y S3 g3 H3 c dd q3 (x2.trans x3) (rl2.good' gd x3) xr⟩
  refine PySem.W.callWith_KW0 (h₀ := X.base) I.ok.mod.kin F.kp hall (thn (L2.PK.run hkw pos pins s σ H _ I h') fun ws s2 ⟨zs, H2, I2, rz, q2, q3⟩ => ⟨I2.kIn, ?_⟩) hpl
  rw [hks]
  exact run_kw (us := []) (vs := []) F.fn (hr.mono hj) hb tkk I2 .nil rz rfl q2 q3⟩
end
end DL
namespace DL
open PySem PySem.Spec PyProof.Rows L2
section
variable {X : Cx} {T : List (Addr × Str)} {W : WX} {a b c e : Expr} {ta tb tc : DTE} {pos p : Pos} {es : List Expr} {tes : DTA} {x : Str} {k j : Nat} {f : Addr} {fd : FuncData} {ps : List Str} {sp : DSp}
/-- a call within a block of a comprehension -/
theorem de_calE (F : Cal X.prog X.w X.K X.mg X.base T x k f fd ps sp) (tk : Takes X W) (hr : Room j X.A) (ha : DA X T W (e :: es) tes) (hj : k ≤ j) (hg : Gl X x) (hdb : (x == ("__debug__" : Str)) = false)
    (he : starEach (e :: es) X.env = (false, eval e X.env) :: starEach es X.env) (hpl : (backTo pos (starEach es X.env)).any (·.1) = false) {n : Nat} (hn : ps.length = n) :
    DE X T W (.Call (.Name x p) (e :: es) [] pos) (dCall sp n tes) := by subst hn; exact de_cal F tk hr ha hj hg hdb he hpl
theorem de_calKE {kws : List Keyword} {ks : List Str} {ix : List Nat} {n m l : Nat} {tk : DTA} (F : Cal X.prog X.w X.K X.mg X.base T x k f fd ps sp) (hb : KBd X.K fd ps n ks ix) (tkk : Takes X W) (hr : Room j X.A) (ha : DA X T W (e :: es) tes) (hkw : DK X T W kws tk) (hj : k ≤ j) (hg : Gl X x) (hall : (backToKw pos (keywordEach kws X.env)).all (·.1.isSome) = true) (hks : (backToKw pos (keywordEach kws X.env)).filterMap (·.1) = ks)
    (hdb : (x == ("__debug__" : Str)) = false) (he : starEach (e :: es) X.env = (false, eval e X.env) :: starEach es X.env)
    (hpl : ((backTo pos (starEach (e :: es) X.env)).any (·.1) || (backToKw pos (keywordEach kws X.env)).any (·.1.isNone)) = false) (hm : ps.length = m) (hl : ks.length = l) :
    DE X T W (.Call (.Name x p) (e :: es) kws pos) (dCallK sp m n l ix tes tk) := by subst hm hl; exact de_calK F hb tkk hr ha hkw hj hg hall hks hdb he hpl
theorem de_calK0E {kws : List Keyword} {ks : List Str} {ix : List Nat} {m l : Nat} {tk : DTA} (F : Cal X.prog X.w X.K X.mg X.base T x k f fd ps sp) (hb : KBd X.K fd ps 0 ks ix) (tkk : Takes X W) (hr : Room j X.A) (hkw : DK X T W kws tk) (hj : k ≤ j) (hg : Gl X x) (hall : (backToKw pos (keywordEach kws X.env)).all (·.1.isSome) = true) (hks : (backToKw pos (keywordEach kws X.env)).filterMap (·.1) = ks)
    (hdb : (x == ("__debug__" : Str)) = false) (hpl : ((backTo pos (starEach [] X.env)).any (·.1) || (backToKw pos (keywordEach kws X.env)).any (·.1.isNone)) = false) (hm : ps.length = m) (hl : ks.length = l) :
    DE X T W (.Call (.Name x p) [] kws pos) (dCallK sp m 0 l ix dNil tk) := by subst hm hl; exact de_calK0 F hb tkk hr hkw hj hg hall hks hdb hpl
end
end DL
namespace DL
open PySem PySem.Spec PyProof.Rows L2
/-! ### _law_try, packed -/
/-- what the laws' _law_try and _law_field are -/
structure TryB (P : Program) (w : World) (K : PySem.W.Frag) (mg : Str → Option Value) (base : Heap) (okc : Addr → Prop) (st : Stmt) (g : Addr) (fd : FuncData) (c1 c2 : Value) (fF : Addr) (fdF : FuncData) : Prop where
  fn : FunS K "_law_try" "_law_try" st [] [] g fd
  gl : mg "_law_try" = some (.ref g)
  bd : Binds K fd ["_law_ask"] []
  m1 : mg "BagError" = some c1
  m2 : mg "Missing" = some c2
  mf : mg "_law_field" = some (.ref fF)
  kf : PySem.W.keepIn K (.ref fF) = true
  bf : Binds K fdF ["_law_e"] []
  FF : FnP P w K mg base 2 fF fdF ["_law_e"] (spField K)
  ok : ∀ C, okc C → XA K C ∧ PySem.W.exmAny K (.ref C) [c1, c2] = some true
  sc : FnScope ["_law_ask", "_law_e"] ["_law_ask"] (defScope st)
  na : (defScope st).names.lookup ("_law_ask" : Str) = some .local
  ne : (defScope st).names.lookup ("_law_e" : Str) = some .local
  nb1 : (defScope st).names.lookup ("BagError" : Str) = some .globalImplicit
  nb2 : (defScope st).names.lookup ("Missing" : Str) = some .globalImplicit
  nf : (defScope st).names.lookup ("_law_field" : Str) = some .globalImplicit
  body : ∃ j k1 k2 k3 p1 p2 p3 p4 p5 p6 p7 p8 p9 p10 p11 p12 p13 p14 p15 p16 p17, defBody st = [.Try [.Return (some (.Tuple [.Constant (.str "value") j p1, .Call (.Name "_law_ask" p2) [] [] p3] k1 p4)) p5]
      [.ExceptHandler (some (.Tuple [.Name "BagError" p6, .Name "Missing" p7] k2 p8)) (some "_law_e") [.Return (some (.Tuple [.Attribute (.Name "_law_e" p9) "code" p10, .Call (.Name "_law_field" p11) [.Name "_law_e" p12] [] p13] k3 p14)) p15] p16] [] [] p17]
/-- with the table of the code of the def called q whose code object lies at cd -/
structure TryC (P : Program) (w : World) (K : PySem.W.Frag) (mg : Str → Option Value) (base : Heap) (T : List (Addr × Str)) (okc : Addr → Prop) (q : Str) (cd : Addr) : Prop where
  bas : ∃ st g fd c1 c2 fF fdF, TryB P w K mg base okc st g fd c1 c2 fF fdF
  tab : ∃ Pt, LamX.TabB base mg cd Pt ∧ (Pt, q ++ ".<locals>." ++ "<lambda>") ∈ T ∧ ∀ p ∈ T, p.1 = Pt → p.2 = q ++ ".<locals>." ++ "<lambda>"
theorem RoomH.mono {j k : Nat} {A : Around} (h : L2H.RoomH k A) (x : j ≤ k) : L2H.RoomH j A := ⟨by have := h.dp; omega, by have := h.un; omega⟩
theorem FnP.mono {P : Program} {w : World} {K : PySem.W.Frag} {mg : Str → Option Value} {base : Heap} {j k : Nat} {f : Addr} {fd : FuncData} {ps : List Str} {sp : Addr × Obj → Sp} (F : FnP P w K mg base j f fd ps sp) (x : j ≤ k) : FnP P w K mg base k f fd ps sp :=
  ⟨F.len, fun A outer s H args us vs Q p hr => F.run A outer s H args us vs Q p (RoomH.mono hr x)⟩
theorem takesL {X : Cx} {A : Around} {outer : List Env} {s : Shared} {H : Hp} {E : XK} {scope : Scope} {f c : Addr} : Takes (LamX.lamCx X A outer s H E scope f c) (WD E) := takes_of rfl rfl rfl rfl
theorem de_tryX {P : Program} {w : World} {K : PySem.W.Frag} {mg : Str → Option Value} {base : Heap} {T : List (Addr × Str)} {okc : Addr → Prop} {N : List Str} {q : Str} {sc : Scope} {f cd : Addr} {cdv : Value} {A : Around} {outer : List Env} {s : Shared} {H : Hp} {E : XK} {W : WX} {j : Nat}
    {params : Arguments} {body : Expr} {scope : Scope} {t : DTE} {p lpos pos : Pos} (TC : TryC P w K mg base T okc q cd) (hcode : cdv = .ref cd) (hr : Room (j + 4) (A.deeper (envOfC q sc s.heap.objs.size f cdv))) (L : LamX.LamS sc scope)
    (hbody : ∀ (A1 : Around) (outer1 : List Env) (s1 : Shared) (H1 : Hp) (E1 : XK) (f1 c' : Addr), Room (j + 2) (A1.deeper (LamX.lamEnv (cxD P w K mg base N q sc f cdv A outer s H E) scope s1.heap.objs.size f1 c')) → DE (LamX.lamCx (cxD P w K mg base N q sc f cdv A outer s H E) A1 outer1 s1 H1 E1 scope f1 c') T (WD E1) body t)
    (hg : Gl (cxD P w K mg base N q sc f cdv A outer s H E) "_law_try")
    (hdef : defaultsOf params (cxD P w K mg base N q sc f cdv A outer s H E).env = ([], [])) (hbind : ∀ (q : Str) (cl : List (Str × Addr)) (pm cv ctv : Value), bindArgs (PySem.W.kla_fn "<lambda>" q params body scope cl pm cv ctv) ⟨[], []⟩ = pure []) :
    DE (cxD P w K mg base N q sc f cdv A outer s H E) T W (.Call (.Name "_law_try" p) [.Lambda params body scope lpos] [] pos) (dTry okc t) := by
  obtain ⟨st, g, fd, c1, c2, fF, fdF, B⟩ := TC.bas
  obtain ⟨Pt, tb, tm, tu⟩ := TC.tab
  obtain ⟨oc, od, dV, kV, doc, pm, an, cdg, ct, osl, rfl, lk, hcd, _, _⟩ := B.fn.ex
  obtain ⟨j0, k1, k2, k3, p1, p2, p3, p4, p5, p6, p7, p8, p9, p10, p11, p12, p13, p14, p15, p16, p17, hb⟩ := B.body
  have hG := try_gives (X := cxD P w K mg base N q sc f cdv A outer s H E) (q := q ++ ".<locals>." ++ "<lambda>") (x := "_law_try") (g := g) (cdg := cdg) (j := j0) (k1 := k1) (k2 := k2) (k3 := k3) (p1 := p1) (p2 := p2) (p3 := p3) (p4 := p4) (p5 := p5) (p6 := p6) (p7 := p7) (p8 := p8) (p9 := p9) (p10 := p10) (p11 := p11) (p12 := p12) (p13 := p13) (p14 := p14) (p15 := p15) (p16 := p16) (p17 := p17)
    hr B.sc.nd rfl rfl (by decide) B.ne B.nb1 B.nb2 B.nf B.m1 B.m2 B.mf (by decide) (by decide) (by decide) (by decide) (by decide) B.kf B.bf (B.FF.mono (by omega))
  rw [← hb] at hG
  exact de_try B.ok hg B.gl B.fn.kp lk hcd B.bd B.sc rfl (.inl B.na) hG tb hcode tm tu hr L hdef hbind hbody
end DL
namespace DL
open PySem PySem.Spec PyProof.Rows L2
/-! ### classes of exceptions, told by Bools of the head -/
def oclB (K : PySem.W.Frag) (C : Addr) : Bool := match K.lookup C with
  | some ⟨.type "type", _, .cls cd, sl⟩ => (match cd.mro, sl.toList with
    | .ref C' :: bm, [_, _, _, _, some (.builtin n), _] => C' == C && n == "ValueError.__new__" && !cd.hasDel && cd.hasDict && PySem.HandSPX.refsVE bm
    | _, _ => false)
  | _ => false
def oexB (K : PySem.W.Frag) (C : Addr) : Bool := oclB K C && (decide (PySem.W.findIn K (.ref C) "__setattr__" = some (some (.builtin "object.__setattr__"))) && (decide (PySem.W.subIn K (.ref C) (.type "BaseException") = some true) && (decide (PySem.W.typeIn K (.ref C) = some (.type "type")) && PySem.W.keepIn K (.ref C))))
theorem oexB_ok {K : PySem.W.Frag} {C : Addr} (h : oexB K C = true) : OexC K C := by
  obtain ⟨h0, h⟩ := He.ba h
  obtain ⟨h1, h⟩ := He.ba h
  obtain ⟨h2, h⟩ := He.ba h
  obtain ⟨h3, h4⟩ := He.ba h
  refine ⟨?_, of_decide_eq_true h1, of_decide_eq_true h2, of_decide_eq_true h3, h4⟩
  have q := h0
  unfold oclB at q
  split at q
  · rename_i dd cd sl ho
    split at q
    · rename_i C' bm k0 k1 k2 k3 n k5 hm hs
      simp only [Bool.and_eq_true, beq_iff_eq, Bool.not_eq_true'] at q
      obtain ⟨⟨⟨⟨rfl, rfl⟩, hdel⟩, hdt⟩, ht⟩ := q
      obtain ⟨nm, bs, mro, ns, qn, hd, sn, sub, ab, col, del⟩ := cd
      dsimp only at hm hdel hdt
      subst hm hdel hdt
      have hsl : sl = #[k0, k1, k2, k3, some (.builtin "ValueError.__new__"), k5] := by
        obtain ⟨l⟩ := sl
        simp only at hs
        rw [hs]
      subst hsl
      exact ⟨nm, qn, ns, bs, bm, sn, sub, ab, col, dd, k0, k1, k2, k3, k5, ho, ht⟩
    · cases q
  · cases q
/-- all that is asked of the exceptions' class called x: its own __init__, its fields are no attributes of the class -/
def xclB (K : PySem.W.Frag) (x : Str) : Bool := oexB K (He.ga K x) && (xfB K (He.ga K x) && ((["code", "limit", "name", "index", "number", "bag"] : List Str).all (fun n => decide (PySem.W.findIn K (.ref (He.ga K x)) n = some none)) &&
  (decide (PySem.W.findIn K (.ref (He.ga K x)) "__init__" = some (some (.ref (He.ma K (He.ga K x) "__init__")))) && (decide (PySem.W.typeIn K (.ref (He.ma K (He.ga K x) "__init__")) = some (.type "function")) &&
    decide (PySem.W.exmAny K (.ref (He.ga K x)) [.ref (He.ga K "BagError"), .ref (He.ga K "Missing")] = some true)))))
structure XclF (K : PySem.W.Frag) (x : Str) : Prop where
  oex : OexC K (He.ga K x)
  xf : XfC K (He.ga K x)
  no : ∀ n ∈ (["code", "limit", "name", "index", "number", "bag"] : List Str), PySem.W.findIn K (.ref (He.ga K x)) n = some none
  init : PySem.W.findIn K (.ref (He.ga K x)) "__init__" = some (some (.ref (He.ma K (He.ga K x) "__init__")))
  tyI : PySem.W.typeIn K (.ref (He.ma K (He.ga K x) "__init__")) = some (.type "function")
  exm : PySem.W.exmAny K (.ref (He.ga K x)) [.ref (He.ga K "BagError"), .ref (He.ga K "Missing")] = some true
theorem xclB_ok {K : PySem.W.Frag} {x : Str} (h : xclB K x = true) : XclF K x := by
  obtain ⟨h0, h⟩ := He.ba h
  obtain ⟨h1, h⟩ := He.ba h
  obtain ⟨h2, h⟩ := He.ba h
  obtain ⟨h3, h⟩ := He.ba h
  obtain ⟨h4, h5⟩ := He.ba h
  exact ⟨oexB_ok h0, xfB_ok h1, fun n hn => of_decide_eq_true (List.all_eq_true.mp h2 n hn), of_decide_eq_true h3, of_decide_eq_true h4, of_decide_eq_true h5⟩
theorem XclF.xa {K : PySem.W.Frag} {x : Str} (h : XclF K x) : XA K (He.ga K x) := ⟨h.xf, fun n hn => h.no n (by
  simp only [List.mem_cons, List.not_mem_nil, or_false] at hn ⊢
  rcases hn with rfl | rfl | rfl | rfl | rfl <;> simp)⟩
/-! ### __init__(self): self.code = c -/
section
variable {P : Program} {w : World} {K : PySem.W.Frag} {mg : Str → Option Value} {base : Heap}
theorem init0 {x qual : Str} {C f : Addr} {st : Stmt} {fd : FuncData} {c : Str} {p1 p2 p3 p4 : Pos} {kk : Nat} (F : FunS K x qual st [] [] f fd) (Sc : FnScope ["self"] ["self"] (defScope st)) (hv : (defScope st).names.lookup ("self" : Str) = some .local)
    (Tx : OexC K C) (hno : PySem.W.findIn K (.ref C) "code" = some none) (hb : defBody st = [.Assign [.Attribute (.Name "self" p1) "code" p2] (.Constant (.str c) kk p3) p4]) : FnOk P w K mg base CX0 1 f fd ["self"] (spXi C c []) := by
  refine F.ok Sc (fun vs H Q E h => ?_) (fun cdv A outer s H vs Q E hr h => ⟨tOst K "code" (tVar 0) (tC (.str c)), PSs.nox ?_, ?_⟩)
  · obtain ⟨a, ws, rfl, hl, _⟩ := h
    cases ws with
    | nil => rfl
    | cons _ _ => cases hl
  · rw [hb]
    exact pss_one (ps_ost (pe_var (i := 0) rfl (.inl hv) (by decide) (by decide)) pe_str)
  · obtain ⟨a, ws, rfl, hl, ha, q⟩ := h
    cases ws with
    | cons _ _ => cases hl
    | nil =>
      refine ⟨_, rfl, a, C, rfl, Tx, hno, .inl ⟨ha, fun dx hd hne => ?_⟩⟩
      refine q dx _ hd hne upd_same ?_ fun b hb1 hb2 => by rw [upd_ne hb1, upd_ne hb2]
      rw [upd_ne hne, upd_same]
      rfl
/-- __init__(self, f1): self.f1 = f1; self.code = c, in this order -/
theorem init1 {x qual f1 : Str} {C f : Addr} {st : Stmt} {fd : FuncData} {c : Str} {p1 p2 p3 p4 p5 p6 p7 p8 : Pos} {kk : Nat} (F : FunS K x qual st [] [] f fd) (Sc : FnScope ["self", f1] ["self", f1] (defScope st)) (hv : (defScope st).names.lookup ("self" : Str) = some .local) (hv1 : (defScope st).names.lookup f1 = some .local)
    (hd1 : (f1 == ("__debug__" : Str)) = false) (hd2 : (f1 == ("__classdict__" : Str)) = false)
    (Tx : OexC K C) (hno : PySem.W.findIn K (.ref C) "code" = some none) (hno1 : PySem.W.findIn K (.ref C) f1 = some none) (hb : defBody st = [.Assign [.Attribute (.Name "self" p5) f1 p6] (.Name f1 p7) p8, .Assign [.Attribute (.Name "self" p1) "code" p2] (.Constant (.str c) kk p3) p4])
    (hs : ∀ env : Env, swapsWith (.Name f1 p7) (some (.Attribute (.Name "self" p5) f1 p6)) p8.line env = pure false) : FnOk P w K mg base CX0 1 f fd ["self", f1] (spXi C c [f1]) := by
  refine F.ok Sc (fun vs H Q E h => ?_) (fun cdv A outer s H vs Q E hr h => ⟨tSeq (tOst K f1 (tVar 0) (tVar 1)) (tOst K "code" (tVar 0) (tC (.str c))), PSs.nox ?_, ?_⟩)
  · obtain ⟨a, ws, rfl, hl, _⟩ := h
    rw [List.length_cons, hl]; rfl
  · rw [hb]
    exact pss_cons (ps_ost (pe_var (i := 0) rfl (.inl hv) (by decide) (by decide)) (pe_var (i := 1) rfl (.inl hv1) hd1 hd2) (hs _)) (pss_one (ps_ost (pe_var (i := 0) rfl (.inl hv) (by decide) (by decide)) pe_str))
  · obtain ⟨a, ws, rfl, hl, ha, q⟩ := h
    match ws, hl with
    | [y], _ =>
      refine ⟨y, rfl, _, rfl, a, C, rfl, Tx, hno1, .inl ⟨ha, fun dx hd hne => ?_⟩⟩
      refine ⟨_, rfl, a, C, rfl, Tx, hno, .inr ⟨dx, [(f1, y)], upd_same, by rw [upd_ne hne, upd_same], by simp, ?_⟩⟩
      refine q dx _ hd hne (by rw [upd_ne (Ne.symm hne), upd_same]) ?_ fun b hb1 hb2 => by rw [upd_ne hb2, upd_ne hb1, upd_ne hb2]
      rw [upd_same]
      rfl
end
end DL
namespace DL
open PySem PySem.Spec PyProof.Rows L2
/-! ### the readings, told for simp -/
@[simp] theorem dVar_rd (i : Nat) {r : Sl} {S : Store} {Q : DQ} {E : DX} : dVar i r S Q E = (∃ d, r[i]? = some (some d) ∧ Q d S) := rfl
@[simp] theorem dC_rd (d : D) {r : Sl} {S : Store} {Q : DQ} {E : DX} : dC d r S Q E = (Q d S) := rfl
@[simp] theorem dOp_rd (f : Store → D → D → D → Prop) (ta tb : DTE) {r : Sl} {S : Store} {Q : DQ} {E : DX} : dOp f ta tb r S Q E = (ta r S (fun x S1 => tb r S1 (fun y S2 => ∃ z, f S2 x y z ∧ Q z S2) E) E) := rfl
@[simp] theorem dAndV_rd (t u : DTE) {r : Sl} {S : Store} {Q : DQ} {E : DX} : dAndV t u r S Q E = (t r S (fun x S1 => ∃ c, x = .bl c ∧ if c = true then u r S1 Q E else Q (.bl false) S1) E) := rfl
@[simp] theorem dOrV_rd (t u : DTE) {r : Sl} {S : Store} {Q : DQ} {E : DX} : dOrV t u r S Q E = (t r S (fun x S1 => ∃ c, x = .bl c ∧ if c = true then Q (.bl true) S1 else u r S1 Q E) E) := rfl
@[simp] theorem dNotV_rd (t : DTE) {r : Sl} {S : Store} {Q : DQ} {E : DX} : dNotV t r S Q E = (t r S (fun x S1 => ∃ c, x = .bl c ∧ Q (.bl (!c)) S1) E) := rfl
@[simp] theorem dIf_rd (t : DTT) (u v : DTE) {r : Sl} {S : Store} {Q : DQ} {E : DX} : dIf t u v r S Q E = (t r S (fun c S1 => if c = true then u r S1 Q E else v r S1 Q E) E) := rfl
@[simp] theorem dTup_rd (t : DTA) {r : Sl} {S : Store} {Q : DQ} {E : DX} : dTup t r S Q E = (t r S (fun ds S1 => ds.length ≤ sizeLine ∧ Q (.tup ds) S1) E) := rfl
@[simp] theorem dLst_rd (t : DTA) {r : Sl} {S : Store} {Q : DQ} {E : DX} : dLst t r S Q E = (t r S (fun ds S1 => ds.length ≤ sizeLine ∧ Q (.lst ds) S1) E) := rfl
@[simp] theorem dLstS_rd (t : DTA) {r : Sl} {S : Store} {Q : DQ} {E : DX} : dLstS t r S Q E = (t r S (fun ds S1 => ds.length ≤ sizeLine ∧ Q (.ref S1.length) (S1 ++ [.lst ds])) E) := rfl
@[simp] theorem dCB_rd (f : Store → List D → D → Prop) (t : DTA) {r : Sl} {S : Store} {Q : DQ} {E : DX} : dCB f t r S Q E = (t r S (fun ds S1 => ∃ z, f S1 ds z ∧ Q z S1) E) := rfl
@[simp] theorem dCall_rd (sp : DSp) (n : Nat) (t : DTA) {r : Sl} {S : Store} {Q : DQ} {E : DX} : dCall sp n t r S Q E = (t r S (fun ds S1 => ds.length = n ∧ sp ds S1 Q E) E) := rfl
@[simp] theorem dUn_rd (f : Store → D → D → Prop) (t : DTE) {r : Sl} {S : Store} {Q : DQ} {E : DX} : dUn f t r S Q E = (t r S (fun x S1 => ∃ z, f S1 x z ∧ Q z S1) E) := rfl
@[simp] theorem dSl_rd (t : DTE) (tl th : DTO) {r : Sl} {S : Store} {Q : DQ} {E : DX} : dSl t tl th r S Q E = (t r S (fun x S1 => tl r S1 (fun l S2 => th r S2 (fun u S3 => ∃ z, fSl S3 x l u z ∧ Q z S3) E) E) E) := rfl
@[simp] theorem dBM_rd (ty : String) (f : MF) (to : DTE) (t : DTA) {r : Sl} {S : Store} {Q : DQ} {E : DX} : dBM ty f to t r S Q E = (to r S (fun x S1 => tyM S1 x = some ty ∧ t r S1 (fun ds S2 => ∃ z S3, f S2 x ds z S3 ∧ Q z S3) E) E) := rfl
@[simp] theorem dIsi2_rd (c1 c2 : String) (t : DTE) {r : Sl} {S : Store} {Q : DQ} {E : DX} : dIsi2 c1 c2 t r S Q E = (t r S (fun x S1 => ∃ n b1 b2, tyD S1 x = some n ∧ kitB n c1 = some b1 ∧ kitB n c2 = some b2 ∧ Q (.bl (b1 || b2)) S1) E) := rfl
@[simp] theorem dTry_rd (ok : Addr → Prop) (t : DTE) {r : Sl} {S : Store} {Q : DQ} {E : DX} : dTry ok t r S Q E = (t r S (fun d S1 => Q (.tup [.str "value", d]) S1) (fun x S1 => ok x.cls ∧ ∃ c f, tellD x c f ∧ Q (.tup [c, f]) S1)) := rfl
@[simp] theorem dCallK_rd (sp : DSp) (m n l : Nat) (ix : List Nat) (t tk : DTA) {r : Sl} {S : Store} {Q : DQ} {E : DX} : dCallK sp m n l ix t tk r S Q E = (t r S (fun ds S1 => tk r S1 (fun zs S2 => ds.length = n ∧ zs.length = l ∧ (pick ix (ds ++ zs)).length = m ∧ sp (pick ix (ds ++ zs)) S2 Q E) E) E) := rfl
@[simp] theorem dChain_rd (f f' : Store → D → D → D → Prop) (ta tb tc : DTE) {r : Sl} {S : Store} {Q : DQ} {E : DX} : dChain f f' ta tb tc r S Q E = (ta r S (fun x S1 => tb r S1 (fun y S2 => ∃ k, f S2 x y (.bl k) ∧ (if k = true then tc r S2 (fun z S3 => ∃ w, f' S3 y z w ∧ Q w S3) E else Q (.bl false) S2)) E) E) := rfl
@[simp] theorem dB_rd (t : DTE) {r : Sl} {S : Store} {Q : Bool → Store → Prop} {E : DX} : dB t r S Q E = (t r S (fun x S1 => ∃ c, x = .bl c ∧ Q c S1) E) := rfl
@[simp] theorem dAnd_rd (t u : DTT) {r : Sl} {S : Store} {Q : Bool → Store → Prop} {E : DX} : dAnd t u r S Q E = (t r S (fun c S1 => if c = true then u r S1 Q E else Q false S1) E) := rfl
@[simp] theorem dOr_rd (t u : DTT) {r : Sl} {S : Store} {Q : Bool → Store → Prop} {E : DX} : dOr t u r S Q E = (t r S (fun c S1 => if c = true then Q true S1 else u r S1 Q E) E) := rfl
@[simp] theorem dNot_rd (t : DTT) {r : Sl} {S : Store} {Q : Bool → Store → Prop} {E : DX} : dNot t r S Q E = (t r S (fun c S1 => Q (!c) S1) E) := rfl
@[simp] theorem dYes_rd {r : Sl} {S : Store} {Q : Bool → Store → Prop} {E : DX} : dYes r S Q E = (Q true S) := rfl
@[simp] theorem dNil_rd {r : Sl} {S : Store} {Q : List D → Store → Prop} {E : DX} : dNil r S Q E = (Q [] S) := rfl
@[simp] theorem dCons_rd (t : DTE) (u : DTA) {r : Sl} {S : Store} {Q : List D → Store → Prop} {E : DX} : dCons t u r S Q E = (t r S (fun d S1 => u r S1 (fun ds S2 => Q (d :: ds) S2) E) E) := rfl
@[simp] theorem diSeq_rd (t : DTE) {r : Sl} {S : Store} {Q : List D → Store → Prop} {E : DX} : diSeq t r S Q E = (t r S (fun d S1 => ∃ ds, itv d = some ds ∧ Q ds S1) E) := rfl
@[simp] theorem diRng1_rd (t : DTA) {r : Sl} {S : Store} {Q : List D → Store → Prop} {E : DX} : diRng1 t r S Q E = (t r S (fun ds S1 => ∃ j : Int, ds = [.int j] ∧ -(2 ^ 62) ≤ j ∧ j < 2 ^ 62 ∧ Q (rngD 0 j.toNat) S1) E) := rfl
@[simp] theorem diRng2_rd (t : DTA) {r : Sl} {S : Store} {Q : List D → Store → Prop} {E : DX} : diRng2 t r S Q E = (t r S (fun ds S1 => ∃ i j : Int, ds = [.int i, .int j] ∧ (-(2 ^ 62) ≤ i ∧ i < 2 ^ 62 ∧ -(2 ^ 62) ≤ j ∧ j < 2 ^ 62) ∧ Q (rngD i (j - i).toNat) S1) E) := rfl
@[simp] theorem diEnum_rd (t : DTA) {r : Sl} {S : Store} {Q : List D → Store → Prop} {E : DX} : diEnum t r S Q E = (t r S (fun ds S1 => ∃ xs, ds = [.lst xs] ∧ Q (enumD xs) S1) E) := rfl
@[simp] theorem diZip_rd (t : DTA) {r : Sl} {S : Store} {Q : List D → Store → Prop} {E : DX} : diZip t r S Q E = (t r S (fun ds S1 => ∃ xs ys, (ds = [.lst xs, .lst ys] ∨ ds = [.tup xs, .tup ys]) ∧ Q (zipD xs ys) S1) E) := rfl
@[simp] theorem dNoPart_rd {r : Sl} {S : Store} {Q : Option Int → Store → Prop} {E : DX} : dNoPart r S Q E = (Q none S) := rfl
@[simp] theorem dPart_rd (t : DTE) {r : Sl} {S : Store} {Q : Option Int → Store → Prop} {E : DX} : dPart t r S Q E = (t r S (fun x S1 => ∃ i, x = .int i ∧ Q (some i) S1) E) := rfl
@[simp] theorem dNext_rd {d : DEnds} {r : Sl} {S : Store} : dNext d r S = (d.nx r S) := rfl
@[simp] theorem dSeq_rd (t u : DTS) {d : DEnds} {r : Sl} {S : Store} : dSeq t u d r S = (t { d with nx := u d } r S) := rfl
@[simp] theorem dBreak_rd {d : DEnds} {r : Sl} {S : Store} : dBreak d r S = (d.bk r S) := rfl
@[simp] theorem dCont_rd {d : DEnds} {r : Sl} {S : Store} : dCont d r S = (d.ct r S) := rfl
@[simp] theorem dExpr_rd (t : DTE) {d : DEnds} {r : Sl} {S : Store} : dExpr t d r S = (t r S (fun _ S1 => d.nx r S1) (fun x S1 => d.ex x r S1)) := rfl
@[simp] theorem dRet_rd (t : DTE) {d : DEnds} {r : Sl} {S : Store} : dRet t d r S = (t r S (fun x S1 => d.rt x S1) (fun x S1 => d.ex x r S1)) := rfl
@[simp] theorem dIfS_rd (c : DTT) (t u : DTS) {d : DEnds} {r : Sl} {S : Store} : dIfS c t u d r S = (c r S (fun b S1 => if b = true then t d r S1 else u d r S1) (fun x S1 => d.ex x r S1)) := rfl
@[simp] theorem dAsg_rd (t : DTE) (g : DTG) {d : DEnds} {r : Sl} {S : Store} : dAsg t g d r S = (t r S (fun x S1 => g x r S1 d.nx) (fun x S1 => d.ex x r S1)) := rfl
@[simp] theorem dPar_rd (i j : Nat) (t : DTA) {d : DEnds} {r : Sl} {S : Store} : dPar i j t d r S = (t r S (fun ds S1 => ∃ v w, ds = [v, w] ∧ d.nx ((r.set i (some v)).set j (some w)) S1) (fun x S1 => d.ex x r S1)) := rfl
@[simp] theorem dAug_rd (i : Nat) (t : DTE) (f : Store → D → D → D → Prop) {d : DEnds} {r : Sl} {S : Store} : dAug i t f d r S = (∃ x, r[i]? = some (some x) ∧ t r S (fun y S1 => ∃ z, f S1 x y z ∧ d.nx (r.set i (some z)) S1) (fun x S1 => d.ex x r S1)) := rfl
@[simp] theorem dRaise_rd (C : Addr) (c : Str) (fs : List Str) (t : DTA) {d : DEnds} {r : Sl} {S : Store} : dRaise C c fs t d r S = (t r S (fun ds S1 => ds.length = fs.length ∧ d.ex ⟨C, xns fs, .str c :: ds.reverse⟩ r S1) (fun x S1 => d.ex x r S1)) := rfl
@[simp] theorem dgName_rd {i : Nat} {d : D} {r : Sl} {S : Store} {Q : Sl → Store → Prop} : dgName i d r S Q = Q (r.set i (some d)) S := rfl
theorem dgTup_rd {n : Nat} {t : List D → Sl → Store → (Sl → Store → Prop) → Prop} {d : D} {r : Sl} {S : Store} {Q : Sl → Store → Prop} : dgTup n t d r S Q = (∃ ds, d = .tup ds ∧ ds.length = n ∧ t ds r S Q) := rfl
theorem dgNil_rd {ds : List D} {r : Sl} {S : Store} {Q : Sl → Store → Prop} : dgNil ds r S Q = (ds = [] ∧ Q r S) := rfl
theorem dgCons_rd {t : DTG} {u : List D → Sl → Store → (Sl → Store → Prop) → Prop} {ds : List D} {r : Sl} {S : Store} {Q : Sl → Store → Prop} : dgCons t u ds r S Q = (∃ d q, ds = d :: q ∧ t d r S fun r' S' => u q r' S' Q) := rfl
@[simp] theorem dgTup_c {n : Nat} {t : List D → Sl → Store → (Sl → Store → Prop) → Prop} {ds : List D} {r : Sl} {S : Store} {Q : Sl → Store → Prop} : dgTup n t (.tup ds) r S Q = (ds.length = n ∧ t ds r S Q) := propext ⟨fun ⟨_, e, h⟩ => by cases e; exact h, fun h => ⟨ds, rfl, h⟩⟩
@[simp] theorem dgNil_c {r : Sl} {S : Store} {Q : Sl → Store → Prop} : dgNil [] r S Q = Q r S := propext ⟨fun h => h.2, fun h => ⟨rfl, h⟩⟩
@[simp] theorem dgCons_c {t : DTG} {u : List D → Sl → Store → (Sl → Store → Prop) → Prop} {d : D} {q : List D} {r : Sl} {S : Store} {Q : Sl → Store → Prop} : dgCons t u (d :: q) r S Q = (t d r S fun r' S' => u q r' S' Q) := propext ⟨fun ⟨_, _, e, h⟩ => by cases e; exact h, fun h => ⟨d, q, rfl, h⟩⟩
@[simp] theorem dgSub_rd {to ti : DTE} {d : D} {r : Sl} {S : Store} {Q : Sl → Store → Prop} : dgSub to ti d r S Q = (to r S (fun x S1 => ti r S1 (fun y S2 => ∃ (n : Nat) (ds : List D) (k : Int) (j : Nat), x = .ref n ∧ y = .int k ∧ S2[n]? = some (.lst ds) ∧ ixN ds.length k = some j ∧ Q r (S2.set n (.lst (ds.set j d)))) EF) EF) := rfl
section
variable {S : Store} {i j : Int} {z x y : D} {es fs : List D} {a b : Str} {p q : Bool}
@[simp] theorem fAdd_ii : fAdd S (.int i) (.int j) z = (z = .int (i + j)) := rfl
@[simp] theorem fAdd_tt : fAdd S (.tup es) (.tup fs) z = (es.length + fs.length ≤ sizeLine ∧ z = .tup (es ++ fs)) := rfl
@[simp] theorem fAdd_ss : fAdd S (.str a) (.str b) z = (a.length + b.length ≤ sizeLine ∧ z = .str (a ++ b)) := rfl
@[simp] theorem fSub_ii : fSub S (.int i) (.int j) z = (z = .int (i - j)) := rfl
@[simp] theorem fMul_ii : fMul S (.int i) (.int j) z = (MulOk i j ∧ z = .int (i * j)) := rfl
@[simp] theorem fFdiv_ii : fFdiv S (.int i) (.int j) z = (DivOk j ∧ z = .int (i / j)) := rfl
@[simp] theorem fMod_ii : fMod S (.int i) (.int j) z = (0 < j ∧ z = .int (i % j)) := rfl
@[simp] theorem fPow_ii : fPow S (.int i) (.int j) z = ((0 ≤ j ∧ j ≤ 1000000 ∧ i.natAbs < 2 ^ 64) ∧ z = .int (i ^ j.toNat)) := rfl
@[simp] theorem fLt_ii : fLt S (.int i) (.int j) z = (z = .bl (decide (i < j))) := rfl
@[simp] theorem fLe_ii : fLe S (.int i) (.int j) z = (z = .bl (decide (i ≤ j))) := rfl
@[simp] theorem fGt_ii : fGt S (.int i) (.int j) z = (z = .bl (decide (i > j))) := rfl
@[simp] theorem fGe_ii : fGe S (.int i) (.int j) z = (z = .bl (decide (i ≥ j))) := rfl
@[simp] theorem fNeg_i : fNeg S (.int i) z = (z = .int (-i)) := propext ⟨fun ⟨_, e, h⟩ => by cases e; exact h, fun h => ⟨i, rfl, h⟩⟩
theorem eqD_int : (i == j) = decide (i = j) := rfl
@[simp] theorem fEq_ii : fEq S (.int i) (.int j) z = (z = .bl (decide (i = j))) := propext ⟨fun ⟨_, _, h⟩ => h.trans (by rw [← eqD_int]; simp [dres, lsv, pd, PyData.eqv]), fun h => ⟨rfl, rfl, h.trans (by rw [← eqD_int]; simp [dres, lsv, pd, PyData.eqv])⟩⟩
@[simp] theorem fNe_ii : fNe S (.int i) (.int j) z = (z = .bl (!decide (i = j))) := propext ⟨fun ⟨_, _, h⟩ => h.trans (by rw [← eqD_int]; simp [dres, lsv, pd, PyData.eqv]), fun h => ⟨rfl, rfl, h.trans (by rw [← eqD_int]; simp [dres, lsv, pd, PyData.eqv])⟩⟩
@[simp] theorem fEq_bb : fEq S (.bl p) (.bl q) z = (z = .bl (p == q)) := propext ⟨fun ⟨_, _, h⟩ => h.trans (by simp [dres, lsv, pd, PyData.eqv]), fun h => ⟨rfl, rfl, h.trans (by simp [dres, lsv, pd, PyData.eqv])⟩⟩
@[simp] theorem fNe_bb : fNe S (.bl p) (.bl q) z = (z = .bl (!(p == q))) := propext ⟨fun ⟨_, _, h⟩ => h.trans (by simp [dres, lsv, pd, PyData.eqv]), fun h => ⟨rfl, rfl, h.trans (by simp [dres, lsv, pd, PyData.eqv])⟩⟩
@[simp] theorem fIsN_n : fIsN S x .non z = (z = .bl (isNon x)) := propext ⟨fun ⟨_, h⟩ => h, fun h => ⟨rfl, h⟩⟩
@[simp] theorem fNotN_n : fNotN S x .non z = (z = .bl (!isNon x)) := propext ⟨fun ⟨_, h⟩ => h, fun h => ⟨rfl, h⟩⟩
@[simp] theorem fIx_i : fIx S x (.int i) z = (itemD S x i = some z) := propext ⟨fun ⟨_, e, h⟩ => by cases e; exact h, fun h => ⟨i, rfl, h⟩⟩
@[simp] theorem itemD_tup : itemD S (.tup es) i = atI es i := rfl
@[simp] theorem itemD_lst : itemD S (.lst es) i = atI es i := rfl
theorem itemD_ref {n : Nat} (h : S[n]? = some (.lst es)) : itemD S (.ref n) i = atI es i := by simp [itemD, lsv, h]
@[simp] theorem bInt_i : bInt S [.int i] z = (z = .int i) := rfl
@[simp] theorem bInt_b : bInt S [.bl p] z = (z = .int (if p then 1 else 0)) := rfl
@[simp] theorem bMax2_ii : bMax2 S [.int i, .int j] z = (z = .int (if j > i then j else i)) := propext ⟨fun ⟨_, _, e, h⟩ => by cases e; exact h, fun h => ⟨i, j, rfl, h⟩⟩
@[simp] theorem bMin2_ii : bMin2 S [.int i, .int j] z = (z = .int (if j < i then j else i)) := propext ⟨fun ⟨_, _, e, h⟩ => by cases e; exact h, fun h => ⟨i, j, rfl, h⟩⟩
@[simp] theorem bTuple_l : bTuple S [.lst es] z = (z = .tup es) := propext ⟨fun ⟨_, e, h⟩ => (by
  cases e
  rcases h with ⟨_, h1, h2⟩ | ⟨_, h1, _⟩
  · cases h1; exact h2
  · cases h1), fun h => ⟨_, rfl, .inl ⟨_, rfl, h⟩⟩⟩
@[simp] theorem bTuple_t : bTuple S [.tup es] z = (z = .tup es) := propext ⟨fun ⟨_, e, h⟩ => by
  cases e
  rcases h with ⟨_, h1, h2⟩ | ⟨_, h1, h2⟩
  · cases h1
  · exact h2, fun h => ⟨_, rfl, .inr ⟨_, rfl, h⟩⟩⟩
theorem bTuple_ref {n : Nat} (hS : S[n]? = some (.lst es)) : bTuple S [.ref n] (.tup es) := ⟨_, rfl, .inl ⟨es, by simp [lsv, hS], rfl⟩⟩
@[simp] theorem bList_l : bList S [.lst es] z = (z = .lst es) := propext ⟨fun ⟨_, _, e, h, h2⟩ => (by
  cases e
  rcases h with h1 | h1 | h1
  · cases h1; exact h2
  · cases h1
  · cases h1), fun h => ⟨_, _, rfl, .inl rfl, h⟩⟩
@[simp] theorem bList_t : bList S [.tup es] z = (z = .lst es) := propext ⟨fun ⟨_, _, e, h, h2⟩ => (by
  cases e
  rcases h with h1 | h1 | h1
  · cases h1
  · cases h1; exact h2
  · cases h1), fun h => ⟨_, _, rfl, .inr (.inl rfl), h⟩⟩
@[simp] theorem bLen_l : bLen S [.lst es] z = (z = .int (es.length : Nat)) := propext ⟨fun ⟨_, _, e, h, h2⟩ => by cases e; cases h; exact h2, fun h => ⟨_, _, rfl, rfl, h⟩⟩
@[simp] theorem bLen_t : bLen S [.tup es] z = (z = .int (es.length : Nat)) := propext ⟨fun ⟨_, _, e, h, h2⟩ => by cases e; cases h; exact h2, fun h => ⟨_, _, rfl, rfl, h⟩⟩
theorem bLen_s (h : a.length ≤ sizeLine) : bLen S [.str a] z = (z = .int (a.length : Nat)) := propext ⟨fun ⟨_, n, e, h1, h2⟩ => by
  cases e
  have h1' : (if a.length ≤ sizeLine then some a.length else none) = some n := h1
  rw [if_pos h] at h1'; cases h1'; exact h2, fun h2 => ⟨_, _, rfl, by show (if a.length ≤ sizeLine then some a.length else none) = _; rw [if_pos h], h2⟩⟩
@[simp] theorem fSl_fz {lo hi : Option Int} : fSl S (.fz es) lo hi z = (z = .lst (cutD es lo hi)) := rfl
@[simp] theorem fSl_t {lo hi : Option Int} : fSl S (.tup es) lo hi z = (z = .tup (cutD es lo hi)) := rfl
@[simp] theorem itv_l : itv (.lst es) = some es := rfl
@[simp] theorem itv_t : itv (.tup es) = some es := rfl
@[simp] theorem itv_s : itv (.str a) = some (a.cps.toList.map chr1) := rfl
end
end DL
namespace DL
open PySem PySem.Spec PyProof.Rows L2
theorem seq_gen {t u : DTS} {d : DEnds} {r : Sl} {S : Store} (h : ∀ Kk : Sl → Store → Prop, Kk = u d → t { d with nx := Kk } r S) : dSeq t u d r S := h (u d) rfl
theorem seq_cut {t u : DTS} {d : DEnds} {r : Sl} {S : Store} (M : Sl → Store → Prop) (h1 : ∀ Kk : Sl → Store → Prop, (∀ r' S', M r' S' → Kk r' S') → t { d with nx := Kk } r S) (h2 : ∀ r' S', M r' S' → u d r' S') : dSeq t u d r S := h1 (u d) h2
/-! ### the laws' own drawing: what every law leans upon -/
def RngO (o : O) : Prop := ∃ (cs : List Int) (i b s c : Int), 0 ≤ i ∧ o = .lst [.lst (cs.map D.int), .int i, .int b, .int s, .int c]
def RngAt (S : Store) (n : Nat) : Prop := ∃ o, S[n]? = some o ∧ RngO o
def spDraw : DSp := fun ds S Q _ => ∃ (n : Nat) (m : Int), ds = [.ref n, .int m] ∧ 0 < m ∧ m < 2 ^ 62 ∧ RngAt S n ∧ ∀ x o, 0 ≤ x → x < m → RngO o → Q (.int x) (S.set n o)
def spDraws : DSp := fun ds S Q _ => ∃ ns : List Int, ds = [.fz (ns.map D.int)] ∧ ∀ o, RngO o → Q (.ref S.length) (S ++ [o])
/-- things: a list of at least one -/
def spPick : DSp := fun ds S Q _ => ∃ (n : Nat) (xs : List D), ds = [.ref n, .lst xs] ∧ 0 < xs.length ∧ xs.length < 1000000 ∧ RngAt S n ∧ ∀ x o, x ∈ xs → RngO o → Q x (S.set n o)
@[simp] theorem lsv_set {S : Store} {n : Nat} {es : List D} (hn : n < S.length) : lsv (S.set n (.lst es)) (.ref n) = some es := by
  show (match (S.set n (.lst es))[n]? with | some (.lst ds) => some ds | _ => none) = some es
  rw [List.getElem?_set_self hn]
@[simp] theorem itemD_set {S : Store} {n : Nat} {es : List D} {i : Int} (hn : n < S.length) : itemD (S.set n (.lst es)) (.ref n) i = atI es i := by
  show (lsv (S.set n (.lst es)) (.ref n)).bind _ = _
  rw [lsv_set hn]; rfl
theorem RngAt.ex {S : Store} {n : Nat} (h : RngAt S n) : ∃ (S0 : Store) (cs : List Int) (i b s c : Int), n < S0.length ∧ 0 ≤ i ∧ S = S0.set n (.lst [.lst (cs.map D.int), .int i, .int b, .int s, .int c]) := by
  obtain ⟨o, hS, cs, i, b, s, c, hi, rfl⟩ := h
  obtain ⟨hn, e⟩ := List.getElem?_eq_some_iff.mp hS
  exact ⟨S, cs, i, b, s, c, hn, hi, by rw [← e, List.set_getElem_self]⟩
@[simp] theorem lsv_lst {S : Store} {ds : List D} : lsv S (.lst ds) = some ds := rfl
theorem divOk_small {j : Int} (h : 0 < j) (h2 : j < 2 ^ 62) : DivOk j := by
  refine ⟨h, ?_⟩
  have : j.natAbs.log2 < 63 := by
    by_cases h0 : j.natAbs = 0
    · simp [h0]
    · exact (Nat.log2_lt h0).mpr (by omega)
  omega
theorem mulOk_r {i j : Int} (h : -(2 ^ 64) < j ∧ j < 2 ^ 64) : MulOk i j := .inl (.inr h)
theorem mulOk_l {i j : Int} (h : -(2 ^ 64) < i ∧ i < 2 ^ 64) : MulOk i j := .inl (.inl h)
theorem atI_nat {xs : List D} {k : Nat} {d : D} (h : xs[k]? = some d) : atI xs (k : Int) = some d := by
  have hl := (List.getElem?_eq_some_iff.mp h).1
  unfold atI ixN
  rw [if_pos (by omega), if_pos (by omega)]
  simpa using h
@[simp] theorem mulOk_rT {i j : Int} (h : -(2 ^ 64) < j ∧ j < 2 ^ 64) : MulOk i j = True := eq_true (mulOk_r h)
@[simp] theorem mulOk_lT {i j : Int} (h : -(2 ^ 64) < i ∧ i < 2 ^ 64) : MulOk i j = True := eq_true (mulOk_l h)
@[simp] theorem divOk_T {j : Int} (h : 0 < j) (h2 : j < 2 ^ 62) : DivOk j = True := eq_true (divOk_small h h2)
@[simp] theorem ex_and_eq {α : Type} {A : Prop} {t : α} {P : α → Prop} : (∃ z, (A ∧ z = t) ∧ P z) = (A ∧ P t) := propext ⟨fun ⟨_, ⟨h, e⟩, p⟩ => ⟨h, e ▸ p⟩, fun ⟨h, p⟩ => ⟨t, ⟨h, rfl⟩, p⟩⟩
@[simp] theorem ex_pair {α : Type} {x y : α} {P : α → α → Prop} : (∃ v w, (x = v ∧ y = w) ∧ P v w) = P x y := propext ⟨fun ⟨_, _, ⟨e1, e2⟩, p⟩ => by cases e1; cases e2; exact p, fun p => ⟨x, y, ⟨rfl, rfl⟩, p⟩⟩
section
variable {a b c d e : D} {l : List D}
@[simp] theorem at2_0 : atI [a, b] 0 = some a := rfl
@[simp] theorem at2_1 : atI [a, b] 1 = some b := rfl
@[simp] theorem at3_0 : atI [a, b, c] 0 = some a := rfl
@[simp] theorem at3_1 : atI [a, b, c] 1 = some b := rfl
@[simp] theorem at3_2 : atI [a, b, c] 2 = some c := rfl
@[simp] theorem at4_0 : atI [a, b, c, d] 0 = some a := rfl
@[simp] theorem at4_1 : atI [a, b, c, d] 1 = some b := rfl
@[simp] theorem at4_2 : atI [a, b, c, d] 2 = some c := rfl
@[simp] theorem at4_3 : atI [a, b, c, d] 3 = some d := rfl
@[simp] theorem at5_0 : atI [a, b, c, d, e] 0 = some a := rfl
@[simp] theorem at5_1 : atI [a, b, c, d, e] 1 = some b := rfl
@[simp] theorem at5_2 : atI [a, b, c, d, e] 2 = some c := rfl
@[simp] theorem at5_3 : atI [a, b, c, d, e] 3 = some d := rfl
@[simp] theorem at5_4 : atI [a, b, c, d, e] 4 = some e := rfl
end
theorem atI_ints {cs : List Int} {i : Int} (h0 : 0 ≤ i) (h1 : i < cs.length) : ∃ v : Int, atI (cs.map D.int) i = some (.int v) := by
  have hl : i.toNat < cs.length := by omega
  refine ⟨cs[i.toNat], ?_⟩
  have := atI_nat (xs := cs.map D.int) (k := i.toNat) (d := .int cs[i.toNat]) (by rw [List.getElem?_map, List.getElem?_eq_getElem hl]; rfl)
  rwa [Int.toNat_of_nonneg h0] at this
theorem RngAt.lt {S : Store} {n : Nat} (h : RngAt S n) : n < S.length := by
  obtain ⟨o, h, _⟩ := h
  exact (List.getElem?_eq_some_iff.mp h).1
theorem RngAt.set {S : Store} {n : Nat} {o : O} (h : RngAt S n) (ho : RngO o) : RngAt (S.set n o) n := ⟨o, by rw [List.getElem?_set_self h.lt], ho⟩
theorem atI_mem {xs : List D} {i : Int} (h0 : 0 ≤ i) (h1 : i < xs.length) : ∃ d, d ∈ xs ∧ atI xs i = some d := by
  have hl : i.toNat < xs.length := by omega
  refine ⟨xs[i.toNat], List.getElem_mem hl, ?_⟩
  have := atI_nat (List.getElem?_eq_getElem hl)
  rwa [Int.toNat_of_nonneg h0] at this
theorem RngO.rlt {o : O} (h : RngO o) (n : Nat) : rltO n o = true := by
  obtain ⟨cs, i, b, s, c, _, rfl⟩ := h
  show rlts n [.lst (cs.map D.int), .int i, .int b, .int s, .int c] = true
  simp [rlts, DL.rlt, rlts_ints]
/-! ### the kinds that are drawn -/
def kindCps (f s : Int) (k : Nat) : List Nat := (List.range k).map fun t => (97 + (f + s * (t : Nat)) % 26).toNat
def kindStr (f s : Int) (k : Nat) : Str := ⟨(kindCps f s k).toArray⟩
theorem kindStr_len {f s : Int} {k : Nat} : (kindStr f s k).length = k := by simp [kindStr, kindCps, Str.length]
def spKinds : DSp := fun ds S Q _ => ∃ (n : Nat) (m : Int), ds = [.ref n, .int m] ∧ 2 ≤ m ∧ m < 100 ∧ RngAt S n ∧ ∀ (f s : Int) (k : Nat) (o : O), 0 ≤ f → f < 26 → s ∈ ([1, 3, 5, 7, 9, 11, 15, 25] : List Int) → 2 ≤ k → (k : Int) ≤ m → RngO o → Q (.str (kindStr f s k)) (S.set n o)
def spBag : DSp := fun ds S Q _ => ∃ (n : Nat) (a : Str) (m : Int), ds = [.ref n, .str a, .int m] ∧ a.length ≤ 1000 ∧ 0 ≤ m ∧ m < 1000000 ∧ RngAt S n ∧ ∀ (cs : List Int) (o : O), cs.length = a.length → (∀ c ∈ cs, 0 ≤ c ∧ c ≤ m) → RngO o → Q (.tup (cs.map D.int)) (S.set n o)
def spGreat : DSp := fun ds S Q _ => ∃ (n : Nat) (a : Str) (m : Int), ds = [.ref n, .str a, .int m] ∧ a.length ≤ 1000 ∧ 0 ≤ m ∧ m < 1000000 ∧ RngAt S n ∧ ∀ (cs : List Int) (o : O), cs.length = a.length → (∀ c ∈ cs, 0 ≤ c ∧ c ≤ m + 10 ^ 20 + 1000) → RngO o → Q (.tup (cs.map D.int)) (S.set n o)
theorem joinL_ones : ∀ cs : List Nat, TL.joinL [] (cs.map fun c => [c]) = cs
  | [] => rfl
  | [_] => rfl
  | c :: d :: r => by
    show [c] ++ ([] ++ TL.joinL [] ((d :: r).map fun c => [c])) = _
    rw [joinL_ones (d :: r)]; rfl
@[simp] theorem tyM_s {S : Store} {a : Str} : tyM S (.str a) = some "str" := rfl
theorem letters_cps : (Str.ofString "abcdefghijklmnopqrstuvwxyz").cps.toList = List.range' 97 26 := by decide +kernel
theorem letters_len : (Str.ofString "abcdefghijklmnopqrstuvwxyz").length ≤ sizeLine := by decide +kernel
theorem itemD_letters {S : Store} {i : Int} (h0 : 0 ≤ i) (h1 : i < 26) : itemD S (.str (Str.ofString "abcdefghijklmnopqrstuvwxyz")) i = some (chr1 (97 + i).toNat) := by
  show (if (Str.ofString "abcdefghijklmnopqrstuvwxyz").length ≤ sizeLine then (atI (Str.ofString "abcdefghijklmnopqrstuvwxyz").cps.toList i).map chr1 else none) = _
  rw [if_pos letters_len, letters_cps]
  unfold atI ixN
  rw [if_pos h0, if_pos (by simpa using h1)]
  have e : (List.range' 97 26)[i.toNat]? = some (97 + i).toNat := by
    rw [List.getElem?_range' (by omega)]
    congr 1
    omega
  show Option.map chr1 ((List.range' 97 26)[i.toNat]?) = _
  rw [e]; rfl
theorem sum_ones {α : Type} : ∀ l : List α, (l.map fun _ => 1).sum = l.length
  | [] => rfl
  | _ :: l => by simp [sum_ones l, Nat.add_comm]
theorem tl_inj {a b : Str} (h : TL.tl a = TL.tl b) : a = b := by
  obtain ⟨⟨a⟩⟩ := a; obtain ⟨⟨b⟩⟩ := b
  have h' : a = b := h
  rw [h']
theorem join_ones (cs : List Nat) : Txt.join (Str.ofString "") (cs.map fun c => (⟨#[c]⟩ : Str)) = ⟨cs.toArray⟩ := by
  apply tl_inj
  rw [TL.join_eq, TL.tl_join, List.map_map]
  have e : TL.tl (Str.ofString "") = [] := by decide +kernel
  rw [e]
  exact joinL_ones cs
end DL
namespace DL
open PySem PySem.Spec PyProof.Rows L2
/-! ### _law_same, by data -/
@[simp] theorem kit_NoneType_list : kitB "NoneType" "list" = some false := by decide +kernel
@[simp] theorem kit_NoneType_tuple : kitB "NoneType" "tuple" = some false := by decide +kernel
@[simp] theorem kit_NoneType_bool : kitB "NoneType" "bool" = some false := by decide +kernel
@[simp] theorem kit_NoneType_int : kitB "NoneType" "int" = some false := by decide +kernel
@[simp] theorem kit_NoneType_str : kitB "NoneType" "str" = some false := by decide +kernel
@[simp] theorem kit_bool_list : kitB "bool" "list" = some false := by decide +kernel
@[simp] theorem kit_bool_tuple : kitB "bool" "tuple" = some false := by decide +kernel
@[simp] theorem kit_bool_bool : kitB "bool" "bool" = some true := by decide +kernel
@[simp] theorem kit_bool_int : kitB "bool" "int" = some true := by decide +kernel
@[simp] theorem kit_bool_str : kitB "bool" "str" = some false := by decide +kernel
@[simp] theorem kit_int_list : kitB "int" "list" = some false := by decide +kernel
@[simp] theorem kit_int_tuple : kitB "int" "tuple" = some false := by decide +kernel
@[simp] theorem kit_int_bool : kitB "int" "bool" = some false := by decide +kernel
@[simp] theorem kit_int_int : kitB "int" "int" = some true := by decide +kernel
@[simp] theorem kit_int_str : kitB "int" "str" = some false := by decide +kernel
@[simp] theorem kit_str_list : kitB "str" "list" = some false := by decide +kernel
@[simp] theorem kit_str_tuple : kitB "str" "tuple" = some false := by decide +kernel
@[simp] theorem kit_str_bool : kitB "str" "bool" = some false := by decide +kernel
@[simp] theorem kit_str_int : kitB "str" "int" = some false := by decide +kernel
@[simp] theorem kit_str_str : kitB "str" "str" = some true := by decide +kernel
@[simp] theorem kit_tuple_list : kitB "tuple" "list" = some false := by decide +kernel
@[simp] theorem kit_tuple_tuple : kitB "tuple" "tuple" = some true := by decide +kernel
@[simp] theorem kit_tuple_bool : kitB "tuple" "bool" = some false := by decide +kernel
@[simp] theorem kit_tuple_int : kitB "tuple" "int" = some false := by decide +kernel
@[simp] theorem kit_tuple_str : kitB "tuple" "str" = some false := by decide +kernel
@[simp] theorem kit_list_list : kitB "list" "list" = some true := by decide +kernel
@[simp] theorem kit_list_tuple : kitB "list" "tuple" = some false := by decide +kernel
@[simp] theorem kit_list_bool : kitB "list" "bool" = some false := by decide +kernel
@[simp] theorem kit_list_int : kitB "list" "int" = some false := by decide +kernel
@[simp] theorem kit_list_str : kitB "list" "str" = some false := by decide +kernel
section
variable {S : Store} {x z : D} {c : String} {es fs : List D} {b : Bool} {i : Int} {a a2 : Str}
@[simp] theorem bIsi_c : bIsi S [x, .ty c] z = (∃ n b, tyD S x = some n ∧ kitB n c = some b ∧ z = .bl b) := propext ⟨fun ⟨_, _, n, b, e, h⟩ => by cases e; exact ⟨n, b, h⟩, fun ⟨n, b, h⟩ => ⟨_, _, n, b, rfl, h⟩⟩
@[simp] theorem ty_non : tyD S .non = some "NoneType" := rfl
@[simp] theorem ty_bl : tyD S (.bl b) = some "bool" := rfl
@[simp] theorem ty_int : tyD S (.int i) = some "int" := rfl
@[simp] theorem ty_str : tyD S (.str a) = some "str" := rfl
@[simp] theorem ty_tup : tyD S (.tup es) = some "tuple" := rfl
@[simp] theorem ty_lst : tyD S (.lst es) = some "list" := rfl
@[simp] theorem isNon_non : isNon .non = true := rfl
@[simp] theorem isNon_bl : isNon (.bl b) = false := rfl
@[simp] theorem isNon_int : isNon (.int i) = false := rfl
@[simp] theorem isNon_str : isNon (.str a) = false := rfl
@[simp] theorem isNon_tup : isNon (.tup es) = false := rfl
@[simp] theorem isNon_lst : isNon (.lst es) = false := rfl
theorem fEq_ss (h1 : PyData.strOk a = true) (h2 : PyData.strOk a2 = true) : fEq S (.str a) (.str a2) z = (z = .bl (a == a2)) := propext ⟨fun ⟨_, _, h⟩ => h.trans (by simp [dres, lsv, pd, PyData.eqv]), fun h => ⟨h1, h2, h.trans (by simp [dres, lsv, pd, PyData.eqv])⟩⟩
end
section
variable {S : Store} {es fs : List D} {b : Bool}
theorem fEq_tt (h1 : sh 60 (.tup es) = true) (h2 : sh 60 (.tup fs) = true) (h3 : PyData.eqv (pd (.tup es)) (pd (.tup fs)) = b) : fEq S (.tup es) (.tup fs) (.bl b) := ⟨h1, h2, by rw [← h3]; rfl⟩
theorem fEq_ll (h1 : sh 60 (.lst es) = true) (h2 : sh 60 (.lst fs) = true) (h3 : PyData.eqv (pd (.lst es)) (pd (.lst fs)) = b) : fEq S (.lst es) (.lst fs) (.bl b) := ⟨h1, h2, by rw [← h3]; rfl⟩
theorem fNe_tt (h1 : sh 60 (.tup es) = true) (h2 : sh 60 (.tup fs) = true) (h3 : PyData.eqv (pd (.tup es)) (pd (.tup fs)) = !b) : fNe S (.tup es) (.tup fs) (.bl b) := ⟨h1, h2, by rw [show b = !!b by simp, ← h3]; rfl⟩
theorem fNe_ll (h1 : sh 60 (.lst es) = true) (h2 : sh 60 (.lst fs) = true) (h3 : PyData.eqv (pd (.lst es)) (pd (.lst fs)) = !b) : fNe S (.lst es) (.lst fs) (.bl b) := ⟨h1, h2, by rw [show b = !!b by simp, ← h3]; rfl⟩
end
/-- plain data, at most n deep -/
def wd : Nat → D → Bool
  | _ + 1, .non => true
  | _ + 1, .bl _ => true
  | _ + 1, .int _ => true
  | _ + 1, .str x => PyData.strOk x
  | n + 1, .tup ds => decide (ds.length ≤ 1000000) && ds.all (wd n)
  | n + 1, .lst ds => decide (ds.length ≤ 1000000) && ds.all (wd n)
  | _, _ => false
def spSame (k : Nat) : DSp := fun ds S Q _ => ∃ a b : D, ds = [a, b] ∧ wd k a = true ∧ wd k b = true ∧ ∀ r : Bool, (r = true ↔ a = b) → Q (.bl r) S
theorem spSame0 {ds : List D} {S : Store} {Q : DQ} {E : DX} (h : spSame 0 ds S Q E) : False := by
  obtain ⟨a, b, _, h, _⟩ := h
  cases a <;> simp [wd] at h
/-- a promise that is never asked -/
theorem fnD_none {P : Program} {w : World} {K : PySem.W.Frag} {mg : Str → Option Value} {base : Heap} {T : List (Addr × Str)} {k : Nat} {f : Addr} {fd : FuncData} {ps : List Str} {sp : DSp} (h : ∀ ds S Q E, ¬ sp ds S Q E) : FnD P w K mg base T k f fd ps sp :=
  ⟨fun vs H Q E ⟨_, _, _, _, _, _, _, _, z, _⟩ => (h _ _ _ _ z).elim, fun A outer s H args us vs Q E _ _ _ _ ⟨_, _, _, _, _, _, _, _, z, _⟩ => (h _ _ _ _ z).elim⟩
end DL
namespace DL
open PySem PySem.Spec PyProof.Rows L2
def topS (i : Nat) : Stmt := PySem.Challenge.pw_bagturns_k08_looks_of_numbers_and_bags.main.body.getD i (.Pass ⟨0,0,0,0⟩)
section
variable {P : Program} {w : World} {K : PySem.W.Frag} {mg : Str → Option Value} {base : Heap} {T : List (Addr × Str)}
abbrev s_check_glass : Stmt := topS 5
theorem sc_check_glass : FnScope ["glass", "bound", "period"] ["glass"] (defScope s_check_glass) := ⟨rfl, rfl, rfl, by decide +kernel, rfl, by decide +kernel, by decide +kernel⟩
def t_check_glass (C_InvalidGlass : Addr) : DTS :=
    (dSeq (dAsg (dVar 0) (dgTup 2 (dgCons (dgName 1) (dgCons (dgName 2) dgNil))))
    (dIfS (dOr (dB (dOp fLt (dVar 1) (dC (.int 0)))) (dB (dOp fLt (dVar 2) (dC (.int 1))))) (dRaise C_InvalidGlass "InvalidGlass" [] dNil) dNext))
theorem w_check_glass {f : Addr} {fd : FuncData} {j : Nat} {k_InvalidGlass : Nat} {C_InvalidGlass i_InvalidGlass : Addr} {fd_InvalidGlass : FuncData} (x_InvalidGlass : XCls P w K mg base "InvalidGlass" C_InvalidGlass i_InvalidGlass fd_InvalidGlass "InvalidGlass" [] ["self"] k_InvalidGlass) (h_InvalidGlass : k_InvalidGlass + 1 ≤ j) :
    ∀ (cdv : Value) (A : Around) (outer : List Env) (s : Shared) (H : Hp) (E : XK), fd.code = cdv → Room j (A.deeper (envOfC "check_glass" (defScope s_check_glass) s.heap.objs.size f cdv)) →
      DSs (cxD P w K mg base ["glass", "bound", "period"] "check_glass" (defScope s_check_glass) f cdv A outer s H E) T (WD E) (defBody s_check_glass) (t_check_glass C_InvalidGlass) := by
    intro cdv A outer s H E hcd hr
    refine dss_cons (ds_asg (dv 0) (dg_tup rfl (dgs_cons (dg_name (i := 1) sc_check_glass.nd rfl (.inl rfl)) (dgs_cons (dg_name (i := 2) sc_check_glass.nd rfl (.inl rfl)) dgs_nil)))) ?n1
    refine dss_one (ds_if (DW.dt (dw_or (dt_cmp opd_lt (dv 1) de_int (nomark _)) (dw_or1 (dt_cmp opd_lt (dv 2) de_int (nomark _))))) ?i2 ?i3)
    case i2 =>
      refine dss_one (ds_raise0 x_InvalidGlass rfl takesD (hr.mono (by omega)) (by rfl))
    case i3 =>
      exact dss_nil

abbrev s_look : Stmt := topS 6
theorem sc_look : FnScope ["number", "glass", "bound", "period"] ["number", "glass"] (defScope s_look) := ⟨rfl, rfl, rfl, by decide +kernel, rfl, by decide +kernel, by decide +kernel⟩
def t_look : DTS :=
    (dSeq (dAsg (dVar 1) (dgTup 2 (dgCons (dgName 2) (dgCons (dgName 3) dgNil))))
    (dRet (dIf (dB (dOp fLt (dVar 0) (dOp fAdd (dVar 2) (dVar 3)))) (dVar 0) (dOp fAdd (dVar 2) (dOp fMod (dOp fSub (dVar 0) (dVar 2)) (dVar 3))))))
theorem w_look {f : Addr} {fd : FuncData} {j : Nat} :
    ∀ (cdv : Value) (A : Around) (outer : List Env) (s : Shared) (H : Hp) (E : XK), fd.code = cdv → Room j (A.deeper (envOfC "look" (defScope s_look) s.heap.objs.size f cdv)) →
      DSs (cxD P w K mg base ["number", "glass", "bound", "period"] "look" (defScope s_look) f cdv A outer s H E) T (WD E) (defBody s_look) (t_look) := by
    intro cdv A outer s H E hcd hr
    refine dss_cons (ds_asg (dv 1) (dg_tup rfl (dgs_cons (dg_name (i := 2) sc_look.nd rfl (.inl rfl)) (dgs_cons (dg_name (i := 3) sc_look.nd rfl (.inl rfl)) dgs_nil)))) ?n6
    refine dss_one (ds_ret (de_ifExp (dt_cmp opd_lt (dv 0) (de_op opd_add (dv 2) (dv 3)) (nomark _)) (dv 0) (de_op opd_add (dv 2) (de_op opd_mod (de_op opd_sub (dv 0) (dv 2)) (dv 3)))))

abbrev s_look_of : Stmt := topS 7
theorem sc_look_of : FnScope ["bag", "glass", "count"] ["bag", "glass"] (defScope s_look_of) := ⟨rfl, rfl, rfl, by decide +kernel, rfl, by decide +kernel, by decide +kernel⟩
def t_look_of (sp_look : DSp) : DTS :=
    (dRet (dCB bTuple (dCons (dLc (diSeq (dVar 0)) (dgName 2) dYes (dCall sp_look 2 (dCons (dVar 2) (dCons (dVar 1) dNil))) [2]) dNil)))
theorem w_look_of {f : Addr} {fd : FuncData} {j : Nat} {k_look : Nat} {f_look : Addr} {fd_look : FuncData} {sp_look : DSp} (c_look : Cal P w K mg base T "look" k_look f_look fd_look ["number", "glass"] sp_look) (h_look : k_look ≤ j) (m_tuple : mg "tuple" = none) :
    ∀ (cdv : Value) (A : Around) (outer : List Env) (s : Shared) (H : Hp) (E : XK), fd.code = cdv → Room j (A.deeper (envOfC "look_of" (defScope s_look_of) s.heap.objs.size f cdv)) →
      DSs (cxD P w K mg base ["bag", "glass", "count"] "look_of" (defScope s_look_of) f cdv A outer s H E) T (WD E) (defBody s_look_of) (t_look_of sp_look) := by
    intro cdv A outer s H E hcd hr
    refine dss_one (ds_ret ?h8)
    case h8 =>
      refine (de_callTy cb_tuple (by rfl) m_tuple (by decide +kernel) (da_cons ?h10 da_nil) (by decide) (by decide) (by rfl) (by rfl))
      case h10 =>
        refine (de_lc (own := [("count", 2)]) rfl sc_look_of.nd (di_seq (dv 0)) (blkOk_by (by rfl)) (tgOk_name (by decide)) (fun _ _ _ _ _ => pg_name (i := 2) sc_look_of.nd rfl (.inl rfl)) (fun _ _ _ _ _ => dts_nil) (fun _ _ _ _ _ => ?h11))
        case h11 =>
          exact (de_calE c_look L2.takes0 hr (da_cons (dv 2) (da_cons (dv 1) da_nil)) (by omega) (by rfl) (by decide) (by rfl) (by rfl) rfl)

abbrev s_common : Stmt := topS 8
theorem sc_common : FnScope ["one", "other"] ["one", "other"] (defScope s_common) := ⟨rfl, rfl, rfl, by decide +kernel, rfl, by decide +kernel, by decide +kernel⟩
def t_common : DTS :=
    (dSeq (dWhile (dB (dOp fGt (dVar 1) (dC (.int 0)))) (dPar 0 1 (dCons (dVar 1) (dCons (dOp fMod (dVar 0) (dVar 1)) dNil))))
    (dRet (dVar 0)))
theorem w_common {f : Addr} {fd : FuncData} {j : Nat} :
    ∀ (cdv : Value) (A : Around) (outer : List Env) (s : Shared) (H : Hp) (E : XK), fd.code = cdv → Room j (A.deeper (envOfC "common" (defScope s_common) s.heap.objs.size f cdv)) →
      DSs (cxD P w K mg base ["one", "other"] "common" (defScope s_common) f cdv A outer s H E) T (WD E) (defBody s_common) (t_common) := by
    intro cdv A outer s H E hcd hr
    refine dss_cons (ds_while passD (dt_cmp opd_gt (dv 1) de_int (nomark _)) ?i12) ?n13
    case i12 =>
      refine dss_one (ds_par (i := 0) (j := 1) (by rfl) sc_common.nd rfl rfl (by decide) rfl rfl (da_cons (dv 1) (da_cons (de_op opd_mod (dv 0) (dv 1)) da_nil)) (by rfl))
    refine dss_one (ds_ret (dv 0))

abbrev s_multiple : Stmt := topS 9
theorem sc_multiple : FnScope ["one", "other"] ["one", "other"] (defScope s_multiple) := ⟨rfl, rfl, rfl, by decide +kernel, rfl, by decide +kernel, by decide +kernel⟩
def t_multiple (sp_common : DSp) : DTS :=
    (dRet (dOp fMul (dOp fFdiv (dVar 0) (dCall sp_common 2 (dCons (dVar 0) (dCons (dVar 1) dNil)))) (dVar 1)))
theorem w_multiple {f : Addr} {fd : FuncData} {j : Nat} {k_common : Nat} {f_common : Addr} {fd_common : FuncData} {sp_common : DSp} (c_common : Cal P w K mg base T "common" k_common f_common fd_common ["one", "other"] sp_common) (h_common : k_common ≤ j) :
    ∀ (cdv : Value) (A : Around) (outer : List Env) (s : Shared) (H : Hp) (E : XK), fd.code = cdv → Room j (A.deeper (envOfC "multiple" (defScope s_multiple) s.heap.objs.size f cdv)) →
      DSs (cxD P w K mg base ["one", "other"] "multiple" (defScope s_multiple) f cdv A outer s H E) T (WD E) (defBody s_multiple) (t_multiple sp_common) := by
    intro cdv A outer s H E hcd hr
    refine dss_one (ds_ret (de_op opd_mul (de_op opd_fdiv (dv 0) ?h16) (dv 1)))
    case h16 =>
      exact (de_calE c_common takesD hr (da_cons (dv 0) (da_cons (dv 1) da_nil)) (by omega) (by rfl) (by decide) (by rfl) (by rfl) rfl)

abbrev s_joined_glass : Stmt := topS 10
theorem sc_joined_glass : FnScope ["one", "other"] ["one", "other"] (defScope s_joined_glass) := ⟨rfl, rfl, rfl, by decide +kernel, rfl, by decide +kernel, by decide +kernel⟩
def t_joined_glass (sp_multiple : DSp) : DTS :=
    (dRet (dTup (dCons (dCB bMax2 (dCons (dOp fIx (dVar 0) (dC (.int 0))) (dCons (dOp fIx (dVar 1) (dC (.int 0))) dNil))) (dCons (dCall sp_multiple 2 (dCons (dOp fIx (dVar 0) (dC (.int 1))) (dCons (dOp fIx (dVar 1) (dC (.int 1))) dNil))) dNil))))
theorem w_joined_glass {f : Addr} {fd : FuncData} {j : Nat} {k_multiple : Nat} {f_multiple : Addr} {fd_multiple : FuncData} {sp_multiple : DSp} (c_multiple : Cal P w K mg base T "multiple" k_multiple f_multiple fd_multiple ["one", "other"] sp_multiple) (h_multiple : k_multiple ≤ j) (m_max : mg "max" = none) :
    ∀ (cdv : Value) (A : Around) (outer : List Env) (s : Shared) (H : Hp) (E : XK), fd.code = cdv → Room j (A.deeper (envOfC "joined_glass" (defScope s_joined_glass) s.heap.objs.size f cdv)) →
      DSs (cxD P w K mg base ["one", "other"] "joined_glass" (defScope s_joined_glass) f cdv A outer s H E) T (WD E) (defBody s_joined_glass) (t_joined_glass sp_multiple) := by
    intro cdv A outer s H E hcd hr
    refine dss_one (ds_ret (de_tup (da_cons ?h18 (da_cons ?h19 da_nil))))
    case h18 =>
      exact (de_callB (cb_max2 rfl) (by rfl) m_max (by decide +kernel) (da_cons (de_ix (dv 0) de_int (fun _ _ => rfl)) (da_cons (de_ix (dv 1) de_int (fun _ _ => rfl)) da_nil)) (by decide) (by decide) (by rfl) (by rfl))
    case h19 =>
      exact (de_calE c_multiple takesD hr (da_cons (de_ix (dv 0) de_int (fun _ _ => rfl)) (da_cons (de_ix (dv 1) de_int (fun _ _ => rfl)) da_nil)) (by omega) (by rfl) (by decide) (by rfl) (by rfl) rfl)

abbrev s__law_draws : Stmt := topS 12
theorem sc__law_draws : FnScope ["_law_script", "_law_state", "_law_cell"] ["_law_script"] (defScope s__law_draws) := ⟨rfl, rfl, rfl, by decide +kernel, rfl, by decide +kernel, by decide +kernel⟩
def t__law_draws : DTS :=
    (dSeq (dAsg (dC (.int 3836)) (dgName 1))
    (dSeq (dFor (diSeq (dSl (dVar 0) dNoPart (dPart (dC (.int 63))))) (dgName 2) (dAsg (dOp fMod (dCB bInt (dCons (dOp fAdd (dOp fAdd (dOp fMul (dVar 1) (dC (.int 48611))) (dOp fMod (dCB bInt (dCons (dVar 2) dNil)) (dC (.int 2147483549)))) (dC (.int 29))) dNil)) (dC (.int 2147483647))) (dgName 1)))
    (dRet (dLstS (dCons (dCB bList (dCons (dSl (dVar 0) dNoPart (dPart (dC (.int 63)))) dNil)) (dCons (dC (.int 0)) (dCons (dC (.int 0)) (dCons (dVar 1) (dCons (dC (.int 0)) dNil)))))))))
theorem w__law_draws {f : Addr} {fd : FuncData} {j : Nat} (m_int : mg "int" = none) (m_list : mg "list" = none) :
    ∀ (cdv : Value) (A : Around) (outer : List Env) (s : Shared) (H : Hp) (E : XK), fd.code = cdv → Room j (A.deeper (envOfC "_law_draws" (defScope s__law_draws) s.heap.objs.size f cdv)) →
      DSs (cxD P w K mg base ["_law_script", "_law_state", "_law_cell"] "_law_draws" (defScope s__law_draws) f cdv A outer s H E) T (WD E) (defBody s__law_draws) (t__law_draws) := by
    intro cdv A outer s H E hcd hr
    refine dss_cons (ds_set (i := 1) sc__law_draws.nd rfl (.inl rfl) de_int) ?n21
    refine dss_cons (ds_for passD rfl (di_seq (de_slice (dv 0) do_none (do_some de_int))) (dg_name (i := 2) sc__law_draws.nd rfl (.inl rfl)) ?i22) ?n23
    case i22 =>
      refine dss_one (ds_set (i := 1) sc__law_draws.nd rfl (.inl rfl) (de_op opd_mod ?h24 de_int))
      case h24 =>
        refine (de_callTy cb_int (by rfl) m_int (by decide +kernel) (da_cons (de_op opd_add (de_op opd_add (de_op opd_mul (dv 1) de_int) (de_op opd_mod ?h26 de_int)) de_int) da_nil) (by decide) (by decide) (by rfl) (by rfl))
        case h26 =>
          exact (de_callTy cb_int (by rfl) m_int (by decide +kernel) (da_cons (dv 2) da_nil) (by decide) (by decide) (by rfl) (by rfl))
    refine dss_one (ds_ret (de_lstS (da_cons ?h27 (da_cons de_int (da_cons de_int (da_cons (dv 1) (da_cons de_int da_nil)))))))
    case h27 =>
      exact (de_callTy cb_list (by rfl) m_list (by decide +kernel) (da_cons (de_slice (dv 0) do_none (do_some de_int)) da_nil) (by decide) (by decide) (by rfl) (by rfl))

abbrev s__law_draw : Stmt := topS 13
theorem sc__law_draw : FnScope ["_law_rng", "_law_sides", "_law_cell", "_law_digit", "_law_seed"] ["_law_rng", "_law_sides"] (defScope s__law_draw) := ⟨rfl, rfl, rfl, by decide +kernel, rfl, by decide +kernel, by decide +kernel⟩
def t__law_draw : DTS :=
    (dSeq (dAsg (dOp fAdd (dOp fIx (dVar 0) (dC (.int 4))) (dC (.int 1))) (dgSub (dVar 0) (dC (.int 4))))
    (dSeq (dIfS (dAnd (dB (dOp fEq (dOp fIx (dVar 0) (dC (.int 2))) (dC (.int 0)))) (dB (dOp fLt (dOp fIx (dVar 0) (dC (.int 1))) (dCB bLen (dCons (dOp fIx (dVar 0) (dC (.int 0))) dNil))))) (dSeq (dAsg (dOp fIx (dOp fIx (dVar 0) (dC (.int 0))) (dOp fIx (dVar 0) (dC (.int 1)))) (dgName 2))
    (dSeq (dAsg (dOp fAdd (dOp fIx (dVar 0) (dC (.int 1))) (dC (.int 1))) (dgSub (dVar 0) (dC (.int 1))))
    (dIfS (dB (dOp fGe (dVar 2) (dOp fPow (dC (.int 10)) (dC (.int 18))))) (dAsg (dVar 2) (dgSub (dVar 0) (dC (.int 2)))) (dAsg (dOp fMod (dCB bInt (dCons (dOp fAdd (dOp fAdd (dOp fMul (dOp fIx (dVar 0) (dC (.int 3))) (dC (.int 40503))) (dOp fMul (dOp fMod (dCB bInt (dCons (dVar 2) dNil)) (dC (.int 2147483563))) (dC (.int 28657)))) (dC (.int 17))) dNil)) (dC (.int 2147483647))) (dgSub (dVar 0) (dC (.int 3))))))) dNext)
    (dSeq (dIfS (dB (dOp fGt (dOp fIx (dVar 0) (dC (.int 2))) (dC (.int 0)))) (dSeq (dAsg (dOp fMod (dCB bInt (dCons (dOp fIx (dVar 0) (dC (.int 2))) dNil)) (dVar 1)) (dgName 3))
    (dSeq (dAsg (dOp fFdiv (dOp fIx (dVar 0) (dC (.int 2))) (dVar 1)) (dgSub (dVar 0) (dC (.int 2))))
    (dRet (dVar 3)))) dNext)
    (dSeq (dAsg (dOp fIx (dVar 0) (dC (.int 3))) (dgName 4))
    (dSeq (dAsg (dOp fMod (dCB bInt (dCons (dOp fAdd (dOp fAdd (dOp fAdd (dOp fMul (dVar 4) (dC (.int 39916))) (dOp fMul (dOp fFdiv (dVar 4) (dC (.int 127))) (dC (.int 17389)))) (dOp fMul (dOp fIx (dVar 0) (dC (.int 4))) (dC (.int 1299721)))) (dC (.int 65537))) dNil)) (dC (.int 2147483647))) (dgSub (dVar 0) (dC (.int 3))))
    (dRet (dOp fMod (dCB bInt (dCons (dOp fAdd (dOp fFdiv (dOp fIx (dVar 0) (dC (.int 3))) (dC (.int 83))) (dOp fMul (dOp fMod (dCB bInt (dCons (dOp fIx (dVar 0) (dC (.int 3))) dNil)) (dC (.int 7919))) (dC (.int 61)))) dNil)) (dVar 1))))))))
theorem w__law_draw {f : Addr} {fd : FuncData} {j : Nat} (m_len : mg "len" = none) (m_int : mg "int" = none) :
    ∀ (cdv : Value) (A : Around) (outer : List Env) (s : Shared) (H : Hp) (E : XK), fd.code = cdv → Room j (A.deeper (envOfC "_law_draw" (defScope s__law_draw) s.heap.objs.size f cdv)) →
      DSs (cxD P w K mg base ["_law_rng", "_law_sides", "_law_cell", "_law_digit", "_law_seed"] "_law_draw" (defScope s__law_draw) f cdv A outer s H E) T (WD E) (defBody s__law_draw) (t__law_draw) := by
    intro cdv A outer s H E hcd hr
    refine dss_cons (ds_asg (de_op opd_add (de_ix (dv 0) de_int (fun _ _ => rfl)) de_int) (dg_sub (dv 0) de_int)) ?n29
    refine dss_cons (ds_if (DW.dt (dw_and (dt_cmp (opd_eq hr) (de_ix (dv 0) de_int (fun _ _ => rfl)) de_int (nomark _)) (dw_and1 (dt_cmp opd_lt (de_ix (dv 0) de_int (fun _ _ => rfl)) ?h32 (nomark _))))) ?i30 ?i31) ?n33
    case h32 =>
      exact (de_callB cb_len (by rfl) m_len (by decide +kernel) (da_cons (de_ix (dv 0) de_int (fun _ _ => rfl)) da_nil) (by decide) (by decide) (by rfl) (by rfl))
    case i30 =>
      refine dss_cons (ds_set (i := 2) sc__law_draw.nd rfl (.inl rfl) (de_ix (de_ix (dv 0) de_int (fun _ _ => rfl)) (de_ix (dv 0) de_int (fun _ _ => rfl)) (fun _ _ => rfl))) ?n34
      refine dss_cons (ds_asg (de_op opd_add (de_ix (dv 0) de_int (fun _ _ => rfl)) de_int) (dg_sub (dv 0) de_int)) ?n35
      refine dss_one (ds_if (dt_cmp opd_ge (dv 2) (de_op opd_pow de_int de_int) (nomark _)) ?i36 ?i37)
      case i36 =>
        refine dss_one (ds_asg (dv 2) (dg_sub (dv 0) de_int))
      case i37 =>
        refine dss_one (ds_asg (de_op opd_mod ?h40 de_int) (dg_sub (dv 0) de_int))
        case h40 =>
          refine (de_callTy cb_int (by rfl) m_int (by decide +kernel) (da_cons (de_op opd_add (de_op opd_add (de_op opd_mul (de_ix (dv 0) de_int (fun _ _ => rfl)) de_int) (de_op opd_mul (de_op opd_mod ?h42 de_int) de_int)) de_int) da_nil) (by decide) (by decide) (by rfl) (by rfl))
          case h42 =>
            exact (de_callTy cb_int (by rfl) m_int (by decide +kernel) (da_cons (dv 2) da_nil) (by decide) (by decide) (by rfl) (by rfl))
    case i31 =>
      exact dss_nil
    refine dss_cons (ds_if (dt_cmp opd_gt (de_ix (dv 0) de_int (fun _ _ => rfl)) de_int (nomark _)) ?i43 ?i44) ?n45
    case i43 =>
      refine dss_cons (ds_set (i := 3) sc__law_draw.nd rfl (.inl rfl) (de_op opd_mod ?h46 (dv 1))) ?n47
      case h46 =>
        exact (de_callTy cb_int (by rfl) m_int (by decide +kernel) (da_cons (de_ix (dv 0) de_int (fun _ _ => rfl)) da_nil) (by decide) (by decide) (by rfl) (by rfl))
      refine dss_cons (ds_asg (de_op opd_fdiv (de_ix (dv 0) de_int (fun _ _ => rfl)) (dv 1)) (dg_sub (dv 0) de_int)) ?n48
      refine dss_one (ds_ret (dv 3))
    case i44 =>
      exact dss_nil
    refine dss_cons (ds_set (i := 4) sc__law_draw.nd rfl (.inl rfl) (de_ix (dv 0) de_int (fun _ _ => rfl))) ?n50
    refine dss_cons (ds_asg (de_op opd_mod ?h51 de_int) (dg_sub (dv 0) de_int)) ?n52
    case h51 =>
      exact (de_callTy cb_int (by rfl) m_int (by decide +kernel) (da_cons (de_op opd_add (de_op opd_add (de_op opd_add (de_op opd_mul (dv 4) de_int) (de_op opd_mul (de_op opd_fdiv (dv 4) de_int) de_int)) (de_op opd_mul (de_ix (dv 0) de_int (fun _ _ => rfl)) de_int)) de_int) da_nil) (by decide) (by decide) (by rfl) (by rfl))
    refine dss_one (ds_ret (de_op opd_mod ?h53 (dv 1)))
    case h53 =>
      refine (de_callTy cb_int (by rfl) m_int (by decide +kernel) (da_cons (de_op opd_add (de_op opd_fdiv (de_ix (dv 0) de_int (fun _ _ => rfl)) de_int) (de_op opd_mul (de_op opd_mod ?h55 de_int) de_int)) da_nil) (by decide) (by decide) (by rfl) (by rfl))
      case h55 =>
        exact (de_callTy cb_int (by rfl) m_int (by decide +kernel) (da_cons (de_ix (dv 0) de_int (fun _ _ => rfl)) da_nil) (by decide) (by decide) (by rfl) (by rfl))

abbrev s__law_pick : Stmt := topS 14
theorem sc__law_pick : FnScope ["_law_rng", "_law_things"] ["_law_rng", "_law_things"] (defScope s__law_pick) := ⟨rfl, rfl, rfl, by decide +kernel, rfl, by decide +kernel, by decide +kernel⟩
def t__law_pick (sp__law_draw : DSp) : DTS :=
    (dRet (dOp fIx (dVar 1) (dCall sp__law_draw 2 (dCons (dVar 0) (dCons (dCB bLen (dCons (dVar 1) dNil)) dNil)))))
theorem w__law_pick {f : Addr} {fd : FuncData} {j : Nat} {k__law_draw : Nat} {f__law_draw : Addr} {fd__law_draw : FuncData} {sp__law_draw : DSp} (c__law_draw : Cal P w K mg base T "_law_draw" k__law_draw f__law_draw fd__law_draw ["_law_rng", "_law_sides"] sp__law_draw) (h__law_draw : k__law_draw ≤ j) (m_len : mg "len" = none) :
    ∀ (cdv : Value) (A : Around) (outer : List Env) (s : Shared) (H : Hp) (E : XK), fd.code = cdv → Room j (A.deeper (envOfC "_law_pick" (defScope s__law_pick) s.heap.objs.size f cdv)) →
      DSs (cxD P w K mg base ["_law_rng", "_law_things"] "_law_pick" (defScope s__law_pick) f cdv A outer s H E) T (WD E) (defBody s__law_pick) (t__law_pick sp__law_draw) := by
    intro cdv A outer s H E hcd hr
    refine dss_one (ds_ret (de_ix (dv 1) ?h56 (fun _ _ => rfl)))
    case h56 =>
      refine (de_calE c__law_draw takesD hr (da_cons (dv 0) (da_cons ?h58 da_nil)) (by omega) (by rfl) (by decide) (by rfl) (by rfl) rfl)
      case h58 =>
        exact (de_callB cb_len (by rfl) m_len (by decide +kernel) (da_cons (dv 1) da_nil) (by decide) (by decide) (by rfl) (by rfl))

abbrev s__law_same : Stmt := topS 15
theorem sc__law_same : FnScope ["_law_found", "_law_due", "_law_a", "_law_b"] ["_law_found", "_law_due"] (defScope s__law_same) := ⟨rfl, rfl, rfl, by decide +kernel, rfl, by decide +kernel, by decide +kernel⟩
def t__law_same (sp__law_same : DSp) : DTS :=
    (dSeq (dIfS (dB (dIsi2 "list" "tuple" (dVar 1))) (dSeq (dIfS (dOr (dB (dOp fNe (dCB bIsi (dCons (dVar 0) (dCons (dC (.ty "list")) dNil))) (dCB bIsi (dCons (dVar 1) (dCons (dC (.ty "list")) dNil))))) (dB (dOp fNe (dCB bIsi (dCons (dVar 0) (dCons (dC (.ty "tuple")) dNil))) (dCB bIsi (dCons (dVar 1) (dCons (dC (.ty "tuple")) dNil)))))) (dRet (dC (.bl false))) dNext)
    (dRet (dAndV (dOp fEq (dCB bLen (dCons (dVar 0) dNil)) (dCB bLen (dCons (dVar 1) dNil))) (dCB bAll (dCons (dLc (diZip (dCons (dVar 0) (dCons (dVar 1) dNil))) (dgTup 2 (dgCons (dgName 2) (dgCons (dgName 3) dgNil))) dYes (dCall sp__law_same 2 (dCons (dVar 2) (dCons (dVar 3) dNil))) [2, 3]) dNil))))) dNext)
    (dSeq (dIfS (dOr (dB (dOp fIsN (dVar 1) (dC .non))) (dB (dOp fIsN (dVar 0) (dC .non)))) (dRet (dAndV (dOp fIsN (dVar 1) (dC .non)) (dOp fIsN (dVar 0) (dC .non)))) dNext)
    (dSeq (dIfS (dOr (dB (dOp fNe (dCB bIsi (dCons (dVar 1) (dCons (dC (.ty "bool")) dNil))) (dCB bIsi (dCons (dVar 0) (dCons (dC (.ty "bool")) dNil))))) (dB (dOp fNe (dCB bIsi (dCons (dVar 1) (dCons (dC (.ty "int")) dNil))) (dCB bIsi (dCons (dVar 0) (dCons (dC (.ty "int")) dNil)))))) (dRet (dC (.bl false))) dNext)
    (dRet (dAndV (dOp fEq (dCB bIsi (dCons (dVar 1) (dCons (dC (.ty "str")) dNil))) (dCB bIsi (dCons (dVar 0) (dCons (dC (.ty "str")) dNil)))) (dOp fEq (dVar 0) (dVar 1)))))))
theorem w__law_same {f : Addr} {fd : FuncData} {j : Nat} {k__law_same : Nat} {f__law_same : Addr} {fd__law_same : FuncData} {sp__law_same : DSp} (c__law_same : Cal P w K mg base T "_law_same" k__law_same f__law_same fd__law_same ["_law_found", "_law_due"] sp__law_same) (h__law_same : k__law_same ≤ j) (m_isinstance : mg "isinstance" = none) (m_list : mg "list" = none) (m_tuple : mg "tuple" = none) (m_len : mg "len" = none) (m_zip : mg "zip" = none) (m_all : mg "all" = none) (m_bool : mg "bool" = none) (m_int : mg "int" = none) (m_str : mg "str" = none) :
    ∀ (cdv : Value) (A : Around) (outer : List Env) (s : Shared) (H : Hp) (E : XK), fd.code = cdv → Room j (A.deeper (envOfC "_law_same" (defScope s__law_same) s.heap.objs.size f cdv)) →
      DSs (cxD P w K mg base ["_law_found", "_law_due", "_law_a", "_law_b"] "_law_same" (defScope s__law_same) f cdv A outer s H E) T (WD E) (defBody s__law_same) (t__law_same sp__law_same) := by
    intro cdv A outer s H E hcd hr
    refine dss_cons (ds_if (dt_val ?h61) ?i59 ?i60) ?n62
    case h61 =>
      exact (de_isi2 m_isinstance m_list m_tuple (by decide +kernel) (by decide +kernel) (dv 1))
    case i59 =>
      refine dss_cons (ds_if (DW.dt (dw_or (dt_cmp (opd_ne hr) ?h65 ?h66 (nomark _)) (dw_or1 (dt_cmp (opd_ne hr) ?h67 ?h68 (nomark _))))) ?i63 ?i64) ?n69
      case h65 =>
        exact (de_callB cb_isi (by rfl) m_isinstance (by decide +kernel) (da_cons (dv 0) (da_cons (de_ty (by rfl) m_list (by decide +kernel)) da_nil)) (by decide) (by decide) (by rfl) (by rfl))
      case h66 =>
        exact (de_callB cb_isi (by rfl) m_isinstance (by decide +kernel) (da_cons (dv 1) (da_cons (de_ty (by rfl) m_list (by decide +kernel)) da_nil)) (by decide) (by decide) (by rfl) (by rfl))
      case h67 =>
        exact (de_callB cb_isi (by rfl) m_isinstance (by decide +kernel) (da_cons (dv 0) (da_cons (de_ty (by rfl) m_tuple (by decide +kernel)) da_nil)) (by decide) (by decide) (by rfl) (by rfl))
      case h68 =>
        exact (de_callB cb_isi (by rfl) m_isinstance (by decide +kernel) (da_cons (dv 1) (da_cons (de_ty (by rfl) m_tuple (by decide +kernel)) da_nil)) (by decide) (by decide) (by rfl) (by rfl))
      case i63 =>
        refine dss_one (ds_ret de_bl)
      case i64 =>
        exact dss_nil
      refine dss_one (ds_ret (de_and (de_cmp (opd_eq hr) ?h71 ?h72 (nomark _)) (de_one ?h73)))
      case h71 =>
        exact (de_callB cb_len (by rfl) m_len (by decide +kernel) (da_cons (dv 0) da_nil) (by decide) (by decide) (by rfl) (by rfl))
      case h72 =>
        exact (de_callB cb_len (by rfl) m_len (by decide +kernel) (da_cons (dv 1) da_nil) (by decide) (by decide) (by rfl) (by rfl))
      case h73 =>
        refine (de_callB (cb_all rfl) (by rfl) m_all (by decide +kernel) (da_cons ?h75 da_nil) (by decide) (by decide) (by rfl) (by rfl))
        case h75 =>
          refine (de_lc (own := [("_law_a", 2), ("_law_b", 3)]) rfl sc__law_same.nd (di_zip (by rfl) m_zip (da_cons (dv 0) (da_cons (dv 1) da_nil))) (blkOk_by (by rfl)) (tgOk_pair (by decide) (by decide)) (fun _ _ _ _ _ => pg_tup rfl (pgs_cons (pg_name (i := 2) sc__law_same.nd rfl (.inl rfl)) (pgs_cons (pg_name (i := 3) sc__law_same.nd rfl (.inl rfl)) pgs_nil))) (fun _ _ _ _ _ => dts_nil) (fun _ _ _ _ _ => ?h76))
          case h76 =>
            exact (de_calE c__law_same L2.takes0 hr (da_cons (dv 2) (da_cons (dv 3) da_nil)) (by omega) (by rfl) (by decide) (by rfl) (by rfl) rfl)
    case i60 =>
      exact dss_nil
    refine dss_cons (ds_if (DW.dt (dw_or (dt_cmp opd_isN (dv 1) de_non (nomark _)) (dw_or1 (dt_cmp opd_isN (dv 0) de_non (nomark _))))) ?i77 ?i78) ?n79
    case i77 =>
      refine dss_one (ds_ret (de_and (de_cmp opd_isN (dv 1) de_non (nomark _)) (de_one (de_cmp opd_isN (dv 0) de_non (nomark _)))))
    case i78 =>
      exact dss_nil
    refine dss_cons (ds_if (DW.dt (dw_or (dt_cmp (opd_ne hr) ?h83 ?h84 (nomark _)) (dw_or1 (dt_cmp (opd_ne hr) ?h85 ?h86 (nomark _))))) ?i81 ?i82) ?n87
    case h83 =>
      exact (de_callB cb_isi (by rfl) m_isinstance (by decide +kernel) (da_cons (dv 1) (da_cons (de_ty (by rfl) m_bool (by decide +kernel)) da_nil)) (by decide) (by decide) (by rfl) (by rfl))
    case h84 =>
      exact (de_callB cb_isi (by rfl) m_isinstance (by decide +kernel) (da_cons (dv 0) (da_cons (de_ty (by rfl) m_bool (by decide +kernel)) da_nil)) (by decide) (by decide) (by rfl) (by rfl))
    case h85 =>
      exact (de_callB cb_isi (by rfl) m_isinstance (by decide +kernel) (da_cons (dv 1) (da_cons (de_ty (by rfl) m_int (by decide +kernel)) da_nil)) (by decide) (by decide) (by rfl) (by rfl))
    case h86 =>
      exact (de_callB cb_isi (by rfl) m_isinstance (by decide +kernel) (da_cons (dv 0) (da_cons (de_ty (by rfl) m_int (by decide +kernel)) da_nil)) (by decide) (by decide) (by rfl) (by rfl))
    case i81 =>
      refine dss_one (ds_ret de_bl)
    case i82 =>
      exact dss_nil
    refine dss_one (ds_ret (de_and (de_cmp (opd_eq hr) ?h89 ?h90 (nomark _)) (de_one (de_cmp (opd_eq hr) (dv 0) (dv 1) (nomark _)))))
    case h89 =>
      exact (de_callB cb_isi (by rfl) m_isinstance (by decide +kernel) (da_cons (dv 1) (da_cons (de_ty (by rfl) m_str (by decide +kernel)) da_nil)) (by decide) (by decide) (by rfl) (by rfl))
    case h90 =>
      exact (de_callB cb_isi (by rfl) m_isinstance (by decide +kernel) (da_cons (dv 0) (da_cons (de_ty (by rfl) m_str (by decide +kernel)) da_nil)) (by decide) (by decide) (by rfl) (by rfl))

abbrev s__law_kinds : Stmt := topS 18
theorem sc__law_kinds : FnScope ["_law_rng", "_law_most", "_law_letters", "_law_first", "_law_step", "_law_k"] ["_law_rng", "_law_most"] (defScope s__law_kinds) := ⟨rfl, rfl, rfl, by decide +kernel, rfl, by decide +kernel, by decide +kernel⟩
def t__law_kinds (sp__law_draw sp__law_pick : DSp) : DTS :=
    (dSeq (dAsg (dTup (dCons (dC (.str "abcdefghijklmnopqrstuvwxyz")) (dCons (dCall sp__law_draw 2 (dCons (dVar 0) (dCons (dC (.int 26)) dNil))) dNil))) (dgTup 2 (dgCons (dgName 2) (dgCons (dgName 3) dgNil))))
    (dSeq (dAsg (dCall sp__law_pick 2 (dCons (dVar 0) (dCons (dLst (dCons (dC (.int 1)) (dCons (dC (.int 3)) (dCons (dC (.int 5)) (dCons (dC (.int 7)) (dCons (dC (.int 9)) (dCons (dC (.int 11)) (dCons (dC (.int 15)) (dCons (dC (.int 25)) dNil))))))))) dNil))) (dgName 4))
    (dRet (dBM "str" mfJoin (dC (.str "")) (dCons (dLc (diRng1 (dCons (dOp fAdd (dC (.int 2)) (dCall sp__law_draw 2 (dCons (dVar 0) (dCons (dOp fSub (dVar 1) (dC (.int 1))) dNil)))) dNil)) (dgName 5) dYes (dOp fIx (dVar 2) (dOp fMod (dOp fAdd (dVar 3) (dOp fMul (dVar 4) (dVar 5))) (dC (.int 26)))) [5]) dNil)))))
theorem w__law_kinds {f : Addr} {fd : FuncData} {j : Nat} {k__law_draw : Nat} {f__law_draw : Addr} {fd__law_draw : FuncData} {sp__law_draw : DSp} (c__law_draw : Cal P w K mg base T "_law_draw" k__law_draw f__law_draw fd__law_draw ["_law_rng", "_law_sides"] sp__law_draw) (h__law_draw : k__law_draw ≤ j) {k__law_pick : Nat} {f__law_pick : Addr} {fd__law_pick : FuncData} {sp__law_pick : DSp} (c__law_pick : Cal P w K mg base T "_law_pick" k__law_pick f__law_pick fd__law_pick ["_law_rng", "_law_things"] sp__law_pick) (h__law_pick : k__law_pick ≤ j) (m_range : mg "range" = none) :
    ∀ (cdv : Value) (A : Around) (outer : List Env) (s : Shared) (H : Hp) (E : XK), fd.code = cdv → Room j (A.deeper (envOfC "_law_kinds" (defScope s__law_kinds) s.heap.objs.size f cdv)) →
      DSs (cxD P w K mg base ["_law_rng", "_law_most", "_law_letters", "_law_first", "_law_step", "_law_k"] "_law_kinds" (defScope s__law_kinds) f cdv A outer s H E) T (WD E) (defBody s__law_kinds) (t__law_kinds sp__law_draw sp__law_pick) := by
    intro cdv A outer s H E hcd hr
    refine dss_cons (ds_asg (de_tup (da_cons de_str (da_cons ?h92 da_nil))) (dg_tup rfl (dgs_cons (dg_name (i := 2) sc__law_kinds.nd rfl (.inr rfl)) (dgs_cons (dg_name (i := 3) sc__law_kinds.nd rfl (.inr rfl)) dgs_nil)))) ?n93
    case h92 =>
      exact (de_calE c__law_draw takesD hr (da_cons (dv 0) (da_cons de_int da_nil)) (by omega) (by rfl) (by decide) (by rfl) (by rfl) rfl)
    refine dss_cons (ds_set (i := 4) sc__law_kinds.nd rfl (.inr rfl) ?h94) ?n95
    case h94 =>
      exact (de_calE c__law_pick takesD hr (da_cons (dv 0) (da_cons (de_lst (da_cons de_int (da_cons de_int (da_cons de_int (da_cons de_int (da_cons de_int (da_cons de_int (da_cons de_int (da_cons de_int da_nil))))))))) da_nil)) (by omega) (by rfl) (by decide) (by rfl) (by rfl) rfl)
    refine dss_one (ds_ret ?h96)
    case h96 =>
      refine (de_bm PySem.F.plainAttrs_str PySem.F.slot_str_join PySem.F.type_str_join mtd_join de_str (da_cons ?h98 da_nil))
      case h98 =>
        refine (de_lc (own := [("_law_k", 5)]) rfl sc__law_kinds.nd (di_rng1 (by rfl) m_range (da_cons (de_op opd_add de_int ?h99) da_nil)) (blkOk_by (by rfl)) (tgOk_name (by decide)) (fun _ _ _ _ _ => pg_name (i := 5) sc__law_kinds.nd rfl (.inl rfl)) (fun _ _ _ _ _ => dts_nil) (fun _ _ _ _ _ => (de_ix (dv 2) (de_op opd_mod (de_op opd_add (dv 3) (de_op opd_mul (dv 4) (dv 5))) de_int) (fun _ _ => rfl))))
        case h99 =>
          exact (de_calE c__law_draw takesD hr (da_cons (dv 0) (da_cons (de_op opd_sub (dv 1) de_int) da_nil)) (by omega) (by rfl) (by decide) (by rfl) (by rfl) rfl)

abbrev s__law_bag : Stmt := topS 19
theorem sc__law_bag : FnScope ["_law_rng", "_law_kinds_here", "_law_most", "_law_sign"] ["_law_rng", "_law_kinds_here", "_law_most"] (defScope s__law_bag) := ⟨rfl, rfl, rfl, by decide +kernel, rfl, by decide +kernel, by decide +kernel⟩
def t__law_bag (sp__law_draw : DSp) : DTS :=
    (dRet (dCB bTuple (dCons (dLc (diSeq (dVar 1)) (dgName 3) dYes (dCall sp__law_draw 2 (dCons (dVar 0) (dCons (dOp fAdd (dVar 2) (dC (.int 1))) dNil))) [3]) dNil)))
theorem w__law_bag {f : Addr} {fd : FuncData} {j : Nat} {k__law_draw : Nat} {f__law_draw : Addr} {fd__law_draw : FuncData} {sp__law_draw : DSp} (c__law_draw : Cal P w K mg base T "_law_draw" k__law_draw f__law_draw fd__law_draw ["_law_rng", "_law_sides"] sp__law_draw) (h__law_draw : k__law_draw ≤ j) (m_tuple : mg "tuple" = none) :
    ∀ (cdv : Value) (A : Around) (outer : List Env) (s : Shared) (H : Hp) (E : XK), fd.code = cdv → Room j (A.deeper (envOfC "_law_bag" (defScope s__law_bag) s.heap.objs.size f cdv)) →
      DSs (cxD P w K mg base ["_law_rng", "_law_kinds_here", "_law_most", "_law_sign"] "_law_bag" (defScope s__law_bag) f cdv A outer s H E) T (WD E) (defBody s__law_bag) (t__law_bag sp__law_draw) := by
    intro cdv A outer s H E hcd hr
    refine dss_one (ds_ret ?h100)
    case h100 =>
      refine (de_callTy cb_tuple (by rfl) m_tuple (by decide +kernel) (da_cons ?h102 da_nil) (by decide) (by decide) (by rfl) (by rfl))
      case h102 =>
        refine (de_lc (own := [("_law_sign", 3)]) rfl sc__law_bag.nd (di_seq (dv 1)) (blkOk_by (by rfl)) (tgOk_name (by decide)) (fun _ _ _ _ _ => pg_name (i := 3) sc__law_bag.nd rfl (.inl rfl)) (fun _ _ _ _ _ => dts_nil) (fun _ _ _ _ _ => ?h103))
        case h103 =>
          exact (de_calE c__law_draw L2.takes0 hr (da_cons (dv 0) (da_cons (de_op opd_add (dv 2) de_int) da_nil)) (by omega) (by rfl) (by decide) (by rfl) (by rfl) rfl)

abbrev s__law_great_bag : Stmt := topS 20
theorem sc__law_great_bag : FnScope ["_law_rng", "_law_kinds_here", "_law_most", "_law_found", "_law_count"] ["_law_rng", "_law_kinds_here", "_law_most"] (defScope s__law_great_bag) := ⟨rfl, rfl, rfl, by decide +kernel, rfl, by decide +kernel, by decide +kernel⟩
def t__law_great_bag (sp__law_bag sp__law_draw : DSp) : DTS :=
    (dSeq (dAsg (dLstS dNil) (dgName 3))
    (dSeq (dFor (diSeq (dCall sp__law_bag 3 (dCons (dVar 0) (dCons (dVar 1) (dCons (dVar 2) dNil))))) (dgName 4) (dExpr (dBM "list" mfAppend (dVar 3) (dCons (dOp fAdd (dVar 4) (dOp fMul (dCall sp__law_draw 2 (dCons (dVar 0) (dCons (dC (.int 2)) dNil))) (dOp fAdd (dOp fPow (dC (.int 10)) (dC (.int 20))) (dCall sp__law_draw 2 (dCons (dVar 0) (dCons (dC (.int 1000)) dNil)))))) dNil))))
    (dRet (dCB bTuple (dCons (dVar 3) dNil)))))
theorem w__law_great_bag {f : Addr} {fd : FuncData} {j : Nat} {k__law_bag : Nat} {f__law_bag : Addr} {fd__law_bag : FuncData} {sp__law_bag : DSp} (c__law_bag : Cal P w K mg base T "_law_bag" k__law_bag f__law_bag fd__law_bag ["_law_rng", "_law_kinds_here", "_law_most"] sp__law_bag) (h__law_bag : k__law_bag ≤ j) {k__law_draw : Nat} {f__law_draw : Addr} {fd__law_draw : FuncData} {sp__law_draw : DSp} (c__law_draw : Cal P w K mg base T "_law_draw" k__law_draw f__law_draw fd__law_draw ["_law_rng", "_law_sides"] sp__law_draw) (h__law_draw : k__law_draw ≤ j) (m_tuple : mg "tuple" = none) :
    ∀ (cdv : Value) (A : Around) (outer : List Env) (s : Shared) (H : Hp) (E : XK), fd.code = cdv → Room j (A.deeper (envOfC "_law_great_bag" (defScope s__law_great_bag) s.heap.objs.size f cdv)) →
      DSs (cxD P w K mg base ["_law_rng", "_law_kinds_here", "_law_most", "_law_found", "_law_count"] "_law_great_bag" (defScope s__law_great_bag) f cdv A outer s H E) T (WD E) (defBody s__law_great_bag) (t__law_great_bag sp__law_bag sp__law_draw) := by
    intro cdv A outer s H E hcd hr
    refine dss_cons (ds_set (i := 3) sc__law_great_bag.nd rfl (.inl rfl) (de_lstS da_nil)) ?n104
    refine dss_cons (ds_for passD rfl (di_seq ?h106) (dg_name (i := 4) sc__law_great_bag.nd rfl (.inl rfl)) ?i105) ?n107
    case h106 =>
      exact (de_calE c__law_bag takesD hr (da_cons (dv 0) (da_cons (dv 1) (da_cons (dv 2) da_nil))) (by omega) (by rfl) (by decide) (by rfl) (by rfl) rfl)
    case i105 =>
      refine dss_one (ds_expr ?h108)
      case h108 =>
        refine (de_bm PySem.F.plainAttrs_list PySem.F.slot_list_append PySem.F.type_list_append mtd_append (dv 3) (da_cons (de_op opd_add (dv 4) (de_op opd_mul ?h110 (de_op opd_add (de_op opd_pow de_int de_int) ?h111))) da_nil))
        case h110 =>
          exact (de_calE c__law_draw takesD hr (da_cons (dv 0) (da_cons de_int da_nil)) (by omega) (by rfl) (by decide) (by rfl) (by rfl) rfl)
        case h111 =>
          exact (de_calE c__law_draw takesD hr (da_cons (dv 0) (da_cons de_int da_nil)) (by omega) (by rfl) (by decide) (by rfl) (by rfl) rfl)
    refine dss_one (ds_ret ?h112)
    case h112 =>
      exact (de_callTy cb_tuple (by rfl) m_tuple (by decide +kernel) (da_cons (dv 3) da_nil) (by decide) (by decide) (by rfl) (by rfl))

abbrev s__law_glass : Stmt := topS 21
theorem sc__law_glass : FnScope ["_law_rng", "_law_kinds_here", "_law_bound"] ["_law_rng", "_law_kinds_here"] (defScope s__law_glass) := ⟨rfl, rfl, rfl, by decide +kernel, rfl, by decide +kernel, by decide +kernel⟩
def t__law_glass (sp__law_draw : DSp) : DTS :=
    (dSeq (dAsg (dCall sp__law_draw 2 (dCons (dVar 0) (dCons (dOp fIx (dLst (dCons (dC (.int 9)) (dCons (dC (.int 5)) (dCons (dC (.int 3)) dNil)))) (dOp fSub (dCB bLen (dCons (dVar 1) dNil)) (dC (.int 2)))) dNil))) (dgName 2))
    (dRet (dTup (dCons (dVar 2) (dCons (dOp fAdd (dC (.int 1)) (dCall sp__law_draw 2 (dCons (dVar 0) (dCons (dOp fIx (dLst (dCons (dC (.int 6)) (dCons (dC (.int 4)) (dCons (dC (.int 3)) dNil)))) (dOp fSub (dCB bLen (dCons (dVar 1) dNil)) (dC (.int 2)))) dNil)))) dNil)))))
theorem w__law_glass {f : Addr} {fd : FuncData} {j : Nat} {k__law_draw : Nat} {f__law_draw : Addr} {fd__law_draw : FuncData} {sp__law_draw : DSp} (c__law_draw : Cal P w K mg base T "_law_draw" k__law_draw f__law_draw fd__law_draw ["_law_rng", "_law_sides"] sp__law_draw) (h__law_draw : k__law_draw ≤ j) (m_len : mg "len" = none) :
    ∀ (cdv : Value) (A : Around) (outer : List Env) (s : Shared) (H : Hp) (E : XK), fd.code = cdv → Room j (A.deeper (envOfC "_law_glass" (defScope s__law_glass) s.heap.objs.size f cdv)) →
      DSs (cxD P w K mg base ["_law_rng", "_law_kinds_here", "_law_bound"] "_law_glass" (defScope s__law_glass) f cdv A outer s H E) T (WD E) (defBody s__law_glass) (t__law_glass sp__law_draw) := by
    intro cdv A outer s H E hcd hr
    refine dss_cons (ds_set (i := 2) sc__law_glass.nd rfl (.inl rfl) ?h114) ?n115
    case h114 =>
      refine (de_calE c__law_draw takesD hr (da_cons (dv 0) (da_cons (de_ix (de_lst (da_cons de_int (da_cons de_int (da_cons de_int da_nil)))) (de_op opd_sub ?h116 de_int) (fun _ _ => rfl)) da_nil)) (by omega) (by rfl) (by decide) (by rfl) (by rfl) rfl)
      case h116 =>
        exact (de_callB cb_len (by rfl) m_len (by decide +kernel) (da_cons (dv 1) da_nil) (by decide) (by decide) (by rfl) (by rfl))
    refine dss_one (ds_ret (de_tup (da_cons (dv 2) (da_cons (de_op opd_add de_int ?h117) da_nil))))
    case h117 =>
      refine (de_calE c__law_draw takesD hr (da_cons (dv 0) (da_cons (de_ix (de_lst (da_cons de_int (da_cons de_int (da_cons de_int da_nil)))) (de_op opd_sub ?h119 de_int) (fun _ _ => rfl)) da_nil)) (by omega) (by rfl) (by decide) (by rfl) (by rfl) rfl)
      case h119 =>
        exact (de_callB cb_len (by rfl) m_len (by decide +kernel) (da_cons (dv 1) da_nil) (by decide) (by decide) (by rfl) (by rfl))

abbrev s__law_common : Stmt := topS 22
theorem sc__law_common : FnScope ["_law_my_one", "_law_my_other"] ["_law_my_one", "_law_my_other"] (defScope s__law_common) := ⟨rfl, rfl, rfl, by decide +kernel, rfl, by decide +kernel, by decide +kernel⟩
def t__law_common : DTS :=
    (dSeq (dWhile (dB (dOp fGt (dVar 1) (dC (.int 0)))) (dPar 0 1 (dCons (dVar 1) (dCons (dOp fMod (dCB bInt (dCons (dVar 0) dNil)) (dVar 1)) dNil))))
    (dRet (dVar 0)))
theorem w__law_common {f : Addr} {fd : FuncData} {j : Nat} (m_int : mg "int" = none) :
    ∀ (cdv : Value) (A : Around) (outer : List Env) (s : Shared) (H : Hp) (E : XK), fd.code = cdv → Room j (A.deeper (envOfC "_law_common" (defScope s__law_common) s.heap.objs.size f cdv)) →
      DSs (cxD P w K mg base ["_law_my_one", "_law_my_other"] "_law_common" (defScope s__law_common) f cdv A outer s H E) T (WD E) (defBody s__law_common) (t__law_common) := by
    intro cdv A outer s H E hcd hr
    refine dss_cons (ds_while passD (dt_cmp opd_gt (dv 1) de_int (nomark _)) ?i120) ?n121
    case i120 =>
      refine dss_one (ds_par (i := 0) (j := 1) (by rfl) sc__law_common.nd rfl rfl (by decide) rfl rfl (da_cons (dv 1) (da_cons (de_op opd_mod ?h122 (dv 1)) da_nil)) (by rfl))
      case h122 =>
        exact (de_callTy cb_int (by rfl) m_int (by decide +kernel) (da_cons (dv 0) da_nil) (by decide) (by decide) (by rfl) (by rfl))
    refine dss_one (ds_ret (dv 0))

abbrev s__law_joined : Stmt := topS 23
theorem sc__law_joined : FnScope ["_law_my_one", "_law_my_other"] ["_law_my_one", "_law_my_other"] (defScope s__law_joined) := ⟨rfl, rfl, rfl, by decide +kernel, rfl, by decide +kernel, by decide +kernel⟩
def t__law_joined (sp__law_common : DSp) : DTS :=
    (dRet (dTup (dCons (dCB bMax2 (dCons (dOp fIx (dVar 0) (dC (.int 0))) (dCons (dOp fIx (dVar 1) (dC (.int 0))) dNil))) (dCons (dOp fMul (dOp fFdiv (dOp fIx (dVar 0) (dC (.int 1))) (dCB bMax2 (dCons (dC (.int 1)) (dCons (dCall sp__law_common 2 (dCons (dOp fIx (dVar 0) (dC (.int 1))) (dCons (dOp fIx (dVar 1) (dC (.int 1))) dNil))) dNil)))) (dOp fIx (dVar 1) (dC (.int 1)))) dNil))))
theorem w__law_joined {f : Addr} {fd : FuncData} {j : Nat} {k__law_common : Nat} {f__law_common : Addr} {fd__law_common : FuncData} {sp__law_common : DSp} (c__law_common : Cal P w K mg base T "_law_common" k__law_common f__law_common fd__law_common ["_law_my_one", "_law_my_other"] sp__law_common) (h__law_common : k__law_common ≤ j) (m_max : mg "max" = none) :
    ∀ (cdv : Value) (A : Around) (outer : List Env) (s : Shared) (H : Hp) (E : XK), fd.code = cdv → Room j (A.deeper (envOfC "_law_joined" (defScope s__law_joined) s.heap.objs.size f cdv)) →
      DSs (cxD P w K mg base ["_law_my_one", "_law_my_other"] "_law_joined" (defScope s__law_joined) f cdv A outer s H E) T (WD E) (defBody s__law_joined) (t__law_joined sp__law_common) := by
    intro cdv A outer s H E hcd hr
    refine dss_one (ds_ret (de_tup (da_cons ?h125 (da_cons (de_op opd_mul (de_op opd_fdiv (de_ix (dv 0) de_int (fun _ _ => rfl)) ?h126) (de_ix (dv 1) de_int (fun _ _ => rfl))) da_nil))))
    case h125 =>
      exact (de_callB (cb_max2 rfl) (by rfl) m_max (by decide +kernel) (da_cons (de_ix (dv 0) de_int (fun _ _ => rfl)) (da_cons (de_ix (dv 1) de_int (fun _ _ => rfl)) da_nil)) (by decide) (by decide) (by rfl) (by rfl))
    case h126 =>
      refine (de_callB (cb_max2 rfl) (by rfl) m_max (by decide +kernel) (da_cons de_int (da_cons ?h128 da_nil)) (by decide) (by decide) (by rfl) (by rfl))
      case h128 =>
        exact (de_calE c__law_common takesD hr (da_cons (de_ix (dv 0) de_int (fun _ _ => rfl)) (da_cons (de_ix (dv 1) de_int (fun _ _ => rfl)) da_nil)) (by omega) (by rfl) (by decide) (by rfl) (by rfl) rfl)

abbrev s_law : Stmt := topS 24
theorem sc_law : FnScope ["_law_script", "_law_rng", "_law_turn", "_law_good", "_law_my_glass", "_law_my_other", "_law_bound", "_law_period", "_law_again", "_law_number", "_law_found", "_law_my_bag", "_law_both", "_law_bad", "_law_count"] ["_law_script"] (defScope s_law) := ⟨rfl, rfl, rfl, by decide +kernel, rfl, by decide +kernel, by decide +kernel⟩
def t_law (sp__law_draws sp__law_kinds sp__law_glass sp__law_pick sp__law_draw sp_look sp__law_great_bag sp__law_same sp_look_of sp_joined_glass sp__law_joined sp_check_glass : DSp) (okc : Addr → Prop) : DTS :=
    (dSeq (dAsg (dCall sp__law_draws 1 (dCons (dVar 0) dNil)) (dgName 1))
    (dSeq (dFor (diRng1 (dCons (dC (.int 6)) dNil)) (dgName 2) (dSeq (dAsg (dCall sp__law_kinds 2 (dCons (dVar 1) (dCons (dC (.int 4)) dNil))) (dgName 3))
    (dSeq (dAsg (dTup (dCons (dCall sp__law_glass 2 (dCons (dVar 1) (dCons (dVar 3) dNil))) (dCons (dCall sp__law_glass 2 (dCons (dVar 1) (dCons (dVar 3) dNil))) dNil))) (dgTup 2 (dgCons (dgName 4) (dgCons (dgName 5) dgNil))))
    (dSeq (dAsg (dVar 4) (dgTup 2 (dgCons (dgName 6) (dgCons (dgName 7) dgNil))))
    (dSeq (dFor (diRng1 (dCons (dC (.int 4)) dNil)) (dgName 8) (dSeq (dAsg (dCall sp__law_pick 2 (dCons (dVar 1) (dCons (dLst (dCons (dCall sp__law_draw 2 (dCons (dVar 1) (dCons (dC (.int 30)) dNil))) (dCons (dOp fAdd (dOp fPow (dC (.int 10)) (dC (.int 29))) (dCall sp__law_draw 2 (dCons (dVar 1) (dCons (dC (.int 99)) dNil)))) dNil))) dNil))) (dgName 9))
    (dSeq (dAsg (dCall sp_look 2 (dCons (dVar 9) (dCons (dVar 4) dNil))) (dgName 10))
    (dSeq (dIfS (dOr (dNot (dB (dChain fLe fLt (dC (.int 0)) (dVar 10) (dOp fAdd (dVar 6) (dVar 7))))) (dAnd (dB (dOp fLt (dVar 9) (dOp fAdd (dVar 6) (dVar 7)))) (dB (dOp fNe (dVar 10) (dVar 9))))) (dRet (dC (.bl false))) dNext)
    (dSeq (dIfS (dOr (dB (dOp fNe (dOp fMod (dCB bInt (dCons (dOp fSub (dVar 9) (dVar 10)) dNil)) (dVar 7)) (dC (.int 0)))) (dAnd (dB (dOp fGe (dVar 9) (dVar 6))) (dB (dOp fLt (dVar 10) (dVar 6))))) (dRet (dC (.bl false))) dNext)
    (dSeq (dAsg (dCall sp__law_great_bag 3 (dCons (dVar 1) (dCons (dVar 3) (dCons (dC (.int 20)) dNil)))) (dgName 11))
    (dIfS (dNot (dB (dCall sp__law_same 2 (dCons (dCallK sp_look_of 2 0 2 [0, 1] dNil (dCons (dVar 11) (dCons (dVar 4) dNil))) (dCons (dCB bTuple (dCons (dLc (diSeq (dVar 11)) (dgName 14) dYes (dCall sp_look 2 (dCons (dVar 14) (dCons (dVar 4) dNil))) [14]) dNil)) dNil))))) (dRet (dC (.bl false))) dNext)))))))
    (dSeq (dAsg (dCall sp_joined_glass 2 (dCons (dVar 4) (dCons (dVar 5) dNil))) (dgName 12))
    (dSeq (dIfS (dNot (dB (dCall sp__law_same 2 (dCons (dLst (dCons (dVar 12) (dCons (dCallK sp_joined_glass 2 0 2 [0, 1] dNil (dCons (dVar 5) (dCons (dVar 4) dNil))) dNil))) (dCons (dOp fMul (dLst (dCons (dCall sp__law_joined 2 (dCons (dVar 4) (dCons (dVar 5) dNil))) dNil)) (dC (.int 2))) dNil))))) (dRet (dC (.bl false))) dNext)
    (dSeq (dAsg (dCall sp__law_pick 2 (dCons (dVar 1) (dCons (dLst (dCons (dTup (dCons (dUn fNeg (dC (.int 1))) (dCons (dC (.int 1)) dNil))) (dCons (dTup (dCons (dC (.int 0)) (dCons (dC (.int 0)) dNil))) (dCons (dTup (dCons (dC (.int 3)) (dCons (dUn fNeg (dC (.int 2))) dNil))) (dCons (dTup (dCons (dUn fNeg (dC (.int 5))) (dCons (dC (.int 0)) dNil))) dNil))))) dNil))) (dgName 13))
    (dIfS (dOr (dB (dOp fNe (dTry okc (dCall sp_check_glass 1 (dCons (dVar 13) dNil))) (dTup (dCons (dC (.str "InvalidGlass")) (dCons (dC .non) dNil))))) (dB (dOp fNotN (dCallK sp_check_glass 1 0 1 [0] dNil (dCons (dVar 4) dNil)) (dC .non)))) (dRet (dC (.bl false))) dNext)))))))))
    (dRet (dOp fEq (dLst (dCons (dCall sp_look 2 (dCons (dC (.int 7)) (dCons (dTup (dCons (dC (.int 2)) (dCons (dC (.int 3)) dNil))) dNil))) (dCons (dCall sp_look_of 2 (dCons (dTup (dCons (dC (.int 1)) (dCons (dC (.int 9)) dNil))) (dCons (dTup (dCons (dC (.int 0)) (dCons (dC (.int 1)) dNil))) dNil))) (dCons (dCall sp_joined_glass 2 (dCons (dTup (dCons (dC (.int 2)) (dCons (dC (.int 4)) dNil))) (dCons (dTup (dCons (dC (.int 5)) (dCons (dC (.int 6)) dNil))) dNil))) dNil)))) (dLst (dCons (dC (.int 4)) (dCons (dTup (dCons (dC (.int 0)) (dCons (dC (.int 0)) dNil))) (dCons (dTup (dCons (dC (.int 5)) (dCons (dC (.int 12)) dNil))) dNil))))))))
theorem w_law {f : Addr} {fd : FuncData} {j : Nat} {k__law_draws : Nat} {f__law_draws : Addr} {fd__law_draws : FuncData} {sp__law_draws : DSp} (c__law_draws : Cal P w K mg base T "_law_draws" k__law_draws f__law_draws fd__law_draws ["_law_script"] sp__law_draws) (h__law_draws : k__law_draws ≤ j) {k__law_kinds : Nat} {f__law_kinds : Addr} {fd__law_kinds : FuncData} {sp__law_kinds : DSp} (c__law_kinds : Cal P w K mg base T "_law_kinds" k__law_kinds f__law_kinds fd__law_kinds ["_law_rng", "_law_most"] sp__law_kinds) (h__law_kinds : k__law_kinds ≤ j) {k__law_glass : Nat} {f__law_glass : Addr} {fd__law_glass : FuncData} {sp__law_glass : DSp} (c__law_glass : Cal P w K mg base T "_law_glass" k__law_glass f__law_glass fd__law_glass ["_law_rng", "_law_kinds_here"] sp__law_glass) (h__law_glass : k__law_glass ≤ j) {k__law_pick : Nat} {f__law_pick : Addr} {fd__law_pick : FuncData} {sp__law_pick : DSp} (c__law_pick : Cal P w K mg base T "_law_pick" k__law_pick f__law_pick fd__law_pick ["_law_rng", "_law_things"] sp__law_pick) (h__law_pick : k__law_pick ≤ j) {k__law_draw : Nat} {f__law_draw : Addr} {fd__law_draw : FuncData} {sp__law_draw : DSp} (c__law_draw : Cal P w K mg base T "_law_draw" k__law_draw f__law_draw fd__law_draw ["_law_rng", "_law_sides"] sp__law_draw) (h__law_draw : k__law_draw ≤ j) {k_look : Nat} {f_look : Addr} {fd_look : FuncData} {sp_look : DSp} (c_look : Cal P w K mg base T "look" k_look f_look fd_look ["number", "glass"] sp_look) (h_look : k_look ≤ j) {k__law_great_bag : Nat} {f__law_great_bag : Addr} {fd__law_great_bag : FuncData} {sp__law_great_bag : DSp} (c__law_great_bag : Cal P w K mg base T "_law_great_bag" k__law_great_bag f__law_great_bag fd__law_great_bag ["_law_rng", "_law_kinds_here", "_law_most"] sp__law_great_bag) (h__law_great_bag : k__law_great_bag ≤ j) {k__law_same : Nat} {f__law_same : Addr} {fd__law_same : FuncData} {sp__law_same : DSp} (c__law_same : Cal P w K mg base T "_law_same" k__law_same f__law_same fd__law_same ["_law_found", "_law_due"] sp__law_same) (h__law_same : k__law_same ≤ j) {k_look_of : Nat} {f_look_of : Addr} {fd_look_of : FuncData} {sp_look_of : DSp} (c_look_of : Cal P w K mg base T "look_of" k_look_of f_look_of fd_look_of ["bag", "glass"] sp_look_of) (h_look_of : k_look_of ≤ j) (kb_look_of_0_bag_glass : KBd K fd_look_of ["bag", "glass"] 0 ["bag", "glass"] [0, 1]) {k_joined_glass : Nat} {f_joined_glass : Addr} {fd_joined_glass : FuncData} {sp_joined_glass : DSp} (c_joined_glass : Cal P w K mg base T "joined_glass" k_joined_glass f_joined_glass fd_joined_glass ["one", "other"] sp_joined_glass) (h_joined_glass : k_joined_glass ≤ j) (kb_joined_glass_0_one_other : KBd K fd_joined_glass ["one", "other"] 0 ["one", "other"] [0, 1]) {k__law_joined : Nat} {f__law_joined : Addr} {fd__law_joined : FuncData} {sp__law_joined : DSp} (c__law_joined : Cal P w K mg base T "_law_joined" k__law_joined f__law_joined fd__law_joined ["_law_my_one", "_law_my_other"] sp__law_joined) (h__law_joined : k__law_joined ≤ j) {k_check_glass : Nat} {f_check_glass : Addr} {fd_check_glass : FuncData} {sp_check_glass : DSp} (c_check_glass : Cal P w K mg base T "check_glass" k_check_glass f_check_glass fd_check_glass ["glass"] sp_check_glass) (h_check_glass : k_check_glass ≤ j) (kb_check_glass_0_glass : KBd K fd_check_glass ["glass"] 0 ["glass"] [0]) (m_range : mg "range" = none) (m_int : mg "int" = none) (m_tuple : mg "tuple" = none) {okc : Addr → Prop} {cd : Addr} (TC : TryC P w K mg base T okc "law" cd) (hcd0 : fd.code = .ref cd) :
    ∀ (cdv : Value) (A : Around) (outer : List Env) (s : Shared) (H : Hp) (E : XK), fd.code = cdv → Room (j + 4) (A.deeper (envOfC "law" (defScope s_law) s.heap.objs.size f cdv)) →
      DSs (cxD P w K mg base ["_law_script", "_law_rng", "_law_turn", "_law_good", "_law_my_glass", "_law_my_other", "_law_bound", "_law_period", "_law_again", "_law_number", "_law_found", "_law_my_bag", "_law_both", "_law_bad", "_law_count"] "law" (defScope s_law) f cdv A outer s H E) T (WD E) (defBody s_law) (t_law sp__law_draws sp__law_kinds sp__law_glass sp__law_pick sp__law_draw sp_look sp__law_great_bag sp__law_same sp_look_of sp_joined_glass sp__law_joined sp_check_glass okc) := by
    intro cdv A outer s H E hcd hr
    have hcode : cdv = .ref cd := hcd.symm.trans hcd0
    refine dss_cons (ds_set (i := 1) sc_law.nd rfl (.inl rfl) ?h129) ?n130
    case h129 =>
      exact (de_calE c__law_draws takesD hr (da_cons (dv 0) da_nil) (by omega) (by rfl) (by decide) (by rfl) (by rfl) rfl)
    refine dss_cons (ds_for passD rfl (di_rng1 (by rfl) m_range (da_cons de_int da_nil)) (dg_name (i := 2) sc_law.nd rfl (.inl rfl)) ?i131) ?n132
    case i131 =>
      refine dss_cons (ds_set (i := 3) sc_law.nd rfl (.inl rfl) ?h133) ?n134
      case h133 =>
        exact (de_calE c__law_kinds takesD hr (da_cons (dv 1) (da_cons de_int da_nil)) (by omega) (by rfl) (by decide) (by rfl) (by rfl) rfl)
      refine dss_cons (ds_asg (de_tup (da_cons ?h135 (da_cons ?h136 da_nil))) (dg_tup rfl (dgs_cons (dg_name (i := 4) sc_law.nd rfl (.inr rfl)) (dgs_cons (dg_name (i := 5) sc_law.nd rfl (.inl rfl)) dgs_nil)))) ?n137
      case h135 =>
        exact (de_calE c__law_glass takesD hr (da_cons (dv 1) (da_cons (dv 3) da_nil)) (by omega) (by rfl) (by decide) (by rfl) (by rfl) rfl)
      case h136 =>
        exact (de_calE c__law_glass takesD hr (da_cons (dv 1) (da_cons (dv 3) da_nil)) (by omega) (by rfl) (by decide) (by rfl) (by rfl) rfl)
      refine dss_cons (ds_asg (dv 4) (dg_tup rfl (dgs_cons (dg_name (i := 6) sc_law.nd rfl (.inl rfl)) (dgs_cons (dg_name (i := 7) sc_law.nd rfl (.inl rfl)) dgs_nil)))) ?n138
      refine dss_cons (ds_for passD rfl (di_rng1 (by rfl) m_range (da_cons de_int da_nil)) (dg_name (i := 8) sc_law.nd rfl (.inl rfl)) ?i139) ?n140
      case i139 =>
        refine dss_cons (ds_set (i := 9) sc_law.nd rfl (.inl rfl) ?h141) ?n142
        case h141 =>
          refine (de_calE c__law_pick takesD hr (da_cons (dv 1) (da_cons (de_lst (da_cons ?h143 (da_cons (de_op opd_add (de_op opd_pow de_int de_int) ?h144) da_nil))) da_nil)) (by omega) (by rfl) (by decide) (by rfl) (by rfl) rfl)
          case h143 =>
            exact (de_calE c__law_draw takesD hr (da_cons (dv 1) (da_cons de_int da_nil)) (by omega) (by rfl) (by decide) (by rfl) (by rfl) rfl)
          case h144 =>
            exact (de_calE c__law_draw takesD hr (da_cons (dv 1) (da_cons de_int da_nil)) (by omega) (by rfl) (by decide) (by rfl) (by rfl) rfl)
        refine dss_cons (ds_set (i := 10) sc_law.nd rfl (.inl rfl) ?h145) ?n146
        case h145 =>
          exact (de_calE c_look takesD hr (da_cons (dv 9) (da_cons (dv 4) da_nil)) (by omega) (by rfl) (by decide) (by rfl) (by rfl) rfl)
        refine dss_cons (ds_if (DW.dt (dw_or (dt_not (dt_chain opd_le opd_lt de_int (dv 10) (de_op opd_add (dv 6) (dv 7)))) (dw_or1 (DW.dt (dw_and (dt_cmp opd_lt (dv 9) (de_op opd_add (dv 6) (dv 7)) (nomark _)) (dw_and1 (dt_cmp (opd_ne hr) (dv 10) (dv 9) (nomark _)))))))) ?i147 ?i148) ?n149
        case i147 =>
          refine dss_one (ds_ret de_bl)
        case i148 =>
          exact dss_nil
        refine dss_cons (ds_if (DW.dt (dw_or (dt_cmp (opd_ne hr) (de_op opd_mod ?h153 (dv 7)) de_int (nomark _)) (dw_or1 (DW.dt (dw_and (dt_cmp opd_ge (dv 9) (dv 6) (nomark _)) (dw_and1 (dt_cmp opd_lt (dv 10) (dv 6) (nomark _)))))))) ?i151 ?i152) ?n154
        case h153 =>
          exact (de_callTy cb_int (by rfl) m_int (by decide +kernel) (da_cons (de_op opd_sub (dv 9) (dv 10)) da_nil) (by decide) (by decide) (by rfl) (by rfl))
        case i151 =>
          refine dss_one (ds_ret de_bl)
        case i152 =>
          exact dss_nil
        refine dss_cons (ds_set (i := 11) sc_law.nd rfl (.inl rfl) ?h156) ?n157
        case h156 =>
          exact (de_calE c__law_great_bag takesD hr (da_cons (dv 1) (da_cons (dv 3) (da_cons de_int da_nil))) (by omega) (by rfl) (by decide) (by rfl) (by rfl) rfl)
        refine dss_one (ds_if (dt_not (dt_val ?h160)) ?i158 ?i159)
        case h160 =>
          refine (de_calE c__law_same takesD hr (da_cons ?h162 (da_cons ?h163 da_nil)) (by omega) (by rfl) (by decide) (by rfl) (by rfl) rfl)
          case h162 =>
            exact (de_calK0E c_look_of kb_look_of_0_bag_glass takesD hr (dk_cons (dv 11) (dk_cons (dv 4) dk_nil)) (by omega) (by rfl) (by rfl) (by rfl) (by decide) (by rfl) rfl rfl)
          case h163 =>
            refine (de_callTy cb_tuple (by rfl) m_tuple (by decide +kernel) (da_cons ?h164 da_nil) (by decide) (by decide) (by rfl) (by rfl))
            case h164 =>
              refine (de_lc (own := [("_law_count", 14)]) rfl sc_law.nd (di_seq (dv 11)) (blkOk_by (by rfl)) (tgOk_name (by decide)) (fun _ _ _ _ _ => pg_name (i := 14) sc_law.nd rfl (.inl rfl)) (fun _ _ _ _ _ => dts_nil) (fun _ _ _ _ _ => ?h165))
              case h165 =>
                exact (de_calE c_look L2.takes0 hr (da_cons (dv 14) (da_cons (dv 4) da_nil)) (by omega) (by rfl) (by decide) (by rfl) (by rfl) rfl)
        case i158 =>
          refine dss_one (ds_ret de_bl)
        case i159 =>
          exact dss_nil
      refine dss_cons (ds_set (i := 12) sc_law.nd rfl (.inl rfl) ?h167) ?n168
      case h167 =>
        exact (de_calE c_joined_glass takesD hr (da_cons (dv 4) (da_cons (dv 5) da_nil)) (by omega) (by rfl) (by decide) (by rfl) (by rfl) rfl)
      refine dss_cons (ds_if (dt_not (dt_val ?h171)) ?i169 ?i170) ?n172
      case h171 =>
        refine (de_calE c__law_same takesD hr (da_cons (de_lst (da_cons (dv 12) (da_cons ?h173 da_nil))) (da_cons (de_op opd_mul (de_lst (da_cons ?h174 da_nil)) de_int) da_nil)) (by omega) (by rfl) (by decide) (by rfl) (by rfl) rfl)
        case h173 =>
          exact (de_calK0E c_joined_glass kb_joined_glass_0_one_other takesD hr (dk_cons (dv 5) (dk_cons (dv 4) dk_nil)) (by omega) (by rfl) (by rfl) (by rfl) (by decide) (by rfl) rfl rfl)
        case h174 =>
          exact (de_calE c__law_joined takesD hr (da_cons (dv 4) (da_cons (dv 5) da_nil)) (by omega) (by rfl) (by decide) (by rfl) (by rfl) rfl)
      case i169 =>
        refine dss_one (ds_ret de_bl)
      case i170 =>
        exact dss_nil
      refine dss_cons (ds_set (i := 13) sc_law.nd rfl (.inr rfl) ?h176) ?n177
      case h176 =>
        exact (de_calE c__law_pick takesD hr (da_cons (dv 1) (da_cons (de_lst (da_cons (de_tup (da_cons (de_un und_neg de_int) (da_cons de_int da_nil))) (da_cons (de_tup (da_cons de_int (da_cons de_int da_nil))) (da_cons (de_tup (da_cons de_int (da_cons (de_un und_neg de_int) da_nil))) (da_cons (de_tup (da_cons (de_un und_neg de_int) (da_cons de_int da_nil))) da_nil))))) da_nil)) (by omega) (by rfl) (by decide) (by rfl) (by rfl) rfl)
      refine dss_one (ds_if (DW.dt (dw_or (dt_cmp (opd_ne hr) ?h180 (de_tup (da_cons de_str (da_cons de_non da_nil))) (nomark _)) (dw_or1 (dt_cmp opd_notN ?h181 de_non (nomark _))))) ?i178 ?i179)
      case h180 =>
        refine (de_tryX TC hcode hr (LamX.lamS_by (by decide +kernel)) (fun A1 outer1 s1 H1 E1 f1 c1 hrL => ?h183) (by rfl) (by rfl) (by intros; rfl))
        case h183 =>
          exact (de_calE c_check_glass takesL hrL (da_cons (dv 13) da_nil) (by omega) (by rfl) (by decide) (by rfl) (by rfl) rfl)
      case h181 =>
        exact (de_calK0E c_check_glass kb_check_glass_0_glass takesD hr (dk_cons (dv 4) dk_nil) (by omega) (by rfl) (by rfl) (by rfl) (by decide) (by rfl) rfl rfl)
      case i178 =>
        refine dss_one (ds_ret de_bl)
      case i179 =>
        exact dss_nil
    refine dss_one (ds_ret (de_cmp (opd_eq hr) (de_lst (da_cons ?h185 (da_cons ?h186 (da_cons ?h187 da_nil)))) (de_lst (da_cons de_int (da_cons (de_tup (da_cons de_int (da_cons de_int da_nil))) (da_cons (de_tup (da_cons de_int (da_cons de_int da_nil))) da_nil)))) (nomark _)))
    case h185 =>
      exact (de_calE c_look takesD hr (da_cons de_int (da_cons (de_tup (da_cons de_int (da_cons de_int da_nil))) da_nil)) (by omega) (by rfl) (by decide) (by rfl) (by rfl) rfl)
    case h186 =>
      exact (de_calE c_look_of takesD hr (da_cons (de_tup (da_cons de_int (da_cons de_int da_nil))) (da_cons (de_tup (da_cons de_int (da_cons de_int da_nil))) da_nil)) (by omega) (by rfl) (by decide) (by rfl) (by rfl) rfl)
    case h187 =>
      exact (de_calE c_joined_glass takesD hr (da_cons (de_tup (da_cons de_int (da_cons de_int da_nil))) (da_cons (de_tup (da_cons de_int (da_cons de_int da_nil))) da_nil)) (by omega) (by rfl) (by decide) (by rfl) (by rfl) rfl)

end
end DL
namespace DL
open PySem PySem.Spec PyProof.Rows L2
theorem pure_draw (ds : List D) (S : Store) (Qd : DQ) (Ed : DX) (hl : ds.length = 2) (h : spDraw ds S Qd Ed) : t__law_draw { nx := fun _ S' => Qd .non S', rt := Qd, ex := fun x _ S' => Ed x S' } (startD ["_law_rng", "_law_sides", "_law_cell", "_law_digit", "_law_seed"] ds) S := by
  obtain ⟨n, m, rfl, h0, hm, hS, hq⟩ := h
  obtain ⟨S, cs, i, b, s, c, hn, hi, rfl⟩ := hS.ex
  simp only [List.set_set] at hq
  have hD : DivOk m := divOk_small h0 hm
  unfold t__law_draw
  refine seq_gen fun Kk hK => ?_
  simp [startD, hn, ixN]
  subst hK
  refine seq_cut (fun r' S' => (∃ x, r' = [some (.ref n), some (.int m), x, none, none]) ∧ ∃ o, S' = S.set n o ∧ RngO o) (fun Kk hK => ?_) ?_
  · by_cases hc : i < cs.length
    · obtain ⟨v, hv⟩ := atI_ints hi hc
      simp [hn, ixN, hv]
      by_cases hb : b = 0
      · refine .inr ⟨hb, .inr ⟨hc, ?_⟩⟩
        by_cases h1 : v < 1000000000000000000
        · exact .inl ⟨h1, hK _ _ ⟨⟨_, rfl⟩, _, rfl, _, _, _, _, _, by omega, rfl⟩⟩
        · exact .inr ⟨by omega, hK _ _ ⟨⟨_, rfl⟩, _, rfl, _, _, _, _, _, by omega, rfl⟩⟩
      · exact .inl ⟨hb, hK _ _ ⟨⟨_, rfl⟩, _, rfl, _, _, _, _, _, hi, rfl⟩⟩
    · simp [hn, ixN]
      by_cases hb : b = 0
      · exact .inr ⟨hb, .inl ⟨by omega, hK _ _ ⟨⟨_, rfl⟩, _, rfl, _, _, _, _, _, hi, rfl⟩⟩⟩
      · exact .inl ⟨hb, hK _ _ ⟨⟨_, rfl⟩, _, rfl, _, _, _, _, _, hi, rfl⟩⟩
  rintro _ _ ⟨⟨x, rfl⟩, o, rfl, cs, i, b, s, c, hi, rfl⟩
  refine seq_cut (fun r' S' => (∃ x, r' = [some (.ref n), some (.int m), x, none, none]) ∧ S' = S.set n (.lst [.lst (cs.map D.int), .int i, .int b, .int s, .int c])) (fun Kk hK => ?_) ?_
  · simp [hn, ixN, h0, hD]
    by_cases hb : b ≤ 0
    · exact .inl ⟨hb, hK _ _ ⟨⟨_, rfl⟩, rfl⟩⟩
    · exact .inr ⟨by omega, hq _ _ (Int.emod_nonneg _ (by omega)) (Int.emod_lt_of_pos _ h0) ⟨_, _, _, _, _, hi, rfl⟩⟩
  rintro _ _ ⟨⟨x, rfl⟩, rfl⟩
  refine seq_gen fun Kk hK => ?_
  simp [hn, ixN]
  subst hK
  refine seq_gen fun Kk hK => ?_
  simp [hn, ixN]
  subst hK
  simp [hn, ixN, h0, hm]
  exact hq _ _ (Int.emod_nonneg _ (by omega)) (Int.emod_lt_of_pos _ h0) ⟨_, _, _, _, _, hi, rfl⟩
theorem pure_draws (ds : List D) (S : Store) (Qd : DQ) (Ed : DX) (hl : ds.length = 1) (h : spDraws ds S Qd Ed) : t__law_draws { nx := fun _ S' => Qd .non S', rt := Qd, ex := fun x _ S' => Ed x S' } (startD ["_law_script", "_law_state", "_law_cell"] ds) S := by
  obtain ⟨ns, rfl, hq⟩ := h
  have hcut : ∃ ms : List Int, cutD (ns.map D.int) none (some 63) = ms.map D.int := ⟨_, by unfold cutD; rw [← List.map_drop, ← List.map_take]⟩
  obtain ⟨ms, hms⟩ := hcut
  unfold t__law_draws
  refine seq_gen fun Kk hK => ?_
  simp [startD]
  subst hK
  refine seq_gen fun Kk hK => ?_
  simp [dFor, hms]
  refine ⟨fun _ r S' => S' = S ∧ ∃ (v : Int) (x : Option D), r = [some (.fz (ns.map D.int)), some (.int v), x], ⟨rfl, _, _, rfl⟩, ?_, ?_⟩
  · rintro i x r S' y hy rfl ⟨rfl, v, x, rfl⟩
    simp
  · rintro r S' ⟨rfl, v, x, rfl⟩
    subst hK
    simp [hms, sizeLine_eq]
    exact hq _ ⟨ms, 0, 0, v, 0, by omega, rfl⟩
theorem pure_pick (ds : List D) (S : Store) (Qd : DQ) (Ed : DX) (hl : ds.length = 2) (h : spPick ds S Qd Ed) : t__law_pick spDraw { nx := fun _ S' => Qd .non S', rt := Qd, ex := fun x _ S' => Ed x S' } (startD ["_law_rng", "_law_things"] ds) S := by
  obtain ⟨n, xs, rfl, h0, h1, hS, hq⟩ := h
  unfold t__law_pick
  simp [startD]
  refine ⟨n, _, rfl, by omega, by omega, hS, fun x o hx0 hx1 ho => ?_⟩
  obtain ⟨d, hd, e⟩ := atI_mem hx0 hx1
  exact ⟨d, by simpa using e, hq _ _ hd ho⟩
theorem pure_kinds (ds : List D) (S : Store) (Qd : DQ) (Ed : DX) (hl : ds.length = 2) (h : spKinds ds S Qd Ed) : t__law_kinds spDraw spPick { nx := fun _ S' => Qd .non S', rt := Qd, ex := fun x _ S' => Ed x S' } (startD ["_law_rng", "_law_most", "_law_letters", "_law_first", "_law_step", "_law_k"] ds) S := by
  obtain ⟨n, m, rfl, h0, h1, hS, hq⟩ := h
  unfold t__law_kinds
  refine seq_gen fun Kk hK => ?_
  simp [startD, sizeLine_eq]
  refine ⟨n, _, rfl, by omega, by omega, hS, fun f o hf0 hf1 ho => ?_⟩
  simp
  subst hK
  refine seq_gen fun Kk hK => ?_
  simp [sizeLine_eq]
  refine ⟨n, _, rfl, by simp, by simp, hS.set ho, fun s o2 hs ho2 => ?_⟩
  have hs2 : ∃ s' : Int, s = .int s' ∧ s' ∈ ([1, 3, 5, 7, 9, 11, 15, 25] : List Int) := by
    simp only [List.mem_cons, List.not_mem_nil, or_false] at hs
    rcases hs with rfl | rfl | rfl | rfl | rfl | rfl | rfl | rfl <;> exact ⟨_, rfl, by simp⟩
  obtain ⟨s, rfl, hsm⟩ := hs2
  subst hK
  have hsb : -(2 ^ 64) < s ∧ s < 2 ^ 64 := by
    simp only [List.mem_cons, List.not_mem_nil, or_false] at hsm
    omega
  simp [dLc, wipeD]
  refine ⟨n, _, rfl, by omega, by omega, hS.set ho2, fun x o3 hx0 hx1 ho3 => ?_⟩
  simp
  refine ⟨by omega, by omega, fun i acc S' => S' = S.set n o3 ∧ acc = ((kindCps f s i).map fun c => (⟨#[c]⟩ : Str)).map D.str, ⟨rfl, rfl⟩, ?_, ?_⟩
  · rintro i x acc S' hi ⟨rfl, rfl⟩
    obtain ⟨hi, rfl⟩ := rngD_get hi
    simp [hsb, itemD_letters (Int.emod_nonneg _ (by omega : (26 : Int) ≠ 0)) (Int.emod_lt_of_pos _ (by omega : (0 : Int) < 26))]
    refine ⟨mulOk_l hsb, ?_, ?_⟩
    · simp [kindCps, sizeLine_eq]; omega
    · simp [kindCps, List.range_succ, chr1]
  · rintro acc S' ⟨rfl, rfl⟩
    have hk : (rngD 0 (2 + x).toNat).length = (2 + x).toNat := by simp [rngD]
    rw [hk]
    refine ⟨_, _, ⟨_, _, _, rfl, rfl, .inl rfl, ?_, rfl, rfl⟩, ?_⟩
    · have e0 : (Str.ofString "").length = 0 := by decide +kernel
      rw [e0]
      simp [kindCps, Str.length, Function.comp_def, sum_ones]
      omega
    · rw [join_ones]
      exact hq f s _ o3 hf0 hf1 hsm (by omega) (by omega) ho3
theorem pure_bag (ds : List D) (S : Store) (Qd : DQ) (Ed : DX) (hl : ds.length = 3) (h : spBag ds S Qd Ed) : t__law_bag spDraw { nx := fun _ S' => Qd .non S', rt := Qd, ex := fun x _ S' => Ed x S' } (startD ["_law_rng", "_law_kinds_here", "_law_most", "_law_sign"] ds) S := by
  obtain ⟨n, a, m, rfl, ha, h0, h1, hS, hq⟩ := h
  unfold t__law_bag
  simp [startD, dLc, wipeD]
  refine ⟨fun i acc S' => ∃ (cs : List Int) (o : O), acc = cs.map D.int ∧ cs.length = i ∧ (∀ c ∈ cs, 0 ≤ c ∧ c ≤ m) ∧ S' = S.set n o ∧ RngO o, ?_, ?_, ?_⟩
  · obtain ⟨o, hS, ho⟩ := hS
    obtain ⟨hn, e⟩ := List.getElem?_eq_some_iff.mp hS
    exact ⟨[], o, rfl, rfl, by simp, by rw [← e, List.set_getElem_self], ho⟩
  · rintro i x acc S' y hy rfl ⟨cs, o, rfl, hi, hc, rfl, ho⟩
    have hia : i < a.length := (Array.getElem?_eq_some_iff.mp hy).1
    refine ⟨n, _, rfl, by omega, by omega, hS.set ho, fun x o2 hx0 hx1 ho2 => ⟨by simp [sizeLine_eq]; omega, cs ++ [x], o2, by simp, by simp [hi], ?_, by simp, ho2⟩⟩
    intro c hc2
    simp only [List.mem_append, List.mem_singleton] at hc2
    rcases hc2 with hc2 | rfl
    · exact hc c hc2
    · exact ⟨hx0, by omega⟩
  · rintro acc S' ⟨cs, o, rfl, hi, hc, rfl, ho⟩
    exact hq cs o hi hc ho
end DL
namespace DL
open PySem PySem.Spec PyProof.Rows L2
theorem pure_great (ds : List D) (S : Store) (Qd : DQ) (Ed : DX) (hl : ds.length = 3) (h : spGreat ds S Qd Ed) : t__law_great_bag spBag spDraw (exitE S Qd Ed) (startD ["_law_rng", "_law_kinds_here", "_law_most", "_law_found", "_law_count"] ds) S := by
  obtain ⟨n, a, m, rfl, ha, h0, h1, hS, hq⟩ := h
  have hn := hS.lt
  unfold t__law_great_bag
  refine seq_gen fun Kk hK => ?_
  simp [startD, sizeLine_eq]
  subst hK
  have hS2 : RngAt (S ++ [.lst []]) n := by
    obtain ⟨o, e, ho⟩ := hS
    exact ⟨o, by rw [List.getElem?_append_left hn]; exact e, ho⟩
  refine seq_gen fun Kk hK => ?_
  simp [dFor]
  refine ⟨n, a, m, rfl, ha, h0, h1, hS2, fun cs o hcl hc ho => ?_⟩
  refine ⟨_, rfl, fun i r S' => ∃ (es : List Int) (o : O) (x : Option D), r = [some (.ref n), some (.str a), some (.int m), some (.ref S.length), x] ∧ es.length = i ∧ (∀ c ∈ es, 0 ≤ c ∧ c ≤ m + 10 ^ 20 + 1000) ∧ S' = S.set n o ++ [.lst (es.map D.int)] ∧ RngO o, ?_, ?_, ?_⟩
  · exact ⟨[], o, none, rfl, rfl, by simp, by rw [List.set_append_left _ _ hn]; rfl, ho⟩
  · rintro i x r S' hx ⟨es, o, y, rfl, hi, he, rfl, ho⟩
    have hx2 : ∃ c : Int, x = .int c ∧ 0 ≤ c ∧ c ≤ m ∧ i < cs.length := by
      rw [List.getElem?_map] at hx
      obtain ⟨c, hc2, rfl⟩ := Option.map_eq_some_iff.mp hx
      exact ⟨c, rfl, (hc c (List.mem_of_getElem? hc2)).1, (hc c (List.mem_of_getElem? hc2)).2, (List.getElem?_eq_some_iff.mp hc2).1⟩
    obtain ⟨c, rfl, hc0, hc1, hic⟩ := hx2
    have hA : ∀ {o : O} (ho : RngO o), RngAt (S.set n o ++ [.lst (es.map D.int)]) n := fun {o} ho => ⟨o, by rw [List.getElem?_append_left (by simpa using hn), List.getElem?_set_self hn], ho⟩
    simp [tyM, lsv, hn]
    refine ⟨n, _, rfl, by omega, by omega, hA ho, fun x o2 hx0 hx1 ho2 => ?_⟩
    rw [List.set_append_left _ _ (by simpa using hn), List.set_set]
    simp
    refine ⟨n, _, rfl, by omega, by omega, hA ho2, fun y o3 hy0 hy1 ho3 => ?_⟩
    rw [List.set_append_left _ _ (by simpa using hn), List.set_set]
    simp [mfAppend, sizeLine_eq]
    have hxs : x = 0 ∨ x = 1 := by omega
    refine ⟨mulOk_l ⟨by omega, by omega⟩, _, _, ⟨by omega, rfl, rfl⟩, es ++ [c + x * (100000000000000000000 + y)], by simp [hi], ?_, o3, by simp, ho3⟩
    intro d hd
    simp only [List.mem_append, List.mem_singleton] at hd
    rcases hd with hd | rfl
    · exact he d hd
    · rcases hxs with rfl | rfl
      · omega
      · omega
  · rintro r S' ⟨es, o, y, rfl, hi, he, rfl, ho⟩
    subst hK
    simp
    refine ⟨_, bTuple_ref (by rw [List.getElem?_append_right (by simp)]; simp), _, .tup (es.map D.int), Left.set S _ n o (ho.rlt _), .keep (by simp [rlt, rlts_ints]), hq es o ?_ he ho⟩
    rw [hi]; simp [hcl]
def spGlass : DSp := fun ds S Q _ => ∃ (n : Nat) (a : Str), ds = [.ref n, .str a] ∧ 2 ≤ a.length ∧ a.length ≤ 4 ∧ RngAt S n ∧ ∀ (b p : Int) (o : O), 0 ≤ b → b < 9 → 1 ≤ p → p ≤ 6 → RngO o → Q (.tup [.int b, .int p]) (S.set n o)
theorem pure_glass (ds : List D) (S : Store) (Qd : DQ) (Ed : DX) (hl : ds.length = 2) (h : spGlass ds S Qd Ed) : t__law_glass spDraw { nx := fun _ S' => Qd .non S', rt := Qd, ex := fun x _ S' => Ed x S' } (startD ["_law_rng", "_law_kinds_here", "_law_bound"] ds) S := by
  obtain ⟨n, a, rfl, h0, h1, hS, hq⟩ := h
  have hsz : a.length ≤ sizeLine := by rw [sizeLine_eq]; omega
  have hx1 : ∃ z : Int, atI [D.int 9, D.int 5, D.int 3] ((a.length : Int) - 2) = some (.int z) ∧ 3 ≤ z ∧ z ≤ 9 := by
    have h3 : a.length = 2 ∨ a.length = 3 ∨ a.length = 4 := by omega
    rcases h3 with e | e | e <;> rw [e]
    · exact ⟨9, rfl, by omega, by omega⟩
    · exact ⟨5, rfl, by omega, by omega⟩
    · exact ⟨3, rfl, by omega, by omega⟩
  have hx2 : ∃ z : Int, atI [D.int 6, D.int 4, D.int 3] ((a.length : Int) - 2) = some (.int z) ∧ 3 ≤ z ∧ z ≤ 6 := by
    have h3 : a.length = 2 ∨ a.length = 3 ∨ a.length = 4 := by omega
    rcases h3 with e | e | e <;> rw [e]
    · exact ⟨6, rfl, by omega, by omega⟩
    · exact ⟨4, rfl, by omega, by omega⟩
    · exact ⟨3, rfl, by omega, by omega⟩
  obtain ⟨z1, e1, _, _⟩ := hx1
  obtain ⟨z2, e2, _, _⟩ := hx2
  unfold t__law_glass
  refine seq_gen fun Kk hK => ?_
  simp [startD, sizeLine_eq, bLen_s hsz, e1]
  refine ⟨n, _, rfl, by omega, by omega, hS, fun x o hx0 hx1 ho => ?_⟩
  subst hK
  simp [sizeLine_eq, bLen_s hsz, e2]
  refine ⟨n, _, rfl, by omega, by omega, hS.set ho, fun y o2 hy0 hy1 ho2 => ?_⟩
  simp
  exact hq _ _ _ hx0 (by omega) (by omega) (by omega) ho2
def lookZ (x b p : Int) : Int := if x < b + p then x else b + (x - b) % p
def spLook : DSp := fun ds S Q _ => ∃ x b p : Int, ds = [.int x, .tup [.int b, .int p]] ∧ 0 < p ∧ Q (.int (lookZ x b p)) S
theorem pure_look (ds : List D) (S : Store) (Qd : DQ) (Ed : DX) (hl : ds.length = 2) (h : spLook ds S Qd Ed) : t_look { nx := fun _ S' => Qd .non S', rt := Qd, ex := fun x _ S' => Ed x S' } (startD ["number", "glass", "bound", "period"] ds) S := by
  obtain ⟨x, b, p, rfl, h0, hq⟩ := h
  unfold t_look
  unfold lookZ at hq
  simp [startD]
  by_cases hx : x < b + p
  · rw [if_pos hx] at hq
    simp [hx, hq]
  · rw [if_neg hx] at hq
    simp [hx, hq, h0]
    omega
def spLookOf : DSp := fun ds S Q _ => ∃ (cs : List Int) (b p : Int), ds = [.tup (cs.map D.int), .tup [.int b, .int p]] ∧ 0 < p ∧ cs.length ≤ 1000 ∧ Q (.tup (cs.map fun c => .int (lookZ c b p))) S
theorem pure_look_of (ds : List D) (S : Store) (Qd : DQ) (Ed : DX) (hl : ds.length = 2) (h : spLookOf ds S Qd Ed) : t_look_of spLook { nx := fun _ S' => Qd .non S', rt := Qd, ex := fun x _ S' => Ed x S' } (startD ["bag", "glass", "count"] ds) S := by
  obtain ⟨cs, b, p, rfl, h0, hc, hq⟩ := h
  unfold t_look_of
  simp [startD, dLc, wipeD]
  refine ⟨fun i acc S' => S' = S ∧ acc = (cs.take i).map fun c => .int (lookZ c b p), ⟨rfl, by simp⟩, ?_, ?_⟩
  · rintro i x acc S' y hy rfl ⟨rfl, rfl⟩
    have hi : i < cs.length := (List.getElem?_eq_some_iff.mp hy).1
    refine ⟨y, b, p, rfl, h0, by simp [sizeLine_eq]; omega, rfl, ?_⟩
    rw [List.take_succ, hy]
    simp
  · rintro acc S' ⟨rfl, rfl⟩
    rw [List.take_length]
    exact hq
def spCommon : DSp := fun ds S Q _ => ∃ a b : Int, ds = [.int a, .int b] ∧ 0 < a ∧ 0 ≤ b ∧ Q (.int (Int.gcd a b : Nat)) S
theorem gcd_step {a b : Int} (ha : 0 ≤ a) (hb : 0 < b) : Int.gcd b (a % b) = Int.gcd a b := by
  obtain ⟨m, rfl⟩ := Int.eq_ofNat_of_zero_le ha
  obtain ⟨k, rfl⟩ := Int.eq_ofNat_of_zero_le (Int.le_of_lt hb)
  rw [show ((m : Int) % (k : Int)) = ((m % k : Nat) : Int) from rfl, Int.gcd_natCast_natCast, Int.gcd_natCast_natCast, Nat.gcd_comm, ← Nat.gcd_rec, Nat.gcd_comm]
theorem pure_common (ds : List D) (S : Store) (Qd : DQ) (Ed : DX) (hl : ds.length = 2) (h : spCommon ds S Qd Ed) : t_common { nx := fun _ S' => Qd .non S', rt := Qd, ex := fun x _ S' => Ed x S' } (startD ["one", "other"] ds) S := by
  obtain ⟨a, b, rfl, ha, hb, hq⟩ := h
  unfold t_common
  refine seq_gen fun Kk hK => ?_
  simp [startD, dWhile]
  refine ⟨fun m r S' => ∃ c d : Int, r = [some (.int c), some (.int d)] ∧ 0 < c ∧ 0 ≤ d ∧ Int.gcd c d = Int.gcd a b ∧ m = d.toNat ∧ S' = S, ⟨_, a, b, rfl, ha, hb, rfl, rfl, rfl⟩, ?_⟩
  rintro m r S' ⟨c, d, rfl, hc, hd, hg, rfl, rfl⟩
  by_cases h0 : d = 0
  · subst h0
    subst hK
    rw [Int.gcd_zero_right] at hg
    have e : c = (Int.gcd a b : Nat) := by omega
    simp
    rw [e]
    exact hq
  · have h1 : 0 < d := by omega
    simp [h1]
    have h2 := Int.emod_lt_of_pos c h1
    have h3 := Int.emod_nonneg c h0
    refine ⟨(c % d).toNat, by omega, ?_⟩
    have hgs : Int.gcd d (c % d) = Int.gcd a b := by rw [gcd_step (by omega) h1]; exact hg
    simp [hgs, h3]
theorem pure__law_common (ds : List D) (S : Store) (Qd : DQ) (Ed : DX) (hl : ds.length = 2) (h : spCommon ds S Qd Ed) : t__law_common { nx := fun _ S' => Qd .non S', rt := Qd, ex := fun x _ S' => Ed x S' } (startD ["_law_my_one", "_law_my_other"] ds) S := by
  obtain ⟨a, b, rfl, ha, hb, hq⟩ := h
  unfold t__law_common
  refine seq_gen fun Kk hK => ?_
  simp [startD, dWhile]
  refine ⟨fun m r S' => ∃ c d : Int, r = [some (.int c), some (.int d)] ∧ 0 < c ∧ 0 ≤ d ∧ Int.gcd c d = Int.gcd a b ∧ m = d.toNat ∧ S' = S, ⟨_, a, b, rfl, ha, hb, rfl, rfl, rfl⟩, ?_⟩
  rintro m r S' ⟨c, d, rfl, hc, hd, hg, rfl, rfl⟩
  by_cases h0 : d = 0
  · subst h0
    subst hK
    rw [Int.gcd_zero_right] at hg
    have e : c = (Int.gcd a b : Nat) := by omega
    simp
    rw [e]
    exact hq
  · have h1 : 0 < d := by omega
    simp [h1]
    have h2 := Int.emod_lt_of_pos c h1
    have h3 := Int.emod_nonneg c h0
    refine ⟨(c % d).toNat, by omega, ?_⟩
    have hgs : Int.gcd d (c % d) = Int.gcd a b := by rw [gcd_step (by omega) h1]; exact hg
    simp [hgs, h3]
def multZ (a b : Int) : Int := a / (Int.gcd a b : Nat) * b
def spMultiple : DSp := fun ds S Q _ => ∃ a b : Int, ds = [.int a, .int b] ∧ 0 < a ∧ a < 1000000 ∧ 0 < b ∧ b < 1000000 ∧ Q (.int (multZ a b)) S
theorem gcd_pos {a b : Int} (h : 0 < a) : 0 < (Int.gcd a b : Int) ∧ (Int.gcd a b : Int) ≤ a := by
  have h1 : 0 < Int.gcd a b := Int.gcd_pos_of_ne_zero_left b (by omega)
  have h2 : (Int.gcd a b : Int) ∣ a := Int.gcd_dvd_left ..
  exact ⟨by omega, Int.le_of_dvd h h2⟩
theorem pure_multiple (ds : List D) (S : Store) (Qd : DQ) (Ed : DX) (hl : ds.length = 2) (h : spMultiple ds S Qd Ed) : t_multiple spCommon { nx := fun _ S' => Qd .non S', rt := Qd, ex := fun x _ S' => Ed x S' } (startD ["one", "other"] ds) S := by
  obtain ⟨a, b, rfl, ha, ha2, hb, hb2, hq⟩ := h
  unfold t_multiple
  simp [startD]
  have hg := gcd_pos (b := b) ha
  refine ⟨a, b, rfl, ha, by omega, ?_⟩
  simp
  exact ⟨divOk_small hg.1 (by omega), mulOk_r ⟨by omega, by omega⟩, hq⟩
def spJoined : DSp := fun ds S Q _ => ∃ b1 p1 b2 p2 : Int, ds = [.tup [.int b1, .int p1], .tup [.int b2, .int p2]] ∧ 0 < p1 ∧ p1 < 1000000 ∧ 0 < p2 ∧ p2 < 1000000 ∧ Q (.tup [.int (if b2 > b1 then b2 else b1), .int (multZ p1 p2)]) S
theorem pure_joined_glass (ds : List D) (S : Store) (Qd : DQ) (Ed : DX) (hl : ds.length = 2) (h : spJoined ds S Qd Ed) : t_joined_glass spMultiple { nx := fun _ S' => Qd .non S', rt := Qd, ex := fun x _ S' => Ed x S' } (startD ["one", "other"] ds) S := by
  obtain ⟨b1, p1, b2, p2, rfl, h1, h2, h3, h4, hq⟩ := h
  unfold t_joined_glass
  simp [startD, sizeLine_eq]
  exact ⟨p1, p2, rfl, h1, h2, h3, h4, hq⟩
theorem pure__law_joined (ds : List D) (S : Store) (Qd : DQ) (Ed : DX) (hl : ds.length = 2) (h : spJoined ds S Qd Ed) : t__law_joined spCommon { nx := fun _ S' => Qd .non S', rt := Qd, ex := fun x _ S' => Ed x S' } (startD ["_law_my_one", "_law_my_other"] ds) S := by
  obtain ⟨b1, p1, b2, p2, rfl, h1, h2, h3, h4, hq⟩ := h
  unfold t__law_joined
  simp [startD, sizeLine_eq]
  have hg := gcd_pos (b := p2) h1
  refine ⟨p1, p2, rfl, h1, by omega, ?_⟩
  have e : (if (1 : Int) < (Int.gcd p1 p2 : Nat) then ((Int.gcd p1 p2 : Nat) : Int) else 1) = (Int.gcd p1 p2 : Nat) := by
    split <;> omega
  simp
  rw [e]
  exact ⟨divOk_small hg.1 (by omega), mulOk_r ⟨by omega, by omega⟩, hq⟩
def spCheckG (C : Addr) : DSp := fun ds S Q E => ∃ b p : Int, ds = [.tup [.int b, .int p]] ∧ (0 ≤ b ∧ 1 ≤ p → Q .non S) ∧ (¬ (0 ≤ b ∧ 1 ≤ p) → E ⟨C, xns [], [.str "InvalidGlass"]⟩ S)
theorem pure_check_glass {C : Addr} (ds : List D) (S : Store) (Qd : DQ) (Ed : DX) (hl : ds.length = 1) (h : spCheckG C ds S Qd Ed) : t_check_glass C { nx := fun _ S' => Qd .non S', rt := Qd, ex := fun x _ S' => Ed x S' } (startD ["glass", "bound", "period"] ds) S := by
  obtain ⟨b, p, rfl, h1, h2⟩ := h
  unfold t_check_glass
  simp [startD]
  by_cases hb : b < 0
  · simp [hb]
    exact .inr (h2 (by omega))
  · by_cases hp : p < 1
    · simp [hb, hp]
      exact ⟨by omega, .inr (h2 (by omega))⟩
    · simp [hb, hp]
      exact ⟨by omega, by omega, h1 (by omega)⟩
end DL
namespace DL
open PySem PySem.Spec PyProof.Rows L2
theorem same_list {k : Nat} {xs ys : List D} {a b : D} {S : Store} {Qd : DQ} {r : Sl} {E : DX} (hr : r = [some a, some b, none, none]) (hab : (a = .lst xs ∧ b = .lst ys) ∨ (a = .tup xs ∧ b = .tup ys)) (h1 : ∀ d ∈ xs, wd k d = true) (h2 : ∀ d ∈ ys, wd k d = true) (hl : xs.length ≤ 1000000) (he : xs.length = ys.length)
    (hq : ∀ r : Bool, (r = true ↔ xs = ys) → Qd (.bl r) S) :
    dLc (diZip (dCons (dVar 0) (dCons (dVar 1) dNil))) (dgTup 2 (dgCons (dgName 2) (dgCons (dgName 3) dgNil))) dYes (dCall (spSame k) 2 (dCons (dVar 2) (dCons (dVar 3) dNil))) [2, 3] r S (fun d S1 => ∃ z, bAll S1 [d] z ∧ Qd z S1) E := by
  subst hr
  unfold dLc
  simp
  refine ⟨xs, ys, by rcases hab with ⟨rfl, rfl⟩ | ⟨rfl, rfl⟩ <;> simp, fun i acc S' => S' = S ∧ ∃ bs : List Bool, acc = bs.map D.bl ∧ bs.length = i ∧ (false ∉ bs ↔ xs.take i = ys.take i), ⟨rfl, [], rfl, rfl, by simp⟩, ?_, ?_⟩
  · rintro i z acc S' hz ⟨rfl, bs, rfl, hi, hb⟩
    obtain ⟨x, y, hx, hy, rfl⟩ := zipD_get hz
    simp [wipeD]
    have hix : i < xs.length := (List.getElem?_eq_some_iff.mp hx).1
    refine ⟨x, y, rfl, h1 x (List.mem_of_getElem? hx), h2 y (List.mem_of_getElem? hy), fun r hr => ⟨by rw [hi, sizeLine_eq]; omega, rfl, bs ++ [r], by simp, by simp [hi], ?_⟩⟩
    have tk : ∀ (zs : List D) (z : D), zs[i]? = some z → zs.take (i + 1) = zs.take i ++ [z] := fun zs z e => by rw [List.take_succ, e]; rfl
    have e0 : false ∉ bs ++ [r] ↔ (false ∉ bs ∧ r = true) := by cases r <;> simp
    rw [tk xs x hx, tk ys y hy, e0, hb, hr]
    constructor
    · rintro ⟨e1, e2⟩
      rw [e1, e2]
    · intro e
      have := List.append_inj e (by rw [List.length_take, List.length_take]; omega)
      exact ⟨this.1, by simpa using this.2⟩
  · rintro acc S' ⟨rfl, bs, rfl, hi, hb⟩
    refine ⟨_, ⟨_, bs, rfl, rfl, rfl⟩, hq _ ?_⟩
    have e0 : bs.all id = true ↔ false ∉ bs := by simp
    rw [e0, hb, zipD_len, ← he, Nat.min_self, List.take_length, he, List.take_length]
theorem pure_same {k : Nat} (ds : List D) (S : Store) (Qd : DQ) (Ed : DX) (hl : ds.length = 2) (h : spSame (k + 1) ds S Qd Ed) : t__law_same (spSame k) { nx := fun _ S' => Qd .non S', rt := Qd, ex := fun x _ S' => Ed x S' } (startD ["_law_found", "_law_due", "_law_a", "_law_b"] ds) S := by
  obtain ⟨a, b, rfl, ha, hb, hq⟩ := h
  unfold t__law_same
  have hs : startD ["_law_found", "_law_due", "_law_a", "_law_b"] [a, b] = [some a, some b, none, none] := rfl
  rw [hs]
  have plain : (a = .non ∨ (∃ p, a = .bl p) ∨ (∃ p, a = .int p) ∨ ∃ p, a = .str p ∧ PyData.strOk p = true) ∨ (∃ p, a = .tup p ∧ p.length ≤ 1000000 ∧ ∀ d ∈ p, wd k d = true) ∨ ∃ p, a = .lst p ∧ p.length ≤ 1000000 ∧ ∀ d ∈ p, wd k d = true := by
    cases a <;> simp [wd] at ha ⊢ <;> exact ha
  have plainb : (b = .non ∨ (∃ p, b = .bl p) ∨ (∃ p, b = .int p) ∨ ∃ p, b = .str p ∧ PyData.strOk p = true) ∨ (∃ p, b = .tup p ∧ p.length ≤ 1000000 ∧ ∀ d ∈ p, wd k d = true) ∨ ∃ p, b = .lst p ∧ p.length ≤ 1000000 ∧ ∀ d ∈ p, wd k d = true := by
    cases b <;> simp [wd] at hb ⊢ <;> exact hb
  clear ha hb hs
  rcases plainb with hb | ⟨ys, rfl, hy1, hy2⟩ | ⟨ys, rfl, hy1, hy2⟩
  · refine seq_gen fun Kk hK => ?_
    have h1 : dIfS (dB (dIsi2 "list" "tuple" (dVar 1))) = dIfS (dB (dIsi2 "list" "tuple" (dVar 1))) := rfl
    have nb : ∃ n, tyD S b = some n ∧ kitB n "list" = some false ∧ kitB n "tuple" = some false := by
      rcases hb with rfl | ⟨p, rfl⟩ | ⟨p, rfl⟩ | ⟨p, rfl, _⟩
      · exact ⟨_, rfl, by simp, by simp⟩
      · exact ⟨_, rfl, by simp, by simp⟩
      · exact ⟨_, rfl, by simp, by simp⟩
      · exact ⟨_, rfl, by simp, by simp⟩
    obtain ⟨n, e1, e2, e3⟩ := nb
    simp [e1, e2, e3]
    subst hK
    refine seq_gen fun Kk hK => ?_
    simp
    rcases hb with rfl | ⟨p, rfl⟩ | ⟨p, rfl⟩ | ⟨p, rfl, hp⟩
    · simp
      rcases plain with (rfl | ⟨q, rfl⟩ | ⟨q, rfl⟩ | ⟨q, rfl, _⟩) | ⟨q, rfl, _⟩ | ⟨q, rfl, _⟩ <;> simp <;> exact hq _ (by simp)
    · rcases plain with (rfl | ⟨q, rfl⟩ | ⟨q, rfl⟩ | ⟨q, rfl, _⟩) | ⟨q, rfl, _⟩ | ⟨q, rfl, _⟩
      · simp; exact hq _ (by simp)
      all_goals
        simp
        subst hK
        refine seq_gen fun Kk hK => ?_
        simp
        try subst hK
        try simp
        exact hq _ (by simp)
    · rcases plain with (rfl | ⟨q, rfl⟩ | ⟨q, rfl⟩ | ⟨q, rfl, _⟩) | ⟨q, rfl, _⟩ | ⟨q, rfl, _⟩
      · simp; exact hq _ (by simp)
      all_goals
        simp
        subst hK
        refine seq_gen fun Kk hK => ?_
        simp
        try subst hK
        try simp
        exact hq _ (by simp)
    · rcases plain with (rfl | ⟨q, rfl⟩ | ⟨q, rfl⟩ | ⟨q, rfl, hq2⟩) | ⟨q, rfl, _⟩ | ⟨q, rfl, _⟩
      · simp; exact hq _ (by simp)
      all_goals
        simp
        subst hK
        refine seq_gen fun Kk hK => ?_
        simp
        try subst hK
        try simp [fEq_ss hq2 hp]
        try simp
        exact hq _ (by simp)
  · refine seq_gen fun Kk hK => ?_
    simp
    rcases plain with hsc | ⟨xs, rfl, hx1, hx2⟩ | ⟨q, rfl, _⟩
    · rcases hsc with rfl | ⟨q, rfl⟩ | ⟨q, rfl⟩ | ⟨q, rfl, _⟩ <;> simp <;> exact hq _ (by simp)
    · simp
      by_cases he : xs.length = ys.length
      · simp [he]
        exact same_list (xs := xs) (ys := ys) rfl (.inr ⟨rfl, rfl⟩) hx2 hy2 hx1 he fun r hr => hq r (by rw [hr]; simp)
      · refine .inl ⟨by omega, hq _ ?_⟩
        simp
        intro e
        exact he (by rw [e])
    · simp
      exact hq _ (by simp)
  · refine seq_gen fun Kk hK => ?_
    simp
    rcases plain with hsc | ⟨q, rfl, _⟩ | ⟨xs, rfl, hx1, hx2⟩
    · rcases hsc with rfl | ⟨q, rfl⟩ | ⟨q, rfl⟩ | ⟨q, rfl, _⟩ <;> simp <;> exact hq _ (by simp)
    · simp
      exact hq _ (by simp)
    · simp
      by_cases he : xs.length = ys.length
      · simp [he]
        exact same_list (xs := xs) (ys := ys) rfl (.inl ⟨rfl, rfl⟩) hx2 hy2 hx1 he fun r hr => hq r (by rw [hr]; simp)
      · refine .inl ⟨by omega, hq _ ?_⟩
        simp
        intro e
        exact he (by rw [e])
end DL
namespace DL
open PySem PySem.Spec PyProof.Rows L2
def spLaw : DSp := fun ds S Q _ => ∃ ns : List Int, ds = [.fz (ns.map D.int)] ∧ ∀ S', Q (.bl true) S'
theorem lookZ_ok {x b p : Int} (hx : 0 ≤ x) (hb : 0 ≤ b) (hp : 0 < p) : 0 ≤ lookZ x b p ∧ lookZ x b p < b + p ∧ (x < b + p → lookZ x b p = x) ∧ (x - lookZ x b p) % p = 0 ∧ (b ≤ x → b ≤ lookZ x b p) := by
  unfold lookZ
  by_cases h : x < b + p
  · rw [if_pos h]
    exact ⟨hx, h, fun _ => rfl, by simp, fun h => h⟩
  · rw [if_neg h]
    have h1 := Int.emod_nonneg (x - b) (by omega : p ≠ 0)
    have h2 := Int.emod_lt_of_pos (x - b) hp
    refine ⟨by omega, by omega, fun z => absurd z h, ?_, fun _ => by omega⟩
    have e : x - (b + (x - b) % p) = (x - b) - (x - b) % p := by omega
    rw [e, Int.sub_emod, Int.emod_emod, ← Int.sub_emod]
    simp
theorem mult_comm {a b : Int} (ha : 0 < a) (hb : 0 < b) : multZ a b = multZ b a := by
  unfold multZ
  rw [Int.gcd_comm b a]
  have h1 : (Int.gcd a b : Int) ∣ a := Int.gcd_dvd_left ..
  have h2 : (Int.gcd a b : Int) ∣ b := Int.gcd_dvd_right ..
  have hg := gcd_pos (b := b) ha
  obtain ⟨c, hc⟩ := h1
  obtain ⟨d, hd⟩ := h2
  have e1 : a / (Int.gcd a b : Nat) = c := by rw [Int.ediv_eq_of_eq_mul_right (by omega) hc]
  have e2 : b / (Int.gcd a b : Nat) = d := by rw [Int.ediv_eq_of_eq_mul_right (by omega) hd]
  rw [e1, e2]
  calc c * b = c * ((Int.gcd a b : Nat) * d) := by rw [← hd]
    _ = d * ((Int.gcd a b : Nat) * c) := by rw [Int.mul_comm, Int.mul_assoc, Int.mul_left_comm]
    _ = d * a := by rw [← hc]
theorem pure_law {C : Addr} {okc : Addr → Prop} (hC : okc C) (ds : List D) (S : Store) (Qd : DQ) (Ed : DX) (hl : ds.length = 1) (h : spLaw ds S Qd Ed) :
    t_law spDraws spKinds spGlass spPick spDraw spLook spGreat (spSame 4) spLookOf spJoined spJoined (spCheckG C) okc { nx := fun _ S' => Qd .non S', rt := Qd, ex := fun x _ S' => Ed x S' } (startD ["_law_script", "_law_rng", "_law_turn", "_law_good", "_law_my_glass", "_law_my_other", "_law_bound", "_law_period", "_law_again", "_law_number", "_law_found", "_law_my_bag", "_law_both", "_law_bad", "_law_count"] ds) S := by
  obtain ⟨ns, rfl, hq⟩ := h
  unfold t_law
  refine seq_gen fun Kk hK => ?_
  simp [startD]
  refine ⟨ns, rfl, fun o0 ho0 => ?_⟩
  subst hK
  generalize hn0 : List.length S = n0
  have hB : RngAt (S ++ [o0]) n0 := ⟨o0, by rw [← hn0]; simp, ho0⟩
  generalize S ++ [o0] = B at hB
  refine seq_cut (fun r S' => True) (fun Kk hK => ?_) ?_
  · simp [dFor, -dSeq_rd]
    refine ⟨fun _ r S' => (∃ o, S' = B.set n0 o ∧ RngO o) ∧ ∃ x2 x3 x4 x5 x6 x7 x8 x9 x10 x11 x12 x13 x14, r = [some (.fz (ns.map D.int)), some (.ref n0), x2, x3, x4, x5, x6, x7, x8, x9, x10, x11, x12, x13, x14], ?_, ?_, fun r S' _ => hK _ _ trivial⟩
    · refine ⟨?_, _, _, _, _, _, _, _, _, _, _, _, _, _, rfl⟩
      obtain ⟨o, hS, ho⟩ := hB
      obtain ⟨hn, e⟩ := List.getElem?_eq_some_iff.mp hS
      exact ⟨o, by rw [← e, List.set_getElem_self], ho⟩
    rintro i x r S' hx ⟨⟨o, rfl, ho⟩, x2, x3, x4, x5, x6, x7, x8, x9, x10, x11, x12, x13, x14, rfl⟩
    clear hx
    refine seq_gen fun Kk hK => ?_
    simp
    refine ⟨n0, _, rfl, by omega, by omega, hB.set ho, fun f s k o hf0 hf1 hs hk0 hk1 ho => ?_⟩
    subst hK
    have hal : (kindStr f s k).length = k := kindStr_len
    generalize kindStr f s k = a at hal
    refine seq_gen fun Kk hK => ?_
    simp
    refine ⟨n0, a, rfl, by omega, by omega, hB.set ho, fun b p o hb0 hb1 hp0 hp1 ho => ?_⟩
    simp
    refine ⟨n0, a, rfl, by omega, by omega, hB.set ho, fun b2 p2 o hb20 hb21 hp20 hp21 ho => ?_⟩
    simp [sizeLine_eq]
    subst hK
    refine seq_gen fun Kk hK => ?_
    simp
    subst hK
    refine seq_cut (fun r S' => (∃ o, S' = B.set n0 o ∧ RngO o) ∧ ∃ x2 x8 x9 x10 x11 x12 x13 x14, r = [some (.fz (ns.map D.int)), some (.ref n0), x2, some (.str a), some (.tup [.int b, .int p]), some (.tup [.int b2, .int p2]), some (.int b), some (.int p), x8, x9, x10, x11, x12, x13, x14]) (fun Kk hK => ?_) ?_
    · simp [dFor, -dSeq_rd]
      refine ⟨fun _ r S' => (∃ o, S' = B.set n0 o ∧ RngO o) ∧ ∃ x2 x8 x9 x10 x11 x12 x13 x14, r = [some (.fz (ns.map D.int)), some (.ref n0), x2, some (.str a), some (.tup [.int b, .int p]), some (.tup [.int b2, .int p2]), some (.int b), some (.int p), x8, x9, x10, x11, x12, x13, x14], ⟨⟨_, rfl, ho⟩, _, _, _, _, _, _, _, _, rfl⟩, ?_, fun r S' h => hK _ _ h⟩
      clear hK ho
      rintro i x r S' hx ⟨⟨o, rfl, ho⟩, x2, x8, x9, x10, x11, x12, x13, x14, rfl⟩
      clear hx
      refine seq_gen fun Kk hK => ?_
      simp
      refine ⟨n0, _, rfl, by omega, by omega, hB.set ho, fun y o hy0 hy1 ho => ?_⟩
      simp
      refine ⟨n0, _, rfl, by omega, by omega, hB.set ho, fun y2 o hy20 hy21 ho => ?_⟩
      simp [sizeLine_eq]
      refine ⟨n0, _, rfl, by simp, by simp, hB.set ho, fun z o hz ho => ?_⟩
      have hz2 : ∃ v : Int, z = .int v ∧ 0 ≤ v := by
        simp only [List.mem_cons, List.not_mem_nil, or_false] at hz
        rcases hz with rfl | rfl
        · exact ⟨_, rfl, hy0⟩
        · exact ⟨_, rfl, by omega⟩
      obtain ⟨v, rfl, hv⟩ := hz2
      subst hK
      refine seq_gen fun Kk hK => ?_
      simp
      refine ⟨v, b, p, rfl, by omega, ?_⟩
      obtain ⟨l1, l2, l3, l4, l5⟩ := lookZ_ok hv hb0 (show 0 < p by omega)
      subst hK
      generalize lookZ v b p = l at l1 l2 l3 l4 l5
      refine seq_cut (fun r' S' => r' = [some (.fz (ns.map D.int)), some (.ref n0), x2, some (.str a), some (.tup [.int b, .int p]), some (.tup [.int b2, .int p2]), some (.int b), some (.int p), some x, some (.int v), some (.int l), x11, x12, x13, x14] ∧ S' = B.set n0 o) (fun Kk hK => ?_) ?_
      · have hK' := hK _ _ ⟨rfl, rfl⟩
        by_cases hvb : v < b + p
        · have e := l3 hvb
          subst e
          simp [l1, hvb, hK']
        · simp [l1, l2, hvb, hK']
      rintro _ _ ⟨rfl, rfl⟩
      refine seq_cut (fun r' S' => r' = [some (.fz (ns.map D.int)), some (.ref n0), x2, some (.str a), some (.tup [.int b, .int p]), some (.tup [.int b2, .int p2]), some (.int b), some (.int p), some x, some (.int v), some (.int l), x11, x12, x13, x14] ∧ S' = B.set n0 o) (fun Kk hK => ?_) ?_
      · have hK' := hK _ _ ⟨rfl, rfl⟩
        have hpp : 0 < p := by omega
        by_cases hvb : b ≤ v
        · have e := l5 hvb
          have e' : ¬ l < b := by omega
          simp [l4, hpp, hvb, e, e', hK']
        · simp [l4, hpp, hvb, hK']
      rintro _ _ ⟨rfl, rfl⟩
      refine seq_gen fun Kk hK => ?_
      simp
      refine ⟨n0, a, 20, rfl, by omega, by omega, by omega, hB.set ho, fun cs o hcl hc ho => ?_⟩
      subst hK
      simp
      refine ⟨rfl, cs, b, p, rfl, by omega, by omega, ?_⟩
      simp [dLc, wipeD]
      refine ⟨fun i acc S' => S' = B.set n0 o ∧ acc = (cs.take i).map fun c => .int (lookZ c b p), ⟨rfl, by simp⟩, ?_, ?_⟩
      · rintro i x acc S' w hw rfl ⟨rfl, rfl⟩
        have hi : i < cs.length := (List.getElem?_eq_some_iff.mp hw).1
        refine ⟨w, b, p, rfl, by omega, by simp [sizeLine_eq]; omega, rfl, ?_⟩
        rw [List.take_succ, hw]
        simp
      · rintro acc S' ⟨rfl, rfl⟩
        rw [List.take_length]
        have hw : wd 4 (.tup (cs.map fun c => .int (lookZ c b p))) = true := by simp [wd]; omega
        refine ⟨_, _, rfl, hw, hw, fun r hr => .inr ⟨by rw [hr.mpr rfl], o, rfl, ho⟩⟩
    clear ho
    rintro _ _ ⟨⟨o, rfl, ho⟩, x2, x8, x9, x10, x11, x12, x13, x14, rfl⟩
    refine seq_gen fun Kk hK => ?_
    simp
    refine ⟨b, p, b2, p2, rfl, by omega, by omega, by omega, by omega, ?_⟩
    subst hK
    refine seq_cut (fun r' S' => r' = [some (.fz (ns.map D.int)), some (.ref n0), x2, some (.str a), some (.tup [.int b, .int p]), some (.tup [.int b2, .int p2]), some (.int b), some (.int p), x8, x9, x10, x11, some (.tup [.int (if b2 > b then b2 else b), .int (multZ p p2)]), x13, x14] ∧ S' = B.set n0 o) (fun Kk hK => ?_) ?_
    · have hK' := hK _ _ ⟨rfl, rfl⟩
      simp
      refine ⟨rfl, b2, p2, b, p, rfl, by omega, by omega, by omega, by omega, ?_⟩
      simp [sizeLine_eq]
      refine ⟨b, p, b2, p2, rfl, by omega, by omega, by omega, by omega, ?_⟩
      have em : (if b2 < b then b else b2) = (if b < b2 then b2 else b) := by split <;> split <;> omega
      have ec : multZ p2 p = multZ p p2 := mult_comm (by omega) (by omega)
      simp [sizeLine_eq]
      rw [em, ec]
      refine ⟨.lst [.tup [.int (if b < b2 then b2 else b), .int (multZ p p2)], .tup [.int (if b < b2 then b2 else b), .int (multZ p p2)]], ⟨_, rfl, by omega, by omega, by simp [sizeLine_eq], rfl⟩, _, _, rfl, ?_, ?_, fun r hr => .inr ⟨by rw [hr.mpr rfl], hK'⟩⟩ <;> simp [wd]
    rintro _ _ ⟨rfl, rfl⟩
    refine seq_gen fun Kk hK => ?_
    simp [sizeLine_eq]
    refine ⟨n0, _, rfl, by simp, by simp, hB.set ho, fun z o hz ho => ?_⟩
    subst hK
    have hz2 : ∃ b p : Int, z = .tup [.int b, .int p] ∧ ¬ (0 ≤ b ∧ 1 ≤ p) := by
      simp only [List.mem_cons, List.not_mem_nil, or_false] at hz
      rcases hz with rfl | rfl | rfl | rfl <;> exact ⟨_, _, rfl, by omega⟩
    obtain ⟨b3, p3, rfl, h3⟩ := hz2
    simp [sizeLine_eq]
    refine ⟨b3, p3, rfl, fun z => absurd z h3, fun _ => ⟨hC, .str "InvalidGlass", .non, ⟨_, rfl, rfl, .inl ⟨rfl, rfl⟩⟩, ?_⟩⟩
    refine ⟨.bl false, fNe_tt (by decide +kernel) (by decide +kernel) (by decide +kernel), .inl ⟨rfl, rfl, b, p, rfl, fun _ => .inl ⟨rfl, o, rfl, ho⟩, fun z => absurd ⟨hb0, hp0⟩ z⟩⟩
  · rintro r S' _
    simp [sizeLine_eq]
    refine ⟨7, 2, 3, rfl, by omega, [1, 9], 0, 1, rfl, by omega, by simp, 2, 4, 5, 6, rfl, by omega, by omega, by omega, by omega, .bl true, fEq_ll (by decide +kernel) (by decide +kernel) (by decide +kernel), hq _⟩
end DL
namespace DL
open PySem PySem.Spec PyProof.Rows L2
def inCls (s : Stmt) (i : Nat) : Stmt := match s with
  | .ClassDef _ _ _ b _ _ _ _ _ _ _ => b.getD i (.Pass ⟨0,0,0,0⟩)
  | _ => .Pass ⟨0,0,0,0⟩
abbrev s_InvalidGlass___init__ : Stmt := inCls (topS 3) 0
abbrev s__law_field : Stmt := topS 16
abbrev s__law_try : Stmt := topS 17
def D_InvalidGlass___init__ : He.DefD := ⟨("InvalidGlass", some "__init__"), "__init__", "InvalidGlass.__init__", defArgs s_InvalidGlass___init__, defBody s_InvalidGlass___init__, defScope s_InvalidGlass___init__, [], []⟩
def D_check_glass : He.DefD := ⟨("check_glass", none), "check_glass", "check_glass", defArgs s_check_glass, defBody s_check_glass, defScope s_check_glass, [], []⟩
def D_look : He.DefD := ⟨("look", none), "look", "look", defArgs s_look, defBody s_look, defScope s_look, [], []⟩
def D_look_of : He.DefD := ⟨("look_of", none), "look_of", "look_of", defArgs s_look_of, defBody s_look_of, defScope s_look_of, [], []⟩
def D_common : He.DefD := ⟨("common", none), "common", "common", defArgs s_common, defBody s_common, defScope s_common, [], []⟩
def D_multiple : He.DefD := ⟨("multiple", none), "multiple", "multiple", defArgs s_multiple, defBody s_multiple, defScope s_multiple, [], []⟩
def D_joined_glass : He.DefD := ⟨("joined_glass", none), "joined_glass", "joined_glass", defArgs s_joined_glass, defBody s_joined_glass, defScope s_joined_glass, [], []⟩
def D__law_draws : He.DefD := ⟨("_law_draws", none), "_law_draws", "_law_draws", defArgs s__law_draws, defBody s__law_draws, defScope s__law_draws, [], []⟩
def D__law_draw : He.DefD := ⟨("_law_draw", none), "_law_draw", "_law_draw", defArgs s__law_draw, defBody s__law_draw, defScope s__law_draw, [], []⟩
def D__law_pick : He.DefD := ⟨("_law_pick", none), "_law_pick", "_law_pick", defArgs s__law_pick, defBody s__law_pick, defScope s__law_pick, [], []⟩
def D__law_same : He.DefD := ⟨("_law_same", none), "_law_same", "_law_same", defArgs s__law_same, defBody s__law_same, defScope s__law_same, [], []⟩
def D__law_field : He.DefD := ⟨("_law_field", none), "_law_field", "_law_field", defArgs s__law_field, defBody s__law_field, defScope s__law_field, [], []⟩
def D__law_try : He.DefD := ⟨("_law_try", none), "_law_try", "_law_try", defArgs s__law_try, defBody s__law_try, defScope s__law_try, [], []⟩
def D__law_kinds : He.DefD := ⟨("_law_kinds", none), "_law_kinds", "_law_kinds", defArgs s__law_kinds, defBody s__law_kinds, defScope s__law_kinds, [], []⟩
def D__law_bag : He.DefD := ⟨("_law_bag", none), "_law_bag", "_law_bag", defArgs s__law_bag, defBody s__law_bag, defScope s__law_bag, [], []⟩
def D__law_great_bag : He.DefD := ⟨("_law_great_bag", none), "_law_great_bag", "_law_great_bag", defArgs s__law_great_bag, defBody s__law_great_bag, defScope s__law_great_bag, [], []⟩
def D__law_glass : He.DefD := ⟨("_law_glass", none), "_law_glass", "_law_glass", defArgs s__law_glass, defBody s__law_glass, defScope s__law_glass, [], []⟩
def D__law_common : He.DefD := ⟨("_law_common", none), "_law_common", "_law_common", defArgs s__law_common, defBody s__law_common, defScope s__law_common, [], []⟩
def D__law_joined : He.DefD := ⟨("_law_joined", none), "_law_joined", "_law_joined", defArgs s__law_joined, defBody s__law_joined, defScope s__law_joined, [], []⟩
def D_law : He.DefD := ⟨("law", none), "law", "law", defArgs s_law, defBody s_law, defScope s_law, [], []⟩
def fnL : List He.DefD := [D_InvalidGlass___init__, D_check_glass, D_look, D_look_of, D_common, D_multiple, D_joined_glass, D__law_draws, D__law_draw, D__law_pick, D__law_same, D__law_field, D__law_try, D__law_kinds, D__law_bag, D__law_great_bag, D__law_glass, D__law_common, D__law_joined, D_law]
def faL : List He.Fa := [.glo "BagError", .glo "Missing", .glo "InvalidGlass", .glo "check_glass", .glo "look", .glo "look_of", .glo "common", .glo "multiple", .glo "joined_glass", .glo "_law_draws", .glo "_law_draw", .glo "_law_pick", .glo "_law_same", .glo "_law_field", .glo "_law_try", .glo "_law_kinds", .glo "_law_bag", .glo "_law_great_bag", .glo "_law_glass", .glo "_law_common", .glo "_law_joined", .glo "law", .free "len", .free "tuple", .free "range", .free "isinstance", .free "list", .free "bool", .free "int", .free "str", .free "max", .free "all", .free "zip"]
def tfL : List He.Defn := [("law", none)]
def exL (K : PySem.W.Frag) : Bool := xclB K "InvalidGlass"
abbrev Rl : PySem.W.OpenRow := PySem.W.OpenLaw.row PySem.Challenge.rw_bagturns_k08_looks_of_numbers_and_bags
abbrev hkL : PySem.W.Hook := He.hookX 4 faL fnL [] tfL exL
def obL (s : PySem.W.SharedT) : He.AlX := He.obsX 4 faL fnL [] tfL exL (HandSHeadRun.getT s)
theorem obL_eq (s : PySem.W.SharedT) : obL s = hkL.obs s.abs := He.obsX_eq (HandSHeadRun.getT_eq s)
def looseL : List Str := ["BagError", "Missing", "InvalidGlass", "check_glass", "look", "look_of", "common", "multiple", "joined_glass", "_law_draws", "_law_draw", "_law_pick", "_law_same", "_law_field", "_law_try", "_law_kinds", "_law_bag", "_law_great_bag", "_law_glass", "_law_common", "_law_joined"]
theorem runL (w : World) : HandSHeadRun.RunEq Rl (PySem.W.view Rl.prog [24]) hkL obL 3000 looseL w := by
  intro os
  kernel_rfl
-- law at 24
end DL
namespace DL
open PySem PySem.Spec PyProof.Rows L2
theorem sc__law_field : FnScope ["_law_e"] ["_law_e"] (defScope s__law_field) := ⟨rfl, rfl, rfl, by decide +kernel, rfl, by decide +kernel, by decide +kernel⟩
theorem sc__law_try : FnScope ["_law_ask", "_law_e"] ["_law_ask"] (defScope s__law_try) := ⟨rfl, rfl, rfl, by decide +kernel, rfl, by decide +kernel, by decide +kernel⟩
section
variable {P : Program} {w : World} {K : PySem.W.Frag} {mg : Str → Option Value} {base : Heap}
theorem w__law_field {f : Addr} {cdv : Value} {A : Around} {outer : List Env} {s : Shared} {H : Hp} {p : Addr × Obj} :
    PSs (L2H.cxH CX0 P w K mg base ["_law_e"] "_law_field" (defScope s__law_field) f cdv A outer s H E0 p) (defBody s__law_field) (tField (L2H.cxH CX0 P w K mg base ["_law_e"] "_law_field" (defScope s__law_field) f cdv A outer s H E0 p) p) := by
  have hp : p ∈ (L2H.cxH CX0 P w K mg base ["_law_e"] "_law_field" (defScope s__law_field) f cdv A outer s H E0 p).pn := List.mem_cons_self
  refine pss_cons (ps_if (pt_cmpR op_in_seq (pe_xp hp (pv 0)) (pe_tup (pa_cons pe_str (pa_cons pe_str (pa_cons pe_str pa_nil)))) (by rfl)) (pss_one (ps_ret (pe_xp hp (pv 0)))) pss_nil) ?_
  refine pss_cons (ps_if (pt_cmpR op_in_seq (pe_xp hp (pv 0)) (pe_tup (pa_cons pe_str (pa_cons pe_str (pa_cons pe_str (pa_cons pe_str (pa_cons pe_str (pa_cons pe_str pa_nil))))))) (by rfl)) (pss_one (ps_ret (pe_xp hp (pv 0)))) pss_nil) ?_
  refine pss_cons (ps_if (pt_cmpR op_in_seq (pe_xp hp (pv 0)) (pe_tup (pa_cons pe_str (pa_cons pe_str pa_nil))) (by rfl)) (pss_one (ps_ret (pe_xp hp (pv 0)))) pss_nil) ?_
  refine pss_cons (ps_if (pt_cmpR op_eq (pe_xp hp (pv 0)) pe_str (nomark _)) (pss_one (ps_ret (pe_xp hp (pv 0)))) pss_nil) ?_
  exact pss_one (ps_ret (pe_ifExp (pt_cmpR op_eq (pe_xp hp (pv 0)) pe_str (nomark _)) (pe_tup (pa_cons (pe_xp hp (pv 0)) (pa_cons (pe_xp hp (pv 0)) pa_nil))) pe_non))
theorem fp__law_field {f : Addr} {fd : FuncData} (F : FunS K "_law_field" "_law_field" s__law_field [] [] f fd) : FnP P w K mg base 2 f fd ["_law_e"] (spField K) :=
  fnP_of (k := 1) F sc__law_field (fun p vs H Q E ⟨C, dd, fs, c, v, gs, e, _⟩ => by rw [e]; rfl) fun cdv A outer s H vs Q p hr h => ⟨_, w__law_field, field_rd h⟩
end
end DL
namespace DL
open PySem PySem.Spec PyProof.Rows L2
theorem Cal.of {P : Program} {w : World} {K : PySem.W.Frag} {mg : Str → Option Value} {base : Heap} {T : List (Addr × Str)} {x : Str} {st : Stmt} {k : Nat} {f : Addr} {fd : FuncData} {ps : List Str} {sp : DSp} (F : FunS K x x st [] [] f fd) (g : mg x = some (.ref f)) (D : FnD P w K mg base T k f fd ps sp)
    (h : ∀ (kV doc pm : Value) (an : Option Addr) (cdv ct : Value) (us : List Value), us.length = ps.length → bindArgs (PySem.W.fnOf x x (defArgs st) (defBody st) (defScope st) .none kV doc pm an cdv ct) ⟨us, []⟩ = pure (ps.zip us)) : Cal P w K mg base T x k f fd ps sp := ⟨D, g, F.kp, F.bd h⟩
theorem law_start {K : PySem.W.Frag} {H : Hp} {a : Addr} {ns : List Int} {pt : Addr × Addr} {q : Str} (hT : ∀ p ∈ [pt], H p.2 = some (.tbl #[])) (hS : SqL K H a (ns.map V.int)) : spD K [(pt.2, q)] 1 spLaw [.ref a] H (fun v _ => v = .bl true) fun _ _ _ => False := by
  have g : GoodS K [(pt.2, q)] ⟨[], []⟩ [] H := by
    refine ⟨rfl, by simp, fun n a o h => by simp at h, fun p hp => by simp at hp, fun p hp => ?_⟩
    rw [List.mem_singleton.mp hp]
    exact ⟨#[], hT pt (List.mem_singleton.mpr rfl), trivial, fun pos cv h => by cases h⟩
  refine ⟨⟨[], []⟩, [], [.fz (ns.map D.int)], fun d _ => d = .bl true, fun _ _ => False, g, Reps.one ⟨a, _, rfl, ?_, Reps.ofInts ns⟩, rfl, ⟨ns, rfl, fun _ => rfl⟩, fun d S' g' H' v e _ _ r => ?_, fun x S' g' H' c dd z _ _ _ => z⟩
  · rcases hS with h | h
    · exact .inl ⟨h, fun z => by rcases z with z | z <;> cases z⟩
    · exact .inr h
  · subst e; exact r
theorem facts {P : Program} {w : World} {K : PySem.W.Frag} {h : Heap} {mg : Str → Option Value} (X : K.In h) (G : h.Ns mainGlobals mg) (c : He.SaysX faL fnL [] tfL exL w h K) :
    ∃ fd : FuncData, (∀ (s : Shared) (v : Value), BindsTo s fd ⟨[v], []⟩ [("_law_script", v)]) ∧ ∀ base : Heap, K.In base → base.Ns mainGlobals mg → (∀ p ∈ [He.cT K ("law", none)], LamX.TabB base mg p.1 p.2) →
      FnD P w K mg base [((He.cT K ("law", none)).2, "law" ++ ".<locals>." ++ "<lambda>")] 9 (He.ga K "law") fd ["_law_script"] spLaw := by
  obtain ⟨fd_InvalidGlass___init__, F_InvalidGlass___init__⟩ := c.t.d.def_ 0 (d := D_InvalidGlass___init__) rfl
  replace F_InvalidGlass___init__ : FunS K "__init__" "InvalidGlass.__init__" s_InvalidGlass___init__ [] [] (He.ma K (He.ga K "InvalidGlass") "__init__") fd_InvalidGlass___init__ := F_InvalidGlass___init__
  obtain ⟨fd_check_glass, F_check_glass⟩ := c.t.d.def_ 1 (d := D_check_glass) rfl
  replace F_check_glass : FunS K "check_glass" "check_glass" s_check_glass [] [] (He.ga K "check_glass") fd_check_glass := F_check_glass
  obtain ⟨fd_look, F_look⟩ := c.t.d.def_ 2 (d := D_look) rfl
  replace F_look : FunS K "look" "look" s_look [] [] (He.ga K "look") fd_look := F_look
  obtain ⟨fd_look_of, F_look_of⟩ := c.t.d.def_ 3 (d := D_look_of) rfl
  replace F_look_of : FunS K "look_of" "look_of" s_look_of [] [] (He.ga K "look_of") fd_look_of := F_look_of
  obtain ⟨fd_common, F_common⟩ := c.t.d.def_ 4 (d := D_common) rfl
  replace F_common : FunS K "common" "common" s_common [] [] (He.ga K "common") fd_common := F_common
  obtain ⟨fd_multiple, F_multiple⟩ := c.t.d.def_ 5 (d := D_multiple) rfl
  replace F_multiple : FunS K "multiple" "multiple" s_multiple [] [] (He.ga K "multiple") fd_multiple := F_multiple
  obtain ⟨fd_joined_glass, F_joined_glass⟩ := c.t.d.def_ 6 (d := D_joined_glass) rfl
  replace F_joined_glass : FunS K "joined_glass" "joined_glass" s_joined_glass [] [] (He.ga K "joined_glass") fd_joined_glass := F_joined_glass
  obtain ⟨fd__law_draws, F__law_draws⟩ := c.t.d.def_ 7 (d := D__law_draws) rfl
  replace F__law_draws : FunS K "_law_draws" "_law_draws" s__law_draws [] [] (He.ga K "_law_draws") fd__law_draws := F__law_draws
  obtain ⟨fd__law_draw, F__law_draw⟩ := c.t.d.def_ 8 (d := D__law_draw) rfl
  replace F__law_draw : FunS K "_law_draw" "_law_draw" s__law_draw [] [] (He.ga K "_law_draw") fd__law_draw := F__law_draw
  obtain ⟨fd__law_pick, F__law_pick⟩ := c.t.d.def_ 9 (d := D__law_pick) rfl
  replace F__law_pick : FunS K "_law_pick" "_law_pick" s__law_pick [] [] (He.ga K "_law_pick") fd__law_pick := F__law_pick
  obtain ⟨fd__law_same, F__law_same⟩ := c.t.d.def_ 10 (d := D__law_same) rfl
  replace F__law_same : FunS K "_law_same" "_law_same" s__law_same [] [] (He.ga K "_law_same") fd__law_same := F__law_same
  obtain ⟨fd__law_field, F__law_field⟩ := c.t.d.def_ 11 (d := D__law_field) rfl
  replace F__law_field : FunS K "_law_field" "_law_field" s__law_field [] [] (He.ga K "_law_field") fd__law_field := F__law_field
  obtain ⟨fd__law_try, F__law_try⟩ := c.t.d.def_ 12 (d := D__law_try) rfl
  replace F__law_try : FunS K "_law_try" "_law_try" s__law_try [] [] (He.ga K "_law_try") fd__law_try := F__law_try
  obtain ⟨fd__law_kinds, F__law_kinds⟩ := c.t.d.def_ 13 (d := D__law_kinds) rfl
  replace F__law_kinds : FunS K "_law_kinds" "_law_kinds" s__law_kinds [] [] (He.ga K "_law_kinds") fd__law_kinds := F__law_kinds
  obtain ⟨fd__law_bag, F__law_bag⟩ := c.t.d.def_ 14 (d := D__law_bag) rfl
  replace F__law_bag : FunS K "_law_bag" "_law_bag" s__law_bag [] [] (He.ga K "_law_bag") fd__law_bag := F__law_bag
  obtain ⟨fd__law_great_bag, F__law_great_bag⟩ := c.t.d.def_ 15 (d := D__law_great_bag) rfl
  replace F__law_great_bag : FunS K "_law_great_bag" "_law_great_bag" s__law_great_bag [] [] (He.ga K "_law_great_bag") fd__law_great_bag := F__law_great_bag
  obtain ⟨fd__law_glass, F__law_glass⟩ := c.t.d.def_ 16 (d := D__law_glass) rfl
  replace F__law_glass : FunS K "_law_glass" "_law_glass" s__law_glass [] [] (He.ga K "_law_glass") fd__law_glass := F__law_glass
  obtain ⟨fd__law_common, F__law_common⟩ := c.t.d.def_ 17 (d := D__law_common) rfl
  replace F__law_common : FunS K "_law_common" "_law_common" s__law_common [] [] (He.ga K "_law_common") fd__law_common := F__law_common
  obtain ⟨fd__law_joined, F__law_joined⟩ := c.t.d.def_ 18 (d := D__law_joined) rfl
  replace F__law_joined : FunS K "_law_joined" "_law_joined" s__law_joined [] [] (He.ga K "_law_joined") fd__law_joined := F__law_joined
  obtain ⟨fd_law, F_law⟩ := c.t.d.def_ 19 (d := D_law) rfl
  replace F_law : FunS K "law" "law" s_law [] [] (He.ga K "law") fd_law := F_law
  have g_check_glass := He.glo_ok X G (c.t.d.fact 3 (f := .glo "check_glass") rfl)
  have g_look := He.glo_ok X G (c.t.d.fact 4 (f := .glo "look") rfl)
  have g_look_of := He.glo_ok X G (c.t.d.fact 5 (f := .glo "look_of") rfl)
  have g_common := He.glo_ok X G (c.t.d.fact 6 (f := .glo "common") rfl)
  have g_multiple := He.glo_ok X G (c.t.d.fact 7 (f := .glo "multiple") rfl)
  have g_joined_glass := He.glo_ok X G (c.t.d.fact 8 (f := .glo "joined_glass") rfl)
  have g__law_draws := He.glo_ok X G (c.t.d.fact 9 (f := .glo "_law_draws") rfl)
  have g__law_draw := He.glo_ok X G (c.t.d.fact 10 (f := .glo "_law_draw") rfl)
  have g__law_pick := He.glo_ok X G (c.t.d.fact 11 (f := .glo "_law_pick") rfl)
  have g__law_same := He.glo_ok X G (c.t.d.fact 12 (f := .glo "_law_same") rfl)
  have g__law_field := He.glo_ok X G (c.t.d.fact 13 (f := .glo "_law_field") rfl)
  have g__law_try := He.glo_ok X G (c.t.d.fact 14 (f := .glo "_law_try") rfl)
  have g__law_kinds := He.glo_ok X G (c.t.d.fact 15 (f := .glo "_law_kinds") rfl)
  have g__law_bag := He.glo_ok X G (c.t.d.fact 16 (f := .glo "_law_bag") rfl)
  have g__law_great_bag := He.glo_ok X G (c.t.d.fact 17 (f := .glo "_law_great_bag") rfl)
  have g__law_glass := He.glo_ok X G (c.t.d.fact 18 (f := .glo "_law_glass") rfl)
  have g__law_common := He.glo_ok X G (c.t.d.fact 19 (f := .glo "_law_common") rfl)
  have g__law_joined := He.glo_ok X G (c.t.d.fact 20 (f := .glo "_law_joined") rfl)
  have g_law := He.glo_ok X G (c.t.d.fact 21 (f := .glo "law") rfl)
  have g_BagError := He.glo_ok X G (c.t.d.fact 0 (f := .glo "BagError") rfl)
  have g_Missing := He.glo_ok X G (c.t.d.fact 1 (f := .glo "Missing") rfl)
  have g_InvalidGlass := He.glo_ok X G (c.t.d.fact 2 (f := .glo "InvalidGlass") rfl)
  have m_len := He.free_ok X G (c.t.d.fact 22 (f := .free "len") rfl)
  have m_tuple := He.free_ok X G (c.t.d.fact 23 (f := .free "tuple") rfl)
  have m_range := He.free_ok X G (c.t.d.fact 24 (f := .free "range") rfl)
  have m_isinstance := He.free_ok X G (c.t.d.fact 25 (f := .free "isinstance") rfl)
  have m_list := He.free_ok X G (c.t.d.fact 26 (f := .free "list") rfl)
  have m_bool := He.free_ok X G (c.t.d.fact 27 (f := .free "bool") rfl)
  have m_int := He.free_ok X G (c.t.d.fact 28 (f := .free "int") rfl)
  have m_str := He.free_ok X G (c.t.d.fact 29 (f := .free "str") rfl)
  have m_max := He.free_ok X G (c.t.d.fact 30 (f := .free "max") rfl)
  have m_all := He.free_ok X G (c.t.d.fact 31 (f := .free "all") rfl)
  have m_zip := He.free_ok X G (c.t.d.fact 32 (f := .free "zip") rfl)
  have xc : XclF K "InvalidGlass" := xclB_ok c.more
  refine ⟨fd_law, fun s v => (FunD.bindsA (ps := ["_law_script"]) F_law fun _ _ _ _ _ _ us hl => match us, hl with | [_], _ => rfl) s [v] rfl, fun base KB NB TB => ?_⟩
  generalize hT : [((He.cT K ("law", none)).2, ("law" : Str) ++ ".<locals>." ++ "<lambda>")] = T

  have c__law_draw : Cal P w K mg base T "_law_draw" 1 (He.ga K "_law_draw") fd__law_draw ["_law_rng", "_law_sides"] spDraw := Cal.of F__law_draw g__law_draw (fnD_of (k := 0) F__law_draw sc__law_draw (w__law_draw (j := 0) m_len m_int) pure_draw) (fun _ _ _ _ _ _ us hl => match us, hl with | [_, _], _ => rfl)
  have c__law_draws : Cal P w K mg base T "_law_draws" 1 (He.ga K "_law_draws") fd__law_draws ["_law_script"] spDraws := Cal.of F__law_draws g__law_draws (fnD_of (k := 0) F__law_draws sc__law_draws (w__law_draws (j := 0) m_int m_list) pure_draws) (fun _ _ _ _ _ _ us hl => match us, hl with | [_], _ => rfl)
  have c__law_pick : Cal P w K mg base T "_law_pick" 2 (He.ga K "_law_pick") fd__law_pick ["_law_rng", "_law_things"] spPick := Cal.of F__law_pick g__law_pick (fnD_of (k := 1) F__law_pick sc__law_pick (w__law_pick (j := 1) c__law_draw (by omega) m_len) pure_pick) (fun _ _ _ _ _ _ us hl => match us, hl with | [_, _], _ => rfl)
  have c__law_kinds : Cal P w K mg base T "_law_kinds" 3 (He.ga K "_law_kinds") fd__law_kinds ["_law_rng", "_law_most"] spKinds := Cal.of F__law_kinds g__law_kinds (fnD_of (k := 2) F__law_kinds sc__law_kinds (w__law_kinds (j := 2) c__law_draw (by omega) c__law_pick (by omega) m_range) pure_kinds) (fun _ _ _ _ _ _ us hl => match us, hl with | [_, _], _ => rfl)
  have c__law_bag : Cal P w K mg base T "_law_bag" 2 (He.ga K "_law_bag") fd__law_bag ["_law_rng", "_law_kinds_here", "_law_most"] spBag := Cal.of F__law_bag g__law_bag (fnD_of (k := 1) F__law_bag sc__law_bag (w__law_bag (j := 1) c__law_draw (by omega) m_tuple) pure_bag) (fun _ _ _ _ _ _ us hl => match us, hl with | [_, _, _], _ => rfl)
  have c__law_great_bag : Cal P w K mg base T "_law_great_bag" 3 (He.ga K "_law_great_bag") fd__law_great_bag ["_law_rng", "_law_kinds_here", "_law_most"] spGreat := Cal.of F__law_great_bag g__law_great_bag (fnD_ofE (k := 2) F__law_great_bag sc__law_great_bag (w__law_great_bag (j := 2) c__law_bag (by omega) c__law_draw (by omega) m_tuple) pure_great) (fun _ _ _ _ _ _ us hl => match us, hl with | [_, _, _], _ => rfl)
  have c__law_glass : Cal P w K mg base T "_law_glass" 2 (He.ga K "_law_glass") fd__law_glass ["_law_rng", "_law_kinds_here"] spGlass := Cal.of F__law_glass g__law_glass (fnD_of (k := 1) F__law_glass sc__law_glass (w__law_glass (j := 1) c__law_draw (by omega) m_len) pure_glass) (fun _ _ _ _ _ _ us hl => match us, hl with | [_, _], _ => rfl)
  have c_look : Cal P w K mg base T "look" 1 (He.ga K "look") fd_look ["number", "glass"] spLook := Cal.of F_look g_look (fnD_of (k := 0) F_look sc_look (w_look (j := 0)) pure_look) (fun _ _ _ _ _ _ us hl => match us, hl with | [_, _], _ => rfl)
  have c_look_of : Cal P w K mg base T "look_of" 2 (He.ga K "look_of") fd_look_of ["bag", "glass"] spLookOf := Cal.of F_look_of g_look_of (fnD_of (k := 1) F_look_of sc_look_of (w_look_of (j := 1) c_look (by omega) m_tuple) pure_look_of) (fun _ _ _ _ _ _ us hl => match us, hl with | [_, _], _ => rfl)
  have c_common : Cal P w K mg base T "common" 1 (He.ga K "common") fd_common ["one", "other"] spCommon := Cal.of F_common g_common (fnD_of (k := 0) F_common sc_common (w_common (j := 0)) pure_common) (fun _ _ _ _ _ _ us hl => match us, hl with | [_, _], _ => rfl)
  have c_multiple : Cal P w K mg base T "multiple" 2 (He.ga K "multiple") fd_multiple ["one", "other"] spMultiple := Cal.of F_multiple g_multiple (fnD_of (k := 1) F_multiple sc_multiple (w_multiple (j := 1) c_common (by omega)) pure_multiple) (fun _ _ _ _ _ _ us hl => match us, hl with | [_, _], _ => rfl)
  have c_joined_glass : Cal P w K mg base T "joined_glass" 3 (He.ga K "joined_glass") fd_joined_glass ["one", "other"] spJoined := Cal.of F_joined_glass g_joined_glass (fnD_of (k := 2) F_joined_glass sc_joined_glass (w_joined_glass (j := 2) c_multiple (by omega) m_max) pure_joined_glass) (fun _ _ _ _ _ _ us hl => match us, hl with | [_, _], _ => rfl)
  have c__law_common : Cal P w K mg base T "_law_common" 1 (He.ga K "_law_common") fd__law_common ["_law_my_one", "_law_my_other"] spCommon := Cal.of F__law_common g__law_common (fnD_of (k := 0) F__law_common sc__law_common (w__law_common (j := 0) m_int) pure__law_common) (fun _ _ _ _ _ _ us hl => match us, hl with | [_, _], _ => rfl)
  have c__law_joined : Cal P w K mg base T "_law_joined" 2 (He.ga K "_law_joined") fd__law_joined ["_law_my_one", "_law_my_other"] spJoined := Cal.of F__law_joined g__law_joined (fnD_of (k := 1) F__law_joined sc__law_joined (w__law_joined (j := 1) c__law_common (by omega) m_max) pure__law_joined) (fun _ _ _ _ _ _ us hl => match us, hl with | [_, _], _ => rfl)
  have s0 : Cal P w K mg base T "_law_same" 0 (He.ga K "_law_same") fd__law_same ["_law_found", "_law_due"] (spSame 0) := Cal.of F__law_same g__law_same (fnD_none fun _ _ _ _ => spSame0) (fun _ _ _ _ _ _ us hl => match us, hl with | [_, _], _ => rfl)
  have s1 : Cal P w K mg base T "_law_same" 1 (He.ga K "_law_same") fd__law_same ["_law_found", "_law_due"] (spSame 1) := Cal.of F__law_same g__law_same (fnD_of (k := 0) F__law_same sc__law_same (w__law_same (j := 0) s0 (by omega) m_isinstance m_list m_tuple m_len m_zip m_all m_bool m_int m_str) pure_same) (fun _ _ _ _ _ _ us hl => match us, hl with | [_, _], _ => rfl)
  have s2 : Cal P w K mg base T "_law_same" 2 (He.ga K "_law_same") fd__law_same ["_law_found", "_law_due"] (spSame 2) := Cal.of F__law_same g__law_same (fnD_of (k := 1) F__law_same sc__law_same (w__law_same (j := 1) s1 (by omega) m_isinstance m_list m_tuple m_len m_zip m_all m_bool m_int m_str) pure_same) (fun _ _ _ _ _ _ us hl => match us, hl with | [_, _], _ => rfl)
  have s3 : Cal P w K mg base T "_law_same" 3 (He.ga K "_law_same") fd__law_same ["_law_found", "_law_due"] (spSame 3) := Cal.of F__law_same g__law_same (fnD_of (k := 2) F__law_same sc__law_same (w__law_same (j := 2) s2 (by omega) m_isinstance m_list m_tuple m_len m_zip m_all m_bool m_int m_str) pure_same) (fun _ _ _ _ _ _ us hl => match us, hl with | [_, _], _ => rfl)
  have s4 : Cal P w K mg base T "_law_same" 4 (He.ga K "_law_same") fd__law_same ["_law_found", "_law_due"] (spSame 4) := Cal.of F__law_same g__law_same (fnD_of (k := 3) F__law_same sc__law_same (w__law_same (j := 3) s3 (by omega) m_isinstance m_list m_tuple m_len m_zip m_all m_bool m_int m_str) pure_same) (fun _ _ _ _ _ _ us hl => match us, hl with | [_, _], _ => rfl)
  have x_InvalidGlass : XCls P w K mg base "InvalidGlass" (He.ga K "InvalidGlass") (He.ma K (He.ga K "InvalidGlass") "__init__") fd_InvalidGlass___init__ "InvalidGlass" [] ["self"] 1 :=
    ⟨xc.oex, xc.init, xc.tyI, init0 F_InvalidGlass___init__ ⟨rfl, rfl, rfl, by decide +kernel, rfl, by decide +kernel, by decide +kernel⟩ (by rfl) xc.oex (xc.no _ (by decide)) (by rfl), FunS.bd F_InvalidGlass___init__ (fun _ _ _ _ _ _ us hl => match us, hl with | [_], _ => rfl), g_InvalidGlass⟩
  have c_check_glass : Cal P w K mg base T "check_glass" 3 (He.ga K "check_glass") fd_check_glass ["glass"] (spCheckG (He.ga K "InvalidGlass")) := Cal.of F_check_glass g_check_glass (fnD_of (k := 2) F_check_glass sc_check_glass (w_check_glass (j := 2) x_InvalidGlass (by omega)) pure_check_glass) (fun _ _ _ _ _ _ us hl => match us, hl with | [_], _ => rfl)
  have TCb : TryB P w K mg base (fun C => C = He.ga K "InvalidGlass") s__law_try (He.ga K "_law_try") fd__law_try (.ref (He.ga K "BagError")) (.ref (He.ga K "Missing")) (He.ga K "_law_field") fd__law_field :=
    ⟨F__law_try, g__law_try, FunS.bd F__law_try (fun _ _ _ _ _ _ us hl => match us, hl with | [_], _ => rfl), g_BagError, g_Missing, g__law_field, F__law_field.kp, FunS.bd F__law_field (fun _ _ _ _ _ _ us hl => match us, hl with | [_], _ => rfl), fp__law_field F__law_field, fun C e => by subst e; exact ⟨xc.xa, xc.exm⟩, sc__law_try, by rfl, by rfl, by rfl, by rfl, by rfl,
      ⟨_, _, _, _, _, _, _, _, _, _, _, _, _, _, _, _, _, _, _, _, _, by rfl⟩⟩
  have hcd : ∃ cd, fd_law.code = .ref cd := by
    obtain ⟨oc, od, dV, kV, doc, pm, an, cdv, ct, osl, e, lk, hc, _⟩ := F_law.ex
    obtain ⟨cd, hcd⟩ := He.codeIn_ref hc
    exact ⟨cd, by rw [e]; exact hcd⟩
  obtain ⟨cd, hcd⟩ := hcd
  have hcd2 : (He.cT K ("law", none)).1 = cd := by
    obtain ⟨oc, od, dV, kV, doc, pm, an, cdv, ct, osl, e, lk, hc, _⟩ := F_law.ex
    exact He.codeOf_eq (p := ("law", none)) lk hcd
  have TCx : TryC P w K mg base T (fun C => C = He.ga K "InvalidGlass") "law" cd := ⟨⟨_, _, _, _, _, _, _, TCb⟩, (He.cT K ("law", none)).2, by rw [← hcd2]; exact TB _ (List.mem_singleton.mpr rfl), by rw [← hT]; exact List.mem_singleton.mpr rfl, fun p hp _ => by rw [← hT] at hp; rw [List.mem_singleton.mp hp]⟩
  have kb1 : KBd K fd_look_of ["bag", "glass"] 0 ["bag", "glass"] [0, 1] := FunS.kbd F_look_of fun _ _ _ _ _ _ us ws h1 h2 => match us, ws, h1, h2 with | [], [_, _], _, _ => rfl
  have kb2 : KBd K fd_joined_glass ["one", "other"] 0 ["one", "other"] [0, 1] := FunS.kbd F_joined_glass fun _ _ _ _ _ _ us ws h1 h2 => match us, ws, h1, h2 with | [], [_, _], _, _ => rfl
  have kb3 : KBd K fd_check_glass ["glass"] 0 ["glass"] [0] := FunS.kbd F_check_glass fun _ _ _ _ _ _ us ws h1 h2 => match us, ws, h1, h2 with | [], [_], _, _ => rfl
  exact fnD_of (k := 8) F_law sc_law (w_law (j := 4) c__law_draws (by omega) c__law_kinds (by omega) c__law_glass (by omega) c__law_pick (by omega) c__law_draw (by omega) c_look (by omega) c__law_great_bag (by omega) s4 (by omega) c_look_of (by omega) kb1 c_joined_glass (by omega) kb2 c__law_joined (by omega) c_check_glass (by omega) kb3 m_range m_int m_tuple TCx hcd) (pure_law rfl)
end DL
open PySem PySem.W PySem.Calls PyProof.Rows
theorem PySem.Challenge.cw_bagturns_k08_looks_of_numbers_and_bags_holds : PySem.Challenge.rw_bagturns_k08_looks_of_numbers_and_bags.Holds := by
  w_on; o_law
  refine HandSHeadRun.head_any (r := OpenLaw.row PySem.Challenge.rw_bagturns_k08_looks_of_numbers_and_bags) (q := view (OpenLaw.row PySem.Challenge.rw_bagturns_k08_looks_of_numbers_and_bags).prog [24]) (H := DL.hkL) (ob := DL.obL) (M := 3000) (loose := DL.looseL) (d := HandSHeadRun.topDef (OpenLaw.row PySem.Challenge.rw_bagturns_k08_looks_of_numbers_and_bags).prog 24) (kwd := []) DL.obL_eq
    (by kernel_rfl) (fun s => by kernel_rfl) DL.runL (by kernel_rfl) (by kernel_rfl) (by kernel_rfl) (by rfl) (by first | assumption | decide +kernel) (by decide +kernel) ⟨rfl, rfl, rfl, rfl, rfl, by decide +kernel⟩ ?hw ?hc
  case hw => w_witness2
  case hc =>
    refine LamX.walk_ofTsE (l := PySem.Challenge.rw_bagturns_k08_looks_of_numbers_and_bags) (n := 63) (k := 9) (x := "_law_script") (CX := fun w => L2.CX (PySem.Challenge.rw_bagturns_k08_looks_of_numbers_and_bags).prog w) rfl (by decide) (by kernel_rfl) ⟨rfl, by decide, by decide⟩ ?F (fun w H s e s' ⟨_, _, _, _, _, _, _, _, _, _, _, _, z⟩ => z)
    intro w mg fa h Y G hmg0
    obtain ⟨K, KX, c⟩ := Y
    have hmg : mg ("law" : PySem.Str) = some (.ref fa) := by
      have e : (HandSHeadRun.topDef (OpenLaw.row PySem.Challenge.rw_bagturns_k08_looks_of_numbers_and_bags).prog 24).name = ("law" : PySem.Str) := by kernel_rfl
      rw [← e]
      exact hmg0
    obtain ⟨fd, hb, hF⟩ := DL.facts (P := (PySem.Challenge.rw_bagturns_k08_looks_of_numbers_and_bags).prog) (w := w) KX G c
    have eg := hmg.symm.trans (He.glo_ok KX G (c.t.d.fact 21 (f := .glo "law") rfl))
    cases eg
    refine ⟨K, KX, fd, [He.cT K ("law", none)], _, fun p hp => ?_, fun p hp => ?_, fun p hp => ?_, hb, fun H a ns hl hbits hT hS => ?_, hF⟩
    · rw [List.mem_singleton.mp hp]; exact c.empty _ (List.mem_singleton.mpr rfl)
    · rw [List.mem_singleton.mp hp]; exact c.out _ (List.mem_singleton.mpr rfl)
    · rw [List.mem_singleton.mp hp]; exact PySem.W.codeHd_of_K KX (c.hd _ (List.mem_singleton.mpr rfl))
    · exact DL.law_start hT hS

