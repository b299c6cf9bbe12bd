import PyProof.Rows.All
import Wide.All
import OpenK.AllK
import Wide.FinOn
import HandS.ForMost
import HandS.IsInst
import HandS.Zip
import HandS.Style
import HandS.Exc
import HandS.Defaults
import HandS.HeadHook1
import HandS.HeadHook2
import HandS.HeadEnd
import HandS.Head0
import HandS.Head1
import HandS.Head2
import KE.GoesEnum
import KE.GoesMore
import KE.GoesZip
import HandS.Star
import HandS.MakeKwOnly
import HandS.WordsExc
import PySem.Challenge.RW_relitgoals_k01_lamps_and_sets
set_option Elab.async false
set_option linter.all false
set_option maxRecDepth 100000
set_option maxHeartbeats 4000000
/-! MpA: plain data, a small store, how they lie in the abstract heap; what an expression and a statement are worth. -/
namespace MP
open PySem PySem.Spec PyProof.Rows L2

/-- plain data: trees; cel n is the n-th cell of the store; glo a global's object -/
inductive D where
  | non | bl (b : Bool) | int (i : Int) | str (x : Str) | ty (n : String)
  | tup (l : List D) | lst (l : List D) | scr (l : List D) | dic (ks vs : List D) | obj (c : String) (fs : List String) (vs : List D)
  | cel (n : Nat) | glo (x : String)
  deriving Inhabited
/-- what a cell holds -/
inductive Ct where
  | dead | lst (l : List D) | dic (ks vs : List D) | ins (c : String) (fs : List String) (vs : List D)
/-- what a run gives -/
inductive R (T : Type) where
  | ok (a : T) (S : List Ct) | exc (c : String) (vs : List D) (S : List Ct) | stuck
abbrev Env' := List (Option D)
abbrev CE := Env' → List Ct → R D
abbrev CL := Env' → List Ct → R (List D)
inductive Fl where
  | nx | rt (d : D) | bk | ct
abbrev CS := Env' → List Ct → R (Fl × Env')
def R.bind {T U : Type} (r : R T) (k : T → List Ct → R U) : R U := match r with
  | .ok a S => k a S
  | .exc c vs S => .exc c vs S
  | .stuck => .stuck

/-- the ghost state: the written part, the abstract heap, the cells' addresses, the store, lists that are being made -/
structure G where
  K : PySem.W.Frag
  H : Hp
  ca : List Addr
  S : List Ct
  L : List Addr
/-- a is a cell that is alive, or a list that is being made: it may be written -/
def Mu (g : G) (a : Addr) : Prop := (∃ (n : Nat) (c : Ct), g.ca[n]? = some a ∧ g.S[n]? = some c ∧ c ≠ Ct.dead) ∨ a ∈ g.L
def RdX (g : G) (a : Addr) (u : HO) : Prop := g.H a = some u ∧ ¬ Mu g a
def KL (K : PySem.W.Frag) (a : Addr) (xs : List V) : Prop :=
  ∃ (o : Obj) (its : Array Value) (n : Nat), K.lookup a = some o ∧ o.cls = .type "list" ∧ o.dict = none ∧ o.data = .seq its n ∧ its.size ≤ sizeLine ∧ Vals xs its.toList
/-- a list that is read alone: the script -/
def RdL (g : G) (a : Addr) (xs : List V) : Prop := (∃ o, g.H a = some (.frz o (.lst xs)) ∧ ¬ Mu g a) ∨ KL g.K a xs
theorem RdL.sq {g : G} {a : Addr} {xs : List V} (h : RdL g a xs) : SqL g.K g.H a xs := h.elim (fun ⟨o, z, _⟩ => .inl (.inr ⟨o, z⟩)) .inr
def strG (x : Str) : Prop := x.length ≤ sizeLine ∧ PyData.strOk x = true
/-- keys of a dict -/
def keyK : D → Option Key
  | .int i => some (.inl i)
  | .str x => some (.inr x)
  | _ => none
mutual
/-- v stands for d -/
def Rep (g : G) : D → V → Prop
  | .non, v => v = .non
  | .bl b, v => v = .bl b
  | .int i, v => v = .int i
  | .str x, v => v = .str x ∧ strG x
  | .ty n, v => v = .ty n
  | .tup l, v => ∃ a xs, v = .ref a ∧ RdX g a (.tup xs) ∧ RepL g l xs
  | .lst l, v => ∃ a xs, v = .ref a ∧ RdX g a (.lst xs) ∧ RepL g l xs
  | .scr l, v => ∃ a xs, v = .ref a ∧ RdL g a xs ∧ RepL g l xs
  | .dic ks vs, v => ∃ a kvs, v = .ref a ∧ RdX g a (.dK kvs) ∧ ks.map keyK = kvs.map (fun p => some p.1) ∧ RepL g vs (kvs.map (·.2))
  | .obj c fs vs, v => ∃ a dx fl, v = .ref a ∧ RdX g a (.ins (He.ga g.K c) dx fl) ∧ fl.map (·.1) = fs.map Str.ofString ∧ RepL g vs (fl.map (·.2))
  | .cel n, v => ∃ a, v = .ref a ∧ g.ca[n]? = some a
  | .glo x, v => v = .ref (He.ga g.K x)
def RepL (g : G) : List D → List V → Prop
  | [], [] => True
  | d :: ds, v :: vs => Rep g d v ∧ RepL g ds vs
  | _, _ => False
end
def CtOk (g : G) (a : Addr) : Ct → Prop
  | .dead => True
  | .lst l => ∃ xs, g.H a = some (.lst xs) ∧ RepL g l xs
  | .dic ks vs => ∃ kvs, g.H a = some (.dK kvs) ∧ ks.map keyK = kvs.map (fun p => some p.1) ∧ RepL g vs (kvs.map (·.2))
  | .ins c fs vs => ∃ dx fl, g.H a = some (.ins (He.ga g.K c) dx fl) ∧ fl.map (·.1) = fs.map Str.ofString ∧ RepL g vs (fl.map (·.2))
structure Sim (g : G) : Prop where
  len : g.ca.length = g.S.length
  nd : g.ca.Nodup
  at_ : ∀ a ∈ g.ca, g.H a ≠ none
  lk : ∀ a ∈ g.L, g.H a ≠ none ∧ a ∉ g.ca
  ok : ∀ (n : Nat) (a : Addr) (c : Ct), g.ca[n]? = some a → g.S[n]? = some c → CtOk g a c
/-- what stands for data stands for it still -/
structure Ext0 (g g' : G) : Prop where
  K : g'.K = g.K
  pre : ∃ d, g'.ca = g.ca ++ d
  keep : ∀ b o, g.H b = some o → ¬ Mu g b → g'.H b = some o
  stay : ∀ b, g.H b ≠ none → g'.H b ≠ none
  mu : ∀ b, g.H b ≠ none → Mu g' b → Mu g b
structure Ext (g g' : G) : Prop extends Ext0 g g' where
  L : g'.L = g.L
  lk : ∀ b ∈ g.L, g'.H b = g.H b
theorem Ext0.refl (g : G) : Ext0 g g := ⟨rfl, ⟨[], by simp⟩, fun _ _ h _ => h, fun _ h => h, fun _ _ h => h⟩
theorem Ext.refl (g : G) : Ext g g := ⟨Ext0.refl g, rfl, fun _ _ => rfl⟩
theorem Ext0.trans {g g1 g2 : G} (a : Ext0 g g1) (b : Ext0 g1 g2) : Ext0 g g2 where
  K := b.K.trans a.K
  pre := by
    obtain ⟨d, e⟩ := a.pre
    obtain ⟨d', e'⟩ := b.pre
    exact ⟨d ++ d', by rw [e', e, List.append_assoc]⟩
  keep := fun c o h n => b.keep c o (a.keep c o h n) fun m => n (a.mu c (by rw [h]; simp) m)
  stay := fun c h => b.stay c (a.stay c h)
  mu := fun c h m => a.mu c h (b.mu c (a.stay c h) m)
theorem Ext.trans {g g1 g2 : G} (a : Ext g g1) (b : Ext g1 g2) : Ext g g2 :=
  ⟨a.toExt0.trans b.toExt0, b.L.trans a.L, fun c h => (b.lk c (by rw [a.L]; exact h)).trans (a.lk c h)⟩
theorem Ext0.rd {g g' : G} (e : Ext0 g g') {a : Addr} {u : HO} (h : RdX g a u) : RdX g' a u :=
  ⟨e.keep _ _ h.1 h.2, fun m => h.2 (e.mu _ (by rw [h.1]; simp) m)⟩
theorem Ext0.rdL {g g' : G} (e : Ext0 g g') {a : Addr} {xs : List V} (h : RdL g a xs) : RdL g' a xs := by
  rcases h with ⟨o, h, n⟩ | h
  · exact .inl ⟨o, e.keep _ _ h n, fun m => n (e.mu _ (by rw [h]; simp) m)⟩
  · exact .inr (by rw [e.K]; exact h)
mutual
theorem Rep.mono0 {g g' : G} (e : Ext0 g g') : ∀ (d : D) (v : V), Rep g d v → Rep g' d v
  | .non, _, h => h
  | .bl _, _, h => h
  | .int _, _, h => h
  | .str _, _, h => h
  | .ty _, _, h => h
  | .tup l, v, h => by
    obtain ⟨a, xs, h1, h2, h3⟩ := h
    exact ⟨a, xs, h1, e.rd h2, RepL.mono0 e l xs h3⟩
  | .lst l, v, h => by
    obtain ⟨a, xs, h1, h2, h3⟩ := h
    exact ⟨a, xs, h1, e.rd h2, RepL.mono0 e l xs h3⟩
  | .scr l, v, h => by
    obtain ⟨a, xs, h1, h2, h3⟩ := h
    exact ⟨a, xs, h1, e.rdL h2, RepL.mono0 e l xs h3⟩
  | .dic ks vs, v, h => by
    obtain ⟨a, kvs, h1, h2, h3, h4⟩ := h
    exact ⟨a, kvs, h1, e.rd h2, h3, RepL.mono0 e vs _ h4⟩
  | .obj c fs vs, v, h => by
    obtain ⟨a, dx, fl, h1, h2, h3, h4⟩ := h
    exact ⟨a, dx, fl, h1, by rw [e.K]; exact e.rd h2, h3, RepL.mono0 e vs _ h4⟩
  | .cel n, v, h => by
    obtain ⟨a, h1, h2⟩ := h
    obtain ⟨d, ed⟩ := e.pre
    refine ⟨a, h1, ?_⟩
    rw [ed, List.getElem?_append_left (List.getElem?_eq_some_iff.mp h2).1]
    exact h2
  | .glo x, v, h => by
    have h : v = _ := h
    show v = _
    rw [e.K]
    exact h
theorem RepL.mono0 {g g' : G} (e : Ext0 g g') : ∀ (ds : List D) (vs : List V), RepL g ds vs → RepL g' ds vs
  | [], [], _ => trivial
  | d :: ds, v :: vs, h => ⟨Rep.mono0 e d v h.1, RepL.mono0 e ds vs h.2⟩
  | [], _ :: _, h => h.elim
  | _ :: _, [], h => h.elim
end
theorem Rep.mono {g g' : G} (e : Ext g g') (d : D) (v : V) (h : Rep g d v) : Rep g' d v := Rep.mono0 e.toExt0 d v h
theorem RepL.mono {g g' : G} (e : Ext g g') (ds : List D) (vs : List V) (h : RepL g ds vs) : RepL g' ds vs := RepL.mono0 e.toExt0 ds vs h
theorem RepL.length {g : G} : ∀ {ds : List D} {vs : List V}, RepL g ds vs → ds.length = vs.length
  | [], [], _ => rfl
  | d :: ds, v :: vs, h => congrArg (· + 1) (RepL.length h.2)
  | [], _ :: _, h => h.elim
  | _ :: _, [], h => h.elim
theorem RepL.get {g : G} : ∀ {ds : List D} {vs : List V} {i : Nat} {d : D}, RepL g ds vs → ds[i]? = some d → ∃ v, vs[i]? = some v ∧ Rep g d v
  | [], _, i, d, _, h => by simp at h
  | _ :: _, [], _, _, h, _ => h.elim
  | d :: ds, v :: vs, 0, e, h, q => by
    simp at q
    subst q
    exact ⟨v, rfl, h.1⟩
  | d :: ds, v :: vs, i + 1, e, h, q => by
    obtain ⟨w, h1, h2⟩ := RepL.get (i := i) h.2 (by simpa using q)
    exact ⟨w, by simpa using h1, h2⟩
theorem RepL.getV {g : G} {ds : List D} {vs : List V} {i : Nat} {v : V} (h : RepL g ds vs) (q : vs[i]? = some v) : ∃ d, ds[i]? = some d ∧ Rep g d v := by
  have hi : i < ds.length := by
    rw [h.length]
    exact (List.getElem?_eq_some_iff.mp q).1
  obtain ⟨w, h1, h2⟩ := h.get (List.getElem?_eq_getElem hi)
  rw [q] at h1
  cases h1
  exact ⟨_, List.getElem?_eq_getElem hi, h2⟩
theorem RepL.append {g : G} : ∀ {ds es : List D} {vs ws : List V}, RepL g ds vs → RepL g es ws → RepL g (ds ++ es) (vs ++ ws)
  | [], _, [], _, _, k => k
  | d :: ds, es, v :: vs, ws, h, k => ⟨h.1, RepL.append h.2 k⟩
  | [], _, _ :: _, _, h, _ => h.elim
  | _ :: _, _, [], _, h, _ => h.elim
theorem RepL.take {g : G} : ∀ (n : Nat) {ds : List D} {vs : List V}, RepL g ds vs → RepL g (ds.take n) (vs.take n)
  | 0, _, _, _ => by simp [RepL]
  | n + 1, [], [], _ => by simp [RepL]
  | n + 1, d :: ds, v :: vs, h => ⟨h.1, RepL.take n h.2⟩
  | _ + 1, [], _ :: _, h => h.elim
  | _ + 1, _ :: _, [], h => h.elim
theorem RepL.drop {g : G} : ∀ (n : Nat) {ds : List D} {vs : List V}, RepL g ds vs → RepL g (ds.drop n) (vs.drop n)
  | 0, _, _, h => h
  | n + 1, [], [], _ => by simp [RepL]
  | n + 1, d :: ds, v :: vs, h => RepL.drop n h.2
  | _ + 1, [], _ :: _, h => h.elim
  | _ + 1, _ :: _, [], h => h.elim
theorem RepL.set {g : G} {d : D} {v : V} (r : Rep g d v) : ∀ (n : Nat) {ds : List D} {vs : List V}, RepL g ds vs → RepL g (ds.set n d) (vs.set n v)
  | _, [], [], _ => by simp [RepL]
  | 0, d :: ds, v :: vs, h => ⟨r, h.2⟩
  | n + 1, d :: ds, v :: vs, h => ⟨h.1, RepL.set r n h.2⟩
  | _, [], _ :: _, h => h.elim
  | _, _ :: _, [], h => h.elim
theorem RepL.reverse {g : G} : ∀ {ds : List D} {vs : List V}, RepL g ds vs → RepL g ds.reverse vs.reverse
  | [], [], _ => by simp [RepL]
  | d :: ds, v :: vs, h => by
    rw [List.reverse_cons, List.reverse_cons]
    exact (RepL.reverse h.2).append ⟨h.1, trivial⟩
  | [], _ :: _, h => h.elim
  | _ :: _, [], h => h.elim
theorem RepL.ints {g : G} : ∀ {ns : List Int} {vs : List V}, RepL g (ns.map D.int) vs → vs = ns.map V.int
  | [], [], _ => rfl
  | n :: ns, v :: vs, h => by
    have h1 : v = .int n := h.1
    rw [h1, RepL.ints h.2]
    rfl
  | [], _ :: _, h => h.elim
  | _ :: _, [], h => h.elim
theorem RepL.of_ints {g : G} : ∀ ns : List Int, RepL g (ns.map D.int) (ns.map V.int)
  | [] => trivial
  | n :: ns => ⟨rfl, RepL.of_ints ns⟩
theorem RepL.strs {g : G} : ∀ {ns : List Str} {vs : List V}, RepL g (ns.map D.str) vs → vs = ns.map V.str ∧ ∀ x ∈ ns, strG x
  | [], [], _ => ⟨rfl, fun _ h => nomatch h⟩
  | n :: ns, v :: vs, h => by
    have h1 : v = .str n ∧ strG n := h.1
    obtain ⟨e, a⟩ := RepL.strs h.2
    rw [h1.1, e]
    refine ⟨rfl, fun x hx => ?_⟩
    rcases List.mem_cons.mp hx with q | q
    · rw [q]
      exact h1.2
    · exact a x q
  | [], _ :: _, h => h.elim
  | _ :: _, [], h => h.elim
theorem RepL.of_strs {g : G} : ∀ ns : List Str, (∀ x ∈ ns, strG x) → RepL g (ns.map D.str) (ns.map V.str)
  | [], _ => trivial
  | n :: ns, h => ⟨⟨rfl, h n (List.mem_cons_self ..)⟩, RepL.of_strs ns fun x hx => h x (List.mem_cons_of_mem _ hx)⟩
theorem RepL.bls {g : G} : ∀ {ns : List Bool} {vs : List V}, RepL g (ns.map D.bl) vs → vs = ns.map V.bl
  | [], [], _ => rfl
  | n :: ns, v :: vs, h => by
    have h1 : v = .bl n := h.1
    rw [h1, RepL.bls h.2]
    rfl
  | [], _ :: _, h => h.elim
  | _ :: _, [], h => h.elim

/-! ### steps of the ghost state -/
/-- a new object, tracked -/
def G.new (g : G) (p : Addr) (o : HO) : G := { g with H := upd g.H p o }
theorem Sim.mu_there {g : G} (s : Sim g) {a : Addr} (m : Mu g a) : g.H a ≠ none := by
  rcases m with ⟨n, c, h, _, _⟩ | m
  · exact s.at_ a (List.mem_of_getElem? h)
  · exact (s.lk a m).1
theorem CtOk.mono {g g' : G} (e : Ext0 g g') {a : Addr} {c : Ct} (hH : g'.H a = g.H a) (h : CtOk g a c) : CtOk g' a c := by
  cases c with
  | dead => trivial
  | lst l =>
    obtain ⟨xs, h1, h2⟩ := h
    exact ⟨xs, hH.trans h1, h2.mono0 e⟩
  | dic ks vs =>
    obtain ⟨kvs, h1, h2, h3⟩ := h
    exact ⟨kvs, hH.trans h1, h2, h3.mono0 e⟩
  | ins c fs vs =>
    obtain ⟨dx, fl, h1, h2, h3⟩ := h
    exact ⟨dx, fl, by rw [e.K]; exact hH.trans h1, h2, h3.mono0 e⟩
theorem Ext.new {g : G} (s : Sim g) {p : Addr} {o : HO} (hp : g.H p = none) : Ext g (g.new p o) := by
  refine ⟨⟨rfl, ⟨[], by simp [G.new]⟩, fun b u h _ => ?_, fun b h => ?_, fun b _ m => m⟩, rfl, fun b hb => ?_⟩
  · show upd g.H p o b = some u
    rw [upd_ne (ne_of_none h hp)]
    exact h
  · show upd g.H p o b ≠ none
    have hb : b ≠ p := fun e => h (by rw [e]; exact hp)
    rw [upd_ne hb]
    exact h
  · show upd g.H p o b = g.H b
    exact upd_ne fun e => (s.lk b hb).1 (by rw [e]; exact hp)
theorem Sim.new {g : G} (s : Sim g) {p : Addr} {o : HO} (hp : g.H p = none) : Sim (g.new p o) := by
  have e := Ext.new s (o := o) hp
  refine ⟨s.len, s.nd, fun a ha => e.stay a (s.at_ a ha), fun a ha => ⟨e.stay a (s.lk a ha).1, (s.lk a ha).2⟩, fun n a c h1 h2 => ?_⟩
  refine CtOk.mono e.toExt0 ?_ (s.ok n a c h1 h2)
  show upd g.H p o a = g.H a
  exact upd_ne fun q => s.at_ a (List.mem_of_getElem? h1) (by rw [q]; exact hp)
theorem RdX.new {g : G} (s : Sim g) {p : Addr} {o : HO} (hp : g.H p = none) : RdX (g.new p o) p o := by
  refine ⟨upd_same, fun m => ?_⟩
  have m' : Mu g p := m
  exact s.mu_there m' hp
theorem rep_newL {g : G} (s : Sim g) {p : Addr} {l : List D} {xs : List V} (hp : g.H p = none) (r : RepL g l xs) : Rep (g.new p (.lst xs)) (.lst l) (.ref p) :=
  ⟨p, xs, rfl, RdX.new s hp, r.mono (Ext.new s hp)⟩
theorem rep_newT {g : G} (s : Sim g) {p : Addr} {l : List D} {xs : List V} (hp : g.H p = none) (r : RepL g l xs) : Rep (g.new p (.tup xs)) (.tup l) (.ref p) :=
  ⟨p, xs, rfl, RdX.new s hp, r.mono (Ext.new s hp)⟩

/-! ### what a run's result asks -/
section
variable {T U : Type}
/-- an exception: its class, its fields in its own dict -/
def ExP (E : XK) (g : G) (c : String) (vs : List D) (S : List Ct) : Prop :=
  ∀ (g' : G) (d : Option Addr), g'.S = S → Ext g g' → Sim g' → (∃ a fl, d = some a ∧ g'.H a = some (.xd fl) ∧ ¬ Mu g' a ∧ RepL g' vs (fl.map (·.2))) → E (.ref (He.ga g.K c)) d g'.H
def Post (E : XK) (g : G) (r : R T) (Q : T → G → Prop) : Prop := match r with
  | .ok a S => ∀ g', g'.S = S → Ext g g' → Sim g' → Q a g'
  | .exc c vs S => ExP E g c vs S
  | .stuck => False
theorem ExP.ext {E : XK} {g g1 : G} {c : String} {vs : List D} {S : List Ct} (e : Ext g g1) (h : ExP E g c vs S) : ExP E g1 c vs S := fun g' d h1 h2 h3 h4 => by
  rw [e.K]
  exact h g' d h1 (e.trans h2) h3 h4
theorem Post.ext {E : XK} {g g1 : G} {r : R T} {Q : T → G → Prop} (e : Ext g g1) (h : Post E g r Q) : Post E g1 r Q := by
  cases r with
  | ok a S => exact fun g' h1 h2 h3 => h g' h1 (e.trans h2) h3
  | exc c vs S => exact ExP.ext e h
  | stuck => exact h
theorem Post.bind {E : XK} {g : G} {r : R T} {k : T → List Ct → R U} {Q : U → G → Prop} (h : Post E g (r.bind k) Q) :
    Post E g r fun a g1 => Ext g g1 ∧ Sim g1 ∧ Post E g1 (k a g1.S) Q := by
  cases r with
  | ok a S =>
    intro g' h1 h2 h3
    subst h1
    exact ⟨h2, h3, Post.ext h2 h⟩
  | exc c vs S => exact h
  | stuck => exact h
theorem Post.imp {E : XK} {g : G} {r : R T} {Q Q' : T → G → Prop} (h : Post E g r Q) (k : ∀ a g', Ext g g' → Sim g' → Q a g' → Q' a g') : Post E g r Q' := by
  cases r with
  | ok a S => exact fun g' h1 h2 h3 => k a g' h2 h3 (h g' h1 h2 h3)
  | exc c vs S => exact h
  | stuck => exact h
theorem Post.ok {E : XK} {g : G} (s : Sim g) {a : T} {Q : T → G → Prop} (h : Post E g (.ok a g.S) Q) : Q a g := h g rfl (Ext.refl g) s
end
/-- the value comes with what it stands for -/
def PV (Q : VK) (d : D) (g : G) : Prop := ∀ v, Rep g d v → Q v g.H
def PVs (Q : List V → Hp → Prop) (ds : List D) (g : G) : Prop := ∀ vs, RepL g ds vs → Q vs g.H
/-- slots -/
structure EnvOk (g : G) (env : Env') (σ : L2.St) : Prop where
  len : env.length = σ.length
  at_ : ∀ (i : Nat) (d : D), env[i]? = some (some d) → ∃ v, σ[i]? = some (some v) ∧ Rep g d v
theorem EnvOk.mono0 {g g' : G} {env : Env'} {σ : L2.St} (e : Ext0 g g') (h : EnvOk g env σ) : EnvOk g' env σ :=
  ⟨h.len, fun i d q => let ⟨v, h1, h2⟩ := h.at_ i d q; ⟨v, h1, h2.mono0 e⟩⟩
theorem EnvOk.mono {g g' : G} {env : Env'} {σ : L2.St} (e : Ext g g') (h : EnvOk g env σ) : EnvOk g' env σ := h.mono0 e.toExt0
theorem EnvOk.set {g : G} {env : Env'} {σ : L2.St} {d : D} {v : V} (h : EnvOk g env σ) (r : Rep g d v) (i : Nat) : EnvOk g (env.set i (some d)) (σ.set i (some v)) := by
  refine ⟨by rw [List.length_set, List.length_set]; exact h.len, fun j e q => ?_⟩
  by_cases hj : i = j
  · subst hj
    have hi : i < env.length := by
      have := (List.getElem?_eq_some_iff.mp q).1
      rwa [List.length_set] at this
    rw [List.getElem?_set_self hi] at q
    cases q
    exact ⟨v, List.getElem?_set_self (by rw [← h.len]; exact hi), r⟩
  · rw [List.getElem?_set_ne hj] at q
    obtain ⟨w, h1, h2⟩ := h.at_ j e q
    exact ⟨w, by rw [List.getElem?_set_ne hj]; exact h1, h2⟩
/-- forget a slot -/
theorem EnvOk.wipe {g : G} {env : Env'} {σ : L2.St} (h : EnvOk g env σ) (i : Nat) : EnvOk g (env.set i none) (σ.set i none) := by
  refine ⟨by rw [List.length_set, List.length_set]; exact h.len, fun j e q => ?_⟩
  by_cases hj : i = j
  · subst hj
    have hi : i < env.length := by
      have := (List.getElem?_eq_some_iff.mp q).1
      rwa [List.length_set] at this
    rw [List.getElem?_set_self hi] at q
    cases q
  · rw [List.getElem?_set_ne hj] at q
    obtain ⟨w, h1, h2⟩ := h.at_ j e q
    exact ⟨w, by rw [List.getElem?_set_ne hj]; exact h1, h2⟩
def wipeE (env : Env') : List Nat → Env'
  | [] => env
  | v :: vs => (wipeE env vs).set v none
theorem EnvOk.wipes {g : G} {env : Env'} {σ : L2.St} (h : EnvOk g env σ) : ∀ vs : List Nat, EnvOk g (wipeE env vs) (L2.wipe σ vs)
  | [] => h
  | v :: vs => (EnvOk.wipes h vs).wipe v

/-! ### judgements -/
/-- the state in which something stands -/
structure At (K : PySem.W.Frag) (g : G) (env : Env') (σ : L2.St) (H : Hp) : Prop where
  K : g.K = K
  H : g.H = H
  sim : Sim g
  env : EnvOk g env σ
def tD (K : PySem.W.Frag) (E : XK) (f : CE) : TE := fun σ H Q => ∃ g env, At K g env σ H ∧ Post E g (f env g.S) (PV Q)
def tDs (K : PySem.W.Frag) (E : XK) (f : CL) : TA := fun σ H Q => ∃ g env, At K g env σ H ∧ Post E g (f env g.S) (PVs Q)
/-- e is worth f -/
def EvD (X : Cx) (E : XK) (e : Expr) (f : CE) : Prop := PE X e (tD X.K E f)
def EvA (X : Cx) (E : XK) (es : List Expr) (f : CL) : Prop := PA X es (tDs X.K E f)
def tDT (K : PySem.W.Frag) (E : XK) (f : CE) : TT := fun σ H Q => ∃ g env, At K g env σ H ∧ Post E g (f env g.S) fun d g' => ∃ b, d = .bl b ∧ Q b g'.H
/-- e, as a test, is worth f (a bool) -/
def EvT (X : Cx) (E : XK) (e : Expr) (f : CE) : Prop := PT X e (tDT X.K E f)
/-- what is wanted behind a statement -/
def PF (Dn : Ends) : Fl × Env' → G → Prop
  | (.nx, env), g => ∀ σ, EnvOk g env σ → Dn.nx σ g.H
  | (.rt d, _), g => ∀ v, Rep g d v → Dn.rt v g.H
  | (.bk, env), g => ∀ σ, EnvOk g env σ → Dn.bk σ g.H
  | (.ct, env), g => ∀ σ, EnvOk g env σ → Dn.ct σ g.H
def tDS (K : PySem.W.Frag) (E : XK) (f : CS) : TS := fun Dn σ H => ∃ g env, At K g env σ H ∧ Post E g (f env g.S) (PF Dn)
def EvS (X : Cx) (E : XK) (st : Stmt) (f : CS) : Prop := PS X st (tDS X.K E f)
def EvSs (X : Cx) (E : XK) (st : List Stmt) (f : CS) : Prop := PSs X st (tDS X.K E f)
section
variable {X : Cx} {E : XK}
theorem pe_weak {e : Expr} {t t' : TE} (h : PE X e t) (k : ∀ σ H Q, t' σ H Q → t σ H Q) : PE X e t' := ⟨fun pins s σ H Q I q => h.run pins s σ H Q I (k σ H Q q)⟩
theorem pt_weak {e : Expr} {t t' : TT} (h : PT X e t) (k : ∀ σ H Q, t' σ H Q → t σ H Q) : PT X e t' := ⟨fun pins s σ H Q I q => h.run pins s σ H Q I (k σ H Q q)⟩
theorem pw_weak {e : Expr} {t t' : TT} (h : PW X e t) (k : ∀ σ H Q, t' σ H Q → t σ H Q) : PW X e t' := ⟨fun wh pins s σ H Q I q => h.run wh pins s σ H Q I (k σ H Q q)⟩
theorem pa_weak {es : List Expr} {t t' : TA} (h : PA X es t) (k : ∀ σ H Q, t' σ H Q → t σ H Q) : PA X es t' := ⟨fun pos pins s σ H Q I q => h.run pos pins s σ H Q I (k σ H Q q)⟩
theorem ps_weak {e : Stmt} {t t' : TS} (h : PS X e t) (k : ∀ Dn σ H, t' Dn σ H → t Dn σ H) : PS X e t' := ⟨fun pins s σ H Q I q => h.run pins s σ H Q I (k Q σ H q)⟩
theorem pss_weak {e : List Stmt} {t t' : TS} (h : PSs X e t) (k : ∀ Dn σ H, t' Dn σ H → t Dn σ H) : PSs X e t' := ⟨fun pins s σ H Q I q => h.run pins s σ H Q I (k Q σ H q)⟩
theorem At.next {K : PySem.W.Frag} {g g' : G} {env : Env'} {σ : L2.St} {H : Hp} (a : At K g env σ H) (e : Ext g g') (s : Sim g') : At K g' env σ g'.H := ⟨e.K.trans a.K, rfl, s, a.env.mono e⟩
/-- hand a part its turn: its value stands for d in the next state -/
theorem At.run {K : PySem.W.Frag} {g : G} {env : Env'} {σ : L2.St} {H : Hp} {f : CE} {T : Type} {k : D → List Ct → R T} {Q : T → G → Prop} {Q' : VK} (a : At K g env σ H) (h : Post E g ((f env g.S).bind k) Q)
    (c : ∀ d v g', Ext g g' → Sim g' → At K g' env σ g'.H → Rep g' d v → Post E g' (k d g'.S) Q → Q' v g'.H) : tD K E f σ H Q' :=
  ⟨g, env, a, h.bind.imp fun d g' e s ⟨_, _, q⟩ v r => c d v g' e s (a.next e s) r q⟩
theorem At.runs {K : PySem.W.Frag} {g : G} {env : Env'} {σ : L2.St} {H : Hp} {f : CL} {T : Type} {k : List D → List Ct → R T} {Q : T → G → Prop} {Q' : List V → Hp → Prop} (a : At K g env σ H) (h : Post E g ((f env g.S).bind k) Q)
    (c : ∀ ds vs g', Ext g g' → Sim g' → At K g' env σ g'.H → RepL g' ds vs → Post E g' (k ds g'.S) Q → Q' vs g'.H) : tDs K E f σ H Q' :=
  ⟨g, env, a, h.bind.imp fun d g' e s ⟨_, _, q⟩ v r => c d v g' e s (a.next e s) r q⟩
end
end MP

/-! MpB: expressions: names, constants, operators, comparisons, tests, displays. -/
namespace MP
open PySem PySem.Spec PyProof.Rows L2

/-! ### reading data -/
def ctL : Option Ct → Option (List D)
  | some (.lst l) => some l
  | _ => none
def asL (S : List Ct) : D → Option (List D)
  | .lst l => some l
  | .scr l => some l
  | .cel n => ctL S[n]?
  | _ => none
def asQ (S : List Ct) : D → Option (List D)
  | .tup l => some l
  | d => asL S d
/-- a list that may be joined, extended from: not the script -/
def asLw (S : List Ct) : D → Option (List D)
  | .lst l => some l
  | .cel n => ctL S[n]?
  | _ => none
theorem ctL_ok {c : Option Ct} {l : List D} (h : ctL c = some l) : c = some (.lst l) := by
  unfold ctL at h
  split at h
  · cases h
    rfl
  · cases h
theorem asL_rep {g : G} (s : Sim g) {d : D} {v : V} {l : List D} (r : Rep g d v) (h : asL g.S d = some l) : ∃ a xs, v = .ref a ∧ SqL g.K g.H a xs ∧ RepL g l xs := by
  cases d with
  | lst m =>
    cases h
    obtain ⟨a, xs, e, x, q⟩ := r
    exact ⟨a, xs, e, .inl (.inl x.1), q⟩
  | scr m =>
    cases h
    obtain ⟨a, xs, e, x, q⟩ := r
    exact ⟨a, xs, e, x.sq, q⟩
  | cel n =>
    obtain ⟨a, e, ha⟩ := r
    obtain ⟨xs, hx, q⟩ := s.ok n a _ ha (ctL_ok h)
    exact ⟨a, xs, e, .inl (.inl hx), q⟩
  | _ => cases h
theorem asLw_rep {g : G} (s : Sim g) {d : D} {v : V} {l : List D} (r : Rep g d v) (h : asLw g.S d = some l) : ∃ a xs, v = .ref a ∧ g.H a = some (.lst xs) ∧ RepL g l xs := by
  cases d with
  | lst m =>
    cases h
    obtain ⟨a, xs, e, x, q⟩ := r
    exact ⟨a, xs, e, x.1, q⟩
  | cel n =>
    obtain ⟨a, e, ha⟩ := r
    obtain ⟨xs, hx, q⟩ := s.ok n a _ ha (ctL_ok h)
    exact ⟨a, xs, e, hx, q⟩
  | _ => cases h
theorem asQ_rep {g : G} (s : Sim g) {d : D} {v : V} {l : List D} (r : Rep g d v) (h : asQ g.S d = some l) : ∃ a xs, v = .ref a ∧ (SqL g.K g.H a xs ∨ SqT g.K g.H a xs) ∧ RepL g l xs := by
  have go : asL g.S d = some l → ∃ a xs, v = .ref a ∧ (SqL g.K g.H a xs ∨ SqT g.K g.H a xs) ∧ RepL g l xs := fun h => by
    obtain ⟨a, xs, e, x, q⟩ := asL_rep s r h
    exact ⟨a, xs, e, .inl x, q⟩
  cases d with
  | tup m =>
    cases h
    obtain ⟨a, xs, e, x, q⟩ := r
    exact ⟨a, xs, e, .inr (.inl (.inl x.1)), q⟩
  | _ => exact go h
theorem tup_rep {g : G} {l : List D} {v : V} (r : Rep g (.tup l) v) : ∃ a xs, v = .ref a ∧ g.H a = some (.tup xs) ∧ RepL g l xs := by
  obtain ⟨a, xs, e, x, q⟩ := r
  exact ⟨a, xs, e, x.1, q⟩

/-! ### strings -/
theorem strG_app {x y : Str} (h : strG x) (k : strG y) (l : x.length + y.length ≤ sizeLine) : strG (x ++ y) := by
  refine ⟨?_, ?_⟩
  · show (x.cps ++ y.cps).size ≤ sizeLine
    rw [Array.size_append]
    exact l
  · show (x.cps ++ y.cps).all (· < 0x110000) = true
    have h2 : x.cps.all (· < 0x110000) = true := h.2
    have k2 : y.cps.all (· < 0x110000) = true := k.2
    rw [Array.all_append, h2, k2]
    rfl
theorem strG_iff {x : Str} : strG x ↔ x.cps.toList.length ≤ sizeLine ∧ ∀ c ∈ x.cps.toList, c < 0x110000 := by
  unfold strG PyData.strOk
  rw [Array.all_eq_true']
  constructor
  · rintro ⟨h1, h2⟩
    refine ⟨by simpa [Str.length] using h1, fun c hc => ?_⟩
    have := h2 c (by simpa using hc)
    simpa using this
  · rintro ⟨h1, h2⟩
    refine ⟨by simpa [Str.length] using h1, fun c hc => ?_⟩
    have := h2 c (by simpa using hc)
    simpa using this

/-! ### names, constants -/
def sVar (i : Nat) : CE := fun env S => match env[i]? with
  | some (some d) => .ok d S
  | _ => .stuck
def sC (d : D) : CE := fun _ S => .ok d S
section
variable {X : Cx} {E : XK} {e a b c : Expr} {es : List Expr} {f fa fb fc : CE} {fs : CL} {pos : Pos}
theorem At.mk' {K : PySem.W.Frag} {g : G} {env : Env'} {σ : L2.St} {H : Hp} (a : At K g env σ H) : Ext g g ∧ Sim g ∧ At K g env σ g.H := ⟨Ext.refl g, a.sim, a.K, rfl, a.sim, a.env⟩
theorem d_var (i : Nat) {x : Str} (hN : X.N[i]? = some x := by rfl) (hv : Vis X.env.scope x := by first | exact Or.inl rfl | exact Or.inr (Or.inl rfl) | exact Or.inr (Or.inr rfl)) (hd : (x == ("__debug__" : Str)) = false := by decide +kernel)
    (hcd : (x == ("__classdict__" : Str)) = false := by decide +kernel) : EvD X E (.Name x pos) (sVar i) := by
  refine pe_weak (pe_var hN hv hd hcd) ?_
  rintro σ H Q ⟨g, env, at_, p⟩
  unfold sVar at p
  split at p
  · rename_i d hd
    obtain ⟨v, h1, h2⟩ := at_.env.at_ i d hd
    have q := Post.ok at_.sim p v h2
    rw [at_.H] at q
    exact ⟨v, h1, q⟩
  · exact p.elim
theorem d_const {v : V} {d : D} (h : PE X e (tC v)) (r : ∀ g : G, g.K = X.K → Rep g d v) : EvD X E e (sC d) := by
  refine pe_weak h ?_
  rintro σ H Q ⟨g, env, at_, p⟩
  have q := Post.ok at_.sim p v (r g at_.K)
  rw [at_.H] at q
  exact q
theorem d_int {i : Int} {j : Nat} : EvD X E (.Constant (.int i) j pos) (sC (.int i)) := d_const pe_int fun _ _ => rfl
theorem d_bl {i : Bool} {j : Nat} : EvD X E (.Constant (.bool i) j pos) (sC (.bl i)) := d_const pe_bl fun _ _ => rfl
theorem d_non {j : Nat} : EvD X E (.Constant .none j pos) (sC .non) := d_const pe_non fun _ _ => rfl
theorem d_str {x : Str} {j : Nat} (h : (decide (x.length ≤ sizeLine) && PyData.strOk x) = true := by decide +kernel) : EvD X E (.Constant (.str x) j pos) (sC (.str x)) :=
  d_const pe_str fun _ _ => ⟨rfl, of_decide_eq_true (Bool.and_eq_true_iff.mp h).1, (Bool.and_eq_true_iff.mp h).2⟩
/-- a module's int or text -/
theorem d_gint {x : Str} {i : Int} (hg : Gl X x) (hm : ∃ t, X.mg x = some (.int i t)) (hd : (x == ("__debug__" : Str)) = false := by decide +kernel) : EvD X E (.Name x pos) (sC (.int i)) := by
  obtain ⟨t, hm⟩ := hm
  exact d_const (v := .int i) (pe_glob hg hm ⟨t, rfl⟩ hd) fun _ _ => rfl
theorem d_gstr {x z : Str} (hg : Gl X x) (hm : ∃ t, X.mg x = some (.str z t)) (h : (decide (z.length ≤ sizeLine) && PyData.strOk z) = true := by decide +kernel) (hd : (x == ("__debug__" : Str)) = false := by decide +kernel) : EvD X E (.Name x pos) (sC (.str z)) := by
  obtain ⟨t, hm⟩ := hm
  exact d_const (v := .str z) (pe_glob hg hm ⟨t, rfl⟩ hd) fun _ _ => ⟨rfl, of_decide_eq_true (Bool.and_eq_true_iff.mp h).1, (Bool.and_eq_true_iff.mp h).2⟩
/-- a built-in type as a value -/
theorem d_ty {x : Str} {n : String} (hg : Gl X x) (hm : X.mg x = none) (hv : bootBuiltins x = some (.type n) := by decide +kernel) (hn : x ≠ "__name__" := by decide +kernel) (hd : (x == ("__debug__" : Str)) = false := by decide +kernel) : EvD X E (.Name x pos) (sC (.ty n)) :=
  d_const (v := .ty n) (pe_bltn hg hm hv rfl hn hd) fun _ _ => rfl

/-! ### operators by values -/
abbrev O2 := List Ct → D → D → R D
abbrev O1 := List Ct → D → R D
abbrev OL := List Ct → List D → R D
def sBin (o : O2) (f g : CE) : CE := fun env S => (f env S).bind fun x S => (g env S).bind fun y S => o S x y
def sUn (o : O1) (f : CE) : CE := fun env S => (f env S).bind fun x S => o S x
/-- the rule r is met where o has an end -/
def Sem2 (X : Cx) (E : XK) (r : R2) (o : O2) : Prop := ∀ (g : G) (d e : D) (x y : V) (Q : VK), g.K = X.K → Sim g → Rep g d x → Rep g e y → Post E g (o g.S d e) (PV Q) → r x y g.H Q
def Sem1 (X : Cx) (E : XK) (r : V → Hp → VK → Prop) (o : O1) : Prop := ∀ (g : G) (d : D) (x : V) (Q : VK), g.K = X.K → Sim g → Rep g d x → Post E g (o g.S d) (PV Q) → r x g.H Q
def SemL (X : Cx) (E : XK) (r : List V → Hp → VK → Prop) (o : OL) : Prop := ∀ (g : G) (ds : List D) (xs : List V) (Q : VK), g.K = X.K → Sim g → RepL g ds xs → Post E g (o g.S ds) (PV Q) → r xs g.H Q
/-- two expressions, then an operator -/
theorem two {r : R2} {o : O2} (ho : Sem2 X E r o) {σ : L2.St} {H : Hp} {Q : VK} (h : tD X.K E (sBin o fa fb) σ H Q) : tOp r (tD X.K E fa) (tD X.K E fb) σ H Q := by
  obtain ⟨g, env, at_, p⟩ := h
  refine at_.run p fun d v g1 e1 s1 a1 r1 p1 => ?_
  refine a1.run p1 fun d2 v2 g2 e2 s2 a2 r2 p2 => ?_
  exact ho g2 d d2 v v2 Q a2.K s2 (r1.mono e2) r2 p2
theorem d_bin {op : Operator} {r : R2} {o : O2} (h : OpR X (binaryOp op) r) (ho : Sem2 X E r o) (ha : EvD X E a fa) (hb : EvD X E b fb) : EvD X E (.BinOp a op b pos) (sBin o fa fb) :=
  pe_weak (pe_op h ha hb) fun _ _ _ q => two ho q
theorem d_cmp {op : CmpOp} {r : R2} {o : O2} (h : OpR X (compareOp op) r) (ho : Sem2 X E r o) (ha : EvD X E a fa) (hb : EvD X E b fb) (hm : behindInMarks op b = false) : EvD X E (.Compare a [op] [b] pos) (sBin o fa fb) :=
  pe_weak (pe_cmpR h ha hb hm) fun _ _ _ q => two ho q
theorem test_of {f : CE} {σ : L2.St} {H : Hp} {Q : Bool → Hp → Prop} (h : tDT X.K E f σ H Q) : tD X.K E f σ H fun x H' => ∃ k, x = .bl k ∧ Q k H' := by
  obtain ⟨g, env, at_, p⟩ := h
  refine ⟨g, env, at_, p.imp fun d g' e s ⟨b, eb, q⟩ v r => ?_⟩
  subst eb
  exact ⟨b, r, q⟩
theorem t_cmp {op : CmpOp} {r : R2} {o : O2} (h : OpR X (compareOp op) r) (ho : Sem2 X E r o) (ha : EvD X E a fa) (hb : EvD X E b fb) (hm : behindInMarks op b = false) : EvT X E (.Compare a [op] [b] pos) (sBin o fa fb) :=
  pt_weak (pt_cmpR h ha hb hm) fun _ _ _ q => two ho (test_of q)
/-- a op1 b op2 c -/
def sChain (o o' : O2) (f g h : CE) : CE := fun env S => (f env S).bind fun x S => (g env S).bind fun y S => (o S x y).bind fun z S => match z with
  | .bl true => (h env S).bind fun w S => o' S y w
  | .bl false => .ok (.bl false) S
  | _ => .stuck
theorem three {r r' : R2} {o o' : O2} (ho : Sem2 X E r o) (ho' : Sem2 X E r' o') {σ : L2.St} {H : Hp} {Q : VK} (h : tD X.K E (sChain o o' fa fb fc) σ H Q) : tChain r r' (tD X.K E fa) (tD X.K E fb) (tD X.K E fc) σ H Q := by
  obtain ⟨g, env, at_, p⟩ := h
  refine at_.run p fun d v g1 e1 s1 a1 r1 p1 => ?_
  refine a1.run p1 fun d2 v2 g2 e2 s2 a2 r2 p2 => ?_
  refine ho g2 d d2 v v2 _ a2.K s2 (r1.mono e2) r2 (p2.bind.imp fun z g3 e3 s3 ⟨_, _, q⟩ vz rz => ?_)
  cases z with
  | bl k =>
    refine ⟨k, rz, ?_⟩
    cases k with
    | true =>
      rw [if_pos rfl]
      refine (a2.next e3 s3).run q fun d4 v4 g4 e4 s4 a4 r4 p4 => ?_
      exact ho' g4 d2 d4 v2 v4 Q a4.K s4 ((r2.mono e3).mono e4) r4 p4
    | false =>
      rw [if_neg Bool.false_ne_true]
      exact Post.ok s3 q _ rfl
  | _ => exact q.elim
theorem d_chain {op op' : CmpOp} {r r' : R2} {o o' : O2} (h : OpR X (compareOp op) r) (ho : Sem2 X E r o) (h' : OpR X (compareOp op') r') (ho' : Sem2 X E r' o') (ha : EvD X E a fa) (hb : EvD X E b fb) (hc : EvD X E c fc)
    (hm : lastMarks [op, op'] [b, c] = false := by with_unfolding_all rfl) : EvD X E (.Compare a [op, op'] [b, c] pos) (sChain o o' fa fb fc) :=
  pe_weak (pe_chain h h' ha hb hc hm) fun _ _ _ q => three ho ho' q
theorem t_chain {op op' : CmpOp} {r r' : R2} {o o' : O2} (h : OpR X (compareOp op) r) (ho : Sem2 X E r o) (h' : OpR X (compareOp op') r') (ho' : Sem2 X E r' o') (ha : EvD X E a fa) (hb : EvD X E b fb) (hc : EvD X E c fc)
    (hm : lastMarks [op, op'] [b, c] = false := by with_unfolding_all rfl) : EvT X E (.Compare a [op, op'] [b, c] pos) (sChain o o' fa fb fc) :=
  pt_weak (pt_chain h h' ha hb hc hm) fun _ _ _ q => three ho ho' (test_of q)

/-! ### tests, and, or, not, if else -/
theorem t_val (h : EvD X E e f) (he : ∀ whole, isTrue e X.env whole = (do let v ← whole; standAt e.pos; holding [v] (truthy v)) := by intro _; rfl) : EvT X E e f :=
  pt_weak (pt_val h he) fun _ _ _ q => test_of q
def EvW (X : Cx) (E : XK) (e : Expr) (f : CE) : Prop := PW X e (tDT X.K E f)
theorem EvW.t (h : EvW X E e f) : EvT X E e f := h.pt
def sAnd (f g : CE) : CE := fun env S => (f env S).bind fun x S => match x with
  | .bl true => g env S
  | .bl false => .ok (.bl false) S
  | _ => .stuck
def sOr (f g : CE) : CE := fun env S => (f env S).bind fun x S => match x with
  | .bl true => .ok (.bl true) S
  | .bl false => g env S
  | _ => .stuck
def sNot (f : CE) : CE := fun env S => (f env S).bind fun x S => match x with
  | .bl k => .ok (.bl !k) S
  | _ => .stuck
def sIf (c f g : CE) : CE := fun env S => (c env S).bind fun x S => match x with
  | .bl true => f env S
  | .bl false => g env S
  | _ => .stuck
/-- run a test's part -/
theorem At.runT {K : PySem.W.Frag} {g : G} {env : Env'} {σ : L2.St} {H : Hp} {f : CE} {T : Type} {k : D → List Ct → R T} {Q : T → G → Prop} {Q' : Bool → Hp → Prop} (a : At K g env σ H) (h : Post E g ((f env g.S).bind k) Q)
    (c : ∀ d g', Ext g g' → Sim g' → At K g' env σ g'.H → Post E g' (k d g'.S) Q → ∃ b, d = .bl b ∧ Q' b g'.H) : tDT K E f σ H Q' :=
  ⟨g, env, a, h.bind.imp fun d g' e s ⟨_, _, q⟩ => c d g' e s (a.next e s) q⟩
theorem w_and1 (ha : EvT X E a fa) : EvW X E (.BoolOp .And [a] pos) fa := pw_and1 ha
theorem w_or1 (ha : EvT X E a fa) : EvW X E (.BoolOp .Or [a] pos) fa := pw_or1 ha
theorem w_and (ha : EvT X E a fa) (hb : EvW X E (.BoolOp .And (b :: es) pos) fb) : EvW X E (.BoolOp .And (a :: b :: es) pos) (sAnd fa fb) := by
  refine pw_weak (pw_and ha hb) ?_
  rintro σ H Q ⟨g, env, at_, p⟩
  refine at_.runT p fun d g1 e1 s1 a1 p1 => ?_
  cases d with
  | bl k =>
    refine ⟨k, rfl, ?_⟩
    cases k with
    | true =>
      rw [if_pos rfl]
      exact ⟨g1, env, a1, p1⟩
    | false =>
      rw [if_neg Bool.false_ne_true]
      obtain ⟨k, ek, q⟩ := Post.ok s1 p1
      cases ek
      exact q
  | _ => exact p1.elim
theorem w_or (ha : EvT X E a fa) (hb : EvW X E (.BoolOp .Or (b :: es) pos) fb) : EvW X E (.BoolOp .Or (a :: b :: es) pos) (sOr fa fb) := by
  refine pw_weak (pw_or ha hb) ?_
  rintro σ H Q ⟨g, env, at_, p⟩
  refine at_.runT p fun d g1 e1 s1 a1 p1 => ?_
  cases d with
  | bl k =>
    refine ⟨k, rfl, ?_⟩
    cases k with
    | false =>
      rw [if_neg Bool.false_ne_true]
      exact ⟨g1, env, a1, p1⟩
    | true =>
      rw [if_pos rfl]
      obtain ⟨k, ek, q⟩ := Post.ok s1 p1
      cases ek
      exact q
  | _ => exact p1.elim
theorem t_not (ha : EvT X E a fa) : EvT X E (.UnaryOp .Not a pos) (sNot fa) := by
  refine pt_weak (pt_not ha) ?_
  rintro σ H Q ⟨g, env, at_, p⟩
  refine at_.runT p fun d g1 e1 s1 a1 p1 => ?_
  cases d with
  | bl k =>
    obtain ⟨k', ek, q⟩ := Post.ok s1 p1
    cases ek
    exact ⟨k, rfl, q⟩
  | _ => exact p1.elim
theorem d_one {op : BoolOp} (ha : EvD X E a fa) : EvD X E (.BoolOp op [a] pos) fa := pe_one ha
theorem d_and (ha : EvD X E a fa) (hb : EvD X E (.BoolOp .And (b :: es) pos) fb) : EvD X E (.BoolOp .And (a :: b :: es) pos) (sAnd fa fb) := by
  refine pe_weak (pe_and ha hb) ?_
  rintro σ H Q ⟨g, env, at_, p⟩
  refine at_.run p fun d v g1 e1 s1 a1 r1 p1 => ?_
  cases d with
  | bl k =>
    refine ⟨k, r1, ?_⟩
    cases k with
    | true =>
      rw [if_pos rfl]
      exact ⟨g1, env, a1, p1⟩
    | false =>
      rw [if_neg Bool.false_ne_true]
      exact Post.ok s1 p1 _ rfl
  | _ => exact p1.elim
theorem d_or (ha : EvD X E a fa) (hb : EvD X E (.BoolOp .Or (b :: es) pos) fb) : EvD X E (.BoolOp .Or (a :: b :: es) pos) (sOr fa fb) := by
  refine pe_weak (pe_or ha hb) ?_
  rintro σ H Q ⟨g, env, at_, p⟩
  refine at_.run p fun d v g1 e1 s1 a1 r1 p1 => ?_
  cases d with
  | bl k =>
    refine ⟨k, r1, ?_⟩
    cases k with
    | false =>
      rw [if_neg Bool.false_ne_true]
      exact ⟨g1, env, a1, p1⟩
    | true =>
      rw [if_pos rfl]
      exact Post.ok s1 p1 _ rfl
  | _ => exact p1.elim
theorem d_not (ha : EvD X E a fa) : EvD X E (.UnaryOp .Not a pos) (sNot fa) := by
  refine pe_weak (pe_not ha) ?_
  rintro σ H Q ⟨g, env, at_, p⟩
  refine at_.run p fun d v g1 e1 s1 a1 r1 p1 => ?_
  cases d with
  | bl k => exact ⟨k, r1, Post.ok s1 p1 _ rfl⟩
  | _ => exact p1.elim
theorem d_if (hc : EvT X E c fc) (ha : EvD X E a fa) (hb : EvD X E b fb) : EvD X E (.IfExp c a b pos) (sIf fc fa fb) := by
  refine pe_weak (pe_ifExp hc ha hb) ?_
  rintro σ H Q ⟨g, env, at_, p⟩
  refine at_.runT p fun d g1 e1 s1 a1 p1 => ?_
  cases d with
  | bl k =>
    refine ⟨k, rfl, ?_⟩
    cases k with
    | true =>
      rw [if_pos rfl]
      exact ⟨g1, env, a1, p1⟩
    | false =>
      rw [if_neg Bool.false_ne_true]
      exact ⟨g1, env, a1, p1⟩
  | _ => exact p1.elim

/-! ### lists of expressions, displays -/
def sNil : CL := fun _ S => .ok [] S
def sCons (f : CE) (fs : CL) : CL := fun env S => (f env S).bind fun x S => (fs env S).bind fun xs S => .ok (x :: xs) S
theorem a_nil : EvA X E [] sNil := by
  refine pa_weak pa_nil ?_
  rintro σ H Q ⟨g, env, at_, p⟩
  have q := Post.ok at_.sim p [] trivial
  rw [at_.H] at q
  exact q
theorem a_cons (he : EvD X E e f) (hs : EvA X E es fs) (hst : starEach (e :: es) X.env = (false, eval e X.env) :: starEach es X.env := by rfl) : EvA X E (e :: es) (sCons f fs) := by
  refine pa_weak (pa_cons he hs hst) ?_
  rintro σ H Q ⟨g, env, at_, p⟩
  refine at_.run p fun d v g1 e1 s1 a1 r1 p1 => ?_
  refine a1.runs p1 fun ds vs g2 e2 s2 a2 r2 p2 => ?_
  exact Post.ok s2 p2 (v :: vs) ⟨r1.mono e2, r2⟩
def sTup (fs : CL) : CE := fun env S => (fs env S).bind fun l S => if l.length ≤ sizeLine then .ok (.tup l) S else .stuck
def sLst (fs : CL) : CE := fun env S => (fs env S).bind fun l S => if l.length ≤ sizeLine then .ok (.lst l) S else .stuck
/-- a list that will be changed: a new cell -/
def sLstC (fs : CL) : CE := fun env S => (fs env S).bind fun l S => if l.length ≤ sizeLine then .ok (.cel S.length) (S ++ [.lst l]) else .stuck
/-- a new cell -/
def G.cell (g : G) (p : Addr) (o : HO) (c : Ct) : G := ⟨g.K, upd g.H p o, g.ca ++ [p], g.S ++ [c], g.L⟩
theorem Ext.cell {g : G} (s : Sim g) {p : Addr} {o : HO} {c : Ct} (hp : g.H p = none) : Ext g (g.cell p o c) := by
  refine ⟨⟨rfl, ⟨[p], rfl⟩, fun b u h _ => ?_, fun b h => ?_, fun b h m => ?_⟩, rfl, fun b hb => ?_⟩
  · show upd g.H p o b = some u
    rw [upd_ne (ne_of_none h hp)]
    exact h
  · show upd g.H p o b ≠ none
    have hb : b ≠ p := fun e => h (by rw [e]; exact hp)
    rw [upd_ne hb]
    exact h
  · rcases m with ⟨n, c', h1, h2, h3⟩ | m
    case inr => exact .inr m
    have hb : b ≠ p := fun e => h (by rw [e]; exact hp)
    have hn : n < g.ca.length := by
      by_cases hn : n < g.ca.length
      · exact hn
      · have h1 : (g.ca ++ [p])[n]? = some b := h1
        rw [List.getElem?_append_right (by omega)] at h1
        have := List.mem_of_getElem? h1
        simp at this
        exact absurd this hb
    have h1 : (g.ca ++ [p])[n]? = some b := h1
    have h2 : (g.S ++ [c])[n]? = some c' := h2
    rw [List.getElem?_append_left hn] at h1
    rw [List.getElem?_append_left (by rw [← s.len]; exact hn)] at h2
    exact .inl ⟨n, c', h1, h2, h3⟩
  · show upd g.H p o b = g.H b
    exact upd_ne fun e => (s.lk b hb).1 (by rw [e]; exact hp)
theorem Sim.cell {g : G} (s : Sim g) {p : Addr} {o : HO} {c : Ct} (hp : g.H p = none) (hc : CtOk (g.cell p o c) p c) : Sim (g.cell p o c) := by
  have e := Ext.cell s (o := o) (c := c) hp
  refine ⟨?_, ?_, fun a ha => ?_, fun a ha => ⟨e.stay a (s.lk a ha).1, fun q => ?_⟩, fun n a c' h1 h2 => ?_⟩
  · show (g.ca ++ [p]).length = (g.S ++ [c]).length
    rw [List.length_append, List.length_append, s.len]
    rfl
  · show (g.ca ++ [p]).Nodup
    rw [List.nodup_append]
    refine ⟨s.nd, by simp, fun a ha b hb => ?_⟩
    have hb : b = p := by simpa using hb
    subst hb
    intro q
    subst q
    exact s.at_ a ha hp
  · rcases List.mem_append.mp ha with q | q
    · exact e.stay a (s.at_ a q)
    · have q : a = p := by simpa using q
      subst q
      show upd g.H a o a ≠ none
      rw [upd_same]
      simp
  · rcases List.mem_append.mp q with q | q
    · exact (s.lk a ha).2 q
    · have q : a = p := by simpa using q
      exact (s.lk a ha).1 (by rw [q]; exact hp)
  · have h1 : (g.ca ++ [p])[n]? = some a := h1
    have h2 : (g.S ++ [c])[n]? = some c' := h2
    by_cases hn : n < g.ca.length
    · rw [List.getElem?_append_left hn] at h1
      rw [List.getElem?_append_left (by rw [← s.len]; exact hn)] at h2
      refine CtOk.mono e.toExt0 ?_ (s.ok n a c' h1 h2)
      show upd g.H p o a = g.H a
      exact upd_ne fun q => s.at_ a (List.mem_of_getElem? h1) (by rw [q]; exact hp)
    · have hn' : n = g.ca.length := by
        have := (List.getElem?_eq_some_iff.mp h1).1
        rw [List.length_append, List.length_singleton] at this
        omega
      subst hn'
      rw [List.getElem?_append_right (Nat.le_refl _)] at h1
      rw [List.getElem?_append_right (by rw [s.len]; exact Nat.le_refl _)] at h2
      simp at h1
      rw [s.len] at h2
      simp at h2
      subst h1
      subst h2
      exact hc
theorem rep_cellL {g : G} (s : Sim g) {p : Addr} {l : List D} {xs : List V} (hp : g.H p = none) (r : RepL g l xs) : Sim (g.cell p (.lst xs) (.lst l)) ∧ Rep (g.cell p (.lst xs) (.lst l)) (.cel g.S.length) (.ref p) := by
  refine ⟨Sim.cell s hp ⟨xs, upd_same, r.mono (Ext.cell s hp)⟩, p, rfl, ?_⟩
  show (g.ca ++ [p])[g.S.length]? = some p
  rw [← s.len, List.getElem?_append_right (Nat.le_refl _)]
  simp
theorem d_tup {x1 : Nat} (h : EvA X E es fs) : EvD X E (.Tuple es x1 pos) (sTup fs) := by
  refine pe_weak (pe_tup h) ?_
  rintro σ H Q ⟨g, env, at_, p⟩
  refine at_.runs p fun ds vs g1 e1 s1 a1 r1 p1 => ?_
  split at p1
  · rename_i hz
    exact ⟨by rw [← r1.length]; exact hz, fun p hp => p1 (g1.new p (.tup vs)) rfl (Ext.new s1 hp) (Sim.new s1 hp) _ (rep_newT s1 hp r1)⟩
  · exact p1.elim
theorem d_lst (h : EvA X E es fs) : EvD X E (.List es pos) (sLst fs) := by
  refine pe_weak (pe_lst h) ?_
  rintro σ H Q ⟨g, env, at_, p⟩
  refine at_.runs p fun ds vs g1 e1 s1 a1 r1 p1 => ?_
  split at p1
  · rename_i hz
    exact ⟨by rw [← r1.length]; exact hz, fun p hp => p1 (g1.new p (.lst vs)) rfl (Ext.new s1 hp) (Sim.new s1 hp) _ (rep_newL s1 hp r1)⟩
  · exact p1.elim
theorem d_lstC (h : EvA X E es fs) : EvD X E (.List es pos) (sLstC fs) := by
  refine pe_weak (pe_lst h) ?_
  rintro σ H Q ⟨g, env, at_, p⟩
  refine at_.runs p fun ds vs g1 e1 s1 a1 r1 p1 => ?_
  split at p1
  · rename_i hz
    refine ⟨by rw [← r1.length]; exact hz, fun p hp => ?_⟩
    obtain ⟨s2, r2⟩ := rep_cellL s1 hp r1
    exact p1 (g1.cell p (.lst vs) (.lst ds)) rfl (Ext.cell s1 hp) s2 _ r2
  · exact p1.elim
end
end MP

/-! MpC: what is walked: lists, tuples, texts, ranges, enumerate and zip of any of them. -/
namespace MP
open PySem PySem.Spec PyProof.Rows L2

/-- what an iterator draws from: a list, a tuple, a text -/
inductive Sk where
  | lst (a : Addr) (xs : List V) | tup (a : Addr) (xs : List V) | str (x : Str) (t : Tok)
def Sk.n : Sk → Nat
  | .lst _ xs => xs.length
  | .tup _ xs => xs.length
  | .str x _ => x.cps.size
def Sk.nth : Sk → Nat → Option V
  | .lst _ xs, i => xs[i]?
  | .tup _ xs, i => xs[i]?
  | .str x _, i => x.cps[i]?.map fun c => .str ⟨#[c]⟩
def Sk.ok (K : PySem.W.Frag) (H : Hp) : Sk → Prop
  | .lst a xs => SqL K H a xs
  | .tup a xs => SqT K H a xs
  | .str _ _ => True
def Sk.rest : Sk → List Addr
  | .lst a _ => [a]
  | .tup a _ => [a]
  | .str _ _ => []
def Sk.own (h : Heap) (it : Addr) (i : Nat) : Sk → Prop
  | .lst a _ => h.IsListIter it a i ∧ a ≠ it
  | .tup a _ => h.IsTupleIter it a i ∧ a ≠ it
  | .str x t => h.IsStrIter it (strIterType x) x t i
def Sk.val : Sk → Value
  | .lst a _ => .ref a
  | .tup a _ => .ref a
  | .str x t => .str x t
theorem Sk.own_at {k : Sk} {h h' : Heap} {it : Addr} {i : Nat} (o : k.own h it i) (e : ∀ b, h.get? it = some b → h'.get? it = some b) : k.own h' it i := by
  cases k with
  | lst a xs => exact ⟨o.1.at fun b q => e b q, o.2⟩
  | tup a xs => exact ⟨o.1.at fun b q => e b q, o.2⟩
  | str x t =>
    obtain ⟨b, q, r⟩ := o
    exact ⟨b, e b q, r⟩
theorem Sk.own_obj {k : Sk} {h : Heap} {it : Addr} {i : Nat} (o : k.own h it i) : ∃ b, h.get? it = some b ∧ ∀ v, b.data ≠ .cell v := by
  cases k with
  | lst a xs =>
    obtain ⟨⟨b, q, _, d⟩, _⟩ := o
    exact ⟨b, q, fun v z => by rw [d] at z; cases z⟩
  | tup a xs =>
    obtain ⟨⟨b, q, _, d⟩, _⟩ := o
    exact ⟨b, q, fun v z => by rw [d] at z; cases z⟩
  | str x t =>
    obtain ⟨b, q, _, d⟩ := o
    exact ⟨b, q, fun v z => by rw [d] at z; cases z⟩
/-- what the library's walks ask of such a source -/
structure Drw (P : Program) (w : World) (A : Around) (k : Sk) (it : Addr) (h : Heap) (n : Nat) (Pn : Nat → Value → Prop) (St : Nat → Heap → Prop) : Prop where
  d : Draws P w A it (it :: k.rest) n Pn St
  num : n = k.n
  to : ∀ i, k.own h it i → St i h
  of : ∀ i h', (k.own h it i ∨ True) → St i h' → (∀ j, k.own h it j → ∀ a ∈ k.rest, a ≠ it) → (∀ a ∈ k.rest, a ≠ it) → k.own h' it i
  val : ∀ i v, Pn i v → ∃ x, k.nth i = some x ∧ RelV x v
theorem Sk.drw {X : Cx} {pins : List (Addr × Obj)} {σ : L2.St} {H : Hp} {s : Shared} (I : Inv X pins σ H s) {A : Around} (hh : A.handled = none) (k : Sk) (it : Addr) (ok : k.ok X.K H) (ne : ∀ a ∈ k.rest, a ≠ it) :
    ∃ n Pn St, Drw X.prog X.w A k it s.heap n Pn St := by
  cases k with
  | lst a xs =>
    obtain ⟨its, rv, p, _⟩ := I.list ok
    have na : a ≠ it := ne a (List.mem_singleton_self a)
    refine ⟨_, _, _, Draws.list hh it a na its.toArray, ?_, fun i o => ⟨o.1, p.isList⟩, fun i h' _ st _ _ => ⟨st.1, na⟩, fun i v q => ?_⟩
    · show its.toArray.size = xs.length
      rw [List.size_toArray, rv.length]
    · have q : its.toArray[i]? = some v := q
      have hi : i < xs.length := by
        have := (Array.getElem?_eq_some_iff.mp q).1
        rw [rv.length]
        simpa using this
      obtain ⟨u, hu, ru⟩ := rv.get (List.getElem?_eq_getElem hi)
      have e : its[i]? = some v := by simpa using q
      rw [hu] at e
      cases e
      exact ⟨_, List.getElem?_eq_getElem hi, ru⟩
  | tup a xs =>
    obtain ⟨its, rv, p, _⟩ := I.tuple ok
    have na : a ≠ it := ne a (List.mem_singleton_self a)
    refine ⟨_, _, _, Draws.tuple hh it a na its.toArray, ?_, fun i o => ⟨o.1, p⟩, fun i h' _ st _ _ => ⟨st.1, na⟩, fun i v q => ?_⟩
    · show its.toArray.size = xs.length
      rw [List.size_toArray, rv.length]
    · have q : its.toArray[i]? = some v := q
      have hi : i < xs.length := by
        have := (Array.getElem?_eq_some_iff.mp q).1
        rw [rv.length]
        simpa using this
      obtain ⟨u, hu, ru⟩ := rv.get (List.getElem?_eq_getElem hi)
      have e : its[i]? = some v := by simpa using q
      rw [hu] at e
      cases e
      exact ⟨_, List.getElem?_eq_getElem hi, ru⟩
  | str x t =>
    refine ⟨_, _, _, Draws.text hh it x t, rfl, fun i o => o, fun i h' _ st _ _ => st, fun i v q => ?_⟩
    obtain ⟨c, u, h1, h2⟩ := q
    subst h2
    exact ⟨.str ⟨#[c]⟩, by show x.cps[i]?.map _ = _; rw [h1]; rfl, u, rfl⟩

/-! ### zip of two -/
def ItZ (K : PySem.W.Frag) (k1 k2 : Sk) : It :=
  ⟨fun i H => i < min k1.n k2.n ∧ k1.ok K H ∧ k2.ok K H,
    fun i H v H' => ∃ T x y, v = .ref T ∧ H T = none ∧ H' = upd H T (.tup [x, y]) ∧ k1.nth i = some x ∧ k2.nth i = some y,
    fun i H => i = min k1.n k2.n ∧ k1.ok K H ∧ k2.ok K H⟩
theorem turn_Z {P : Program} {w : World} {K : PySem.W.Frag} {elts : List Expr} {kk : Nat} {tpos : Pos} {k1 k2 : Sk} {z TI TO i1 i2 : Addr} (S : ZipSep2 z TI TO i1 i2 (i1 :: k1.rest) (i2 :: k2.rest)) (n1 : ∀ a ∈ k1.rest, a ≠ i1) (n2 : ∀ a ∈ k2.rest, a ≠ i2) :
    Turn P w K (.Tuple elts kk tpos) (ItZ K k1 k2) [z, TI, TO, i1, i2] z (fun i h => IsZip h z TI TO .none ∧ IsTupOf2 h TI (.ref i1) (.ref i2) ∧ (∃ a b, IsTupOf2 h TO a b) ∧ k1.own h i1 i ∧ k2.own h i2 i) where
  mem := by simp
  obj := fun i h st c hc => by
    obtain ⟨hz, hTI, ⟨a, b, hTO⟩, o1, o2⟩ := st
    have hc : c = z ∨ c = TI ∨ c = TO ∨ c = i1 ∨ c = i2 := by simpa using hc
    rcases hc with q | q | q | q | q <;> subst q
    · exact ⟨_, hz, fun v q => nomatch q⟩
    · exact ⟨_, hTI, fun v q => nomatch q⟩
    · exact ⟨_, hTO, fun v q => nomatch q⟩
    · exact Sk.own_obj o1
    · exact Sk.own_obj o2
  keep := fun i h h' st k => by
    obtain ⟨hz, hTI, ⟨a, b, hTO⟩, o1, o2⟩ := st
    exact ⟨k z (by simp) _ hz, k TI (by simp) _ hTI, ⟨a, b, k TO (by simp) _ hTO⟩, Sk.own_at o1 fun b q => k i1 (by simp) b q, Sk.own_at o2 fun b q => k i2 (by simp) b q⟩
  item := by
    intro X hP hw hK hc i pins s σ H E I hf st hg
    subst hP hw hK
    obtain ⟨hz, hTI, hTO, o1, o2⟩ := st
    obtain ⟨hi, ok1, ok2⟩ := hg
    obtain ⟨m1, P1, S1, D1⟩ := Sk.drw I (A := X.A.in1) (I.ok.hd hc) k1 i1 ok1 n1
    obtain ⟨m2, P2, S2, D2⟩ := Sk.drw I (A := X.A.in1) (I.ok.hd hc) k2 i2 ok2 n2
    have W := WalksT.zipD2 S D1.d D2.d
    refine W.item i s _ _ (by rw [D1.num, D2.num]; exact hi) ⟨hz, hTI, hTO, D1.to i o1, D2.to i o2⟩ fun T vals h' tk hp hT htup hmid hk => ?_
    obtain ⟨u1, u2, p1, p2, rfl⟩ := hp
    obtain ⟨x, hx, rx⟩ := D1.val i u1 p1
    obtain ⟨y, hy, ry⟩ := D2.val i u2 p2
    refine ⟨_, rfl, W.go elts kk tpos i T { s with heap := h', toks := tk } _ _ hmid fun h2 st2 hk2 => ?_⟩
    have hTw : T ∉ [z, TO, i1, i2] := W.apart i T h' hmid
    have ch : ∀ b o, b ∉ [z, TO, i1, i2] → s.heap.get? b = some o → h2.get? b = some o := fun b o hb q => hk2 b o hb (hk b o hb q)
    have htup2 : h2.IsTuple T #[u1, u2] := htup.at fun o e => hk2 T o hTw e
    have new : ObjOk X.prog X.w (upd H T (.tup [x, y])) h2 T (.tup [x, y]) := ⟨by show 2 ≤ sizeLine; decide, [u1, u2], .cons rx (.cons ry .nil), htup2⟩
    have I1 : Inv X pins σ (upd H T (.tup [x, y])) { s with heap := h2, toks := tk } :=
      I.turnedNew (ch := [z, TO, i1, i2]) ch (fun b hb => hf b (by
        have hb : b = z ∨ b = TO ∨ b = i1 ∨ b = i2 := by simpa using hb
        rcases hb with q | q | q | q <;> subst q <;> simp)) hT new
    obtain ⟨hz2, hTI2, hTO2, t1, t2⟩ := st2
    refine ⟨.ref T, _, I1, rfl, ⟨T, x, y, rfl, I.hok.fresh hT, rfl, hx, hy⟩, ⟨hz2, hTI2, hTO2, D1.of _ _ (.inr trivial) t1 (fun _ _ => n1) n1, D2.of _ _ (.inr trivial) t2 (fun _ _ => n2) n2⟩, fun c hcm => ?_⟩
    have hlt : c < s.heap.objs.size := by
      have hcm : c = z ∨ c = TI ∨ c = TO ∨ c = i1 ∨ c = i2 := by simpa using hcm
      rcases hcm with q | q | q | q | q <;> subst q
      · exact Heap.lt_size hz
      · exact Heap.lt_size hTI
      · obtain ⟨_, _, q⟩ := hTO
        exact Heap.lt_size q
      · obtain ⟨_, q, _⟩ := Sk.own_obj o1
        exact Heap.lt_size q
      · obtain ⟨_, q, _⟩ := Sk.own_obj o2
        exact Heap.lt_size q
    rw [upd_ne (Nat.ne_of_lt (Nat.lt_of_lt_of_le hlt hT))]
    exact (hf c hcm).1
  done := by
    intro X hP hw hK hc i pins s σ H E I hf st hg
    subst hP hw hK
    obtain ⟨hz, hTI, hTO, o1, o2⟩ := st
    obtain ⟨hi, ok1, ok2⟩ := hg
    obtain ⟨m1, P1, S1, D1⟩ := Sk.drw I (A := X.A.in1) (I.ok.hd hc) k1 i1 ok1 n1
    obtain ⟨m2, P2, S2, D2⟩ := Sk.drw I (A := X.A.in1) (I.ok.hd hc) k2 i2 ok2 n2
    have W := WalksT.zipD2 S D1.d D2.d
    have hn : i = min m1 m2 := by rw [D1.num, D2.num]; exact hi
    refine W.done s _ _ (by rw [← hn]; exact ⟨hz, hTI, hTO, D1.to i o1, D2.to i o2⟩) fun h' tk hk => ⟨rfl, I.turnedL (ch := [z, TO, i1, i2]) hk (fun b hb => hf b (by
        have hb : b = z ∨ b = TO ∨ b = i1 ∨ b = i2 := by simpa using hb
        rcases hb with q | q | q | q <;> subst q <;> simp))⟩
  self := fun A i s Q E st h => wpAny_pyIter_zip st.1 h
/-- a source as it begins -/
theorem Sk.begins {X : Cx} {pins : List (Addr × Obj)} {σ : L2.St} {H : Hp} {s : Shared} (I : Inv X pins σ H s) (k : Sk) (ok : k.ok X.K H) :
    ∃ (o : Obj) (Hh : Heap → Prop), Begins k.val o Hh ∧ Hh s.heap ∧ (∀ a ∈ k.rest, a < s.heap.objs.size) ∧ ∀ (h' : Heap) (it : Addr), h'.get? it = some o → (∀ a ∈ k.rest, a ≠ it) → k.own h' it 0 := by
  cases k with
  | lst a xs =>
    obtain ⟨its, rv, p, _⟩ := I.list ok
    refine ⟨_, _, begins_list a its.toArray, p.isList, fun b hb => ?_, fun h' it e ne => ⟨⟨_, e, rfl, rfl⟩, ne a (List.mem_singleton_self a)⟩⟩
    have hb : b = a := by simpa [Sk.rest] using hb
    subst hb
    obtain ⟨ob, _, e, _⟩ := p
    exact Heap.lt_size e
  | tup a xs =>
    obtain ⟨its, rv, p, _⟩ := I.tuple ok
    refine ⟨_, _, begins_tuple a its.toArray, p, fun b hb => ?_, fun h' it e ne => ⟨⟨_, e, rfl, rfl⟩, ne a (List.mem_singleton_self a)⟩⟩
    have hb : b = a := by simpa [Sk.rest] using hb
    subst hb
    obtain ⟨ob, e, _⟩ := p
    exact Heap.lt_size e
  | str x t => exact ⟨_, _, begins_text x t, trivial, fun b hb => (by cases hb), fun h' it e _ => ⟨_, e, rfl, rfl⟩⟩
/-- a value that may be drawn from -/
inductive SkV (K : PySem.W.Frag) (H : Hp) : V → Value → Sk → Prop where
  | lst {a : Addr} {xs : List V} (h : SqL K H a xs) : SkV K H (.ref a) (.ref a) (.lst a xs)
  | tup {a : Addr} {xs : List V} (h : SqT K H a xs) : SkV K H (.ref a) (.ref a) (.tup a xs)
  | str {x : Str} {t : Tok} : SkV K H (.str x) (.str x t) (.str x t)
/-- the kind alone, without the token -/
inductive Sv (K : PySem.W.Frag) (H : Hp) : V → (Tok → Sk) → Prop where
  | lst {a : Addr} {xs : List V} (h : SqL K H a xs) : Sv K H (.ref a) fun _ => .lst a xs
  | tup {a : Addr} {xs : List V} (h : SqT K H a xs) : Sv K H (.ref a) fun _ => .tup a xs
  | str {x : Str} : Sv K H (.str x) fun t => .str x t
theorem Sv.val {K : PySem.W.Frag} {H : Hp} {x : V} {k : Tok → Sk} (h : Sv K H x k) {u : Value} (r : RelV x u) : ∃ t, (k t).val = u ∧ (k t).ok K H := by
  cases h with
  | lst h =>
    cases r
    exact ⟨0, rfl, h⟩
  | tup h =>
    cases r
    exact ⟨0, rfl, h⟩
  | str =>
    obtain ⟨t, e⟩ := r
    subst e
    exact ⟨t, rfl, trivial⟩
def iZ2 (K : PySem.W.Frag) (ta : TA) : TI := fun σ H R => ta σ H fun vs H1 => ∃ x y k1 k2, vs = [x, y] ∧ Sv K H1 x k1 ∧ Sv K H1 y k2 ∧ ∀ t u, R (ItZ K (k1 t) (k2 u)) H1
theorem pi_Z {X : Cx} {e e2 : Expr} {ta : TA} {p pos tpos : Pos} {elts : List Expr} {kk : Nat} (hg : Gl X "zip") (hm : X.mg "zip" = none) (ha : PA X [e, e2] ta)
    (hs : starEach [e, e2] X.env = (false, eval e X.env) :: starEach [e2] X.env := by rfl) (hpl : (backTo pos (starEach [e2] X.env)).any (·.1) = false := by rfl) :
    PI X (.Tuple elts kk tpos) (.Call (.Name "zip" p) [e, e2] [] pos) (iZ2 X.K ta) := by
  refine ⟨fun pins s σ H R I h => ?_⟩
  refine Call_ (ld_blt I hg hm PyProof.Rows.boot_zip (PyProof.Rows.callWith_type1 (thn (ha.run pos pins s σ H _ I h) fun us s1 ⟨vs, H1, I1, r1, q1⟩ => ?_) hs hpl))
  obtain ⟨x, y, k1, k2, ev, z1, z2, q⟩ := q1
  subst ev
  obtain ⟨u1, u2, eu, rx, ry⟩ := r1.two
  subst eu
  obtain ⟨t, e1, ok1⟩ := z1.val rx
  obtain ⟨u, e2, ok2⟩ := z2.val ry
  subst e1 e2
  obtain ⟨o1, H1', B1, h1, l1, w1⟩ := Sk.begins I1 _ ok1
  obtain ⟨o2, H2', B2, h2, l2, w2⟩ := Sk.begins I1 _ ok2
  refine zip_begins2 B1 B2 h1 h2 fun h' hz hTI hTO g1 g2 hsz hk => wpAny_pyIter_zip hz ?_
  have ne1 : ∀ a ∈ (k1 t).rest, a ≠ s1.heap.objs.size := fun a ha => Nat.ne_of_lt (l1 a ha)
  have ne2 : ∀ a ∈ (k2 u).rest, a ≠ s1.heap.objs.size + 1 := fun a ha => Nat.ne_of_lt (Nat.lt_succ_of_lt (l2 a ha))
  refine ⟨s1.heap.objs.size + 4, [s1.heap.objs.size + 4, s1.heap.objs.size + 2, s1.heap.objs.size + 3, s1.heap.objs.size, s1.heap.objs.size + 1], _, _, H1, rfl, I1.kept (t' := s1.toks) hk,
    turn_Z (zip_sep2 l1 l2) ne1 ne2, ⟨hz, hTI, ⟨_, _, hTO⟩, w1 _ _ g1 ne1, w2 _ _ g2 ne2⟩, fun b hb => ?_, q t u⟩
  have hb : b = s1.heap.objs.size + 4 ∨ b = s1.heap.objs.size + 2 ∨ b = s1.heap.objs.size + 3 ∨ b = s1.heap.objs.size ∨ b = s1.heap.objs.size + 1 := by simpa using hb
  have hle : s1.heap.objs.size ≤ b := by
    rcases hb with q | q | q | q | q <;> subst q
    · exact Nat.le_add_right _ _
    · exact Nat.le_add_right _ _
    · exact Nat.le_add_right _ _
    · exact Nat.le_refl _
    · exact Nat.le_add_right _ _
  exact I1.fpOk hle (I1.hok.fresh hle)

/-! ### enumerate of one -/
def ItE (K : PySem.W.Frag) (k : Sk) : It :=
  ⟨fun i H => i < k.n ∧ k.ok K H, fun i H v H' => ∃ T x, v = .ref T ∧ H T = none ∧ H' = upd H T (.tup [.int (i : Nat), x]) ∧ k.nth i = some x, fun i H => i = k.n ∧ k.ok K H⟩
theorem turn_E {P : Program} {w : World} {K : PySem.W.Frag} {elts : List Expr} {kk : Nat} {tpos : Pos} {k : Sk} {e it : Addr} (hei : e ≠ it) (hef : e ∉ it :: k.rest) (n1 : ∀ a ∈ k.rest, a ≠ it) :
    Turn P w K (.Tuple elts kk tpos) (ItE K k) [e, it] e (fun i h => (∃ old, IsEnum h e it (0 + (i : Int)) old) ∧ k.own h it i) where
  mem := by simp
  obj := fun i h st c hc => by
    obtain ⟨⟨old, he⟩, o1⟩ := st
    have hc : c = e ∨ c = it := by simpa using hc
    rcases hc with q | q <;> subst q
    · exact ⟨_, he, fun v q => nomatch q⟩
    · exact Sk.own_obj o1
  keep := fun i h h' st k => by
    obtain ⟨⟨old, he⟩, o1⟩ := st
    exact ⟨⟨old, k e (by simp) _ he⟩, Sk.own_at o1 fun b q => k it (by simp) b q⟩
  item := by
    intro X hP hw hK hc i pins s σ H E I hf st hg
    subst hP hw hK
    obtain ⟨⟨old, he⟩, o1⟩ := st
    obtain ⟨hi, ok1⟩ := hg
    obtain ⟨m1, P1, S1, D1⟩ := Sk.drw I (A := X.A.in1) (I.ok.hd hc) k it ok1 n1
    have W := WalksT.enumFrom (0 : Int) D1.d e hei hef (List.mem_cons_self ..)
    refine W.item i s _ _ (by rw [D1.num]; exact hi) ⟨⟨old, he⟩, D1.to i o1⟩ fun T vals h' tk hp hT htup hmid hk => ?_
    obtain ⟨t0, u1, p1, rfl⟩ := hp
    obtain ⟨x, hx, rx⟩ := D1.val i u1 p1
    refine ⟨_, rfl, W.go elts kk tpos i T { s with heap := h', toks := tk } _ _ hmid fun h2 st2 hk2 => ?_⟩
    have hTw : T ∉ [e, it] := W.apart i T h' hmid
    have ch : ∀ b o, b ∉ [e, it] → s.heap.get? b = some o → h2.get? b = some o := fun b o hb q => hk2 b o hb (hk b o hb q)
    have htup2 : h2.IsTuple T #[.int (0 + (i : Int)) t0, u1] := htup.at fun o q => hk2 T o hTw q
    have ri : RelV (.int (i : Nat)) (.int (0 + (i : Int)) t0) := ⟨t0, by rw [Int.zero_add]⟩
    have new : ObjOk X.prog X.w (upd H T (.tup [.int (i : Nat), x])) h2 T (.tup [.int (i : Nat), x]) := ⟨by show 2 ≤ sizeLine; decide, [.int (0 + (i : Int)) t0, u1], .cons ri (.cons rx .nil), htup2⟩
    have I1 : Inv X pins σ (upd H T (.tup [.int (i : Nat), x])) { s with heap := h2, toks := tk } := I.turnedNew (ch := [e, it]) ch hf hT new
    obtain ⟨he2, t2⟩ := st2
    refine ⟨.ref T, _, I1, rfl, ⟨T, x, rfl, I.hok.fresh hT, rfl, hx⟩, ⟨he2, D1.of _ _ (.inr trivial) t2 (fun _ _ => n1) n1⟩, fun c hcm => ?_⟩
    have hlt : c < s.heap.objs.size := by
      have hcm : c = e ∨ c = it := by simpa using hcm
      rcases hcm with q | q <;> subst q
      · exact Heap.lt_size he
      · obtain ⟨_, q, _⟩ := Sk.own_obj o1
        exact Heap.lt_size q
    rw [upd_ne (Nat.ne_of_lt (Nat.lt_of_lt_of_le hlt hT))]
    exact (hf c hcm).1
  done := by
    intro X hP hw hK hc i pins s σ H E I hf st hg
    subst hP hw hK
    obtain ⟨⟨old, he⟩, o1⟩ := st
    obtain ⟨hi, ok1⟩ := hg
    obtain ⟨m1, P1, S1, D1⟩ := Sk.drw I (A := X.A.in1) (I.ok.hd hc) k it ok1 n1
    have W := WalksT.enumFrom (0 : Int) D1.d e hei hef (List.mem_cons_self ..)
    have hn : i = m1 := by rw [D1.num]; exact hi
    exact W.done s _ _ (by rw [← hn]; exact ⟨⟨old, he⟩, D1.to i o1⟩) fun h' tk hk => ⟨rfl, I.turnedL (ch := [e, it]) hk hf⟩
  self := fun A i s Q E st h => let ⟨⟨_, he⟩, _⟩ := st; wpAny_pyIter_enum he h
end MP

/-! MpD: statements, loops, comprehensions. -/
namespace MP
open PySem PySem.Spec PyProof.Rows L2

section
variable {X : Cx} {E : XK} {e a b c : Expr} {es : List Expr} {st : Stmt} {sts : List Stmt} {f fa fb fc : CE} {fs : CL} {cs ct cu : CS} {pos : Pos}
/-! ### plain statements -/
def sSkip : CS := fun env S => .ok (.nx, env) S
def sSeq (f g : CS) : CS := fun env S => (f env S).bind fun p S => match p.1 with
  | .nx => g p.2 S
  | _ => .ok p S
def sRet (f : CE) : CS := fun env S => (f env S).bind fun d S => .ok (.rt d, env) S
def sRetN : CS := fun env S => .ok (.rt .non, env) S
def sSet (i : Nat) (f : CE) : CS := fun env S => (f env S).bind fun d S => .ok (.nx, env.set i (some d)) S
def sDo (f : CE) : CS := fun env S => (f env S).bind fun _ S => .ok (.nx, env) S
def sCond (c : CE) (t u : CS) : CS := fun env S => (c env S).bind fun x S => match x with
  | .bl true => t env S
  | .bl false => u env S
  | _ => .stuck
theorem At.here {K : PySem.W.Frag} {g : G} {env : Env'} {σ : L2.St} {H : Hp} (a : At K g env σ H) {Q : L2.St → Hp → Prop} (h : ∀ σ', EnvOk g env σ' → Q σ' g.H) : Q σ H := by
  have q := h σ a.env
  rw [a.H] at q
  exact q
theorem c_nil : EvSs X E [] sSkip := by
  refine pss_weak pss_nil ?_
  rintro Dn σ H ⟨g, env, at_, p⟩
  exact at_.here (Post.ok at_.sim p)
theorem c_cons (h1 : EvS X E st cs) (h2 : EvSs X E sts ct) : EvSs X E (st :: sts) (sSeq cs ct) := by
  refine pss_weak (pss_cons h1 h2) ?_
  rintro Dn σ H ⟨g, env, at_, p⟩
  refine ⟨g, env, at_, p.bind.imp fun q g1 e1 s1 z => ?_⟩
  obtain ⟨_, _, z⟩ := z
  obtain ⟨fl, env1⟩ := q
  cases fl with
  | nx => exact fun σ1 ok => ⟨g1, env1, ⟨e1.K.trans at_.K, rfl, s1, ok⟩, z⟩
  | rt d => exact Post.ok (E := E) (a := (Fl.rt d, env1)) s1 z
  | bk => exact Post.ok (E := E) (a := (Fl.bk, env1)) s1 z
  | ct => exact Post.ok (E := E) (a := (Fl.ct, env1)) s1 z
theorem c_one (h1 : EvS X E st cs) : EvSs X E [st] cs := by
  refine pss_weak (pss_one h1) ?_
  rintro Dn σ H ⟨g, env, at_, p⟩
  exact ⟨g, env, at_, p⟩
theorem c_pass : EvS X E (.Pass pos) sSkip := by
  refine ps_weak ps_pass ?_
  rintro Dn σ H ⟨g, env, at_, p⟩
  exact at_.here (Post.ok at_.sim p)
theorem c_ret (h : EvD X E e f) : EvS X E (.Return (some e) pos) (sRet f) := by
  refine ps_weak (ps_ret h) ?_
  rintro Dn σ H ⟨g, env, at_, p⟩
  exact at_.run p fun d v g1 e1 s1 a1 r1 p1 => Post.ok s1 p1 v r1
theorem c_retN : EvS X E (.Return none pos) sRetN := by
  refine ps_weak ps_retN ?_
  rintro Dn σ H ⟨g, env, at_, p⟩
  have q := Post.ok at_.sim p .non rfl
  rw [at_.H] at q
  exact q
theorem c_do (h : EvD X E e f) (hs : swapsWith e none pos.line X.env = pure false := by rfl) : EvS X E (.Expr e pos) (sDo f) := by
  refine ps_weak (ps_expr h hs) ?_
  rintro Dn σ H ⟨g, env, at_, p⟩
  exact at_.run p fun d v g1 e1 s1 a1 r1 p1 => a1.here (Post.ok s1 p1)
theorem c_set (i : Nat) {x : Str} {pos' : Pos} (hN : X.N.Nodup) (h : EvD X E e f) (hi : X.N[i]? = some x := by rfl) (hx : Loc X.env.scope x := by first | exact Or.inl rfl | exact Or.inr rfl) (hs : swapsWith e (some (.Name x pos')) pos.line X.env = pure false := by rfl)
    (hf : X.fn x = true ∨ X.env.scope.names.lookup x = some .local := by first | exact .inl rfl | exact .inr rfl) : EvS X E (.Assign [.Name x pos'] e pos) (sSet i f) := by
  refine ps_weak (ps_set (i := i) hN hi hx h hs hf) ?_
  rintro Dn σ H ⟨g, env, at_, p⟩
  exact at_.run p fun d v g1 e1 s1 a1 r1 p1 => Post.ok s1 p1 _ (a1.env.set r1 i)
theorem c_if {ab bb : List Stmt} (hc : EvT X E c fc) (ha : EvSs X E ab cs) (hb : EvSs X E bb ct) : EvS X E (.If c ab bb pos) (sCond fc cs ct) := by
  refine ps_weak (ps_if hc ha hb) ?_
  rintro Dn σ H ⟨g, env, at_, p⟩
  refine at_.runT p fun d g1 e1 s1 a1 p1 => ?_
  cases d with
  | bl k =>
    refine ⟨k, rfl, ?_⟩
    cases k with
    | true =>
      rw [if_pos rfl]
      exact ⟨g1, env, a1, p1⟩
    | false =>
      rw [if_neg Bool.false_ne_true]
      exact ⟨g1, env, a1, p1⟩
  | _ => exact p1.elim
theorem c_brk : EvS X E (.Break pos) (fun env S => .ok (.bk, env) S) := by
  refine ps_weak ps_break ?_
  rintro Dn σ H ⟨g, env, at_, p⟩
  exact at_.here (Post.ok at_.sim p)
theorem c_cont : EvS X E (.Continue pos) (fun env S => .ok (.ct, env) S) := by
  refine ps_weak ps_continue ?_
  rintro Dn σ H ⟨g, env, at_, p⟩
  exact at_.here (Post.ok at_.sim p)

/-! ### targets -/
abbrev TgE := D → Env' → Option Env'
/-- all slots but those stay -/
def Same' (ss : List Nat) (σ σ' : L2.St) : Prop := σ'.length = σ.length ∧ ∀ j, j ∉ ss → σ'[j]? = σ[j]?
/-- a target: what its slots (ss) become -/
def tG (K : PySem.W.Frag) (t : TgE) (ss : List Nat) : TG := fun v σ H Q => ∃ g env d env', At K g env σ H ∧ Rep g d v ∧ t d env = some env' ∧ ∀ σ', EnvOk g env' σ' → Same' ss σ σ' → Q σ' H
def EvG (X : Cx) (tg : Expr) (t : TgE) (ss : List Nat) : Prop := PG X tg (tG X.K t ss)
def gN (i : Nat) : TgE := fun d env => some (env.set i (some d))
theorem g_name (i : Nat) {x : Str} (hN : X.N.Nodup) (hi : X.N[i]? = some x := by rfl) (hx : Loc X.env.scope x := by first | exact Or.inl rfl | exact Or.inr rfl) (hf : X.fn x = true ∨ X.env.scope.names.lookup x = some .local := by first | exact .inl rfl | exact .inr rfl) : EvG X (.Name x pos) (gN i) [i] := by
  refine ⟨fun pins s σ H v u Q I r h => (pg_name (i := i) hN hi hx hf).run pins s σ H v u Q I r ?_⟩
  obtain ⟨g, env, d, env', at_, rd, e, k⟩ := h
  cases e
  exact k _ (at_.env.set rd i) ⟨List.length_set .., fun j hj => List.getElem?_set_ne fun q => hj (by simp [q])⟩
abbrev TgsE := List D → Env' → Option Env'
def gL : List TgE → TgsE
  | [], [], env => some env
  | t :: ts, d :: ds, env => (t d env).bind fun env => gL ts ds env
  | _, _, _ => none
def EvGs (X : Cx) (ts : List Expr) (t : TgsE) (ss : List Nat) : Prop := PGs X ts fun vs σ H Q => ∃ g env ds env', At X.K g env σ H ∧ RepL g ds vs ∧ t ds env = some env' ∧ ∀ σ', EnvOk g env' σ' → Same' ss σ σ' → Q σ' H
theorem gs_nil : EvGs X [] (gL []) [] := by
  refine ⟨fun pins s σ H vs us Q I r h => pgs_nil.run pins s σ H vs us Q I r ?_⟩
  obtain ⟨g, env, ds, env', at_, rd, e, k⟩ := h
  cases ds with
  | nil =>
    cases e
    cases vs with
    | nil => exact ⟨rfl, k _ at_.env ⟨rfl, fun _ _ => rfl⟩⟩
    | cons _ _ => exact rd.elim
  | cons _ _ => cases e
theorem gs_cons {t : TgE} {ts : List TgE} {s1 s2 : List Nat} (h1 : EvG X e t s1) (h2 : EvGs X es (gL ts) s2) (hs : (assignEach (e :: es) X.env).map (·.2) = assign e X.env :: (assignEach es X.env).map (·.2) := by rfl) : EvGs X (e :: es) (gL (t :: ts)) (s1 ++ s2) := by
  refine ⟨fun pins s σ H vs us Q I r h => (pgs_cons h1 h2 hs).run pins s σ H vs us Q I r ?_⟩
  obtain ⟨g, env, ds, env', at_, rd, q, k⟩ := h
  cases ds with
  | nil => cases q
  | cons d ds =>
    cases vs with
    | nil => exact rd.elim
    | cons v vs =>
      obtain ⟨env1, q1, q2⟩ := Option.bind_eq_some_iff.mp q
      exact ⟨v, vs, rfl, g, env, d, env1, at_, rd.1, q1, fun σ1 ok sm => ⟨g, env1, ds, env', ⟨at_.K, at_.H, at_.sim, ok⟩, rd.2, q2, fun σ2 ok2 sm2 => k σ2 ok2 ⟨sm2.1.trans sm.1, fun j hj => (sm2.2 j fun z => hj (List.mem_append_right _ z)).trans (sm.2 j fun z => hj (List.mem_append_left _ z))⟩⟩⟩
def gT (t : TgsE) : TgE := fun d env => match d with
  | .tup l => t l env
  | _ => none
theorem g_tup {ts : List TgE} {k : Nat} {n : Nat} {ss : List Nat} (hc : X.calm = true) (h : EvGs X es (gL ts) ss) (hl : ts.length = n := by rfl) (hn : (assignEach es X.env).length = n := by rfl) (hst : (assignEach es X.env).findIdx? (·.1) = none := by rfl) : EvG X (.Tuple es k pos) (gT (gL ts)) ss := by
  refine ⟨fun pins s σ H v u Q I r q => (pg_tup hc h hn hst).run pins s σ H v u Q I r ?_⟩
  obtain ⟨g, env, d, env', at_, rd, e, kk⟩ := q
  cases d with
  | tup l =>
    obtain ⟨a, xs, ev, hx, rl⟩ := rd
    have hlen : ∀ (ts : List TgE) (l : List D) (env env' : Env'), gL ts l env = some env' → l.length = ts.length := by
      intro ts
      induction ts with
      | nil =>
        intro l env env' e
        cases l with
        | nil => rfl
        | cons _ _ => cases e
      | cons t ts ih =>
        intro l env env' e
        cases l with
        | nil => cases e
        | cons d l =>
          obtain ⟨env1, _, q2⟩ := Option.bind_eq_some_iff.mp e
          exact congrArg (· + 1) (ih l env1 env' q2)
    refine ⟨a, xs, ev, .inl (.inl (by rw [← at_.H]; exact hx.1)), ?_, g, env, l, env', at_, rl, e, kk⟩
    rw [← rl.length, hlen ts l env env' e, hl]
  | _ => cases e
/-- targets = a value -/
def sAsg (t : TgE) (f : CE) : CS := fun env S => (f env S).bind fun d S => match t d env with
  | some env' => .ok (.nx, env') S
  | none => .stuck
theorem c_asg {tg : Expr} {t : TgE} {ss : List Nat} (h : EvD X E e f) (hg : EvG X tg t ss) (hs : swapsWithSole [tg] e pos.line X.env = pure false := by rfl) (hw : swappedStores [tg] e X.env = pure none := by rfl)
    (h1 : (assignEach [tg] X.env).map (·.2) = [assign tg X.env] := by rfl) : EvS X E (.Assign [tg] e pos) (sAsg t f) := by
  refine ps_weak (ps_asg h hg hs hw h1) ?_
  rintro Dn σ H ⟨g, env, at_, p⟩
  refine at_.run p fun d v g1 e1 s1 a1 r1 p1 => ?_
  split at p1
  · rename_i env' he
    exact ⟨g1, env, d, env', a1, r1, he, fun σ' ok _ => Post.ok s1 p1 σ' ok⟩
  · exact p1.elim

/-! ### what is walked, as data -/
/-- J gives these items, whatever happens meanwhile -/
structure WkD (g : G) (J : It) (items : List D) : Prop where
  goes : ∀ i g', Ext0 g g' → Sim g' → i < items.length → J.go i g'.H
  stops : ∀ g', Ext0 g g' → Sim g' → J.stop items.length g'.H
  yields : ∀ i g' x H', Ext0 g g' → Sim g' → i < items.length → J.yld i g'.H x H' → ∃ d g2, items[i]? = some d ∧ g2.H = H' ∧ g2.S = g'.S ∧ Ext g' g2 ∧ Sim g2 ∧ Rep g2 d x
abbrev CI := Env' → List Ct → R (List D)
def tDI (K : PySem.W.Frag) (E : XK) (f : CI) : TI := fun σ H R => ∃ g env, At K g env σ H ∧ Post E g (f env g.S) fun items g1 => ∀ J, WkD g1 J items → R J g1.H
def EvI (X : Cx) (E : XK) (tg iter : Expr) (f : CI) : Prop := PI X tg iter (tDI X.K E f)
theorem pi_weak {tg iter : Expr} {t t' : TI} (h : PI X tg iter t) (k : ∀ σ H R, t' σ H R → t σ H R) : PI X tg iter t' := ⟨fun pins s σ H R I q => h.run pins s σ H R I (k σ H R q)⟩
theorem mem_ext {K : PySem.W.Frag} {g g' : G} (hK : g.K = K) (e : Ext g g') : g'.K = K := e.K.trans hK
/-- the walk of a source -/
structure SkD (g : G) (k : Tok → Sk) (items : List D) : Prop where
  ok : ∀ t g', Ext0 g g' → (k t).ok g.K g'.H
  n : ∀ t, (k t).n = items.length
  nth : ∀ t i x, (k t).nth i = some x → ∃ d, items[i]? = some d ∧ Rep g d x
def signs (x : Str) : List D := x.cps.toList.map fun c => .str ⟨#[c]⟩
def itemsOf : D → Option (List D)
  | .lst l => some l
  | .scr l => some l
  | .tup l => some l
  | .str x => some (signs x)
  | _ => none
theorem strG_sign {x : Str} (h : strG x) {c : Nat} (hc : c ∈ x.cps.toList) : strG ⟨#[c]⟩ := by
  rw [strG_iff] at h ⊢
  refine ⟨?_, fun b hb => ?_⟩
  · show 1 ≤ sizeLine
    decide
  · have hb : b = c := by simpa using hb
    rw [hb]
    exact h.2 c hc
theorem skd_of {g : G} {d : D} {v : V} {items : List D} (r : Rep g d v) (h : itemsOf d = some items) : ∃ k, Sv g.K g.H v k ∧ SkD g k items := by
  cases d with
  | lst l =>
    cases h
    obtain ⟨a, xs, ev, x, q⟩ := r
    subst ev
    refine ⟨_, .lst (.inl (.inl x.1)), fun t g' e => .inl (.inl (e.rd x).1), fun t => q.length.symm, fun t i y hy => q.getV hy⟩
  | scr l =>
    cases h
    obtain ⟨a, xs, ev, x, q⟩ := r
    subst ev
    refine ⟨_, .lst x.sq, fun t g' e => ?_, fun t => q.length.symm, fun t i y hy => q.getV hy⟩
    have := (e.rdL x).sq
    rw [e.K] at this
    exact this
  | tup l =>
    cases h
    obtain ⟨a, xs, ev, x, q⟩ := r
    subst ev
    refine ⟨_, .tup (.inl (.inl x.1)), fun t g' e => .inl (.inl (e.rd x).1), fun t => q.length.symm, fun t i y hy => q.getV hy⟩
  | str z =>
    cases h
    obtain ⟨ev, hz⟩ := r
    subst ev
    refine ⟨_, .str, fun _ _ _ => trivial, fun t => by show z.cps.size = (signs z).length; simp [signs], fun t i y hy => ?_⟩
    have hy : z.cps[i]?.map (fun c => V.str ⟨#[c]⟩) = some y := hy
    obtain ⟨c, h1, h2⟩ := Option.map_eq_some_iff.mp hy
    have h3 : z.cps.toList[i]? = some c := by simpa using h1
    refine ⟨.str ⟨#[c]⟩, ?_, ?_⟩
    · show (z.cps.toList.map _)[i]? = _
      rw [List.getElem?_map, h3]
      rfl
    · rw [← h2]
      exact ⟨rfl, strG_sign hz (List.mem_of_getElem? h3)⟩
  | _ => cases h
/-- for x in e, e a list, a tuple, a text -/
def sIter (f : CE) : CI := fun env S => (f env S).bind fun d S => match itemsOf d with
  | some l => .ok l S
  | none => .stuck
theorem wk_list {g : G} {a : Addr} {xs : List V} {items : List D} (ok : ∀ g', Ext0 g g' → SqL g.K g'.H a xs) (q : RepL g items xs) : WkD g (Itl g.K a) items := by
  refine ⟨fun i g' e s hi => ?_, fun g' e s => ⟨xs, ok g' e, by rw [q.length]; exact Nat.le_refl _⟩, fun i g' x H' e s hi y => ?_⟩
  · have hi : i < xs.length := by rw [← q.length]; exact hi
    exact ⟨xs, xs[i], ok g' e, List.getElem?_eq_getElem hi⟩
  · obtain ⟨eh, y⟩ := y
    obtain ⟨d, h1, h2⟩ := q.getV (y xs (ok g' e))
    exact ⟨d, g', h1, eh.symm, rfl, Ext.refl g', s, h2.mono0 e⟩
theorem wk_tup {g : G} {a : Addr} {xs : List V} {items : List D} (ok : ∀ g', Ext0 g g' → SqT g.K g'.H a xs) (q : RepL g items xs) : WkD g (Itt g.K a) items := by
  refine ⟨fun i g' e s hi => ?_, fun g' e s => ⟨xs, ok g' e, by rw [q.length]; exact Nat.le_refl _⟩, fun i g' x H' e s hi y => ?_⟩
  · have hi : i < xs.length := by rw [← q.length]; exact hi
    exact ⟨xs, xs[i], ok g' e, List.getElem?_eq_getElem hi⟩
  · obtain ⟨eh, y⟩ := y
    obtain ⟨d, h1, h2⟩ := q.getV (y xs (ok g' e))
    exact ⟨d, g', h1, eh.symm, rfl, Ext.refl g', s, h2.mono0 e⟩
theorem wk_str {g : G} {z : Str} (hz : strG z) : WkD g (Its z) (signs z) := by
  have hl : (signs z).length = z.cps.size := by simp [signs]
  refine ⟨fun i g' e s hi => by rw [hl] at hi; exact hi, fun g' e s => by rw [hl]; exact Nat.le_refl _, fun i g' x H' e s hi y => ?_⟩
  obtain ⟨eh, c, h1, h2⟩ := y
  have h3 : z.cps.toList[i]? = some c := by simpa using h1
  refine ⟨.str ⟨#[c]⟩, g', ?_, eh.symm, rfl, Ext.refl g', s, ?_⟩
  · show (z.cps.toList.map _)[i]? = _
    rw [List.getElem?_map, h3]
    rfl
  · rw [h2]
    exact ⟨rfl, strG_sign hz (List.mem_of_getElem? h3)⟩
theorem pi_any {tg : Expr} {te : TE} (he : PE X e te) : PI X tg e fun σ H R => te σ H fun v H1 => (∃ a xs, v = .ref a ∧ SqL X.K H1 a xs ∧ R (Itl X.K a) H1) ∨ (∃ a xs, v = .ref a ∧ SqT X.K H1 a xs ∧ R (Itt X.K a) H1) ∨ ∃ x, v = .str x ∧ R (Its x) H1 := by
  refine ⟨fun pins s σ H R I h => ?_⟩
  refine thn (he.run pins s σ H _ I h) fun v s1 ⟨y, H1, I1, r1, q⟩ => ?_
  rcases q with ⟨a, xs, ev, hq, q⟩ | ⟨a, xs, ev, hq, q⟩ | ⟨x, ev, q⟩
  · subst ev
    cases r1
    obtain ⟨its, rv, p, _⟩ := I1.list hq
    exact wpAny_pyIter_list p.isList (pi_one (tk := s1.toks) I1 _ (turn_list a _) ⟨_, Heap.get?_push_size _ rfl, rfl, rfl⟩ q)
  · subst ev
    cases r1
    obtain ⟨its, rv, p, _⟩ := I1.tuple hq
    have p2 : s1.heap.IsTuple a its.toArray := p
    exact wpAny_pyIter_tuple p2 (pi_one (tk := s1.toks) I1 _ (turn_tuple a _) ⟨_, Heap.get?_push_size _ rfl, rfl, rfl⟩ q)
  · subst ev
    obtain ⟨t, rfl⟩ := r1
    cases ha : x.cps.all (· < 128)
    · exact wpAny_pyIter_wide ha (pi_one (tk := s1.toks) I1 _ (turn_str _ x t "str_iterator" (.inr rfl)) ⟨_, Heap.get?_push_size _ rfl, rfl, rfl⟩ q)
    · exact wpAny_pyIter_ascii ha (pi_one (tk := s1.toks) I1 _ (turn_str _ x t "str_ascii_iterator" (.inl rfl)) ⟨_, Heap.get?_push_size _ rfl, rfl, rfl⟩ q)
theorem i_any {tg : Expr} (h : EvD X E e f) : EvI X E tg e (sIter f) := by
  refine pi_weak (pi_any h) ?_
  rintro σ H R ⟨g, env, at_, p⟩
  refine at_.run p fun d v g1 e1 s1 a1 r1 p1 => ?_
  have hK : g1.K = X.K := a1.K
  split at p1
  · rename_i l hl
    have q := Post.ok s1 p1
    cases d with
    | lst m =>
      cases hl
      obtain ⟨a, xs, ev, x, rl⟩ := r1
      refine .inl ⟨a, xs, ev, .inl (.inl x.1), q _ ?_⟩
      rw [← hK]
      exact wk_list (fun g' e => .inl (.inl (e.rd x).1)) rl
    | scr m =>
      cases hl
      obtain ⟨a, xs, ev, x, rl⟩ := r1
      refine .inl ⟨a, xs, ev, by rw [← hK]; exact x.sq, q _ ?_⟩
      rw [← hK]
      exact wk_list (fun g' e => by have := (e.rdL x).sq; rw [e.K] at this; exact this) rl
    | tup m =>
      cases hl
      obtain ⟨a, xs, ev, x, rl⟩ := r1
      refine .inr (.inl ⟨a, xs, ev, .inl (.inl x.1), q _ ?_⟩)
      rw [← hK]
      exact wk_tup (fun g' e => .inl (.inl (e.rd x).1)) rl
    | str z =>
      cases hl
      obtain ⟨ev, hz⟩ := r1
      exact .inr (.inr ⟨z, ev, q _ (wk_str hz)⟩)
    | _ => cases hl
  · exact p1.elim
/-- range(n), range(a, b) -/
def rints (lo : Int) (n : Nat) : List D := (List.range n).map fun i => .int (lo + (i : Nat))
theorem wk_range {g : G} {lo : Int} {n : Nat} : WkD g (Itr lo n) (rints lo n) := by
  have hl : (rints lo n).length = n := by simp [rints]
  refine ⟨fun i g' e s hi => by rw [hl] at hi; exact hi, fun g' e s => by rw [hl]; exact Nat.le_refl _, fun i g' x H' e s hi y => ?_⟩
  obtain ⟨eh, ex⟩ := y
  rw [hl] at hi
  refine ⟨.int (lo + (i : Nat)), g', ?_, eh.symm, rfl, Ext.refl g', s, ex⟩
  unfold rints
  rw [List.getElem?_map, List.getElem?_range hi]
  rfl
def sRange1 (f : CE) : CI := fun env S => (f env S).bind fun d S => match d with
  | .int j => if -(2 ^ 62) ≤ j ∧ j < 2 ^ 62 then .ok (rints 0 j.toNat) S else .stuck
  | _ => .stuck
theorem i_range1 {tg : Expr} {p : Pos} (hg : Gl X "range") (hm : X.mg "range" = none) (h : EvD X E a fa) (hs : starEach [a] X.env = [(false, eval a X.env)] := by rfl) : EvI X E tg (.Call (.Name "range" p) [a] [] pos) (sRange1 fa) := by
  refine pi_weak (pi_range1 hg hm (pa_cons h pa_nil hs) hs) ?_
  rintro σ H R ⟨g, env, at_, p⟩
  refine at_.run p fun d v g1 e1 s1 a1 r1 p1 => ?_
  cases d with
  | int j =>
    have ev : v = .int j := r1
    simp only at p1
    split at p1
    · rename_i hj
      exact ⟨j, by rw [ev], hj.1, hj.2, Post.ok s1 p1 _ wk_range⟩
    · exact p1.elim
  | _ => exact p1.elim
def sRange2 (f g : CE) : CI := fun env S => (f env S).bind fun d S => (g env S).bind fun d2 S => match d, d2 with
  | .int i, .int j => if (-(2 ^ 62) ≤ i ∧ i < 2 ^ 62) ∧ -(2 ^ 62) ≤ j ∧ j < 2 ^ 62 then .ok (rints i (j - i).toNat) S else .stuck
  | _, _ => .stuck
theorem i_range2 {tg : Expr} {p : Pos} (hg : Gl X "range") (hm : X.mg "range" = none) (h : EvD X E a fa) (h2 : EvD X E b fb) (hs : starEach [a, b] X.env = [(false, eval a X.env), (false, eval b X.env)] := by rfl) (hs2 : starEach [b] X.env = [(false, eval b X.env)] := by rfl)
    (hs3 : starEach [a, b] X.env = (false, eval a X.env) :: starEach [b] X.env := by rfl) : EvI X E tg (.Call (.Name "range" p) [a, b] [] pos) (sRange2 fa fb) := by
  refine pi_weak (pi_range2 hg hm (pa_cons h (pa_cons h2 pa_nil hs2) hs3) hs hs2) ?_
  rintro σ H R ⟨g, env, at_, p⟩
  refine at_.run p fun d v g1 e1 s1 a1 r1 p1 => ?_
  refine a1.run p1 fun d2 v2 g2 e2 s2 a2 r2 p2 => ?_
  cases d with
  | int i =>
    cases d2 with
    | int j =>
      have ev : v = .int i := r1
      have ev2 : v2 = .int j := r2
      simp only at p2
      split at p2
      · rename_i hj
        exact ⟨i, j, by rw [ev, ev2], ⟨hj.1.1, hj.1.2, hj.2.1, hj.2.2⟩, Post.ok s2 p2 _ wk_range⟩
      · exact p2.elim
    | _ => exact p2.elim
  | _ => exact p2.elim
/-- zip(a, b) of lists, tuples, texts -/
def pairs (l m : List D) : List D := (l.zip m).map fun p => .tup [p.1, p.2]
def sZip (f g : CE) : CI := fun env S => (f env S).bind fun d S => (g env S).bind fun d2 S => match itemsOf d, itemsOf d2 with
  | some l, some m => .ok (pairs l m) S
  | _, _ => .stuck
theorem SkD.ext {g g1 : G} {k : Tok → Sk} {l : List D} (h : SkD g k l) (e : Ext g g1) : SkD g1 k l :=
  ⟨fun t g' e' => by rw [e.K]; exact h.ok t g' (e.toExt0.trans e'), h.n, fun t i x q => let ⟨d, h1, h2⟩ := h.nth t i x q; ⟨d, h1, h2.mono e⟩⟩
theorem wk_zip {g : G} {k1 k2 : Tok → Sk} {l m : List D} {t u : Tok} (h1 : SkD g k1 l) (h2 : SkD g k2 m) : WkD g (ItZ g.K (k1 t) (k2 u)) (pairs l m) := by
  have hl : (pairs l m).length = min l.length m.length := by simp [pairs]
  refine ⟨fun i g' e s hi => ⟨by rw [h1.n, h2.n, ← hl]; exact hi, h1.ok t g' e, h2.ok u g' e⟩, fun g' e s => ⟨by rw [h1.n, h2.n, hl], h1.ok t g' e, h2.ok u g' e⟩, fun i g' v H' e s hi y => ?_⟩
  obtain ⟨T, x, z, ev, hT, eH, hx, hz⟩ := y
  obtain ⟨d1, q1, r1⟩ := h1.nth t i x hx
  obtain ⟨d2, q2, r2⟩ := h2.nth u i z hz
  refine ⟨.tup [d1, d2], g'.new T (.tup [x, z]), ?_, eH.symm, rfl, Ext.new s hT, Sim.new s hT, ?_⟩
  · unfold pairs
    rw [List.getElem?_map, (List.getElem?_zip_eq_some (z := (d1, d2))).mpr ⟨q1, q2⟩]
    rfl
  · rw [ev]
    exact rep_newT s hT ⟨r1.mono0 e, r2.mono0 e, trivial⟩
theorem i_zip {elts : List Expr} {kk : Nat} {tpos p : Pos} (hg : Gl X "zip") (hm : X.mg "zip" = none) (h : EvD X E a fa) (h2 : EvD X E b fb) (hs : starEach [a, b] X.env = (false, eval a X.env) :: starEach [b] X.env := by rfl) (hs2 : starEach [b] X.env = [(false, eval b X.env)] := by rfl)
    (hpl : (backTo pos (starEach [b] X.env)).any (·.1) = false := by rfl) : EvI X E (.Tuple elts kk tpos) (.Call (.Name "zip" p) [a, b] [] pos) (sZip fa fb) := by
  refine pi_weak (pi_Z hg hm (pa_cons h (pa_cons h2 pa_nil hs2) hs) hs hpl) ?_
  rintro σ H R ⟨g, env, at_, p⟩
  refine at_.run p fun d v g1 e1 s1 a1 r1 p1 => ?_
  refine a1.run p1 fun d2 v2 g2 e2 s2 a2 r2 p2 => ?_
  split at p2
  · rename_i l m hl hm
    obtain ⟨k1, z1, w1⟩ := skd_of (r1.mono e2) hl
    obtain ⟨k2, z2, w2⟩ := skd_of r2 hm
    have hK : g2.K = X.K := a2.K
    rw [hK] at z1 z2
    refine ⟨v, v2, k1, k2, rfl, z1, z2, fun t u => ?_⟩
    have q := Post.ok s2 p2 (ItZ g2.K (k1 t) (k2 u)) (wk_zip w1 w2)
    rw [hK] at q
    exact q
  · exact p2.elim

/-! ### for -/
def forL (t : TgE) (body : CS) : List D → CS
  | [] => fun env S => .ok (.nx, env) S
  | d :: ds => fun env S => match t d env with
    | none => .stuck
    | some env1 => (body env1 S).bind fun p S => match p.1 with
      | .nx => forL t body ds p.2 S
      | .ct => forL t body ds p.2 S
      | .bk => .ok (.nx, p.2) S
      | .rt d => .ok (.rt d, p.2) S
def sFor (i : CI) (t : TgE) (body : CS) : CS := fun env S => (i env S).bind fun items S => forL t body items env S
theorem c_for {tg iter : Expr} {body : List Stmt} {fi : CI} {t : TgE} {ss : List Nat} (hp : PassesOwn (model X.prog X.w) X.A X.env X.xe) (hc : X.calm = true) (hi : EvI X E tg iter fi) (hg : EvG X tg t ss) (hb : EvSs X E body cs)
    (hs : ∀ x, foldedSetIterable iter X.env x = pure x := by intro _; rfl) : EvS X E (.For tg iter body [] pos) (sFor fi t cs) := by
  refine ps_weak (ps_for hp hc hi hg hb hs) ?_
  rintro Dn σ H ⟨g, env, at_, p⟩
  refine ⟨g, env, at_, p.bind.imp fun items g1 e1 s1 z J wk => ?_⟩
  obtain ⟨_, _, z⟩ := z
  have hK : g1.K = X.K := e1.K.trans at_.K
  refine ⟨fun i m σ H => m = items.length - i ∧ i ≤ items.length ∧ ∃ g2 env2, At X.K g2 env2 σ H ∧ Ext g1 g2 ∧ Post E g2 (forL t cs (items.drop i) env2 g2.S) (PF Dn), ⟨items.length, by simp, Nat.zero_le _, g1, env, ⟨hK, rfl, s1, at_.env.mono e1⟩, Ext.refl g1, by rw [List.drop_zero]; exact z⟩, ?_⟩
  rintro i m σ2 H2 ⟨hm, hi, g2, env2, a2, e2, p2⟩
  have eH : g2.H = H2 := a2.H
  by_cases hlt : i < items.length
  · refine .inr ⟨by rw [← eH]; exact wk.goes i g2 e2.toExt0 a2.sim hlt, fun σ' H' => ∃ g3 env3, At X.K g3 env3 σ' H' ∧ Ext g1 g3 ∧ Post E g3 (forL t cs (items.drop (i + 1)) env3 g3.S) (PF Dn), fun σ' H' ⟨g3, env3, a3, e3, p3⟩ => ⟨items.length - (i + 1), by omega, rfl, hlt, g3, env3, a3, e3, p3⟩, fun x H' y => ?_⟩
    rw [← eH] at y
    obtain ⟨d, g3, hd, eh, eS, e3, s3, r3⟩ := wk.yields i g2 x H' e2.toExt0 a2.sim hlt y
    rw [List.drop_eq_getElem_cons hlt] at p2
    have ed : items[i] = d := by
      rw [List.getElem?_eq_getElem hlt] at hd
      exact Option.some.inj hd
    rw [ed] at p2
    unfold forL at p2
    split at p2
    · exact p2.elim
    · rename_i env1 he
      rw [← eS] at p2
      have p3 := Post.ext e3 p2
      have a3 : At X.K g3 env2 σ2 H' := ⟨e3.K.trans a2.K, eh, s3, a2.env.mono e3⟩
      refine ⟨g3, env2, d, env1, a3, r3, he, fun σ3 ok3 _ => ⟨g3, env1, ⟨a3.K, eh, s3, ok3⟩, p3.bind.imp fun q g4 e4 s4 z4 => ?_⟩⟩
      obtain ⟨_, _, z4⟩ := z4
      obtain ⟨fl, env4⟩ := q
      have K4 : g4.K = X.K := e4.K.trans a3.K
      cases fl with
      | nx => exact fun σ4 ok4 => ⟨g4, env4, ⟨K4, rfl, s4, ok4⟩, e2.trans (e3.trans e4), z4⟩
      | ct => exact fun σ4 ok4 => ⟨g4, env4, ⟨K4, rfl, s4, ok4⟩, e2.trans (e3.trans e4), z4⟩
      | bk => exact Post.ok (E := E) (a := (Fl.nx, env4)) s4 z4
      | rt d => exact Post.ok (E := E) (a := (Fl.rt d, env4)) s4 z4
  · have e : i = items.length := by omega
    subst e
    refine .inl ⟨by rw [← eH]; exact wk.stops g2 e2.toExt0 a2.sim, ?_⟩
    rw [List.drop_length] at p2
    have q := Post.ok a2.sim p2 σ2 a2.env
    rw [eH] at q
    exact q

/-! ### while -/
def whileL (c : CE) (body : CS) : Nat → CS
  | 0 => fun _ _ => .stuck
  | n + 1 => fun env S => (c env S).bind fun x S => match x with
    | .bl true => (body env S).bind fun p S => match p.1 with
      | .nx => whileL c body n p.2 S
      | .ct => whileL c body n p.2 S
      | .bk => .ok (.nx, p.2) S
      | .rt d => .ok (.rt d, p.2) S
    | .bl false => .ok (.nx, env) S
    | _ => .stuck
theorem c_while {body : List Stmt} (n : Nat) (hp : PassesOwn (model X.prog X.w) X.A X.env X.xe) (hc : EvT X E c fc) (hb : EvSs X E body cs) : EvS X E (.While c body [] pos) (whileL fc cs n) := by
  refine ps_weak (ps_while hp hc hb) ?_
  rintro Dn σ H ⟨g, env, at_, p⟩
  refine ⟨fun m σ H => ∃ g env, At X.K g env σ H ∧ Post E g (whileL fc cs m env g.S) (PF Dn), ⟨n, g, env, at_, p⟩, ?_⟩
  rintro m σ1 H1 ⟨g1, env1, a1, p1⟩
  cases m with
  | zero => exact p1.elim
  | succ m =>
    refine a1.runT p1 fun d g2 e2 s2 a2 p2 => ?_
    cases d with
    | bl k =>
      refine ⟨k, rfl, ?_⟩
      cases k with
      | true =>
        rw [if_pos rfl]
        refine ⟨fun σ' H' => ∃ g env, At X.K g env σ' H' ∧ Post E g (whileL fc cs m env g.S) (PF Dn), fun σ' H' w => ⟨m, Nat.lt_succ_self m, w⟩, g2, env1, a2, p2.bind.imp fun q g4 e4 s4 z4 => ?_⟩
        obtain ⟨_, _, z4⟩ := z4
        obtain ⟨fl, env4⟩ := q
        have K4 : g4.K = X.K := e4.K.trans a2.K
        cases fl with
        | nx => exact fun σ4 ok4 => ⟨g4, env4, ⟨K4, rfl, s4, ok4⟩, z4⟩
        | ct => exact fun σ4 ok4 => ⟨g4, env4, ⟨K4, rfl, s4, ok4⟩, z4⟩
        | bk => exact Post.ok (E := E) (a := (Fl.nx, env4)) s4 z4
        | rt d => exact Post.ok (E := E) (a := (Fl.rt d, env4)) s4 z4
      | false =>
        rw [if_neg Bool.false_ne_true]
        exact a2.here (Post.ok s2 p2)
    | _ => exact p2.elim

/-! ### list comprehensions -/
/-- an exception is no end -/
def noX {T : Type} (r : R T) : R T := match r with
  | .exc _ _ _ => .stuck
  | r => r
theorem Post.noX {T : Type} {E E' : XK} {g : G} {r : R T} {Q : T → G → Prop} (h : Post E g (MP.noX r) Q) : Post E' g r Q := by
  cases r with
  | ok a S => exact h
  | exc c vs S => exact h.elim
  | stuck => exact h
def sYes : CE := sC (.bl true)
def lcL (t : TgE) (test elt : CE) (own : List Nat) : List D → CL
  | [] => fun _ S => .ok [] S
  | d :: ds => fun env S => match t d (wipeE env own) with
    | none => .stuck
    | some env1 => (noX (test env1 S)).bind fun b S => match b with
      | .bl true => (noX (elt env1 S)).bind fun y S => (lcL t test elt own ds env S).bind fun ys S => .ok (y :: ys) S
      | .bl false => lcL t test elt own ds env S
      | _ => .stuck
def sLc (i : CI) (t : TgE) (test elt : CE) (own : List Nat) : CE := fun env S => (i env S).bind fun items S => if items.length ≤ sizeLine then (noX (lcL t test elt own items env S)).bind fun l S => .ok (.lst l) S else .stuck
def EvTs (X : Cx) (E : XK) (ifs : List Expr) (f : CE) : Prop := PTs X ifs (tDT X.K E f)
theorem ts_nil : EvTs X E [] sYes := by
  refine ⟨fun pins s σ H Q I h => pts_nil.run pins s σ H Q I ?_⟩
  obtain ⟨g, env, at_, p⟩ := h
  obtain ⟨b, eb, q⟩ := Post.ok at_.sim p
  cases eb
  rw [at_.H] at q
  exact q
theorem ts_one (h : EvT X E c fc) : EvTs X E [c] fc := ⟨fun pins s σ H Q I q => (pts_one h).run pins s σ H Q I q⟩
theorem wipe_get (σ : L2.St) : ∀ (vs : List Nat) (j : Nat), (L2.wipe σ vs)[j]? = if j ∈ vs then (if j < σ.length then some none else none) else σ[j]?
  | [], j => by simp [L2.wipe]
  | v :: vs, j => by
    unfold L2.wipe
    by_cases hj : v = j
    · subst hj
      by_cases hl : v < σ.length
      · rw [List.getElem?_set_self (by rw [wipe_length]; exact hl)]
        simp [hl]
      · rw [List.getElem?_eq_none (by rw [List.length_set, wipe_length]; omega)]
        simp [hl]
    · rw [List.getElem?_set_ne hj, wipe_get σ vs j]
      have : (j ∈ v :: vs) = (j ∈ vs) := by simp [Ne.symm hj]
      simp only [this]
theorem wipe_same {σ σ2 : L2.St} {vs ss : List Nat} (h : Same' ss (L2.wipe σ vs) σ2) (hs : ∀ j ∈ ss, j ∈ vs) : L2.wipe σ2 vs = L2.wipe σ vs := by
  have hl : σ2.length = σ.length := h.1.trans (wipe_length σ vs)
  refine List.ext_getElem? fun j => ?_
  rw [wipe_get, wipe_get]
  by_cases hj : j ∈ vs
  · rw [if_pos hj, if_pos hj, hl]
  · rw [if_neg hj, if_neg hj, h.2 j fun z => hj (hs j z), wipe_get, if_neg hj]
/-- the list that is being made at p, told apart -/
structure Lkd (g : G) (p : Addr) (g2 : G) : Prop where
  L : g2.L = p :: g.L
  e : Ext g { g2 with L := g.L }
  z : g.H p = none
theorem Lkd.mu {g g2 : G} {p b : Addr} (l : Lkd g p g2) (h : b ≠ p) : Mu g2 b ↔ Mu { g2 with L := g.L } b := by
  constructor
  · rintro (m | m)
    · exact .inl m
    · rw [l.L] at m
      rcases List.mem_cons.mp m with q | q
      · exact absurd q h
      · exact .inr q
  · rintro (m | m)
    · exact .inl m
    · exact .inr (by rw [l.L]; exact List.mem_cons_of_mem _ m)
theorem Lkd.e0 {g g2 : G} {p : Addr} (l : Lkd g p g2) : Ext0 g g2 := by
  refine ⟨l.e.K, l.e.pre, l.e.keep, l.e.stay, fun b h m => ?_⟩
  have hb : b ≠ p := fun q => h (by rw [q]; exact l.z)
  exact l.e.mu b h ((l.mu hb).mp m)
theorem Lkd.next {g g2 g3 : G} {p : Addr} (l : Lkd g p g2) (e : Ext g2 g3) : Lkd g p g3 := by
  refine ⟨e.L.trans l.L, ⟨⟨e.K.trans l.e.K, ?_, fun b o h n => ?_, fun b h => e.stay b (l.e.stay b h), fun b h m => ?_⟩, rfl, fun b hb => ?_⟩, l.z⟩
  · obtain ⟨d, q⟩ := l.e0.pre
    obtain ⟨d', q'⟩ := e.pre
    exact ⟨d ++ d', by show g3.ca = _; rw [q', q, List.append_assoc]⟩
  · have hb : b ≠ p := fun q => by rw [q, l.z] at h; cases h
    exact e.keep b o (l.e.keep b o h n) fun m => n (l.e.mu b (by rw [h]; simp) ((l.mu hb).mp m))
  · have hb : b ≠ p := fun q => h (by rw [q]; exact l.z)
    have m3 : Mu g3 b := by
      rcases m with m | m
      · exact .inl m
      · exact .inr (by rw [e.L, l.L]; exact List.mem_cons_of_mem _ m)
    exact l.e.mu b h ((l.mu hb).mp (e.mu b (l.e.stay b h) m3))
  · show g3.H b = g.H b
    rw [e.lk b (by rw [l.L]; exact List.mem_cons_of_mem _ hb)]
    exact l.e.lk b hb
/-- the list at p grows -/
def G.at_ (g : G) (p : Addr) (o : HO) : G := { g with H := upd g.H p o }
theorem lk_e0 {g : G} {p : Addr} {o : HO} (hp : p ∈ g.L) (hn : g.H p ≠ none) : Ext0 g (g.at_ p o) := by
  refine ⟨rfl, ⟨[], by simp [G.at_]⟩, fun b u h n => ?_, fun b h => ?_, fun b _ m => m⟩
  · show upd g.H p o b = some u
    rw [upd_ne fun q => n (.inr (by rw [q]; exact hp))]
    exact h
  · show upd g.H p o b ≠ none
    by_cases hb : b = p
    · subst hb
      rw [upd_same]
      simp
    · rw [upd_ne hb]
      exact h
theorem lk_sim {g : G} (s : Sim g) {p : Addr} {o : HO} (hp : p ∈ g.L) : Sim (g.at_ p o) := by
  have e := lk_e0 (o := o) hp (s.lk p hp).1
  refine ⟨s.len, s.nd, fun a ha => e.stay a (s.at_ a ha), fun a ha => ⟨e.stay a (s.lk a ha).1, (s.lk a ha).2⟩, fun n a c h1 h2 => ?_⟩
  refine CtOk.mono e ?_ (s.ok n a c h1 h2)
  show upd g.H p o a = g.H a
  exact upd_ne fun q => (s.lk p hp).2 (by rw [← q]; exact List.mem_of_getElem? h1)
theorem Lkd.grow {g g2 : G} {p : Addr} {o : HO} (l : Lkd g p g2) (s : Sim g2) : Lkd g p (g2.at_ p o) := by
  have hp : p ∈ g2.L := by
    rw [l.L]
    exact List.mem_cons_self ..
  have e := lk_e0 (o := o) hp (s.lk p hp).1
  refine ⟨l.L, ⟨⟨l.e.K, l.e.pre, fun b u h n => ?_, fun b h => e.stay b (l.e.stay b h), fun b h m => l.e.mu b h m⟩, rfl, fun b hb => ?_⟩, l.z⟩
  · have hb : b ≠ p := fun q => by rw [q, l.z] at h; cases h
    show upd g2.H p o b = some u
    rw [upd_ne hb]
    exact l.e.keep b u h n
  · show upd g2.H p o b = g.H b
    have hb' : b ≠ p := fun q => by
      have q2 : g2.H p = g.H p := l.e.lk p (by rw [← q]; exact hb)
      rw [l.z] at q2
      exact (s.lk p hp).1 q2
    rw [upd_ne hb']
    exact l.e.lk b hb
theorem Lkd.free {g g2 : G} {p : Addr} (l : Lkd g p g2) (s : Sim g2) : Sim { g2 with L := g.L } ∧ ¬ Mu { g2 with L := g.L } p := by
  have hp : p ∈ g2.L := by
    rw [l.L]
    exact List.mem_cons_self ..
  have nm : ¬ Mu { g2 with L := g.L } p := by
    rintro (⟨n, c, h, _, _⟩ | m)
    · exact (s.lk p hp).2 (List.mem_of_getElem? h)
    · have q2 : g2.H p = g.H p := l.e.lk p m
      rw [l.z] at q2
      exact (s.lk p hp).1 q2
  refine ⟨⟨s.len, s.nd, s.at_, fun a ha => s.lk a (by rw [l.L]; exact List.mem_cons_of_mem _ ha), fun n a c h1 h2 => ?_⟩, nm⟩
  have e : Ext0 g2 { g2 with L := g.L } := ⟨rfl, ⟨[], by simp⟩, fun _ _ h _ => h, fun _ h => h, fun b _ m => by
    rcases m with m | m
    · exact .inl m
    · exact .inr (by rw [l.L]; exact List.mem_cons_of_mem _ m)⟩
  exact CtOk.mono e rfl (s.ok n a c h1 h2)
theorem RepL.unlock {g g2 : G} {p : Addr} (l : Lkd g p g2) {ds : List D} {vs : List V} (h : RepL g2 ds vs) : RepL { g2 with L := g.L } ds vs := by
  have e : Ext0 g2 { g2 with L := g.L } := ⟨rfl, ⟨[], by simp⟩, fun _ _ h _ => h, fun _ h => h, fun b _ m => by
    rcases m with m | m
    · exact .inl m
    · exact .inr (by rw [l.L]; exact List.mem_cons_of_mem _ m)⟩
  exact h.mono0 e
/-- what is wanted of the rest of a comprehension, whatever has become of the list at p -/
def PostK (g1 : G) (p : Addr) (r : R (List D)) (Q : List D → G → Prop) : Prop := match r with
  | .ok l S => ∀ g3, g3.S = S → Lkd g1 p g3 → Sim g3 → Q l g3
  | _ => False
theorem PostK.run {T : Type} {E' : XK} {g1 g3 : G} {p : Addr} {r : R T} {k : T → List Ct → R (List D)} {Q : List D → G → Prop} (h : PostK g1 p ((noX r).bind k) Q) : Post E' g3 r fun b g4 => Ext g3 g4 ∧ Sim g4 ∧ PostK g1 p (k b g4.S) Q := by
  cases r with
  | ok a S =>
    intro g4 eS e s
    subst eS
    exact ⟨e, s, h⟩
  | exc c vs S => exact h.elim
  | stuck => exact h.elim
theorem PostK.tail {g1 : G} {p : Addr} {r : R (List D)} {y : D} {Q : List D → G → Prop} (h : PostK g1 p (r.bind fun ys S => .ok (y :: ys) S) Q) : PostK g1 p r fun l g => Q (y :: l) g := by
  cases r with
  | ok a S => exact h
  | exc c vs S => exact h.elim
  | stuck => exact h.elim
theorem lc_read {fi : CI} {t : TgE} {ft fe : CE} {own ss : List Nat} (hss : ∀ j ∈ ss, j ∈ own) {σ : L2.St} {H : Hp} {Q : VK}
    (h : tD X.K E (sLc fi t ft fe own) σ H Q) : tLc (tDI X.K E fi) (tG X.K t ss) (tDT X.K E0 ft) (tD X.K E0 fe) own σ H Q := by
  obtain ⟨g, env, at_, p⟩ := h
  refine ⟨g, env, at_, p.bind.imp fun items g1 e1 s1 z J wk p0 hp0 => ?_⟩
  obtain ⟨_, _, z⟩ := z
  split at z
  case isFalse => exact z.elim
  rename_i hz
  have K1 : g1.K = X.K := e1.K.trans at_.K
  have env1 : EnvOk g1 env σ := at_.env.mono e1
  have q0 : PostK g1 p0 (lcL t ft fe own items env g1.S) fun l g3 => ∀ v, Rep { g3 with L := g1.L } (.lst l) v → Q v g3.H := by
    revert z
    cases lcL t ft fe own items env g1.S with
    | ok l S =>
      intro z g3 eS l3 s3 v r
      exact z { g3 with L := g1.L } eS l3.e (l3.free s3).1 v r
    | exc c vs S => exact fun z => z.elim
    | stuck => exact fun z => z.elim
  -- the state with the new list
  obtain ⟨g2, hg2⟩ : ∃ g2 : G, g2 = ⟨g1.K, upd g1.H p0 (.lst []), g1.ca, g1.S, p0 :: g1.L⟩ := ⟨_, rfl⟩
  have l2 : Lkd g1 p0 g2 := by
    subst hg2
    exact ⟨rfl, Ext.new s1 hp0, hp0⟩
  have nca : p0 ∉ g1.ca := fun q => s1.at_ p0 q hp0
  have H2 : g2.H = upd g1.H p0 (.lst []) := by rw [hg2]
  have h20 : g2.H p0 = some (.lst []) := by rw [H2, upd_same]
  have hne : ∀ b, b ≠ p0 → g2.H b = g1.H b := fun b hb => by rw [H2, upd_ne hb]
  have s2 : Sim g2 := by
    have c2 : g2.ca = g1.ca := by rw [hg2]
    have S2 : g2.S = g1.S := by rw [hg2]
    refine ⟨by rw [c2, S2]; exact s1.len, by rw [c2]; exact s1.nd, fun a ha => l2.e0.stay a (s1.at_ a (by rw [← c2]; exact ha)), fun a ha => ?_, fun n a c h1 h2 => ?_⟩
    · rw [l2.L] at ha
      rw [c2]
      rcases List.mem_cons.mp ha with q | q
      · rw [q, h20]
        exact ⟨by simp, nca⟩
      · exact ⟨l2.e0.stay a (s1.lk a q).1, (s1.lk a q).2⟩
    · rw [c2] at h1
      rw [S2] at h2
      exact CtOk.mono l2.e0 (hne a fun q => nca (by rw [← q]; exact List.mem_of_getElem? h1)) (s1.ok n a c h1 h2)
  have S2 : g2.S = g1.S := by rw [hg2]
  refine ⟨fun i m H => m = items.length - i ∧ i ≤ items.length ∧ ∃ g3 acc ds, g3.H = H ∧ Sim g3 ∧ Lkd g1 p0 g3 ∧ g3.H p0 = some (.lst acc) ∧ acc.length ≤ i ∧ RepL g3 ds acc ∧ PostK g1 p0 (lcL t ft fe own (items.drop i) env g3.S) (fun l g3 => ∀ v, Rep { g3 with L := g1.L } (.lst (ds ++ l)) v → Q v g3.H),
    ⟨items.length, by simp, Nat.zero_le _, g2, [], [], H2, s2, l2, h20, Nat.le_refl _, trivial, by rw [List.drop_zero, S2]; exact q0⟩, ?_⟩
  rintro i m H' ⟨hm, hi, g3, acc, ds, eH, s3, l3, hacc, hle, rl, q3⟩
  by_cases hlt : i < items.length
  · refine .inr ⟨by rw [← eH]; exact wk.goes i g3 l3.e0 s3 hlt, fun H' => ∃ g3 acc ds, g3.H = H' ∧ Sim g3 ∧ Lkd g1 p0 g3 ∧ g3.H p0 = some (.lst acc) ∧ acc.length ≤ i + 1 ∧ RepL g3 ds acc ∧ PostK g1 p0 (lcL t ft fe own (items.drop (i + 1)) env g3.S) (fun l g3 => ∀ v, Rep { g3 with L := g1.L } (.lst (ds ++ l)) v → Q v g3.H),
      fun H' w => ⟨items.length - (i + 1), by omega, rfl, hlt, w⟩, fun x H2' y => ?_⟩
    rw [← eH] at y
    obtain ⟨d, g4, hd, eh, eS, e4, s4, r4⟩ := wk.yields i g3 x H2' l3.e0 s3 hlt y
    rw [List.drop_eq_getElem_cons hlt] at q3
    have ed : items[i] = d := by
      rw [List.getElem?_eq_getElem hlt] at hd
      exact Option.some.inj hd
    rw [ed] at q3
    unfold lcL at q3
    split at q3
    · exact q3.elim
    · rename_i env2 he
      rw [← eS] at q3
      have l4 := l3.next e4
      have K4 : g4.K = X.K := l4.e.K.trans K1
      have a4 : At X.K g4 (wipeE env own) (L2.wipe σ own) H2' := ⟨K4, eh, s4, (env1.mono0 l4.e0).wipes own⟩
      have hp4 : p0 ∈ g3.L := by
        rw [l3.L]
        exact List.mem_cons_self ..
      have acc4 : g4.H p0 = some (.lst acc) := (e4.lk p0 hp4).trans hacc
      refine ⟨g4, _, d, env2, a4, r4, he, fun σ2 ok2 sm => ⟨wipe_same sm hss, g4, env2, ⟨K4, eh, s4, ok2⟩, ?_⟩⟩
      refine q3.run.imp fun b g5 e5 s5 z5 => ?_
      obtain ⟨_, _, z5⟩ := z5
      have l5 := l4.next e5
      have acc5 : g5.H p0 = some (.lst acc) := (e5.lk p0 (by rw [l4.L]; exact List.mem_cons_self ..)).trans acc4
      have rl5 : RepL g5 ds acc := (rl.mono e4).mono e5
      have K5 : g5.K = X.K := l5.e.K.trans K1
      cases b with
      | bl k =>
        refine ⟨k, rfl, ?_⟩
        cases k with
        | false =>
          rw [if_neg Bool.false_ne_true]
          exact ⟨g5, acc, ds, rfl, s5, l5, acc5, Nat.le_succ_of_le hle, rl5, z5⟩
        | true =>
          rw [if_pos rfl]
          refine ⟨g5, env2, ⟨K5, rfl, s5, ok2.mono e5⟩, z5.run.imp fun yd g6 e6 s6 z6 v rv => ?_⟩
          obtain ⟨_, _, z6⟩ := z6
          have l6 := l5.next e6
          have acc6 : g6.H p0 = some (.lst acc) := (e6.lk p0 (by rw [l5.L]; exact List.mem_cons_self ..)).trans acc5
          have rl6 : RepL g6 ds acc := rl5.mono e6
          have hp6 : p0 ∈ g6.L := by
            rw [l6.L]
            exact List.mem_cons_self ..
          refine ⟨acc, acc6, by omega, g6.at_ p0 (.lst (acc ++ [v])), acc ++ [v], ds ++ [yd], rfl, lk_sim s6 hp6, l6.grow s6, upd_same, by rw [List.length_append, List.length_singleton]; omega, ?_, ?_⟩
          · exact (rl6.append (es := [yd]) (ws := [v]) ⟨rv, trivial⟩).mono0 (lk_e0 hp6 (s6.lk p0 hp6).1)
          · have z7 := z6.tail
            revert z7
            show PostK g1 p0 (lcL t ft fe own (items.drop (i + 1)) env g6.S) _ → PostK g1 p0 (lcL t ft fe own (items.drop (i + 1)) env g6.S) _
            cases lcL t ft fe own (items.drop (i + 1)) env g6.S with
            | ok l S =>
              intro z7 g7 eS l7 s7 v' r'
              refine z7 g7 eS l7 s7 v' ?_
              rw [List.append_assoc] at r'
              exact r'
            | exc c vs S => exact fun z => z.elim
            | stuck => exact fun z => z.elim
      | _ => exact z5.elim
  · have e : i = items.length := by omega
    subst e
    refine .inl ⟨by rw [← eH]; exact wk.stops g3 l3.e0 s3, ?_⟩
    rw [List.drop_length] at q3
    rw [← eH]
    refine q3 g3 rfl l3 s3 (.ref p0) ⟨p0, acc, rfl, ⟨hacc, (l3.free s3).2⟩, ?_⟩
    rw [List.append_nil]
    exact rl.unlock l3
/-- [elt for target in iter if ..] -/
theorem d_lc {elt tg iter : Expr} {ifs : List Expr} {scope : Scope} {own : List (Str × Nat)} {fi : CI} {t : TgE} {ft fe : CE} {ss : List Nat} (hc : X.calm = true) (hN : X.N.Nodup) (hi : EvI X E tg iter fi) (ok : BlkOk X.N X.env.scope scope own)
    (hss : ∀ j ∈ ss, j ∈ own.map (·.2))
    (hg : ∀ (s : Shared) (H : Hp) (C : Addr) (cl : List (Str × Addr)) (fp : List Addr), EvG (X.blk s H scope (compEnvC scope cl C X.env) fp) tg t ss)
    (ht : ∀ (s : Shared) (H : Hp) (C : Addr) (cl : List (Str × Addr)) (fp : List Addr), EvTs (X.blk s H scope (compEnvC scope cl C X.env) fp) E0 ifs ft)
    (he : ∀ (s : Shared) (H : Hp) (C : Addr) (cl : List (Str × Addr)) (fp : List Addr), EvD (X.blk s H scope (compEnvC scope cl C X.env) fp) E0 elt fe)
    (hs : ∀ x, foldedSetIterable iter X.env x = pure x := by intro _; rfl) : EvD X E (.ListComp elt [⟨tg, iter, ifs, 0⟩] scope pos) (sLc fi t ft fe (own.map (·.2))) :=
  pe_weak (pe_lc (g := tG X.K t ss) (tt := tDT X.K E0 ft) (te := tD X.K E0 fe) hc hN hi ok hg ht he hs) fun σ H Q q => lc_read hss q
theorem c_setLc (i : Nat) {y : Str} {py : Pos} {elt tg iter : Expr} {ifs : List Expr} {scope : Scope} {own : List (Str × Nat)} {spos : Pos} {fi : CI} {t : TgE} {ft fe : CE} {ss : List Nat} (hc : X.calm = true) (hN : X.N.Nodup)
    (hsw : swapsWith (.ListComp elt [⟨tg, iter, ifs, 0⟩] scope pos) (some (.Name y py)) spos.line X.env = pure true) (hi : EvI X E tg iter fi) (ok : BlkOk X.N X.env.scope scope own)
    (hss : ∀ j ∈ ss, j ∈ own.map (·.2))
    (hg : ∀ (s : Shared) (H : Hp) (C : Addr) (cl : List (Str × Addr)) (fp : List Addr), EvG (X.blk s H scope (compEnvC scope cl C X.env) fp) tg t ss)
    (ht : ∀ (s : Shared) (H : Hp) (C : Addr) (cl : List (Str × Addr)) (fp : List Addr), EvTs (X.blk s H scope (compEnvC scope cl C X.env) fp) E0 ifs ft)
    (he : ∀ (s : Shared) (H : Hp) (C : Addr) (cl : List (Str × Addr)) (fp : List Addr), EvD (X.blk s H scope (compEnvC scope cl C X.env) fp) E0 elt fe)
    (hy : X.N[i]? = some y := by rfl) (hyl : X.env.scope.names.lookup y = some .local := by rfl)
    (hs : ∀ x, foldedSetIterable iter X.env x = pure x := by intro _; rfl) : EvS X E (.Assign [.Name y py] (.ListComp elt [⟨tg, iter, ifs, 0⟩] scope pos) spos) (sSet i (sLc fi t ft fe (own.map (·.2)))) := by
  refine ps_weak (ps_setLc (i := i) (g := tG X.K t ss) (tt := tDT X.K E0 ft) (te := tD X.K E0 fe) hc hN hy hyl hsw hi ok hg ht he hs) ?_
  rintro Dn σ H ⟨g, env, at_, p⟩
  refine lc_read hss ?_
  exact at_.run p fun d v g1 e1 s1 a1 r1 p1 => Post.ok s1 p1 _ (a1.env.set r1 i)
end
end MP

/-! MpE: what operators, comparisons and built-in functions do to data. -/
namespace MP
open PySem PySem.Spec PyProof.Rows L2

/-- a rule by values and what it does to data -/
def Op2 (X : Cx) (E : XK) (f : Value → Value → Sem Value) (o : O2) : Prop := ∃ r, OpR X f r ∧ Sem2 X E r o
def Op1 (X : Cx) (E : XK) (f : Value → Sem Value) (o : O1) : Prop := ∃ r, UnR X f r ∧ Sem1 X E r o
def OpC (X : Cx) (E : XK) (f : Value) (o : OL) : Prop := ∃ r, CallR X f r ∧ SemL X E r o
section
variable {X : Cx} {E : XK} {e a b c : Expr} {es : List Expr} {f fa fb fc : CE} {fs : CL} {pos : Pos}
theorem e_bin {op : Operator} {o : O2} (h : Op2 X E (binaryOp op) o) (ha : EvD X E a fa) (hb : EvD X E b fb) : EvD X E (.BinOp a op b pos) (sBin o fa fb) :=
  let ⟨_, h1, h2⟩ := h; d_bin h1 h2 ha hb
theorem e_cmp {op : CmpOp} {o : O2} (h : Op2 X E (compareOp op) o) (ha : EvD X E a fa) (hb : EvD X E b fb) (hm : behindInMarks op b = false := by first | exact nomark _ | with_unfolding_all rfl) : EvD X E (.Compare a [op] [b] pos) (sBin o fa fb) :=
  let ⟨_, h1, h2⟩ := h; d_cmp h1 h2 ha hb hm
theorem et_cmp {op : CmpOp} {o : O2} (h : Op2 X E (compareOp op) o) (ha : EvD X E a fa) (hb : EvD X E b fb) (hm : behindInMarks op b = false := by first | exact nomark _ | with_unfolding_all rfl) : EvT X E (.Compare a [op] [b] pos) (sBin o fa fb) :=
  let ⟨_, h1, h2⟩ := h; t_cmp h1 h2 ha hb hm
theorem e_chain {op op' : CmpOp} {o o' : O2} (h : Op2 X E (compareOp op) o) (h' : Op2 X E (compareOp op') o') (ha : EvD X E a fa) (hb : EvD X E b fb) (hc : EvD X E c fc)
    (hm : lastMarks [op, op'] [b, c] = false := by with_unfolding_all rfl) : EvD X E (.Compare a [op, op'] [b, c] pos) (sChain o o' fa fb fc) :=
  let ⟨_, h1, h2⟩ := h; let ⟨_, h3, h4⟩ := h'; d_chain h1 h2 h3 h4 ha hb hc hm
theorem et_chain {op op' : CmpOp} {o o' : O2} (h : Op2 X E (compareOp op) o) (h' : Op2 X E (compareOp op') o') (ha : EvD X E a fa) (hb : EvD X E b fb) (hc : EvD X E c fc)
    (hm : lastMarks [op, op'] [b, c] = false := by with_unfolding_all rfl) : EvT X E (.Compare a [op, op'] [b, c] pos) (sChain o o' fa fb fc) :=
  let ⟨_, h1, h2⟩ := h; let ⟨_, h3, h4⟩ := h'; t_chain h1 h2 h3 h4 ha hb hc hm
theorem e_un {op : UnaryOp} {o : O1} (h : Op1 X E (unaryOp op) o) (ha : EvD X E a fa) : EvD X E (.UnaryOp op a pos) (sUn o fa) := by
  obtain ⟨r, h1, h2⟩ := h
  refine pe_weak (pe_un h1 ha) ?_
  rintro σ H Q ⟨g, env, at_, p⟩
  exact at_.run p fun d v g1 e1 s1 a1 r1 p1 => h2 g1 d v Q a1.K s1 r1 p1
def sCallB (o : OL) (fs : CL) : CE := fun env S => (fs env S).bind fun l S => o S l
theorem e_callB {x : Str} {p : Pos} {id : String} {o : OL} (h : OpC X E (.builtin id) o) (hg : Gl X x) (hm : X.mg x = none) (ha : EvA X E (e :: es) fs) (hv : bootBuiltins x = some (.builtin id) := by decide +kernel) (hn : x ≠ "__name__" := by decide +kernel) (hdb : (x == ("__debug__" : Str)) = false := by decide +kernel)
    (he : starEach (e :: es) X.env = (false, eval e X.env) :: starEach es X.env := by rfl) (hpl : (backTo pos (starEach es X.env)).any (·.1) = false := by rfl) : EvD X E (.Call (.Name x p) (e :: es) [] pos) (sCallB o fs) := by
  obtain ⟨r, h1, h2⟩ := h
  refine pe_weak (pe_callB h1 hg hm hv ha hn hdb he hpl) ?_
  rintro σ H Q ⟨g, env, at_, p⟩
  exact at_.runs p fun d v g1 e1 s1 a1 r1 p1 => h2 g1 d v Q a1.K s1 r1 p1
theorem e_callTy {x : Str} {p : Pos} {T : String} {o : OL} (h : OpC X E (.type T) o) (hg : Gl X x) (hm : X.mg x = none) (ha : EvA X E (e :: es) fs) (hv : bootBuiltins x = some (.type T) := by decide +kernel) (hn : x ≠ "__name__" := by decide +kernel) (hdb : (x == ("__debug__" : Str)) = false := by decide +kernel)
    (he : starEach (e :: es) X.env = (false, eval e X.env) :: starEach es X.env := by rfl) (hpl : (backTo pos (starEach es X.env)).any (·.1) = false := by rfl) : EvD X E (.Call (.Name x p) (e :: es) [] pos) (sCallB o fs) := by
  obtain ⟨r, h1, h2⟩ := h
  refine pe_weak (pe_callTy h1 hg hm hv ha hn hdb he hpl) ?_
  rintro σ H Q ⟨g, env, at_, p⟩
  exact at_.runs p fun d v g1 e1 s1 a1 r1 p1 => h2 g1 d v Q a1.K s1 r1 p1
end

/-! ### arithmetic -/
section
variable {X : Cx} {E : XK}
theorem post_val {g : G} (s : Sim g) {d : D} {Q : VK} (h : Post E g (.ok d g.S) (PV Q)) {v : V} (r : Rep g d v) : Q v g.H := Post.ok s h v r
def addO : O2 := fun S d e => match d, e with
  | .int i, .int j => .ok (.int (i + j)) S
  | .str x, .str y => if x.length + y.length ≤ sizeLine then .ok (.str (x ++ y)) S else .stuck
  | .tup l, .tup m => if l ≠ [] ∧ l.length + m.length ≤ sizeLine then .ok (.tup (l ++ m)) S else .stuck
  | d, e => match asLw S d, asLw S e with
    | some l, some m => if l.length + m.length ≤ sizeLine then .ok (.lst (l ++ m)) S else .stuck
    | _, _ => .stuck
theorem addO_list {S : List Ct} {d e : D} {T : Type} : ∀ (P : R D → Prop), (∀ i j, d = .int i → e = .int j → P (addO S d e)) → (∀ x y, d = .str x → e = .str y → P (addO S d e)) → (∀ l m, d = .tup l → e = .tup m → P (addO S d e)) →
    (∀ l m, asLw S d = some l → asLw S e = some m → addO S d e = (if l.length + m.length ≤ sizeLine then .ok (.lst (l ++ m)) S else .stuck) → P (addO S d e)) → P .stuck → P (addO S d e) := by
  intro P h1 h2 h3 h4 h5
  unfold addO
  split
  · exact h1 _ _ rfl rfl
  · exact h2 _ _ rfl rfl
  · exact h3 _ _ rfl rfl
  · rename_i n1 n2 n3
    split
    · rename_i l m q1 q2
      have e0 : addO S d e = (if l.length + m.length ≤ sizeLine then .ok (.lst (l ++ m)) S else .stuck) := by
        unfold addO
        split
        · rename_i i j
          exact (n1 i j rfl rfl).elim
        · rename_i i j
          exact (n2 i j rfl rfl).elim
        · rename_i i j
          exact (n3 i j rfl rfl).elim
        · rw [q1, q2]
      have := h4 l m q1 q2 e0
      rwa [e0] at this
    · exact h5
theorem o_add : Op2 X E (binaryOp .Add) addO := by
  refine ⟨_, OpR.or op_add (OpR.or op_add_str (OpR.or op_catT op_cat)), ?_⟩
  intro g d e x y Q hK s rx ry p
  revert p
  refine addO_list (T := D) (fun r => Post E g r (PV Q) → _) (fun i j h1 h2 => ?_) (fun i j h1 h2 => ?_) (fun l m h1 h2 => ?_) (fun l m h1 h2 h3 => ?_) fun z => z.elim
  · subst h1 h2
    intro p
    exact .inl ⟨i, j, rx, ry, post_val s p rfl⟩
  · subst h1 h2
    intro p
    unfold addO at p
    simp only at p
    split at p
    · rename_i hz
      exact .inr (.inl ⟨i, j, rx.1, ry.1, hz, post_val s p ⟨rfl, strG_app rx.2 ry.2 hz⟩⟩)
    · exact p.elim
  · subst h1 h2
    intro p
    unfold addO at p
    simp only at p
    split at p
    · rename_i hz
      obtain ⟨a, xs, ea, xa, ra⟩ := rx
      obtain ⟨b, ys, eb, xb, rb⟩ := ry
      refine .inr (.inr (.inl ⟨a, b, xs, ys, ea, eb, .inl (.inl xa.1), .inl (.inl xb.1), ?_, by rw [← ra.length, ← rb.length]; exact hz.2, fun hy => ?_, fun hy q hq => ?_⟩))
      · intro q
        subst q
        cases l with
        | nil => exact hz.1 rfl
        | cons _ _ => exact ra.elim
      · subst hy
        cases m with
        | cons _ _ => exact rb.elim
        | nil =>
          rw [List.append_nil] at p
          exact post_val s p ⟨a, xs, rfl, xa, ra⟩
      · exact p (g.new q (.tup (xs ++ ys))) rfl (Ext.new s hq) (Sim.new s hq) _ (rep_newT s hq (ra.append rb))
    · exact p.elim
  · intro p
    rw [h3] at p
    split at p
    · rename_i hz
      obtain ⟨a, xs, ea, xa, ra⟩ := asLw_rep s rx h1
      obtain ⟨b, ys, eb, xb, rb⟩ := asLw_rep s ry h2
      exact .inr (.inr (.inr ⟨a, b, xs, ys, ea, eb, xa, xb, by rw [← ra.length, ← rb.length]; exact hz, fun q hq => p (g.new q (.lst (xs ++ ys))) rfl (Ext.new s hq) (Sim.new s hq) _ (rep_newL s hq (ra.append rb))⟩))
    · exact p.elim
def intO (C : Int → Int → Prop) [∀ i j, Decidable (C i j)] (g : Int → Int → Int) : O2 := fun S d e => match d, e with
  | .int i, .int j => if C i j then .ok (.int (g i j)) S else .stuck
  | _, _ => .stuck
theorem intO_ok {C : Int → Int → Prop} [∀ i j, Decidable (C i j)] {h : Int → Int → Int} {f : Value → Value → Sem Value} (ho : OpR X f (rI C fun i j => .int (h i j))) : Op2 X E f (intO C h) := by
  refine ⟨_, ho, ?_⟩
  intro g d e x y Q hK s rx ry p
  unfold intO at p
  split at p
  · rename_i i j
    split at p
    · rename_i hc
      exact ⟨i, j, rx, ry, hc, post_val s p rfl⟩
    · exact p.elim
  · exact p.elim
theorem rI_true {h : Int → Int → V} {f : Value → Value → Sem Value} (ho : OpR X f (rI0 h)) : OpR X f (rI (fun _ _ => True) h) := by
  intro pins s σ H x y v u Q I rx ry q
  obtain ⟨i, j, e1, e2, _, q⟩ := q
  exact ho pins s σ H x y v u Q I rx ry ⟨i, j, e1, e2, q⟩
abbrev subO : O2 := intO (fun _ _ => True) fun i j => i - j
theorem o_sub : Op2 X E (binaryOp .Sub) subO := intO_ok (rI_true op_sub)
instance (i j : Int) : Decidable (CMul i j) := by unfold CMul; exact inferInstance
instance (i j : Int) : Decidable (CDiv i j) := by unfold CDiv; exact inferInstance
instance (i j : Int) : Decidable (CPow i j) := by unfold CPow; exact inferInstance
abbrev mulI : O2 := intO CMul fun i j => i * j
def mulO : O2 := fun S d e => match d, e with
  | .int i, .int j => if CMul i j then .ok (.int (i * j)) S else .stuck
  | d, .int k => match asLw S d with
    | some l => if (-(2 ^ 63) ≤ k ∧ k < 2 ^ 63) ∧ l.length * k.toNat ≤ sizeLine then .ok (.lst (List.replicate k.toNat l).flatten) S else .stuck
    | none => .stuck
  | _, _ => .stuck
theorem RepL.rep {g : G} {ds : List D} {vs : List V} (h : RepL g ds vs) : ∀ n : Nat, RepL g (List.replicate n ds).flatten (List.replicate n vs).flatten
  | 0 => trivial
  | n + 1 => by
    rw [List.replicate_succ, List.replicate_succ, List.flatten_cons, List.flatten_cons]
    exact h.append (RepL.rep h n)
theorem o_mul : Op2 X E (binaryOp .Mult) mulO := by
  refine ⟨_, OpR.or op_mul op_rep, ?_⟩
  intro g d e x y Q hK s rx ry p
  unfold mulO at p
  split at p
  · rename_i i j
    split at p
    · rename_i hc
      exact .inl ⟨i, j, rx, ry, hc, post_val s p rfl⟩
    · exact p.elim
  · rename_i k _
    split at p
    · rename_i l hl
      split at p
      · rename_i hz
        obtain ⟨a, xs, ea, xa, ra⟩ := asLw_rep s rx hl
        exact .inr ⟨a, k, xs, ea, ry, xa, hz.1.1, hz.1.2, by rw [← ra.length]; exact hz.2, fun q hq => p (g.new q (.lst (List.replicate k.toNat xs).flatten)) rfl (Ext.new s hq) (Sim.new s hq) _ (rep_newL s hq (ra.rep _))⟩
      · exact p.elim
    · exact p.elim
  · exact p.elim
abbrev fdivO : O2 := intO CDiv fun i j => i / j
theorem o_fdiv : Op2 X E (binaryOp .FloorDiv) fdivO := intO_ok op_fdiv
abbrev modO : O2 := intO (fun _ j => 0 < j) fun i j => i % j
theorem o_mod : Op2 X E (binaryOp .Mod) modO := intO_ok op_mod
abbrev powO : O2 := intO CPow fun i j => i ^ j.toNat
theorem o_pow : Op2 X E (binaryOp .Pow) powO := intO_ok op_pow
def negO : O1 := fun S d => match d with
  | .int i => .ok (.int (-i)) S
  | _ => .stuck
theorem o_neg : Op1 X E (unaryOp .USub) negO := by
  refine ⟨_, un_neg, ?_⟩
  intro g d x Q hK s rx p
  cases d with
  | int i => exact ⟨i, rx, post_val s p rfl⟩
  | _ => exact p.elim

/-! ### comparisons -/
abbrev ltL (x y : Str) : Bool := decide (x.cps.toList < y.cps.toList)
def cmpO (fi : Int → Int → Bool) (fs : Str → Str → Bool) : O2 := fun S d e => match d, e with
  | .int i, .int j => .ok (.bl (fi i j)) S
  | .str x, .str y => .ok (.bl (fs x y)) S
  | _, _ => .stuck
theorem cmpO_ok {fi : Int → Int → Bool} {fs : Str → Str → Bool} {f : Value → Value → Sem Value} (h1 : OpR X f (rI0 fun i j => .bl (fi i j)))
    (h2 : OpR X f fun x y H Q => ∃ i j, x = .str i ∧ y = .str j ∧ Q (.bl (fs i j)) H) : Op2 X E f (cmpO fi fs) := by
  refine ⟨_, OpR.or h1 h2, ?_⟩
  intro g d e x y Q hK s rx ry p
  unfold cmpO at p
  split at p
  · exact .inl ⟨_, _, rx, ry, post_val s p rfl⟩
  · exact .inr ⟨_, _, rx.1, ry.1, post_val s p rfl⟩
  · exact p.elim
abbrev ltO : O2 := cmpO (fun i j => decide (i < j)) fun x y => ltL x y
abbrev leO : O2 := cmpO (fun i j => decide (i ≤ j)) fun x y => !ltL y x
abbrev gtO : O2 := cmpO (fun i j => decide (j < i)) fun x y => ltL y x
abbrev geO : O2 := cmpO (fun i j => decide (j ≤ i)) fun x y => !ltL x y
theorem o_lt : Op2 X E (compareOp .Lt) ltO := cmpO_ok op_lt op_lt_str
theorem o_le : Op2 X E (compareOp .LtE) leO := cmpO_ok op_le op_le_str
theorem o_gt : Op2 X E (compareOp .Gt) gtO := cmpO_ok op_gt op_gt_str
theorem o_ge : Op2 X E (compareOp .GtE) geO := cmpO_ok op_ge op_ge_str

/-! ### == -/
mutual
def toPy : D → PyData
  | .bl b => .bool b
  | .int i => .int i
  | .str x => .str x
  | .tup l => .tuple (toPyL l)
  | .lst l => .list (toPyL l)
  | .scr l => .list (toPyL l)
  | _ => .none
def toPyL : List D → List PyData
  | [] => []
  | d :: ds => toPy d :: toPyL ds
end
mutual
/-- plain data without objects -/
def purD : D → Bool
  | .non => true
  | .bl _ => true
  | .int _ => true
  | .str _ => true
  | .tup l => purL l
  | .lst l => purL l
  | .scr l => purL l
  | _ => false
def purL : List D → Bool
  | [] => true
  | d :: ds => purD d && purL ds
end
mutual
theorem dp_of {g : G} : ∀ (d : D) (v : V), Rep g d v → purD d = true → Dp g.K g.H v (toPy d) ∧ (toPy d).canLay0 = true
  | .non, v, r, _ => by
    have r : v = _ := r
    rw [r]
    exact ⟨.non, rfl⟩
  | .bl b, v, r, _ => by
    have r : v = _ := r
    rw [r]
    exact ⟨.bl b, rfl⟩
  | .int b, v, r, _ => by
    have r : v = _ := r
    rw [r]
    exact ⟨.int b, rfl⟩
  | .str b, v, r, _ => by
    rw [r.1]
    exact ⟨.str b, by simpa [toPy, PyData.canLay0] using r.2.2⟩
  | .tup l, v, r, p => by
    obtain ⟨a, xs, e, x, q⟩ := r
    obtain ⟨h1, h2⟩ := dp_ofL l xs q (by simpa [purD] using p)
    rw [e]
    exact ⟨.tup (.inl (.inl x.1)) h1, by simpa [toPy, PyData.canLay0] using h2⟩
  | .lst l, v, r, p => by
    obtain ⟨a, xs, e, x, q⟩ := r
    obtain ⟨h1, h2⟩ := dp_ofL l xs q (by simpa [purD] using p)
    rw [e]
    exact ⟨.lst (.inl (.inl x.1)) h1, by simpa [toPy, PyData.canLay0] using h2⟩
  | .scr l, v, r, p => by
    obtain ⟨a, xs, e, x, q⟩ := r
    obtain ⟨h1, h2⟩ := dp_ofL l xs q (by simpa [purD] using p)
    rw [e]
    exact ⟨.lst x.sq h1, by simpa [toPy, PyData.canLay0] using h2⟩
  | .ty _, _, _, p => by cases p
  | .dic _ _, _, _, p => by cases p
  | .obj _ _ _, _, _, p => by cases p
  | .cel _, _, _, p => by cases p
  | .glo _, _, _, p => by cases p
theorem dp_ofL {g : G} : ∀ (ds : List D) (vs : List V), RepL g ds vs → purL ds = true → DpAll g.K g.H vs (toPyL ds) ∧ PyData.canLayAll0 (toPyL ds) = true
  | [], [], _, _ => ⟨.nil, by simp [toPyL, PyData.canLayAll0]⟩
  | d :: ds, v :: vs, r, p => by
    have p : (purD d && purL ds) = true := by simpa [purL] using p
    obtain ⟨p1, p2⟩ := Bool.and_eq_true_iff.mp p
    obtain ⟨h1, h2⟩ := dp_of d v r.1 p1
    obtain ⟨h3, h4⟩ := dp_ofL ds vs r.2 p2
    exact ⟨.cons h1 h3, by simp [toPyL, PyData.canLayAll0, h2, h4]⟩
  | [], _ :: _, r, _ => r.elim
  | _ :: _, [], r, _ => r.elim
end
/-- a cell's list as data -/
def derC (n : Nat) : Option (List D) → D
  | some l => .lst l
  | none => .cel n
def derL (S : List Ct) : D → D
  | .cel n => derC n (ctL S[n]?)
  | d => d
theorem dp_der {g : G} (s : Sim g) {d : D} {v : V} (r : Rep g d v) (p : purD (derL g.S d) = true) : Dp g.K g.H v (toPy (derL g.S d)) ∧ (toPy (derL g.S d)).canLay0 = true := by
  cases d with
  | cel n =>
    obtain ⟨a, e, ha⟩ := r
    have p : purD (derC n (ctL g.S[n]?)) = true := p
    show Dp g.K g.H v (toPy (derC n (ctL g.S[n]?))) ∧ (toPy (derC n (ctL g.S[n]?))).canLay0 = true
    cases hl : ctL g.S[n]? with
    | some l =>
      rw [hl] at p
      obtain ⟨xs, hx, q⟩ := s.ok n a _ ha (ctL_ok hl)
      obtain ⟨h1, h2⟩ := dp_ofL l xs q (by simpa [purD, derC] using p)
      rw [e]
      exact ⟨.lst (.inl (.inl hx)) h1, by simpa [toPy, derC, PyData.canLay0] using h2⟩
    | none =>
      rw [hl] at p
      cases p
  | _ => exact dp_of _ v r p
/-- deep equality: plain data, not too deep -/
def eqd (d e : D) : Option Bool := if purD d = true ∧ purD e = true ∧ (toPy d).depth ≤ 64 ∧ (toPy e).depth ≤ 64 then some (PyData.eqv (toPy d) (toPy e)) else none
def eqO : O2 := fun S d e => match eqd (derL S d) (derL S e) with
  | some k => .ok (.bl k) S
  | none => .stuck
def neO : O2 := fun S d e => match eqd (derL S d) (derL S e) with
  | some k => .ok (.bl !k) S
  | none => .stuck
theorem eqd_ok {d e : D} {k : Bool} (h : eqd d e = some k) : purD d = true ∧ purD e = true ∧ (toPy d).depth ≤ 64 ∧ (toPy e).depth ≤ 64 ∧ k = PyData.eqv (toPy d) (toPy e) := by
  unfold eqd at h
  split at h
  · rename_i z
    cases h
    exact ⟨z.1, z.2.1, z.2.2.1, z.2.2.2, rfl⟩
  · cases h
theorem shaped_of {p : PyData} (h : p.canLay0 = true) (k : p.depth ≤ 64) : SeqAt.shaped p = true := by
  unfold SeqAt.shaped
  rw [h, decide_eq_true k]
  rfl
theorem o_eq (hu : X.A.units + 64 < cLine) : Op2 X E (compareOp .Eq) eqO := by
  refine ⟨_, op_eqD hu, ?_⟩
  intro g d e x y Q hK s rx ry p
  unfold eqO at p
  split at p
  · rename_i k hk
    obtain ⟨p1, p2, p3, p4, ek⟩ := eqd_ok hk
    obtain ⟨h1, h2⟩ := dp_der s rx p1
    obtain ⟨h3, h4⟩ := dp_der s ry p2
    rw [← hK]
    refine ⟨_, _, h1, h3, shaped_of h2 p3, shaped_of h4 p4, ?_⟩
    rw [← ek]
    exact post_val s p rfl
  · exact p.elim
theorem o_ne (hu : X.A.units + 64 < cLine) : Op2 X E (compareOp .NotEq) neO := by
  refine ⟨_, op_neD hu, ?_⟩
  intro g d e x y Q hK s rx ry p
  unfold neO at p
  split at p
  · rename_i k hk
    obtain ⟨p1, p2, p3, p4, ek⟩ := eqd_ok hk
    obtain ⟨h1, h2⟩ := dp_der s rx p1
    obtain ⟨h3, h4⟩ := dp_der s ry p2
    rw [← hK]
    refine ⟨_, _, h1, h3, shaped_of h2 p3, shaped_of h4 p4, ?_⟩
    rw [← ek]
    exact post_val s p rfl
  · exact p.elim

/-! ### is None -/
def isNone : D → Bool
  | .non => true
  | _ => false
theorem isNone_rep {g : G} {d : D} {v : V} (r : Rep g d v) : decide (v = .non) = isNone d := by
  cases d with
  | non => exact decide_eq_true r
  | bl b => rw [show v = _ from r]; rfl
  | int b => rw [show v = _ from r]; rfl
  | str b => rw [r.1]; rfl
  | ty b => rw [show v = _ from r]; rfl
  | tup l => obtain ⟨a, _, e, _⟩ := r; rw [e]; rfl
  | lst l => obtain ⟨a, _, e, _⟩ := r; rw [e]; rfl
  | scr l => obtain ⟨a, _, e, _⟩ := r; rw [e]; rfl
  | dic l m => obtain ⟨a, _, e, _⟩ := r; rw [e]; rfl
  | obj c l m => obtain ⟨a, _, _, e, _⟩ := r; rw [e]; rfl
  | cel n => obtain ⟨a, e, _⟩ := r; rw [e]; rfl
  | glo x => rw [show v = _ from r]; rfl
def isO : O2 := fun S d e => match e with
  | .non => .ok (.bl (isNone d)) S
  | _ => .stuck
def isntO : O2 := fun S d e => match e with
  | .non => .ok (.bl !(isNone d)) S
  | _ => .stuck
theorem o_is : Op2 X E (compareOp .Is) isO := by
  refine ⟨_, op_isN, ?_⟩
  intro g d e x y Q hK s rx ry p
  cases e with
  | non => exact ⟨ry, by rw [isNone_rep rx]; exact post_val s p rfl⟩
  | _ => exact p.elim
theorem o_isnt : Op2 X E (compareOp .IsNot) isntO := by
  refine ⟨_, op_notN, ?_⟩
  intro g d e x y Q hK s rx ry p
  cases e with
  | non => exact ⟨ry, by rw [isNone_rep rx]; exact post_val s p rfl⟩
  | _ => exact p.elim

/-! ### in -/
def flatD : D → Bool
  | .non => true
  | .bl _ => true
  | .int _ => true
  | .str _ => true
  | _ => false
def toV : D → V
  | .bl b => .bl b
  | .int i => .int i
  | .str x => .str x
  | _ => .non
def eqF (d e : D) : Bool := eqV (toV d) (toV e)
theorem flat_rep {g : G} {d : D} {v : V} (r : Rep g d v) (h : flatD d = true) : v = toV d ∧ flatV v = true := by
  cases d with
  | non =>
    have r : v = _ := r
    rw [r]
    exact ⟨rfl, rfl⟩
  | bl b =>
    have r : v = _ := r
    rw [r]
    exact ⟨rfl, rfl⟩
  | int b =>
    have r : v = _ := r
    rw [r]
    exact ⟨rfl, rfl⟩
  | str b =>
    rw [r.1]
    exact ⟨rfl, rfl⟩
  | _ => cases h
theorem flat_repL {g : G} : ∀ {ds : List D} {vs : List V}, RepL g ds vs → ds.all flatD = true → vs = ds.map toV ∧ vs.all flatV = true
  | [], [], _, _ => ⟨rfl, rfl⟩
  | d :: ds, v :: vs, r, h => by
    rw [List.all_cons] at h
    obtain ⟨h1, h2⟩ := Bool.and_eq_true_iff.mp h
    obtain ⟨e1, f1⟩ := flat_rep r.1 h1
    obtain ⟨e2, f2⟩ := flat_repL r.2 h2
    exact ⟨by rw [e1, e2]; rfl, by rw [List.all_cons, f1, f2]; rfl⟩
  | [], _ :: _, r, _ => r.elim
  | _ :: _, [], r, _ => r.elim
/-- x in s, s a text: a sign, or any text -/
def inStr (x z : Str) : Bool := match x.cps.toList with
  | [c] => decide (c ∈ z.cps.toList)
  | _ => !(Builtin.Str.occurrences z x 0 z.length 1).isEmpty
def inL (d : D) (l : List D) : Bool := l.any fun y => eqF y d
def inB (S : List Ct) (d e : D) : Option Bool := match e with
  | .str z => match d with
    | .str x => some (inStr x z)
    | _ => none
  | e => match asQ S e with
    | some l => if flatD d = true ∧ l.all flatD = true then some (inL d l) else none
    | none => none
def inO : O2 := fun S d e => match inB S d e with
  | some k => .ok (.bl k) S
  | none => .stuck
def notInO : O2 := fun S d e => match inB S d e with
  | some k => .ok (.bl !k) S
  | none => .stuck
theorem str_one {x : Str} {c : Nat} (h : x.cps.toList = [c]) : x = ⟨#[c]⟩ := by
  cases x with
  | mk a =>
    have h : a.toList = [c] := h
    have : a = #[c] := by
      apply Array.ext'
      simpa using h
    rw [this]
theorem inB_ok {g : G} (s : Sim g) {d e : D} {x y : V} {k : Bool} (rx : Rep g d x) (ry : Rep g e y) (h : inB g.S d e = some k) :
    (∃ (c : Nat) (z : Str), x = .str ⟨#[c]⟩ ∧ y = .str z ∧ k = decide (c ∈ z.cps.toList)) ∨ (∃ i j : Str, x = .str i ∧ y = .str j ∧ k = !(Builtin.Str.occurrences j i 0 j.length 1).isEmpty) ∨
      ∃ p xs, y = .ref p ∧ (SqL g.K g.H p xs ∨ SqT g.K g.H p xs) ∧ flatV x = true ∧ xs.all flatV = true ∧ k = inV x xs := by
  have lists : (match asQ g.S e with
    | some l => if flatD d = true ∧ l.all flatD = true then some (inL d l) else none
    | none => none) = some k → ∃ p xs, y = .ref p ∧ (SqL g.K g.H p xs ∨ SqT g.K g.H p xs) ∧ flatV x = true ∧ xs.all flatV = true ∧ k = inV x xs := fun h => by
    split at h
    · rename_i l hl
      split at h
      · rename_i hf
        cases h
        obtain ⟨a, xs, ea, xa, ra⟩ := asQ_rep s ry hl
        obtain ⟨e1, f1⟩ := flat_rep rx hf.1
        obtain ⟨e2, f2⟩ := flat_repL ra hf.2
        refine ⟨a, xs, ea, xa, f1, f2, ?_⟩
        unfold inL inV
        rw [e1, e2, List.any_map]
        rfl
      · cases h
    · cases h
  unfold inB at h
  split at h
  · rename_i z
    split at h
    · rename_i w
      cases h
      unfold inStr
      split
      · rename_i c hc
        exact .inl ⟨c, z, by rw [rx.1, str_one hc], ry.1, rfl⟩
      · exact .inr (.inl ⟨w, z, rx.1, ry.1, rfl⟩)
    · cases h
  · exact .inr (.inr (lists h))
theorem o_in : Op2 X E (compareOp .In) inO := by
  refine ⟨_, OpR.or op_in_sign (OpR.or op_in_str op_in_seq), ?_⟩
  intro g d e x y Q hK s rx ry p
  unfold inO at p
  split at p
  · rename_i k hk
    have q := post_val s p (v := .bl k) rfl
    rcases inB_ok s rx ry hk with ⟨c, z, e1, e2, ek⟩ | ⟨i, j, e1, e2, ek⟩ | ⟨p0, xs, e1, e2, e3, e4, ek⟩
    · exact .inl ⟨c, z, e1, e2, by rw [← ek]; exact q⟩
    · exact .inr (.inl ⟨i, j, e1, e2, by rw [← ek]; exact q⟩)
    · rw [hK] at e2
      exact .inr (.inr ⟨p0, xs, e1, e2, e3, e4, by rw [if_neg Bool.false_ne_true, ← ek]; exact q⟩)
  · exact p.elim
theorem o_notin : Op2 X E (compareOp .NotIn) notInO := by
  refine ⟨_, OpR.or op_notIn_sign (OpR.or L2.op_notIn_str op_notIn_seq), ?_⟩
  intro g d e x y Q hK s rx ry p
  unfold notInO at p
  split at p
  · rename_i k hk
    have q := post_val s p (v := .bl !k) rfl
    rcases inB_ok s rx ry hk with ⟨c, z, e1, e2, ek⟩ | ⟨i, j, e1, e2, ek⟩ | ⟨p0, xs, e1, e2, e3, e4, ek⟩
    · exact .inl ⟨c, z, e1, e2, by rw [← ek]; exact q⟩
    · exact .inr (.inl ⟨i, j, e1, e2, by rw [← ek]; exact q⟩)
    · rw [hK] at e2
      exact .inr (.inr ⟨p0, xs, e1, e2, e3, e4, by rw [if_pos rfl, ← ek]; exact q⟩)
  · exact p.elim
end
end MP

/-! MpF: items, slices, cells that change, built-in functions, methods of texts and lists. -/
namespace MP
open PySem PySem.Spec PyProof.Rows L2

section
variable {X : Cx} {E : XK} {e a b c : Expr} {es : List Expr} {f fa fb fc : CE} {fs : CL} {pos : Pos}
/-! ### items -/
theorem atI_rep {g : G} {l : List D} {xs : List V} (r : RepL g l xs) {i : Int} {d : D} (h : atI l i = some d) : ∃ v, atI xs i = some v ∧ Rep g d v := by
  unfold atI at h ⊢
  rw [← r.length]
  obtain ⟨j, h1, h2⟩ := Option.bind_eq_some_iff.mp h
  obtain ⟨v, h3, h4⟩ := r.get h2
  exact ⟨v, Option.bind_eq_some_iff.mpr ⟨j, h1, h3⟩, h4⟩
def ixO : O2 := fun S d e => match e with
  | .int i => match d with
    | .str z => match atI z.cps.toList i with
      | some c => .ok (.str ⟨#[c]⟩) S
      | none => .stuck
    | d => match asQ S d with
      | some l => match atI l i with
        | some x => .ok x S
        | none => .stuck
      | none => .stuck
  | _ => .stuck
theorem atI_mem {A : Type} {l : List A} {i : Int} {x : A} (h : atI l i = some x) : x ∈ l := by
  unfold atI at h
  obtain ⟨j, _, h2⟩ := Option.bind_eq_some_iff.mp h
  exact List.mem_of_getElem? h2
theorem ix_sem : Sem2 X E (rIx X.K) ixO := by
  intro g d e x y Q hK s rx ry p
  cases e with
  | int i =>
    have seq : Post E g (match asQ g.S d with
      | some l => match atI l i with
        | some x => .ok x g.S
        | none => .stuck
      | none => .stuck) (PV Q) → rIx X.K x y g.H Q := fun p => by
      split at p
      · rename_i l hl
        split at p
        · rename_i z hz
          obtain ⟨a, xs, ea, xa, ra⟩ := asQ_rep s rx hl
          obtain ⟨v, h1, h2⟩ := atI_rep ra hz
          rw [hK] at xa
          rcases xa with xa | xa
          · exact .inl ⟨a, xs, i, v, ea, ry, xa, h1, post_val s p h2⟩
          · exact .inr (.inl ⟨a, xs, i, v, ea, ry, xa, h1, post_val s p h2⟩)
        · exact p.elim
      · exact p.elim
    cases d with
    | str z =>
      simp only [ixO] at p
      split at p
      · rename_i c hc
        exact .inr (.inr ⟨z, i, c, rx.1, ry, rx.2.1, hc, post_val s p ⟨rfl, strG_sign rx.2 (atI_mem hc)⟩⟩)
      · exact p.elim
    | _ => exact seq p
  | _ => exact p.elim
theorem e_ix (ha : EvD X E a fa) (hb : EvD X E b fb) (hs : PlainIx b := by exact fun _ _ => rfl) : EvD X E (.Subscript a b pos) (sBin ixO fa fb) := pe_weak (pe_ix ix_seq ha hb hs) fun _ _ _ q => two ix_sem q

/-! ### slices -/
abbrev CO := Env' → List Ct → R (Option Int)
def tDO (K : PySem.W.Frag) (E : XK) (f : CO) : L2.TO := fun σ H Q => ∃ g env, At K g env σ H ∧ Post E g (f env g.S) fun o g' => Q o g'.H
def EvO (X : Cx) (E : XK) (e : Option Expr) (f : CO) : Prop := PO X e (tDO X.K E f)
theorem po_weak {e : Option Expr} {t t' : L2.TO} (h : PO X e t) (k : ∀ σ H Q, t' σ H Q → t σ H Q) : PO X e t' := ⟨fun pins s σ H Q I q => h.run pins s σ H Q I (k σ H Q q)⟩
def sNoP : CO := fun _ S => .ok none S
def sP (f : CE) : CO := fun env S => (f env S).bind fun d S => match d with
  | .int i => .ok (some i) S
  | _ => .stuck
theorem o_none : EvO X E none sNoP := by
  refine po_weak po_none ?_
  rintro σ H Q ⟨g, env, at_, p⟩
  have q := Post.ok at_.sim p
  rw [at_.H] at q
  exact q
theorem o_some (h : EvD X E e f) : EvO X E (some e) (sP f) := by
  refine po_weak (po_some h) ?_
  rintro σ H Q ⟨g, env, at_, p⟩
  refine at_.run p fun d v g1 e1 s1 a1 r1 p1 => ?_
  cases d with
  | int i => exact ⟨i, r1, Post.ok s1 p1⟩
  | _ => exact p1.elim
def cutD (l : List D) (lo hi : Option Int) : List D := (l.drop (HT.sIx l.length 0 lo)).take (HT.sIx l.length l.length hi - HT.sIx l.length 0 lo)
theorem cut_rep {g : G} {l : List D} {xs : List V} (r : RepL g l xs) (lo hi : Option Int) : RepL g (cutD l lo hi) (cutV xs lo hi) := by
  unfold cutD cutV
  rw [← r.length]
  exact (r.drop _).take _
theorem strG_cut {z : Str} (h : strG z) (lo hi : Option Int) : strG (cutS z lo hi) := by
  rw [strG_iff] at h ⊢
  refine ⟨Nat.le_trans ?_ h.1, fun c hc => h.2 c ?_⟩
  · have := cutS_length z lo hi
    simpa [Str.length] using this
  · unfold cutS at hc
    exact List.mem_of_mem_drop (List.mem_of_mem_take (by simpa using hc))
def slO (S : List Ct) (d : D) (lo hi : Option Int) : R D := match d with
  | .str z => .ok (.str (cutS z lo hi)) S
  | .tup l => if HT.sIx l.length 0 lo = 0 ∧ HT.sIx l.length l.length hi = l.length then .stuck else .ok (.tup (cutD l lo hi)) S
  | d => match asL S d with
    | some l => .ok (.lst (cutD l lo hi)) S
    | none => .stuck
def sSl (f : CE) (lo hi : CO) : CE := fun env S => (f env S).bind fun d S => (lo env S).bind fun l S => (hi env S).bind fun h S => slO S d l h
theorem e_slice {lo hi : Option Expr} {flo fhi : CO} {p2 : Pos} (he : EvD X E e f) (hl : EvO X E lo flo) (hh : EvO X E hi fhi) : EvD X E (.Subscript e (.Slice lo hi none p2) pos) (sSl f flo fhi) := by
  refine pe_weak (pe_slice (SlR.or sl_str (SlR.or sl_tup sl_list)) he hl hh) ?_
  rintro σ H Q ⟨g, env, at_, p⟩
  refine at_.run p fun d v g1 e1 s1 a1 r1 p1 => ?_
  refine ⟨g1, env, a1, p1.bind.imp fun l g2 e2 s2 ⟨_, _, p2⟩ => ⟨g2, env, a1.next e2 s2, p2.bind.imp fun h g3 e3 s3 ⟨_, _, p3⟩ => ?_⟩⟩
  have r3 := (r1.mono e2).mono e3
  have hK : g3.K = X.K := e3.K.trans (e2.K.trans a1.K)
  have lists : Post E g3 (match asL g3.S d with
    | some m => .ok (.lst (cutD m l h)) g3.S
    | none => .stuck) (PV Q) → rSlL X.K v l h g3.H Q := fun p => by
    split at p
    · rename_i m hm
      obtain ⟨a, xs, ea, xa, ra⟩ := asL_rep s3 r3 hm
      rw [hK] at xa
      exact ⟨a, xs, ea, xa, fun q hq => p (g3.new q (.lst (cutV xs l h))) rfl (Ext.new s3 hq) (Sim.new s3 hq) _ (rep_newL s3 hq (cut_rep ra l h))⟩
    · exact p.elim
  cases d with
  | str z => exact .inl ⟨z, r3.1, r3.2.1, post_val s3 p3 ⟨rfl, strG_cut r3.2 l h⟩⟩
  | tup m =>
    simp only [slO] at p3
    split at p3
    · exact p3.elim
    · rename_i hz
      obtain ⟨a, xs, ea, xa, ra⟩ := r3
      refine .inr (.inl ⟨a, xs, ea, .inl (.inl xa.1), by rw [← ra.length]; exact hz, fun q hq => ?_⟩)
      exact p3 (g3.new q (.tup (cutV xs l h))) rfl (Ext.new s3 hq) (Sim.new s3 hq) _ (rep_newT s3 hq (cut_rep ra l h))
  | _ => exact .inr (.inr (lists p3))
/-- x[::-1], a list or a text -/
theorem filter_rev (z : Str) : (((List.range z.length).map fun k => z.length - 1 - k).filterMap (z.cps[·]?)).toArray = z.cps.reverse := by
  rw [PySem.W.krv_range, List.filterMap_reverse]
  have h := PySem.W.krv_all z.cps
  have e : (List.range z.length).filterMap (z.cps[·]?) = z.cps.toList := h
  rw [e]
  apply Array.ext'
  rw [Array.toList_reverse]
theorem pe_revA {te : TE} {k : Nat} {p1 p2 p3 : Pos} (he : PE X e te) : PE X (.Subscript e (.Slice none none (some (.UnaryOp .USub (.Constant (.int 1) k p1) p2)) p3) pos)
    fun σ H Q => te σ H fun x H1 => (∃ a xs, x = .ref a ∧ SqL X.K H1 a xs ∧ ∀ p, H1 p = none → Q (.ref p) (upd H1 p (.lst xs.reverse))) ∨ ∃ z, x = .str z ∧ z.length ≤ sizeLine ∧ Q (.str ⟨z.cps.reverse⟩) H1 := by
  refine ⟨fun pins s σ H Q I h => ?_⟩
  refine Subscript_ (thn (he.run pins s σ H _ I h) fun v s1 ⟨x, H1, I1, r1, q1⟩ => ?_)
  have step : PO X (some (.UnaryOp .USub (.Constant (.int 1) k p1) p2)) (tPart (tUn (rU fun i => .int (-i)) (tC (.int 1)))) := po_some (pe_un un_neg pe_int)
  refine wpAny_Slice (thn (po_none.run pins s1 σ H1 (fun o H2 => o = none ∧ H2 = H1) I1 ⟨rfl, rfl⟩) fun vl s2 z2 => ?_)
  obtain ⟨l, H2, I2, pl, el, e2⟩ := z2
  subst el e2
  refine thn (po_none.run pins s2 σ H2 (fun o H3 => o = none ∧ H3 = H2) I2 ⟨rfl, rfl⟩) fun vu s3 z3 => ?_
  obtain ⟨u, H3, I3, pu, eu, e3⟩ := z3
  subst eu e3
  refine thn (step.run pins s3 σ H3 (fun o H4 => o = some (-1) ∧ H4 = H3) I3 ⟨1, rfl, -1, rfl, rfl, rfl⟩) fun vs s4 z4 => ?_
  obtain ⟨o, H4, I4, ps, eo, e4⟩ := z4
  subst eo e4
  have I5 : Inv X pins σ H4 { s4 with heap := s4.heap.push { cls := .type "slice", data := .fields #[vl, vu, vs] } } := I4.kept (t' := s4.toks) fun b ob q => Heap.get?_push_of_some _ q
  rcases q1 with ⟨a, xs, ex, hx, q⟩ | ⟨z, ex, hz, q⟩
  · subst ex
    cases r1
    obtain ⟨its, r, ht, hsz⟩ := I5.list hx
    have hlen := r.length
    refine tail_any (ops := [.ref a, .ref s4.heap.objs.size]) ht.isList.typeIs (PySem.slot_list_getitem.lookup) ?_ (by with_unfolding_all rfl)
    refine wpAny_getItem_list_slice ht.isList (Heap.IsSliceOf.new _ vl vu vs) pl pu ps (by decide) ?_ (by rw [List.size_toArray]; omega)
    rw [PySem.W.krv_pick]
    refine ⟨.ref _, _, I5.laid (t' := s4.toks) (o := .lst xs.reverse) (fun b ob q => Heap.get?_push_of_some _ q) (Nat.le_refl _) ?_, rfl, q _ (I5.hok.fresh (Nat.le_refl _))⟩
    refine ⟨by rw [List.length_reverse]; exact hsz, _, 0, r.reverse, ?_⟩
    exact Heap.get?_push_size _ rfl
  · subst ex
    obtain ⟨t, rfl⟩ := r1
    obtain ⟨l', rfl, el⟩ := IsPart.raw pl
    obtain ⟨u', rfl, eu⟩ := IsPart.raw pu
    obtain ⟨o', rfl, eo⟩ := IsPart.raw ps
    refine tail_any (ops := [.str z t, .ref s4.heap.objs.size]) (typeIs_str _ _ _) F.slot_str_getitem.lookup ?_ (by with_unfolding_all rfl)
    have h0 : ((o'.map (·.1)).getD 1 == 0) = false := by rw [eo]; rfl
    refine wpAny_getItem_str_slice (l := l') (u := u') (st := o') (Heap.IsSliceOf.new _ _ _ _) h0 ?_
    have pick : slicePicked z l' u' o' = (List.range z.length).map fun k => z.length - 1 - k := by
      unfold slicePicked
      rw [el, eu, eo]
      exact PySem.W.krv_sliceRange z.length
    unfold sliceMade
    rw [eo, pick]
    show Made.post (Made.str ⟨(((List.range z.length).map fun k => z.length - 1 - k).filterMap (z.cps[·]?)).toArray⟩) (EP X pins σ Q) _
    rw [filter_rev]
    have hl : (⟨z.cps.reverse⟩ : Str).length ≤ sizeLine := by
      show z.cps.reverse.size ≤ sizeLine
      rw [Array.size_reverse]
      exact hz
    exact ⟨hl, .str _, H4, I5.tok _, ⟨_, rfl⟩, q⟩
def revO : O1 := fun S d => match d with
  | .str z => .ok (.str ⟨z.cps.reverse⟩) S
  | d => match asL S d with
    | some l => .ok (.lst l.reverse) S
    | none => .stuck
theorem strG_rev {z : Str} (h : strG z) : strG ⟨z.cps.reverse⟩ := by
  rw [strG_iff] at h ⊢
  have e : (⟨z.cps.reverse⟩ : Str).cps.toList = z.cps.toList.reverse := by simp
  rw [e]
  exact ⟨by rw [List.length_reverse]; exact h.1, fun c hc => h.2 c (List.mem_reverse.mp hc)⟩
theorem e_rev {k : Nat} {p1 p2 p3 : Pos} (he : EvD X E e f) : EvD X E (.Subscript e (.Slice none none (some (.UnaryOp .USub (.Constant (.int 1) k p1) p2)) p3) pos) (sUn revO f) := by
  refine pe_weak (pe_revA he) ?_
  rintro σ H Q ⟨g, env, at_, p⟩
  refine at_.run p fun d v g1 e1 s1 a1 r1 p1 => ?_
  have lists : Post E g1 (match asL g1.S d with
    | some l => .ok (.lst l.reverse) g1.S
    | none => .stuck) (PV Q) → ∃ a xs, v = .ref a ∧ SqL X.K g1.H a xs ∧ ∀ p, g1.H p = none → Q (.ref p) (upd g1.H p (.lst xs.reverse)) := fun p => by
    split at p
    · rename_i m hm
      obtain ⟨a, xs, ea, xa, ra⟩ := asL_rep s1 r1 hm
      rw [a1.K] at xa
      exact ⟨a, xs, ea, xa, fun q hq => p (g1.new q (.lst xs.reverse)) rfl (Ext.new s1 hq) (Sim.new s1 hq) _ (rep_newL s1 hq ra.reverse)⟩
    · exact p.elim
  cases d with
  | str z => exact .inr ⟨z, r1.1, r1.2.1, post_val s1 p1 ⟨rfl, strG_rev r1.2⟩⟩
  | _ => exact .inl (lists p1)

/-! ### a cell changes -/
/-- the n-th cell, at a, gets a new content -/
def G.put (g : G) (n : Nat) (a : Addr) (o : HO) (c : Ct) : G := ⟨g.K, upd g.H a o, g.ca, g.S.set n c, g.L⟩
theorem set_get {A : Type} {l : List A} {n m : Nat} {x y : A} (h : (l.set n x)[m]? = some y) : (m = n ∧ y = x) ∨ (m ≠ n ∧ l[m]? = some y) := by
  by_cases e : n = m
  · subst e
    have hl : n < l.length := by
      have := (List.getElem?_eq_some_iff.mp h).1
      rwa [List.length_set] at this
    rw [List.getElem?_set_self hl] at h
    exact .inl ⟨rfl, (Option.some.inj h).symm⟩
  · rw [List.getElem?_set_ne e] at h
    exact .inr ⟨fun q => e q.symm, h⟩
theorem Ext.put {g : G} (s : Sim g) {n : Nat} {a : Addr} {o : HO} {c c0 : Ct} (ha : g.ca[n]? = some a) (hc : g.S[n]? = some c0) (hd : c0 ≠ .dead) : Ext g (g.put n a o c) := by
  have m : Mu g a := .inl ⟨n, c0, ha, hc, hd⟩
  refine ⟨⟨rfl, ⟨[], by simp [G.put]⟩, fun b u h k => ?_, fun b h => ?_, fun b h k => ?_⟩, rfl, fun b hb => ?_⟩
  · show upd g.H a o b = some u
    rw [upd_ne fun q => k (by rw [q]; exact m)]
    exact h
  · show upd g.H a o b ≠ none
    by_cases e : b = a
    · rw [e, upd_same]
      simp
    · rw [upd_ne e]
      exact h
  · rcases k with ⟨j, c', h1, h2, h3⟩ | k
    · rcases set_get (show (g.S.set n c)[j]? = some c' from h2) with ⟨q, _⟩ | ⟨_, q⟩
      · subst q
        have e : b = a := Option.some.inj ((show g.ca[j]? = some b from h1).symm.trans ha)
        rw [e]
        exact m
      · exact .inl ⟨j, c', h1, q, h3⟩
    · exact .inr k
  · show upd g.H a o b = g.H b
    exact upd_ne fun q => (s.lk b hb).2 (by rw [q]; exact List.mem_of_getElem? ha)
theorem Sim.put {g : G} (s : Sim g) {n : Nat} {a : Addr} {o : HO} {c c0 : Ct} (ha : g.ca[n]? = some a) (hc : g.S[n]? = some c0) (hd : c0 ≠ .dead) (ok : CtOk (g.put n a o c) a c) : Sim (g.put n a o c) := by
  have e := Ext.put s (o := o) (c := c) ha hc hd
  refine ⟨by show g.ca.length = (g.S.set n c).length; rw [List.length_set]; exact s.len, s.nd, fun b hb => e.stay b (s.at_ b hb), fun b hb => ⟨e.stay b (s.lk b hb).1, (s.lk b hb).2⟩, fun j b c' h1 h2 => ?_⟩
  rcases set_get (show (g.S.set n c)[j]? = some c' from h2) with ⟨q, q2⟩ | ⟨q, h3⟩
  · subst q q2
    have e : b = a := Option.some.inj ((show g.ca[j]? = some b from h1).symm.trans ha)
    rw [e]
    exact ok
  · refine CtOk.mono e.toExt0 ?_ (s.ok j b c' h1 h3)
    show upd g.H a o b = g.H b
    have h1' : g.ca[j]? = some b := h1
    exact upd_ne fun z => q (nd_ix s.nd h1' (by rw [z]; exact ha))
/-- a list's cell gets a new list -/
theorem put_list {g : G} (s : Sim g) {n : Nat} {a : Addr} {l m : List D} {ys : List V} (ha : g.ca[n]? = some a) (hc : g.S[n]? = some (.lst l)) (r : RepL g m ys) :
    Ext g (g.put n a (.lst ys) (.lst m)) ∧ Sim (g.put n a (.lst ys) (.lst m)) := by
  have e := Ext.put s (o := .lst ys) (c := .lst m) ha hc (fun q => nomatch q)
  exact ⟨e, Sim.put s ha hc (fun q => nomatch q) ⟨ys, upd_same, r.mono e⟩⟩
/-- o[i] = e, o a list's cell -/
def setIxO (S : List Ct) (o i v : D) : R (Fl × Env') → (List Ct → R (Fl × Env')) → R (Fl × Env') := fun bad k => match o, i with
  | .cel n, .int j => match ctL S[n]? with
    | some l => match ixN l.length j with
      | some m => k (S.set n (.lst (l.set m v)))
      | none => bad
    | none => bad
  | _, _ => bad
def sSetIx (fo fi fv : CE) : CS := fun env S => (fv env S).bind fun v S => (fo env S).bind fun o S => (fi env S).bind fun i S => setIxO S o i v .stuck fun S => .ok (.nx, env) S
theorem c_setIx {o i : Expr} {fo fi : CE} {p2 : Pos} (hv : EvD X E e f) (ho : EvD X E o fo) (hi : EvD X E i fi)
    (ha : ∀ v, assign (.Subscript o i p2) X.env v = (do
      let ov ← holding [v] (eval o X.env)
      let iv ← holding [v, ov] (eval i X.env)
      standAt p2
      holding [v, ov, iv] (setItem ov iv v)
      release [v, ov, iv] []) := by intro _; rfl)
    (hs : swapsWithSole [.Subscript o i p2] e pos.line X.env = pure false := by rfl) (hw : swappedStores [.Subscript o i p2] e X.env = pure none := by rfl)
    (h1 : (assignEach [.Subscript o i p2] X.env).map (·.2) = [assign (.Subscript o i p2) X.env] := by rfl) : EvS X E (.Assign [.Subscript o i p2] e pos) (sSetIx fo fi f) := by
  refine ps_weak (ps_asg hv (pg_sub ho hi set_list ha) hs hw h1) ?_
  rintro Dn σ H ⟨g, env, at_, p⟩
  refine at_.run p fun d v g1 e1 s1 a1 r1 p1 => ?_
  refine a1.run p1 fun d2 v2 g2 e2 s2 a2 r2 p2 => ?_
  refine a2.run p2 fun d3 v3 g3 e3 s3 a3 r3 p3 => ?_
  unfold setIxO at p3
  split at p3
  · rename_i n j
    split at p3
    · rename_i l hl
      split at p3
      · rename_i m hm
        obtain ⟨a, ea, ha⟩ := r2.mono e3
        obtain ⟨xs, hx, rl⟩ := s3.ok n a _ ha (ctL_ok hl)
        have rv : Rep g3 d v := (r1.mono e2).mono e3
        obtain ⟨e4, s4⟩ := put_list s3 ha (ctL_ok hl) (rl.set rv m)
        refine ⟨a, xs, j, m, ea, r3, hx, by rw [← rl.length]; exact hm, ?_⟩
        exact (p3 (g3.put n a (.lst (xs.set m v)) (.lst (l.set m d))) rfl e4 s4) σ (a3.env.mono e4)
      · exact p3.elim
    · exact p3.elim
  · exact p3.elim

/-! ### built-in functions -/
def lenV (S : List Ct) : D → Option Nat
  | .str z => some z.length
  | d => (asQ S d).map List.length
def lenO : OL := fun S ds => match ds with
  | [d] => match lenV S d with
    | some n => .ok (.int n) S
    | none => .stuck
  | _ => .stuck
theorem lenV_ok {g : G} (s : Sim g) {d : D} {v : V} {n : Nat} (r : Rep g d v) (h : lenV g.S d = some n) : LenV g.K v g.H n := by
  have lists : (asQ g.S d).map List.length = some n → LenV g.K v g.H n := fun h => by
    obtain ⟨l, h1, h2⟩ := Option.map_eq_some_iff.mp h
    obtain ⟨a, ys, ea, ya, ra⟩ := asQ_rep s r h1
    subst ea
    have e : n = ys.length := by rw [← h2, ra.length]
    exact ya.elim (fun z => .inl ⟨ys, z, e⟩) fun z => .inr ⟨ys, z, e⟩
  cases d with
  | str z =>
    cases h
    obtain ⟨h1, h2⟩ := r
    subst h1
    exact ⟨h2.1, rfl⟩
  | _ => exact lists h
theorem oc_len : OpC X E (.builtin "len") lenO := by
  refine ⟨_, call_len, ?_⟩
  intro g ds xs Q hK s r p
  unfold lenO at p
  split at p
  · rename_i d
    cases xs with
    | nil => exact r.elim
    | cons v vs =>
      cases vs with
      | cons _ _ => exact r.2.elim
      | nil =>
        split at p
        · rename_i n hn
          have q := lenV_ok s r.1 hn
          rw [hK] at q
          exact ⟨v, n, rfl, q, post_val s p rfl⟩
        · exact p.elim
  · exact p.elim
def blsOf : List D → Option (List Bool)
  | [] => some []
  | .bl b :: r => (blsOf r).map (b :: ·)
  | _ => none
theorem blsOf_ok : ∀ {l : List D} {bs : List Bool}, blsOf l = some bs → l = bs.map D.bl
  | [], bs, h => by
    cases h
    rfl
  | .bl b :: r, bs, h => by
    obtain ⟨cs, h1, h2⟩ := Option.map_eq_some_iff.mp h
    rw [← h2, blsOf_ok h1]
    rfl
  | .non :: _, _, h => nomatch h
  | .int _ :: _, _, h => nomatch h
  | .str _ :: _, _, h => nomatch h
  | .ty _ :: _, _, h => nomatch h
  | .tup _ :: _, _, h => nomatch h
  | .lst _ :: _, _, h => nomatch h
  | .scr _ :: _, _, h => nomatch h
  | .dic _ _ :: _, _, h => nomatch h
  | .obj _ _ _ :: _, _, h => nomatch h
  | .cel _ :: _, _, h => nomatch h
  | .glo _ :: _, _, h => nomatch h
def intsOf : List D → Option (List Int)
  | [] => some []
  | .int b :: r => (intsOf r).map (b :: ·)
  | _ => none
theorem intsOf_ok : ∀ {l : List D} {bs : List Int}, intsOf l = some bs → l = bs.map D.int
  | [], bs, h => by
    cases h
    rfl
  | .int b :: r, bs, h => by
    obtain ⟨cs, h1, h2⟩ := Option.map_eq_some_iff.mp h
    rw [← h2, intsOf_ok h1]
    rfl
  | .non :: _, _, h => nomatch h
  | .bl _ :: _, _, h => nomatch h
  | .str _ :: _, _, h => nomatch h
  | .ty _ :: _, _, h => nomatch h
  | .tup _ :: _, _, h => nomatch h
  | .lst _ :: _, _, h => nomatch h
  | .scr _ :: _, _, h => nomatch h
  | .dic _ _ :: _, _, h => nomatch h
  | .obj _ _ _ :: _, _, h => nomatch h
  | .cel _ :: _, _, h => nomatch h
  | .glo _ :: _, _, h => nomatch h
def strsOf : List D → Option (List Str)
  | [] => some []
  | .str b :: r => (strsOf r).map (b :: ·)
  | _ => none
theorem strsOf_ok : ∀ {l : List D} {bs : List Str}, strsOf l = some bs → l = bs.map D.str
  | [], bs, h => by
    cases h
    rfl
  | .str b :: r, bs, h => by
    obtain ⟨cs, h1, h2⟩ := Option.map_eq_some_iff.mp h
    rw [← h2, strsOf_ok h1]
    rfl
  | .non :: _, _, h => nomatch h
  | .bl _ :: _, _, h => nomatch h
  | .int _ :: _, _, h => nomatch h
  | .ty _ :: _, _, h => nomatch h
  | .tup _ :: _, _, h => nomatch h
  | .lst _ :: _, _, h => nomatch h
  | .scr _ :: _, _, h => nomatch h
  | .dic _ _ :: _, _, h => nomatch h
  | .obj _ _ _ :: _, _, h => nomatch h
  | .cel _ :: _, _, h => nomatch h
  | .glo _ :: _, _, h => nomatch h
/-- one list in -/
def lst1 (S : List Ct) (ds : List D) : Option (List D) := match ds with
  | [d] => asL S d
  | _ => none
theorem lst1_ok {g : G} (s : Sim g) {ds : List D} {xs : List V} (r : RepL g ds xs) {l : List D} (h : lst1 g.S ds = some l) : ∃ a ys, xs = [.ref a] ∧ SqL g.K g.H a ys ∧ RepL g l ys := by
  unfold lst1 at h
  split at h
  · cases xs with
    | nil => exact r.elim
    | cons v vs =>
      cases vs with
      | cons _ _ => exact r.2.elim
      | nil =>
        obtain ⟨a, ys, ea, ya, ra⟩ := asL_rep s r.1 h
        exact ⟨a, ys, by rw [ea], ya, ra⟩
  · cases h
def allO : OL := fun S ds => match (lst1 S ds).bind blsOf with
  | some bs => .ok (.bl (bs.all id)) S
  | none => .stuck
def anyO : OL := fun S ds => match (lst1 S ds).bind blsOf with
  | some bs => .ok (.bl (bs.any id)) S
  | none => .stuck
theorem oc_all (hc : X.calm = true) : OpC X E (.builtin "all") allO := by
  refine ⟨_, cr_all hc, ?_⟩
  intro g ds xs Q hK s r p
  unfold allO at p
  split at p
  · rename_i bs hb
    obtain ⟨l, h1, h2⟩ := Option.bind_eq_some_iff.mp hb
    obtain ⟨a, ys, ea, ya, ra⟩ := lst1_ok s r h1
    rw [blsOf_ok h2] at ra
    rw [hK, ra.bls] at ya
    exact ⟨a, bs, ea, ya, post_val s p rfl⟩
  · exact p.elim
theorem oc_any (hc : X.calm = true) : OpC X E (.builtin "any") anyO := by
  refine ⟨_, cr_any hc, ?_⟩
  intro g ds xs Q hK s r p
  unfold anyO at p
  split at p
  · rename_i bs hb
    obtain ⟨l, h1, h2⟩ := Option.bind_eq_some_iff.mp hb
    obtain ⟨a, ys, ea, ya, ra⟩ := lst1_ok s r h1
    rw [blsOf_ok h2] at ra
    rw [hK, ra.bls] at ya
    exact ⟨a, bs, ea, ya, post_val s p rfl⟩
  · exact p.elim
def sumO : OL := fun S ds => match (lst1 S ds).bind intsOf with
  | some bs => .ok (.int bs.sum) S
  | none => .stuck
theorem oc_sum (hc : X.calm = true) : OpC X E (.builtin "sum") sumO := by
  refine ⟨_, cr_sum hc, ?_⟩
  intro g ds xs Q hK s r p
  unfold sumO at p
  split at p
  · rename_i bs hb
    obtain ⟨l, h1, h2⟩ := Option.bind_eq_some_iff.mp hb
    obtain ⟨a, ys, ea, ya, ra⟩ := lst1_ok s r h1
    rw [intsOf_ok h2] at ra
    rw [hK, ra.ints] at ya
    exact ⟨a, bs, ea, ya, post_val s p rfl⟩
  · exact p.elim
def absO : OL := fun S ds => match ds with
  | [.int i] => .ok (.int (if i < 0 then -i else i)) S
  | _ => .stuck
theorem oc_abs : OpC X E (.builtin "abs") absO := by
  refine ⟨_, call_abs, ?_⟩
  intro g ds xs Q hK s r p
  unfold absO at p
  split at p
  · rename_i i
    cases xs with
    | nil => exact r.elim
    | cons v vs =>
      cases vs with
      | cons _ _ => exact r.2.elim
      | nil =>
        have h1 : v = .int i := r.1
        exact ⟨i, by rw [h1], post_val s p rfl⟩
  · exact p.elim
def intOL : OL := fun S ds => match ds with
  | [.int i] => .ok (.int i) S
  | [.bl b] => .ok (.int (if b then 1 else 0)) S
  | _ => .stuck
theorem oc_int : OpC X E (.type "int") intOL := by
  refine ⟨_, call_int1, ?_⟩
  intro g ds xs Q hK s r p
  unfold intOL at p
  split at p
  · rename_i i
    cases xs with
    | nil => exact r.elim
    | cons v vs =>
      cases vs with
      | cons _ _ => exact r.2.elim
      | nil =>
        have h1 : v = .int i := r.1
        exact .inl ⟨i, by rw [h1], post_val s p rfl⟩
  · rename_i i
    cases xs with
    | nil => exact r.elim
    | cons v vs =>
      cases vs with
      | cons _ _ => exact r.2.elim
      | nil =>
        have h1 : v = .bl i := r.1
        exact .inr ⟨i, by rw [h1], post_val s p rfl⟩
  · exact p.elim
/-- list(x), tuple(x) of a list or a tuple -/
def seq1 (S : List Ct) (ds : List D) : Option (List D) := match ds with
  | [d] => asQ S d
  | _ => none
theorem seq1_ok {g : G} (s : Sim g) {ds : List D} {xs : List V} (r : RepL g ds xs) {l : List D} (h : seq1 g.S ds = some l) : ∃ a ys, xs = [.ref a] ∧ (SqL g.K g.H a ys ∨ SqT g.K g.H a ys) ∧ RepL g l ys := by
  unfold seq1 at h
  split at h
  · cases xs with
    | nil => exact r.elim
    | cons v vs =>
      cases vs with
      | cons _ _ => exact r.2.elim
      | nil =>
        obtain ⟨a, ys, ea, ya, ra⟩ := asQ_rep s r.1 h
        exact ⟨a, ys, by rw [ea], ya, ra⟩
  · cases h
def listO : OL := fun S ds => match seq1 S ds with
  | some l => .ok (.lst l) S
  | none => .stuck
theorem oc_list : OpC X E (.type "list") listO := by
  refine ⟨_, call_list_of, ?_⟩
  intro g ds xs Q hK s r p
  unfold listO at p
  split at p
  · rename_i l hl
    obtain ⟨a, ys, ea, ya, ra⟩ := seq1_ok s r hl
    rw [hK] at ya
    exact ⟨a, ys, ea, ya, fun q hq => p (g.new q (.lst ys)) rfl (Ext.new s hq) (Sim.new s hq) _ (rep_newL s hq ra)⟩
  · exact p.elim
/-- list(x) that will be changed -/
def listC : OL := fun S ds => match seq1 S ds with
  | some l => .ok (.cel S.length) (S ++ [.lst l])
  | none => .stuck
theorem oc_listC : OpC X E (.type "list") listC := by
  refine ⟨_, call_list_of, ?_⟩
  intro g ds xs Q hK s r p
  unfold listC at p
  split at p
  · rename_i l hl
    obtain ⟨a, ys, ea, ya, ra⟩ := seq1_ok s r hl
    rw [hK] at ya
    refine ⟨a, ys, ea, ya, fun q hq => ?_⟩
    obtain ⟨s2, r2⟩ := rep_cellL s hq ra
    exact p (g.cell q (.lst ys) (.lst l)) rfl (Ext.cell s hq) s2 _ r2
  · exact p.elim

/-! ### sorted texts -/
def leS (x y : Str) : Bool := !ltL y x
def insS (x : Str) : List Str → List Str
  | [] => [x]
  | y :: r => if leS x y then x :: y :: r else y :: insS x r
def sortS : List Str → List Str
  | [] => []
  | x :: r => insS x (sortS r)
theorem insS_perm (x : Str) : ∀ l, (insS x l).Perm (x :: l)
  | [] => .refl _
  | y :: r => by
    unfold insS
    split
    · exact .refl _
    · exact ((insS_perm x r).cons y).trans (.swap x y r)
theorem sortS_perm : ∀ l, (sortS l).Perm l
  | [] => .refl _
  | x :: r => (insS_perm x _).trans ((sortS_perm r).cons x)
theorem list_lt_trans {a b c : List Nat} (h : a < b) (k : b < c) : a < c := List.lt_trans h k
theorem leS_trans {x y z : Str} (h : leS x y = true) (k : leS y z = true) : leS x z = true := by
  simp only [leS, Bool.not_eq_true', decide_eq_false_iff_not] at h k ⊢
  exact List.le_trans (α := Nat) h k
theorem leS_total (x y : Str) : leS x y = true ∨ leS y x = true := by
  simp only [leS, Bool.not_eq_true', decide_eq_false_iff_not]
  by_cases h : y.cps.toList < x.cps.toList
  · right
    intro k
    exact List.lt_irrefl _ (list_lt_trans h k)
  · exact .inl h
theorem leS_anti {x y : Str} (h : leS x y = true) (k : leS y x = true) : x = y := by
  simp only [leS, Bool.not_eq_true', decide_eq_false_iff_not] at h k
  have e : x.cps.toList = y.cps.toList := List.le_antisymm (α := Nat) h k
  cases x
  cases y
  congr
  exact Array.ext' e
theorem insS_pair (x : Str) : ∀ l, l.Pairwise (fun a b => leS a b = true) → (insS x l).Pairwise fun a b => leS a b = true
  | [], _ => List.pairwise_singleton _ _
  | y :: r, h => by
    obtain ⟨h1, h2⟩ := List.pairwise_cons.mp h
    unfold insS
    split
    · rename_i hx
      refine List.pairwise_cons.mpr ⟨fun b hb => ?_, h⟩
      rcases List.mem_cons.mp hb with q | q
      · rw [q]
        exact hx
      · exact leS_trans hx (h1 b q)
    · rename_i hx
      refine List.pairwise_cons.mpr ⟨fun b hb => ?_, insS_pair x r h2⟩
      rcases List.mem_cons.mp ((insS_perm x r).mem_iff.mp hb) with q | q
      · rw [q]
        exact (leS_total y x).resolve_right hx
      · exact h1 b q
theorem sortS_pair : ∀ l, (sortS l).Pairwise fun a b => leS a b = true
  | [] => List.Pairwise.nil
  | x :: r => insS_pair x _ (sortS_pair r)
theorem sortedS_pair : ∀ (l : List Str), sortedS l = true → l.Pairwise fun a b => leS a b = true := by
  have go : ∀ (l : List Str) (p : Str), risingS p l = true → (∀ b ∈ l, leS p b = true) ∧ l.Pairwise fun a b => leS a b = true := by
    intro l
    induction l with
    | nil => exact fun p _ => ⟨fun b h => (by cases h), List.Pairwise.nil⟩
    | cons x r ih =>
      intro p h
      obtain ⟨h1, h2⟩ := Bool.and_eq_true_iff.mp (show (!ltCps x.cps.toList p.cps.toList && risingS x r) = true from h)
      obtain ⟨h3, h4⟩ := ih x h2
      have h0 : leS p x = true := by
        unfold leS ltL
        have e : ltCps x.cps.toList p.cps.toList = decide (x.cps.toList < p.cps.toList) := by
          exact ltCps_eq _ _
        rw [← e]
        exact h1
      refine ⟨fun b hb => ?_, List.pairwise_cons.mpr ⟨h3, h4⟩⟩
      rcases List.mem_cons.mp hb with q | q
      · rw [q]
        exact h0
      · exact leS_trans h0 (h3 b q)
  intro l h
  cases l with
  | nil => exact List.Pairwise.nil
  | cons x r =>
    obtain ⟨h1, h2⟩ := go r x h
    exact List.pairwise_cons.mpr ⟨h1, h2⟩
theorem sortS_only {xs ys : List Str} (p : ys.Perm xs) (h : sortedS ys = true) : ys = sortS xs :=
  (p.trans (sortS_perm xs).symm).eq_of_pairwise (fun a b _ _ => leS_anti) (sortedS_pair ys h) (sortS_pair xs)
def sortedO : OL := fun S ds => match (lst1 S ds).bind strsOf with
  | some xs => if xs.length < 64 then .ok (.lst ((sortS xs).map D.str)) S else .stuck
  | none => .stuck
theorem oc_sortedS : OpC X E (.builtin "sorted") sortedO := by
  refine ⟨_, cr_sortedS, ?_⟩
  intro g ds xs Q hK s r p
  unfold sortedO at p
  split at p
  · rename_i bs hb
    split at p
    · rename_i hz
      obtain ⟨l, h1, h2⟩ := Option.bind_eq_some_iff.mp hb
      obtain ⟨a, ys, ea, ya, ra⟩ := lst1_ok s r h1
      rw [strsOf_ok h2] at ra
      obtain ⟨e1, g1⟩ := ra.strs
      rw [hK, e1] at ya
      refine ⟨a, bs, ea, ya, hz, fun zs q hp hs hq => ?_⟩
      have e := sortS_only hp hs
      subst e
      exact p (g.new q (.lst ((sortS bs).map V.str))) rfl (Ext.new s hq) (Sim.new s hq) _ (rep_newL s hq (RepL.of_strs _ fun x hx => g1 x ((sortS_perm bs).mem_iff.mp hx)))
    · exact p.elim
  · exact p.elim
end
end MP

/-! MpG: isinstance, methods of texts and lists, calls of the text's own functions, what a function is worth. -/
namespace MP
open PySem PySem.Spec PyProof.Rows L2

section
variable {X : Cx} {E : XK} {e a b c o : Expr} {es : List Expr} {f fa fb fc fo : CE} {fs : CL} {pos : Pos}
/-! ### isinstance -/
def ctTy : Option Ct → Option String
  | some (.lst _) => some "list"
  | some (.dic _ _) => some "dict"
  | _ => none
def tyN (S : List Ct) : D → Option String
  | .non => some "NoneType"
  | .bl _ => some "bool"
  | .int _ => some "int"
  | .str _ => some "str"
  | .tup _ => some "tuple"
  | .lst _ => some "list"
  | .scr _ => some "list"
  | .dic _ _ => some "dict"
  | .cel n => ctTy S[n]?
  | _ => none
theorem tyN_ok {g : G} (s : Sim g) {d : D} {v : V} {t : String} (r : Rep g d v) (h : tyN g.S d = some t) : TyX g.K g.H v (.type t) := by
  cases d with
  | non => cases h; rw [show v = _ from r]; exact .base .non
  | bl b => cases h; rw [show v = _ from r]; exact .base (.bl b)
  | int b => cases h; rw [show v = _ from r]; exact .base (.int b)
  | str b => cases h; rw [r.1]; exact .base (.str b)
  | tup l =>
    cases h
    obtain ⟨a, xs, e, x, _⟩ := r
    rw [e]
    exact .base (.tup x.1)
  | lst l =>
    cases h
    obtain ⟨a, xs, e, x, _⟩ := r
    rw [e]
    exact .base (.lst x.1)
  | scr l =>
    cases h
    obtain ⟨a, xs, e, x, _⟩ := r
    rw [e]
    rcases x with ⟨o, h1, _⟩ | ⟨o, _, _, h1, h2, _⟩
    · exact .base (.frz h1)
    · exact .kList h1 h2
  | dic ks vs =>
    cases h
    obtain ⟨a, kvs, e, x, _⟩ := r
    rw [e]
    exact .base (.dK x.1)
  | cel n =>
    obtain ⟨a, e, ha⟩ := r
    have h : ctTy g.S[n]? = some t := h
    unfold ctTy at h
    split at h
    · rename_i l hS
      cases h
      obtain ⟨xs, hx, _⟩ := s.ok n a _ ha hS
      rw [e]
      exact .base (.lst hx)
    · rename_i ks vs hS
      cases h
      obtain ⟨xs, hx, _⟩ := s.ok n a _ ha hS
      rw [e]
      exact .base (.dK hx)
    · cases h
  | _ => cases h
def tysOf : List D → Option (List String)
  | [] => some []
  | .ty n :: r => (tysOf r).map (n :: ·)
  | _ => none
theorem tysOf_ok : ∀ {l : List D} {bs : List String}, tysOf l = some bs → l = bs.map D.ty
  | [], bs, h => by
    cases h
    rfl
  | .ty b :: r, bs, h => by
    obtain ⟨cs, h1, h2⟩ := Option.map_eq_some_iff.mp h
    rw [← h2, tysOf_ok h1]
    rfl
  | .non :: _, _, h => nomatch h
  | .bl _ :: _, _, h => nomatch h
  | .int _ :: _, _, h => nomatch h
  | .str _ :: _, _, h => nomatch h
  | .tup _ :: _, _, h => nomatch h
  | .lst _ :: _, _, h => nomatch h
  | .scr _ :: _, _, h => nomatch h
  | .dic _ _ :: _, _, h => nomatch h
  | .obj _ _ _ :: _, _, h => nomatch h
  | .cel _ :: _, _, h => nomatch h
  | .glo _ :: _, _, h => nomatch h
theorem RepL.tys {g : G} : ∀ {ns : List String} {vs : List V}, RepL g (ns.map D.ty) vs → vs = ns.map V.ty
  | [], [], _ => rfl
  | n :: ns, v :: vs, h => by
    have h1 : v = .ty n := h.1
    rw [h1, RepL.tys h.2]
    rfl
  | [], _ :: _, h => h.elim
  | _ :: _, [], h => h.elim
def kitAll (t : String) : List String → Option Bool
  | [] => some false
  | n :: r => match kitB t n with
    | some true => some true
    | some false => kitAll t r
    | none => none
theorem kitAll_ok {K : PySem.W.Frag} {t : String} : ∀ {ns : List String} {b : Bool}, kitAll t ns = some b → PySem.W.kitAny K (.type t) (ns.map Value.type) = some b
  | [], b, h => by
    cases h
    rfl
  | n :: r, b, h => by
    unfold kitAll at h
    split at h
    · rename_i h1
      cases h
      exact kitAny_cons (kit_ty h1) (fun z => nomatch z) (fun _ => rfl)
    · rename_i h1
      exact kitAny_cons (kit_ty h1) (fun _ => kitAll_ok h) (fun z => nomatch z)
    · cases h
theorem cls_tys : ∀ ns : List String, Paired ClsV (ns.map V.ty) (ns.map Value.type)
  | [] => .nil
  | n :: r => .cons (.ty n) (cls_tys r)
def isiO : OL := fun S ds => match ds with
  | [d, .ty n] => match (tyN S d).bind fun t => kitB t n with
    | some b => .ok (.bl b) S
    | none => .stuck
  | [d, .tup l] => match tysOf l with
    | some ns => match (tyN S d).bind fun t => kitAll t ns with
      | some b => .ok (.bl b) S
      | none => .stuck
    | none => .stuck
  | _ => .stuck
theorem oc_isi : OpC X E (.builtin "isinstance") isiO := by
  refine ⟨_, CallR.or call_isi call_isiT, ?_⟩
  intro g ds xs Q hK s r p
  unfold isiO at p
  split at p
  · rename_i d n
    match xs, r with
    | [v, w], r =>
      split at p
      · rename_i b hb
        obtain ⟨t, h1, h2⟩ := Option.bind_eq_some_iff.mp hb
        have ew : w = .ty n := r.2.1
        rw [← hK]
        exact .inl ⟨v, w, _, _, b, rfl, by rw [ew]; exact .ty n, tyN_ok s r.1 h1, kit_ty h2, post_val s p rfl⟩
      · exact p.elim
    | [], r => exact r.elim
    | [_], r => exact r.2.elim
    | _ :: _ :: _ :: _, r => exact r.2.2.elim
  · rename_i d l
    match xs, r with
    | [v, w], r =>
      split at p
      · rename_i ns hns
        split at p
        · rename_i b hb
          obtain ⟨t, h1, h2⟩ := Option.bind_eq_some_iff.mp hb
          obtain ⟨a, ys, ea, ya, ra⟩ := tup_rep r.2.1
          rw [tysOf_ok hns] at ra
          rw [ra.tys] at ya
          rw [← hK]
          exact .inr ⟨v, a, _, _, _, b, by rw [ea], ya, cls_tys ns, tyN_ok s r.1 h1, kitAll_ok h2, post_val s p rfl⟩
        · exact p.elim
      · exact p.elim
    | [], r => exact r.elim
    | [_], r => exact r.2.elim
    | _ :: _ :: _ :: _, r => exact r.2.2.elim
  · exact p.elim

/-! ### methods of built-in types -/
abbrev OM := List Ct → D → List D → R D
def SemM (X : Cx) (E : XK) (T : String) (r : V → List V → Hp → VK → Prop) (o : OM) : Prop :=
  ∀ (g : G) (d : D) (ds : List D) (x : V) (xs : List V) (Q : VK), g.K = X.K → Sim g → Rep g d x → RepL g ds xs → Post E g (o g.S d ds) (PV Q) → r x xs g.H Q
/-- the receiver's kind, seen ahead of the arguments -/
def isT (S : List Ct) (T : String) (d : D) : Prop := tyN S d = some T
def sMeth (T : String) (o : OM) (f : CE) (fs : CL) : CE := fun env S => (f env S).bind fun d S => if tyN S d = some T then (fs env S).bind fun l S => o S d l else .stuck
theorem tyV_of {g : G} (s : Sim g) {d : D} {v : V} {T : String} (hT : T = "list" ∨ T = "str") (r : Rep g d v) (h : tyN g.S d = some T) : tyV g.K T v g.H := by
  cases d with
  | non => cases h; rcases hT with e | e <;> exact absurd e (by decide)
  | bl b => cases h; rcases hT with e | e <;> exact absurd e (by decide)
  | int b => cases h; rcases hT with e | e <;> exact absurd e (by decide)
  | str b => cases h; rw [r.1]; exact rfl
  | tup l => cases h; rcases hT with e | e <;> exact absurd e (by decide)
  | lst l =>
    cases h
    obtain ⟨a, xs, e, x, _⟩ := r
    rw [e]
    exact .inl ⟨rfl, xs, .inl (.inl x.1)⟩
  | scr l =>
    cases h
    obtain ⟨a, xs, e, x, _⟩ := r
    rw [e]
    exact .inl ⟨rfl, xs, x.sq⟩
  | dic ks vs => cases h; rcases hT with e | e <;> exact absurd e (by decide)
  | cel n =>
    obtain ⟨a, e, ha⟩ := r
    have h : ctTy g.S[n]? = some T := h
    unfold ctTy at h
    split at h
    · rename_i l hS
      cases h
      obtain ⟨xs, hx, _⟩ := s.ok n a _ ha hS
      rw [e]
      exact .inl ⟨rfl, xs, .inl (.inl hx)⟩
    · cases h; rcases hT with e | e <;> exact absurd e (by decide)
    · cases h
  | _ => cases h
theorem e_meth {T id : String} {name : Str} {apos : Pos} {r : V → List V → Hp → VK → Prop} {oo : OM} (hT : T = "list" ∨ T = "str") (hm : MtR X id r) (so : SemM X E T r oo) (pa : PlainAttrs T) (slot : Slot T name id) (hty : typeOf (.builtin id) = pure (.type "method_descriptor"))
    (ho : EvD X E o fo) (ha : EvA X E (e :: es) fs) (hbase : attributeBase o name X.env (eval o X.env) = eval o X.env := by rfl)
    (hfew : ((backTo pos (starEach (e :: es) X.env)).all (fun x => !x.1) && (backToKw pos (keywordEach [] X.env)).all (fun x => x.1.isSome)
      && decide ((e :: es).length + ([] : List Keyword).length + (if ([] : List Keyword).isEmpty then 0 else 1) < 30)) = true := by rfl)
    (hline : (apos.endLine == pos.line) = true := by rfl) (hs : starEach (e :: es) X.env = (false, eval e X.env) :: starEach es X.env := by rfl) (hplain : (backTo pos (starEach es X.env)).any (·.1) = false := by rfl) :
    EvD X E (.Call (.Attribute o name apos) (e :: es) [] pos) (sMeth T oo fo fs) := by
  refine pe_weak (pe_bm pa slot hty hm ho ha hbase hfew hline hs hplain) ?_
  rintro σ H Q ⟨g, env, at_, p⟩
  refine at_.run p fun d v g1 e1 s1 a1 r1 p1 => ?_
  split at p1
  · rename_i ht
    have ty := tyV_of s1 hT r1 ht
    rw [a1.K] at ty
    exact ⟨ty, a1.runs p1 fun ds vs g2 e2 s2 a2 r2 p2 => so g2 d ds v vs Q a2.K s2 (r1.mono e2) r2 p2⟩
  · exact p1.elim
theorem e_meth0 {T id : String} {name : Str} {apos : Pos} {r : V → List V → Hp → VK → Prop} {oo : OM} (hT : T = "list" ∨ T = "str") (hm : MtR X id r) (so : SemM X E T r oo) (pa : PlainAttrs T) (slot : Slot T name id) (hty : typeOf (.builtin id) = pure (.type "method_descriptor"))
    (ho : EvD X E o fo) (hbase : attributeBase o name X.env (eval o X.env) = eval o X.env := by rfl) (hline : (apos.endLine == pos.line) = true := by rfl) : EvD X E (.Call (.Attribute o name apos) [] [] pos) (sMeth T oo fo sNil) := by
  refine pe_weak (pe_bm0 pa slot hty hm ho hbase hline) ?_
  rintro σ H Q ⟨g, env, at_, p⟩
  refine at_.run p fun d v g1 e1 s1 a1 r1 p1 => ?_
  split at p1
  · rename_i ht
    have ty := tyV_of s1 hT r1 ht
    rw [a1.K] at ty
    exact ⟨ty, so g1 d [] v [] Q a1.K s1 r1 trivial p1⟩
  · exact p1.elim
def joinO : OM := fun S d ds => match d, ds with
  | .str a, [x] => match (asQ S x).bind strsOf with
    | some ys => if (ys.map (·.length)).sum + ys.length * a.length ≤ 16777216 then .ok (.str (Str.join a ys)) S else .stuck
    | none => .stuck
  | _, _ => .stuck
theorem strG_join {y : Str} (hy : strG y) {parts : List Str} (h : ∀ p ∈ parts, strG p) (hz : (parts.map (·.length)).sum + parts.length * y.length ≤ 16777216) : strG (Str.join y parts) := by
  have hs : sizeLine = 16777216 := sizeLine_eq
  have len : ∀ parts : List Str, (Str.join y parts).cps.toList.length ≤ (parts.map (·.length)).sum + parts.length * y.length := by
    intro parts
    induction parts with
    | nil => simp [Str.join, Str.empty]
    | cons p r ih =>
      cases r with
      | nil => simp [Str.join, Str.length]
      | cons q r =>
        have e : (Str.join y (p :: q :: r)).cps.toList = p.cps.toList ++ y.cps.toList ++ (Str.join y (q :: r)).cps.toList := by
          show ((p.cps ++ y.cps) ++ (Str.join y (q :: r)).cps).toList = _
          simp
        rw [e]
        simp only [List.length_append, List.map_cons, List.sum_cons, List.length_cons] at ih ⊢
        have h1 : p.cps.toList.length = p.length := by simp [Str.length]
        have h2 : y.cps.toList.length = y.length := by simp [Str.length]
        have e3 : (r.length + 1 + 1) * y.length = (r.length + 1) * y.length + y.length := Nat.succ_mul _ _
        omega
  have mem : ∀ parts : List Str, (∀ p ∈ parts, strG p) → ∀ c ∈ (Str.join y parts).cps.toList, c < 0x110000 := by
    intro parts
    induction parts with
    | nil => intro _ c hc; simp [Str.join, Str.empty] at hc
    | cons p r ih =>
      intro hp c hc
      cases r with
      | nil => exact (strG_iff.mp (hp p (List.mem_cons_self ..))).2 c hc
      | cons q r =>
        have e : (Str.join y (p :: q :: r)).cps.toList = p.cps.toList ++ y.cps.toList ++ (Str.join y (q :: r)).cps.toList := by
          show ((p.cps ++ y.cps) ++ (Str.join y (q :: r)).cps).toList = _
          simp
        rw [e] at hc
        rcases List.mem_append.mp hc with hc | hc
        · rcases List.mem_append.mp hc with hc | hc
          · exact (strG_iff.mp (hp p (List.mem_cons_self ..))).2 c hc
          · exact (strG_iff.mp hy).2 c hc
        · exact ih (fun z hz => hp z (List.mem_cons_of_mem _ hz)) c hc
  rw [strG_iff]
  exact ⟨by rw [hs]; exact Nat.le_trans (len parts) hz, mem parts h⟩
theorem sm_join : SemM X E "str" (fun x xs H Q => ∃ a p, ∃ ys : List Str, x = .str a ∧ xs = [.ref p] ∧ (SqL X.K H p (ys.map V.str) ∨ SqT X.K H p (ys.map V.str)) ∧
    (ys.map (·.length)).sum + ys.length * a.length ≤ 16777216 ∧ Q (.str (Txt.join a ys)) H) joinO := by
  intro g d ds x xs Q hK s rx rs p
  unfold joinO at p
  split at p
  · rename_i a y
    match xs, rs with
    | [v], rs =>
      split at p
      · rename_i ys hy
        split at p
        · rename_i hz
          obtain ⟨l, h1, h2⟩ := Option.bind_eq_some_iff.mp hy
          obtain ⟨ad, zs, ea, za, ra⟩ := asQ_rep s rs.1 h1
          rw [strsOf_ok h2] at ra
          obtain ⟨e1, g1⟩ := ra.strs
          rw [hK, e1] at za
          refine ⟨a, ad, ys, rx.1, by rw [ea], za, hz, ?_⟩
          rw [TL.join_eq]
          exact post_val s p ⟨rfl, strG_join rx.2 g1 hz⟩
        · exact p.elim
      · exact p.elim
    | [], rs => exact rs.elim
    | _ :: _ :: _, rs => exact rs.2.elim
  · exact p.elim
theorem e_join {apos : Pos} (ho : EvD X E o fo) (ha : EvA X E [e] fs) (hbase : attributeBase o "join" X.env (eval o X.env) = eval o X.env := by rfl) (hs : starEach [e] X.env = [(false, eval e X.env)] := by rfl) (hline : (apos.endLine == pos.line) = true := by rfl)
    (hfew : ((backTo pos (starEach [e] X.env)).all (fun x => !x.1) && (backToKw pos (keywordEach [] X.env)).all (fun x => x.1.isSome)
      && decide (([e] : List Expr).length + ([] : List Keyword).length + (if ([] : List Keyword).isEmpty then 0 else 1) < 30)) = true := by rfl) :
    EvD X E (.Call (.Attribute o "join" apos) [e] [] pos) (sMeth "str" joinO fo fs) :=
  e_meth (.inr rfl) mt_join sm_join PySem.F.plainAttrs_str PySem.F.slot_str_join PySem.F.type_str_join ho ha hbase hfew hline hs

/-! ### the text's own functions -/
abbrev Dn' := List D → List Ct → R D
/-- what a function promises: it does to data what φ does -/
def spD (K : PySem.W.Frag) (ph : Dn') : Sp := fun vs H Q E => ∃ g ds, g.K = K ∧ g.H = H ∧ Sim g ∧ RepL g ds vs ∧ Post E g (ph ds g.S) (PV Q)
/-- a body over N names, n of them parameters -/
def runFn (n N : Nat) (body : CS) : Dn' := fun ds S => if ds.length = n then (body (ds.map some ++ List.replicate (N - n) none) S).bind fun p S => match p.1 with
  | .nx => .ok .non S
  | .rt d => .ok d S
  | _ => .stuck
  else .stuck
theorem env_start {g : G} {ds : List D} {vs : List V} {N : List Str} (r : RepL g ds vs) : EnvOk g (ds.map some ++ List.replicate (N.length - ds.length) none) (L2.start N vs) := by
  have hl := r.length
  refine ⟨by unfold L2.start; rw [List.length_append, List.length_append, List.length_map, List.length_map, List.length_replicate, List.length_replicate, hl], fun i d h => ?_⟩
  by_cases hi : i < ds.length
  · rw [List.getElem?_append_left (by rw [List.length_map]; exact hi), List.getElem?_map] at h
    obtain ⟨d', h1, h2⟩ := Option.map_eq_some_iff.mp h
    cases h2
    obtain ⟨v, h3, h4⟩ := r.get h1
    refine ⟨v, ?_, h4⟩
    unfold L2.start
    rw [List.getElem?_append_left (by rw [List.length_map, ← hl]; exact hi), List.getElem?_map, h3]
    rfl
  · rw [List.getElem?_append_right (by rw [List.length_map]; omega), List.getElem?_replicate] at h
    split at h <;> cases h
theorem fn_d {P : Program} {w : World} {K : PySem.W.Frag} {mg : Str → Option Value} {base : Heap} {x qual : Str} {params : Arguments} {body : List Stmt} {scope : Scope} {dvs : List V} {kws : List (Str × V)} {f : Addr} {fd : FuncData} {N ps : List Str} {k : Nat} {code : CS}
    (F : FunD K x qual params body scope dvs kws f fd) (S : FnScope N ps scope)
    (h : ∀ (cdv : Value) (A : Around) (outer : List Env) (s : Shared) (H : Hp) (E : XK), Room k (A.deeper (envOfC qual scope s.heap.objs.size f cdv)) → EvSs (cxOf (L2.CX P w) P w K mg base N qual scope f cdv A outer s H E) E body code) :
    FnOk P w K mg base (L2.CX P w) (k + 1) f fd ps (spD K (runFn ps.length N.length code)) := by
  refine F.ok S (fun vs H Q E q => ?_) fun cdv A outer s H vs Q E hr q => ⟨_, h cdv A outer s H E hr, ?_⟩
  · obtain ⟨g, ds, _, _, _, r, p⟩ := q
    rw [← r.length]
    unfold runFn at p
    split at p
    · assumption
    · exact p.elim
  · obtain ⟨g, ds, hK, hH, sg, r, p⟩ := q
    unfold runFn at p
    split at p
    · rename_i hn
      rw [← hn] at p
      refine ⟨g, _, ⟨hK, hH, sg, env_start r⟩, p.bind.imp fun fl g1 e1 s1 z => ?_⟩
      obtain ⟨_, _, z⟩ := z
      obtain ⟨fl, env1⟩ := fl
      cases fl with
      | nx => exact fun σ1 _ => post_val s1 z rfl
      | rt d => exact fun v rv => post_val s1 z rv
      | bk => exact z.elim
      | ct => exact z.elim
    · exact p.elim
def sCall (ph : Dn') (fs : CL) : CE := fun env S => (fs env S).bind fun l S => ph l S
theorem e_call {k : Nat} {f : Addr} {fd : FuncData} {ps : List Str} {x : Str} {p : Pos} {ph : Dn'} (F : FnOk X.prog X.w X.K X.mg X.base (L2.CX X.prog X.w) k f fd ps (spD X.K ph)) (hr : Room k X.A) (hm : X.mg x = some (.ref f)) (hk : PySem.W.keepIn X.K (.ref f) = true) (hb : Binds X.K fd ps []) (hx : Passes (L2.CX X.prog X.w) X E)
    (hg : Gl X x) (ha : EvA X E (e :: es) fs) (hdb : (x == ("__debug__" : Str)) = false := by decide +kernel) (he : starEach (e :: es) X.env = (false, eval e X.env) :: starEach es X.env := by rfl) (hpl : (backTo pos (starEach es X.env)).any (·.1) = false := by rfl) :
    EvD X E (.Call (.Name x p) (e :: es) [] pos) (sCall ph fs) := by
  refine pe_weak (pe_call F hr hg hm hk hb .nil hx ha hdb he hpl) ?_
  rintro σ H Q ⟨g, env, at_, q⟩
  refine at_.runs q fun ds vs g1 e1 s1 a1 r1 p1 => ?_
  rw [List.append_nil]
  exact ⟨g1, ds, a1.K, rfl, s1, r1, p1⟩
theorem e_call0 {k : Nat} {f : Addr} {fd : FuncData} {ps : List Str} {x : Str} {p : Pos} {ph : Dn'} (F : FnOk X.prog X.w X.K X.mg X.base (L2.CX X.prog X.w) k f fd ps (spD X.K ph)) (hr : Room k X.A) (hm : X.mg x = some (.ref f)) (hk : PySem.W.keepIn X.K (.ref f) = true) (hb : Binds X.K fd ps []) (hx : Passes (L2.CX X.prog X.w) X E)
    (hg : Gl X x) (hdb : (x == ("__debug__" : Str)) = false := by decide +kernel) : EvD X E (.Call (.Name x p) [] [] pos) (sCall ph sNil) := by
  refine pe_weak (pe_call0 F hr hg hm hk hb .nil hx hdb) ?_
  rintro σ H Q ⟨g, env, at_, q⟩
  have s1 := at_.sim
  exact ⟨g, [], at_.K, at_.H, s1, trivial, q⟩
/-- f(k = v, ..), keywords alone, in any order: perm puts them in the parameters' order -/
def EvK (X : Cx) (E : XK) (ks : List Keyword) (f : CL) : Prop := PK X ks (tDs X.K E f)
theorem k_nil : EvK X E [] sNil := by
  refine ⟨fun pos pins s σ H Q I h => pk_nil.run pos pins s σ H Q I ?_⟩
  obtain ⟨g, env, at_, p⟩ := h
  have q := Post.ok at_.sim p [] trivial
  rw [at_.H] at q
  exact q
theorem k_cons {nm : Option Str} {kpos : Pos} {ks : List Keyword} (he : EvD X E e f) (hs : EvK X E ks fs) : EvK X E (⟨nm, e, kpos⟩ :: ks) (sCons f fs) := by
  refine ⟨fun pos pins s σ H Q I h => (pk_cons he hs).run pos pins s σ H Q I ?_⟩
  obtain ⟨g, env, at_, p⟩ := h
  refine at_.run p fun d v g1 e1 s1 a1 r1 p1 => ?_
  refine a1.runs p1 fun ds vs g2 e2 s2 a2 r2 p2 => ?_
  exact Post.ok s2 p2 (v :: vs) ⟨r1.mono e2, r2⟩
/-- the i-th of the values is the perm[i]-th of those written -/
def pick {A : Type} (perm : List Nat) (l : List A) : List A := perm.filterMap (l[·]?)
theorem pick_rep {g : G} {ds : List D} {vs : List V} (r : RepL g ds vs) : ∀ perm : List Nat, RepL g (pick perm ds) (pick perm vs)
  | [] => trivial
  | i :: p => by
    unfold pick
    rw [List.filterMap_cons, List.filterMap_cons]
    cases h : ds[i]? with
    | none =>
      have h2 : vs[i]? = none := by
        rw [List.getElem?_eq_none_iff] at h ⊢
        rw [← r.length]
        exact h
      rw [h2]
      exact pick_rep r p
    | some d =>
      obtain ⟨v, h1, h2⟩ := r.get h
      rw [h1]
      exact ⟨h2, pick_rep r p⟩
theorem pick_vals {vs : List V} {us : List Value} (r : Vals vs us) : ∀ perm : List Nat, Vals (pick perm vs) (pick perm us)
  | [] => .nil
  | i :: p => by
    unfold pick
    rw [List.filterMap_cons, List.filterMap_cons]
    cases h : vs[i]? with
    | none =>
      rw [r.none_of h]
      exact pick_vals r p
    | some d =>
      obtain ⟨v, h1, h2⟩ := r.get h
      rw [h1]
      exact .cons h2 (pick_vals r p)
def sCallK (ph : Dn') (perm : List Nat) (fs fk : CL) : CE := fun env S => (fs env S).bind fun l S => (fk env S).bind fun m S => ph (pick perm (l ++ m)) S
theorem e_callK0 {k : Nat} {f : Addr} {fd : FuncData} {ps ks : List Str} {x : Str} {p : Pos} {ph : Dn'} {kws : List Keyword} {fk : CL} {perm : List Nat} (F : FnOk X.prog X.w X.K X.mg X.base (L2.CX X.prog X.w) k f fd ps (spD X.K ph)) (hr : Room k X.A) (hm : X.mg x = some (.ref f)) (hk : PySem.W.keepIn X.K (.ref f) = true)
    (hb : ∀ (s : Shared) (ws : List Value), ws.length = ks.length → BindsTo s fd ⟨[], ks.zip ws⟩ (ps.zip (pick perm ws))) (hx : Passes (L2.CX X.prog X.w) X E) (hg : Gl X x) (ha : EvK X E kws fk) (hlen : ∀ (env : Env') (S : List Ct) l S', fk env S = .ok l S' → l.length = ks.length)
    (hall : (backToKw pos (keywordEach kws X.env)).all (·.1.isSome) = true := by rfl) (hks : (backToKw pos (keywordEach kws X.env)).filterMap (·.1) = ks := by rfl)
    (hdb : (x == ("__debug__" : Str)) = false := by decide +kernel) (hpl : ((backTo pos (starEach [] X.env)).any (·.1) || (backToKw pos (keywordEach kws X.env)).any (·.1.isNone)) = false := by rfl) :
    EvD X E (.Call (.Name x p) [] kws pos) (sCallK ph perm sNil fk) := by
  refine ⟨fun pins s σ H Q I h => ?_⟩
  obtain ⟨g, env, at_, q⟩ := h
  have q : Post E g ((fk env g.S).bind fun m S => ph (pick perm m) S) (PV Q) := q
  refine wpAny_Call_Name_kw (ld_glob I hg hm ?_ hdb)
  refine PySem.W.callWith_KW0 (h₀ := X.base) I.ok.mod.kin hk hall ?_ hpl
  have hl : ∀ l S', fk env g.S = .ok l S' → l.length = ks.length := hlen env g.S
  have rd : tDs X.K E fk σ H fun vs H1 => vs.length = ks.length ∧ spD X.K ph (pick perm vs) H1 Q E := by
    refine ⟨g, env, at_, ?_⟩
    revert q hl
    cases fk env g.S with
    | ok l S' =>
      intro q hl g1 eS e1 s1 vs rv
      have p1 := Post.ext e1 q
      refine ⟨by rw [← rv.length]; exact hl l S' rfl, g1, pick perm l, e1.K.trans at_.K, rfl, s1, pick_rep rv perm, ?_⟩
      have p1 : Post E g1 (ph (pick perm l) S') (PV Q) := p1
      rw [eS]
      exact p1
    | exc c vs S => exact fun q _ => q
    | stuck => exact fun q _ => q
  refine thn (ha.run pos pins s σ H _ I rd) fun ws s2 z => ?_
  obtain ⟨zs, H2, I2, rz, l2, q2⟩ := z
  refine ⟨I2.kIn, ?_⟩
  rw [hks]
  have r2 := pick_vals rz perm
  have hlw : ws.length = ks.length := by rw [← rz.length]; exact l2
  refine wpAny_call (codeAny_mono (F.run X.A X.stack s2 H2 ⟨[], ks.zip ws⟩ (pick perm ws) (pick perm zs) Q E hr I2.env0 (hb s2 ws hlw) r2 q2) fun r s' hq => ?_)
  cases r with
  | error e => exact hx pins σ H2 s2 e s' I2 hq
  | ok fl =>
    cases fl with
    | ret u => exact I2.after hq
    | next => exact False.elim hq
    | brk => exact False.elim hq
    | cont => exact False.elim hq
end
end MP

/-! MpH: the table of a text's functions, what each is worth at a depth, the law's end. -/
namespace MP
open PySem PySem.Spec PyProof.Rows L2

abbrev Den := String → Dn'
/-- a function of the text: its name, where it stands, its parameters, all its names, what its body is worth -/
structure Fn where
  name : String
  st : Stmt
  ps : List Str
  N : List Str
  code : Den → CS
def denT (t : List Fn) : Nat → Den
  | 0 => fun _ _ _ => .stuck
  | k + 1 => fun x => match t.find? fun f => f.name == x with
    | some f => runFn f.ps.length f.N.length (f.code (denT t k))
    | none => fun _ _ => .stuck
section
variable (P : Program) (w : World) (K : PySem.W.Frag) (mg : Str → Option Value) (base : Heap)
/-- what is known of a function at a depth -/
def Ent (k : Nat) (Ph : Den) (f : Fn) : Prop := ∃ fd, FunD K f.name f.name (defArgs f.st) (defBody f.st) (defScope f.st) [] [] (He.ga K f.name) fd ∧ mg f.name = some (.ref (He.ga K f.name)) ∧ Binds K fd f.ps [] ∧
  FnOk P w K mg base (L2.CX P w) k (He.ga K f.name) fd f.ps (spD K (Ph f.name))
/-- what is known ahead of all depths -/
def Ent0 (f : Fn) : Prop := ∃ fd, FunD K f.name f.name (defArgs f.st) (defBody f.st) (defScope f.st) [] [] (He.ga K f.name) fd ∧ mg f.name = some (.ref (He.ga K f.name)) ∧ Binds K fd f.ps []
/-- a function's body is worth its code, whatever the depth -/
def Wor (t : List Fn) (f : Fn) : Prop := ∀ (k : Nat) (Ph : Den), (∀ g ∈ t, Ent P w K mg base k Ph g) → ∀ (cdv : Value) (A : Around) (outer : List Env) (s : Shared) (H : Hp) (E : XK), Room k (A.deeper (envOfC (f.name : Str) (defScope f.st) s.heap.objs.size (He.ga K f.name) cdv)) →
  EvSs (cxOf (L2.CX P w) P w K mg base f.N f.name (defScope f.st) (He.ga K f.name) cdv A outer s H E) E (defBody f.st) (f.code Ph)
end
theorem spD_stuck {K : PySem.W.Frag} {ph : Dn'} (h : ∀ ds S, ph ds S = .stuck) {vs : List V} {H : Hp} {Q : VK} {E : XK} : ¬ spD K ph vs H Q E := fun ⟨g, ds, _, _, _, _, p⟩ => by
  rw [h] at p
  exact p
theorem all_ent {P : Program} {w : World} {K : PySem.W.Frag} {mg : Str → Option Value} {base : Heap} {t : List Fn} (h0 : ∀ f ∈ t, Ent0 K mg f) (hs : ∀ f ∈ t, FnScope f.N f.ps (defScope f.st)) (hw : ∀ f ∈ t, Wor P w K mg base t f)
    (hd : ∀ f ∈ t, t.find? (fun g => g.name == f.name) = some f) : ∀ k, ∀ f ∈ t, Ent P w K mg base k (denT t k) f
  | 0, f, hf => by
    obtain ⟨fd, F, m, b⟩ := h0 f hf
    exact ⟨fd, F, m, b, ⟨fun vs H Q E q => (spD_stuck (fun _ _ => rfl) q).elim, fun A outer s H args us vs Q E _ _ _ _ q => (spD_stuck (fun _ _ => rfl) q).elim⟩⟩
  | k + 1, f, hf => by
    obtain ⟨fd, F, m, b⟩ := h0 f hf
    refine ⟨fd, F, m, b, ?_⟩
    have e : denT t (k + 1) f.name = runFn f.ps.length f.N.length (f.code (denT t k)) := by
      show (match t.find? fun g => g.name == f.name with
        | some f => runFn f.ps.length f.N.length (f.code (denT t k))
        | none => fun _ _ => .stuck) = _
      rw [hd f hf]
    rw [e]
    exact fn_d F (hs f hf) fun cdv A outer s H E hr => hw f hf k _ (all_ent h0 hs hw hd k) cdv A outer s H E hr
section
variable {X : Cx} {E : XK} {e : Expr} {es : List Expr} {fs : CL} {pos : Pos}
theorem x_call {k : Nat} {Ph : Den} {fn : Fn} {p : Pos} (T : Ent X.prog X.w X.K X.mg X.base k Ph fn) (hr : Room k X.A) (hx : Passes (L2.CX X.prog X.w) X E) (hg : Gl X fn.name) (ha : EvA X E (e :: es) fs) (hdb : ((fn.name : Str) == ("__debug__" : Str)) = false := by decide +kernel)
    (he : starEach (e :: es) X.env = (false, eval e X.env) :: starEach es X.env := by rfl) (hpl : (backTo pos (starEach es X.env)).any (·.1) = false := by rfl) : EvD X E (.Call (.Name fn.name p) (e :: es) [] pos) (sCall (Ph fn.name) fs) := by
  obtain ⟨fd, F, m, b, ok⟩ := T
  exact e_call ok hr m F.kp b hx hg ha hdb he hpl
theorem x_call0 {k : Nat} {Ph : Den} {fn : Fn} {p : Pos} (T : Ent X.prog X.w X.K X.mg X.base k Ph fn) (hr : Room k X.A) (hx : Passes (L2.CX X.prog X.w) X E) (hg : Gl X fn.name) (hdb : ((fn.name : Str) == ("__debug__" : Str)) = false := by decide +kernel) :
    EvD X E (.Call (.Name fn.name p) [] [] pos) (sCall (Ph fn.name) sNil) := by
  obtain ⟨fd, F, m, b, ok⟩ := T
  exact e_call0 ok hr m F.kp b hx hg hdb
theorem x_callK0 {k : Nat} {Ph : Den} {fn : Fn} {p : Pos} {kws : List Keyword} {fk : CL} (ks : List Str) (perm : List Nat) (T : Ent X.prog X.w X.K X.mg X.base k Ph fn) (hr : Room k X.A) (hx : Passes (L2.CX X.prog X.w) X E) (hg : Gl X fn.name)
    (hb : ∀ (kV doc pm : Value) (an : Option Addr) (cdv ct : Value) (ws : List Value), ws.length = ks.length → bindArgs (PySem.W.fnOf fn.name fn.name (defArgs fn.st) (defBody fn.st) (defScope fn.st) .none kV doc pm an cdv ct) ⟨[], ks.zip ws⟩ = pure (fn.ps.zip (pick perm ws)))
    (ha : EvK X E kws fk) (hlen : ∀ (env : Env') (S : List Ct) l S', fk env S = .ok l S' → l.length = ks.length)
    (hall : (backToKw pos (keywordEach kws X.env)).all (·.1.isSome) = true := by rfl) (hks : (backToKw pos (keywordEach kws X.env)).filterMap (·.1) = ks := by rfl)
    (hdb : ((fn.name : Str) == ("__debug__" : Str)) = false := by decide +kernel) (hpl : ((backTo pos (starEach [] X.env)).any (·.1) || (backToKw pos (keywordEach kws X.env)).any (·.1.isNone)) = false := by rfl) :
    EvD X E (.Call (.Name fn.name p) [] kws pos) (sCallK (Ph fn.name) perm sNil fk) := by
  obtain ⟨fd, F, m, b, ok⟩ := T
  refine e_callK0 (ks := ks) ok hr m F.kp (fun s ws hl => ?_) hx hg ha hlen hall hks hdb hpl
  obtain ⟨oc, od, dV, kV, doc, pm, an, cdv, ct, osl, rfl, lk, hcd, hD, hK⟩ := F.ex
  rcases hD with ⟨_, rfl⟩ | ⟨z, _⟩
  · exact .of_eq (hb kV doc pm an cdv ct ws hl)
  · exact absurd rfl z
theorem len_cons {f : CE} {fs : CL} {n : Nat} (h : ∀ (env : Env') (S : List Ct) l S', fs env S = .ok l S' → l.length = n) : ∀ (env : Env') (S : List Ct) l S', sCons f fs env S = .ok l S' → l.length = n + 1 := by
  intro env S l S' e
  have e : ((f env S).bind fun x S => (fs env S).bind fun xs S => R.ok (x :: xs) S) = .ok l S' := e
  revert e
  cases f env S with
  | ok d Sa =>
    show ((fs env Sa).bind fun xs S => R.ok (d :: xs) S) = .ok l S' → _
    cases h2 : fs env Sa with
    | ok ds Sb =>
      intro e
      have e : R.ok (d :: ds) Sb = .ok l S' := e
      cases e
      exact congrArg (· + 1) (h env Sa ds _ h2)
    | exc c vs S => exact fun e => by cases e
    | stuck => exact fun e => by cases e
  | exc c vs S => exact fun e => by cases e
  | stuck => exact fun e => by cases e
theorem len_nil : ∀ (env : Env') (S : List Ct) l S', sNil env S = .ok l S' → l.length = 0 := by
  intro env S l S' e
  cases e
  rfl
end
/-- the law's end: its function gives True -/
theorem law_sp {K : PySem.W.Frag} {ph : Dn'} {ns : List Int} {S' : List Ct} (h : ph [.scr (ns.map D.int)] [] = .ok (.bl true) S') {H : Hp} {a : Addr} (hO : Only H) (hS : SqL K H a (ns.map V.int)) :
    spD K ph [.ref a] H (fun v _ => v = .bl true) fun _ _ _ => False := by
  obtain ⟨g, hg⟩ : ∃ g : G, g = ⟨K, H, [], [], []⟩ := ⟨_, rfl⟩
  have nm : ∀ b, ¬ Mu g b := fun b m => by
    rw [hg] at m
    rcases m with ⟨n, c, h1, _⟩ | m
    · simp at h1
    · simp at m
  have sg : Sim g := by
    rw [hg]
    exact ⟨rfl, List.nodup_nil, fun a h => by simp at h, fun a h => by simp at h, fun n a c h => by simp at h⟩
  refine ⟨g, [.scr (ns.map D.int)], by rw [hg], by rw [hg], sg, ⟨⟨a, ns.map V.int, rfl, ?_, RepL.of_ints ns⟩, trivial⟩, ?_⟩
  · rcases hS with (hS | ⟨o, hS⟩) | hS
    · rcases hO a with z | ⟨o, xs, z⟩
      · rw [hS] at z; cases z
      · rw [hS] at z; cases z
    · exact .inl ⟨o, by rw [hg]; exact hS, nm a⟩
    · exact .inr (by rw [hg]; exact hS)
  · have e : g.S = [] := by rw [hg]
    rw [e, h]
    exact fun g' _ _ _ v r => r
end MP

/-! MpI: small things for printed texts. -/
namespace MP
open PySem PySem.Spec PyProof.Rows L2
theorem units_of {k : Nat} {A : Around} (h : Room k A) : A.units + 64 < cLine := by
  have := h.un
  omega
theorem all_nil {T : Type} {p : T → Prop} : ∀ f ∈ ([] : List T), p f := fun _ h => nomatch h
theorem all_cons {T : Type} {p : T → Prop} {a : T} {l : List T} (h : p a) (k : ∀ f ∈ l, p f) : ∀ f ∈ a :: l, p f := fun f hf => by
  rcases List.mem_cons.mp hf with q | q
  · rw [q]
    exact h
  · exact k f q
theorem find_all : ∀ {t : List Fn}, (t.map (·.name)).Nodup → ∀ f ∈ t, t.find? (fun g => g.name == f.name) = some f
  | [], _, _, h => nomatch h
  | g :: t, nd, f, h => by
    rw [List.map_cons, List.nodup_cons] at nd
    rw [List.find?_cons]
    rcases List.mem_cons.mp h with q | q
    · rw [q]
      simp
    · have : (g.name == f.name) = false := by
        rw [beq_eq_false_iff_ne]
        exact fun e => nd.1 (by rw [e]; exact List.mem_map_of_mem q)
      rw [this]
      exact find_all nd.2 f q
/-- what a function is worth at a depth -/
theorem den_at {t : List Fn} {f : Fn} (h : t.find? (fun g => g.name == f.name) = some f) (k : Nat) : denT t (k + 1) f.name = runFn f.ps.length f.N.length (f.code (denT t k)) := by
  show (match t.find? fun g => g.name == f.name with
    | some f => runFn f.ps.length f.N.length (f.code (denT t k))
    | none => fun _ _ => .stuck) = _
  rw [h]
end MP

/-! MpJ: from the head to the law's end. -/
namespace MP
open PySem PySem.Spec PyProof.Rows L2
/-- a function of the table, as the head's datum -/
def Fn.dd (f : Fn) : He.DefD := ⟨((f.name : Str), none), f.name, f.name, defArgs f.st, defBody f.st, defScope f.st, [], []⟩
/-- its parameters take as many values, written one by one -/
def Taken (f : Fn) : Prop := ∀ (kV doc pm : Value) (an : Option Addr) (cdv ct : Value) (us : List Value), us.length = f.ps.length → bindArgs (PySem.W.fnOf f.name f.name (defArgs f.st) (defBody f.st) (defScope f.st) .none kV doc pm an cdv ct) ⟨us, []⟩ = pure (f.ps.zip us)
/-- the facts that the head is asked: the table's names, then others -/
def asked (t : List Fn) (fa : List He.Fa) : List He.Fa := (t.map fun f => He.Fa.glo f.name) ++ fa
theorem asked_fn {t : List Fn} {fa : List He.Fa} {i : Nat} {f : Fn} (h : t[i]? = some f) : (asked t fa)[i]? = some (.glo f.name) := by
  unfold asked
  rw [List.getElem?_append_left (by rw [List.length_map]; exact (List.getElem?_eq_some_iff.mp h).1), List.getElem?_map, h]
  rfl
theorem asked_fa {t : List Fn} {fa : List He.Fa} {K : PySem.W.Frag} {fn : List He.DefD} (c : He.SaysD (asked t fa) fn K) (i : Nat) {f : He.Fa} (h : fa[i]? = some f := by rfl) : f.ok K = true := by
  refine c.fact (t.length + i) ?_
  unfold asked
  rw [List.getElem?_append_right (by rw [List.length_map]; exact Nat.le_add_right ..), List.length_map, Nat.add_sub_cancel_left]
  exact h
theorem ent0_of {t : List Fn} {fa : List He.Fa} {K : PySem.W.Frag} {h : Heap} {mg : Str → Option Value} (X : K.In h) (G : h.Ns mainGlobals mg) (c : He.SaysD (asked t fa) (t.map Fn.dd) K) (tk : ∀ f ∈ t, Taken f) : ∀ f ∈ t, Ent0 K mg f := fun f hf => by
  obtain ⟨i, hi⟩ := List.getElem?_of_mem hf
  obtain ⟨fd, F⟩ := c.def_ i (d := f.dd) (by rw [List.getElem?_map, hi]; rfl)
  refine ⟨fd, F, He.glo_ok X G (c.fact i (f := .glo f.name) (asked_fn hi)), ?_⟩
  exact FunD.bindsN (ps := f.ps) F (tk f hf)
theorem fd_one {K : PySem.W.Frag} {x q : Str} {p : Arguments} {b : List Stmt} {s : Scope} {dv : List V} {kw : List (Str × V)} {f : Addr} {fd fd2 : FuncData} (F : FunD K x q p b s dv kw f fd) (F2 : FunD K x q p b s dv kw f fd2) : fd = fd2 := by
  obtain ⟨_, _, _, _, _, _, _, _, _, _, rfl, lk, _⟩ := F.ex
  obtain ⟨_, _, _, _, _, _, _, _, _, _, rfl, lk2, _⟩ := F2.ex
  rw [lk] at lk2
  injection lk2 with e
  injection e with e1 e2 e3 e4
  injection e3
/-- the law's call, from its worth as data -/
theorem law_goes {l : PySem.W.OpenLaw} {n k : Nat} {q : Program} {loose : List Str} {XP : (Str → Option Value) → Heap → Prop} {d : DefRec} {t : List Fn} {fa : List He.Fa} {f : Fn} {x : Str} {Fc : (Str → Option Value) → Prop}
    (hn : l.most = some n) (hn2 : n ≤ sizeLine) (hdf : d.params.defaults = []) (hr : Room k callerA) (hf : f ∈ t) (hname : d.name = (f.name : Str)) (hps : f.ps = [x])
    (tk : ∀ f ∈ t, Taken f) (sc : ∀ f ∈ t, FnScope f.N f.ps (defScope f.st)) (nd : ∀ f ∈ t, t.find? (fun g => g.name == f.name) = some f)
    (fc : ∀ (K : PySem.W.Frag) (h : Heap) (mg : Str → Option Value), K.In h → h.Ns mainGlobals mg → He.SaysD (asked t fa) (t.map Fn.dd) K → Fc mg)
    (wor : ∀ (w : World) (K : PySem.W.Frag) (mg : Str → Option Value) (base : Heap), Fc mg → ∀ f ∈ t, Wor l.prog w K mg base t f)
    (math : ∀ ns : List Int, ns.length ≤ n → ∃ S', denT t k f.name [.scr (ns.map D.int)] [] = .ok (.bl true) S') :
    PySem.W.WalkO q loose XP (He.hookD 4 (asked t fa) (t.map Fn.dd)).says l.row.toRowW d [] (fun f vs => PySem.call f vs) := by
  refine Att.attach_call hn hdf fun w s0 s1 mg mb fa o pm cd doc a vs ns Gr Y ho hd hcd hmg hobj hints hlen hg => ?_
  obtain ⟨K, KX, c⟩ := Y
  have e0 := ent0_of KX Gr.T.g c tk
  obtain ⟨fd, F, m, b⟩ := e0 f hf
  rw [hname] at hmg
  have e := hmg.symm.trans m
  cases e
  refine law_call (fd := fd) (CX := L2.CX l.prog w) (k := k) (x := x) (sp := spD K (denT t k f.name)) KX Gr.T.g Gr.T.b Gr.T.builtins Gr.T.nolimit hg hobj hints (Nat.le_trans hlen hn2) hr (fun base KB GB => ?_) (fun s u => ?_) (fun H hO hS => ?_) fun H e s' z => ?_
  · obtain ⟨fd2, F2, _, _, ok⟩ := all_ent e0 sc (wor w K mg base (fc K _ mg KX Gr.T.g c)) nd k f hf
    rw [fd_one F F2, ← hps]
    exact ok
  · have := FunD.bindsA (ps := f.ps) F (tk f hf) s [u] (by rw [hps]; rfl)
    rw [hps] at this
    exact this
  · obtain ⟨S', hS'⟩ := math ns hlen
    exact law_sp hS' hO hS
  · obtain ⟨_, _, _, _, _, _, _, _, _, _, _, _, z⟩ := z
    exact z.elim
end MP

/-! MpK: what a run of data gives: Wp, its rules; operators at plain data. -/
namespace MP
open PySem PySem.Spec PyProof.Rows L2
section
variable {T U : Type}
/-- the run ends well, and so -/
def Wp (r : R T) (Q : T → List Ct → Prop) : Prop := match r with
  | .ok a S => Q a S
  | _ => False
theorem wp_ok {a : T} {S : List Ct} {Q : T → List Ct → Prop} : Wp (.ok a S) Q ↔ Q a S := Iff.rfl
theorem wp_bind {r : R T} {k : T → List Ct → R U} {Q : U → List Ct → Prop} : Wp (r.bind k) Q ↔ Wp r fun a S => Wp (k a S) Q := by
  cases r <;> exact Iff.rfl
theorem wp_noX {r : R T} {Q : T → List Ct → Prop} : Wp (noX r) Q ↔ Wp r Q := by
  cases r <;> exact Iff.rfl
theorem Wp.imp {r : R T} {Q Q' : T → List Ct → Prop} (h : Wp r Q) (k : ∀ a S, Q a S → Q' a S) : Wp r Q' := by
  cases r with
  | ok a S => exact k a S h
  | exc c vs S => exact h
  | stuck => exact h
theorem Wp.eq {r : R T} {Q : T → List Ct → Prop} (h : Wp r Q) : ∃ a S, r = .ok a S ∧ Q a S := by
  cases r with
  | ok a S => exact ⟨a, S, rfl, h⟩
  | exc c vs S => exact h.elim
  | stuck => exact h.elim
theorem Wp.of_eq {r : R T} {a : T} {S : List Ct} {Q : T → List Ct → Prop} (e : r = .ok a S) (h : Q a S) : Wp r Q := by
  rw [e]
  exact h
end
/-! ### loops -/
theorem wp_forL {t : TgE} {body : CS} {Q : Fl × Env' → List Ct → Prop} (I : Nat → Env' → List Ct → Prop) : ∀ (items : List D) (i : Nat) (env : Env') (S : List Ct), I i env S →
    (∀ (j : Nat) (d : D) env S, items[j]? = some d → I (i + j) env S → ∃ env1, t d env = some env1 ∧ Wp (body env1 S) fun p S => match p.1 with
      | .nx => I (i + j + 1) p.2 S
      | .ct => I (i + j + 1) p.2 S
      | .bk => Q (.nx, p.2) S
      | .rt d => Q (.rt d, p.2) S) →
    (∀ env S, I (i + items.length) env S → Q (.nx, env) S) → Wp (forL t body items env S) Q
  | [], i, env, S, h0, _, he => he env S h0
  | d :: ds, i, env, S, h0, hs, he => by
    obtain ⟨env1, e1, w⟩ := hs 0 d env S rfl h0
    show Wp (match t d env with
      | none => .stuck
      | some env1 => (body env1 S).bind fun p S => match p.1 with
        | .nx => forL t body ds p.2 S
        | .ct => forL t body ds p.2 S
        | .bk => .ok (.nx, p.2) S
        | .rt d => .ok (.rt d, p.2) S) Q
    rw [e1]
    refine wp_bind.mpr (w.imp fun p S2 q => ?_)
    have go : I (i + 0 + 1) p.2 S2 → Wp (forL t body ds p.2 S2) Q := fun q => by
      refine wp_forL I ds (i + 1) p.2 S2 q (fun j d2 env2 S3 hj hI => ?_) fun env2 S3 hI => he env2 S3 (by rw [List.length_cons, show i + (ds.length + 1) = i + 1 + ds.length by omega]; exact hI)
      have := hs (j + 1) d2 env2 S3 (by simpa using hj) (by rw [show i + (j + 1) = i + 1 + j by omega]; exact hI)
      rw [show i + (j + 1) = i + 1 + j by omega] at this
      exact this
    obtain ⟨fl, env2⟩ := p
    cases fl with
    | nx => exact go q
    | ct => exact go q
    | bk => exact q
    | rt d => exact q
/-- the same, the invariant knows no number -/
theorem wp_for {t : TgE} {body : CS} {fi : CI} {env : Env'} {S : List Ct} {Q : Fl × Env' → List Ct → Prop} (I : Env' → List Ct → Prop) (h : Wp (fi env S) fun items S => I env S ∧ ∀ d ∈ items, ∀ env S, I env S → ∃ env1, t d env = some env1 ∧ Wp (body env1 S) fun p S => match p.1 with
      | .nx => I p.2 S
      | .ct => I p.2 S
      | .bk => Q (.nx, p.2) S
      | .rt d => Q (.rt d, p.2) S) (he : ∀ env S, I env S → Q (.nx, env) S) : Wp (sFor fi t body env S) Q := by
  refine wp_bind.mpr (h.imp fun items S q => wp_forL (fun _ => I) items 0 env S q.1 (fun j d env S hj hI => q.2 d (List.mem_of_getElem? hj) env S hI) he)
/-- a comprehension, its elements one by one -/
theorem wp_lcL {t : TgE} {ft fe : CE} {own : List Nat} {env : Env'} (J : List Ct → Prop) (P : D → Prop) : ∀ (items : List D) (S : List Ct), J S →
    (∀ d ∈ items, ∀ S, J S → ∃ env1, t d (wipeE env own) = some env1 ∧ Wp (ft env1 S) fun b S => ∃ k, b = .bl k ∧ (k = true → Wp (fe env1 S) fun y S => P y ∧ J S) ∧ (k = false → J S)) →
    Wp (lcL t ft fe own items env S) fun l S => (∀ y ∈ l, P y) ∧ l.length ≤ items.length ∧ J S
  | [], S, h0, _ => ⟨(fun _ h => nomatch h : ∀ y ∈ ([] : List D), P y), Nat.le_refl _, h0⟩
  | d :: ds, S, h0, hs => by
    obtain ⟨env1, e1, w⟩ := hs d (List.mem_cons_self ..) S h0
    unfold lcL
    rw [e1]
    refine wp_bind.mpr (wp_noX.mpr (w.imp ?_))
    rintro b S2 ⟨k, rfl, ht, hf⟩
    have ih := fun S h => wp_lcL (t := t) (ft := ft) (fe := fe) (own := own) (env := env) J P ds S h fun d hd => hs d (List.mem_cons_of_mem _ hd)
    cases k with
    | true =>
      refine wp_bind.mpr (wp_noX.mpr ((ht rfl).imp fun y S3 q => wp_bind.mpr ((ih S3 q.2).imp fun l S4 z => ?_)))
      refine ⟨fun x hx => ?_, Nat.succ_le_succ z.2.1, z.2.2⟩
      rcases List.mem_cons.mp hx with e | e
      · rw [e]
        exact q.1
      · exact z.1 x e
    | false => exact (ih S2 (hf rfl)).imp fun l S4 z => ⟨z.1, Nat.le_succ_of_le z.2.1, z.2.2⟩
theorem wp_lc {fi : CI} {t : TgE} {ft fe : CE} {own : List Nat} {env : Env'} {S : List Ct} {Q : D → List Ct → Prop} (J : List Ct → Prop) (P : D → Prop)
    (h : Wp (fi env S) fun items S => items.length ≤ sizeLine ∧ J S ∧ (∀ d ∈ items, ∀ S, J S → ∃ env1, t d (wipeE env own) = some env1 ∧ Wp (ft env1 S) fun b S => ∃ k, b = .bl k ∧ (k = true → Wp (fe env1 S) fun y S => P y ∧ J S) ∧ (k = false → J S)) ∧
      ∀ l S, (∀ y ∈ l, P y) → l.length ≤ items.length → J S → Q (.lst l) S) : Wp (sLc fi t ft fe own env S) Q := by
  refine wp_bind.mpr (h.imp fun items S q => ?_)
  rw [if_pos q.1]
  exact wp_bind.mpr (wp_noX.mpr ((wp_lcL J P items S q.2.1 q.2.2.1).imp fun l S z => q.2.2.2 l S z.1 z.2.1 z.2.2))
/-- a comprehension that maps, and leaves the store alone -/
theorem lcL_map {t : TgE} {fe : CE} {own : List Nat} {env : Env'} (F : D → D) (S : List Ct) : ∀ (items : List D),
    (∀ d ∈ items, ∃ env1, t d (wipeE env own) = some env1 ∧ fe env1 S = .ok (F d) S) → lcL t sYes fe own items env S = .ok (items.map F) S
  | [], _ => rfl
  | d :: ds, hs => by
    obtain ⟨env1, e1, w⟩ := hs d (List.mem_cons_self ..)
    unfold lcL
    rw [e1]
    have ih := lcL_map (t := t) (fe := fe) (own := own) (env := env) F S ds fun d hd => hs d (List.mem_cons_of_mem _ hd)
    show ((noX (fe env1 S)).bind fun y S => (lcL t sYes fe own ds env S).bind fun ys S => R.ok (y :: ys) S) = _
    rw [w]
    show ((lcL t sYes fe own ds env S).bind fun ys S => R.ok (F d :: ys) S) = _
    rw [ih]
    rfl
theorem lc_map {fi : CI} {t : TgE} {fe : CE} {own : List Nat} {env : Env'} {S : List Ct} {items : List D} (F : D → D) (hi : fi env S = .ok items S) (hl : items.length ≤ sizeLine)
    (hs : ∀ d ∈ items, ∃ env1, t d (wipeE env own) = some env1 ∧ fe env1 S = .ok (F d) S) : sLc fi t sYes fe own env S = .ok (.lst (items.map F)) S := by
  unfold sLc
  rw [hi]
  show (if items.length ≤ sizeLine then _ else _) = _
  rw [if_pos hl, lcL_map F S items hs]
  rfl
/-! ### operators at plain data -/
theorem depth_flat {d : D} (h : flatD d = true) : (toPy d).depth ≤ 64 ∧ purD d = true ∧ ∀ S, derL S d = d := by
  cases d <;> first | (cases h; done) | exact ⟨by simp [toPy, PyData.depth], rfl, fun _ => rfl⟩
theorem eqd_flat {d e : D} (h : flatD d = true) (k : flatD e = true) : eqd d e = some (PyData.eqv (toPy d) (toPy e)) := by
  unfold eqd
  rw [if_pos ⟨(depth_flat h).2.1, (depth_flat k).2.1, (depth_flat h).1, (depth_flat k).1⟩]
theorem eqO_flat (S : List Ct) {d e : D} (h : flatD d = true) (k : flatD e = true) : eqO S d e = .ok (.bl (PyData.eqv (toPy d) (toPy e))) S := by
  unfold eqO
  rw [(depth_flat h).2.2, (depth_flat k).2.2, eqd_flat h k]
theorem neO_flat (S : List Ct) {d e : D} (h : flatD d = true) (k : flatD e = true) : neO S d e = .ok (.bl !(PyData.eqv (toPy d) (toPy e))) S := by
  unfold neO
  rw [(depth_flat h).2.2, (depth_flat k).2.2, eqd_flat h k]
@[simp] theorem eqO_int (S : List Ct) (i j : Int) : eqO S (.int i) (.int j) = .ok (.bl (i == j)) S := by
  rw [eqO_flat S rfl rfl]
  simp [toPy, PyData.eqv]
@[simp] theorem eqO_str (S : List Ct) (i j : Str) : eqO S (.str i) (.str j) = .ok (.bl (i == j)) S := by
  rw [eqO_flat S rfl rfl]
  simp [toPy, PyData.eqv]
@[simp] theorem eqO_bl (S : List Ct) (i j : Bool) : eqO S (.bl i) (.bl j) = .ok (.bl (i == j)) S := by
  rw [eqO_flat S rfl rfl]
  simp [toPy, PyData.eqv]
@[simp] theorem neO_int (S : List Ct) (i j : Int) : neO S (.int i) (.int j) = .ok (.bl !(i == j)) S := by
  rw [neO_flat S rfl rfl]
  simp [toPy, PyData.eqv]
@[simp] theorem neO_str (S : List Ct) (i j : Str) : neO S (.str i) (.str j) = .ok (.bl !(i == j)) S := by
  rw [neO_flat S rfl rfl]
  simp [toPy, PyData.eqv]
@[simp] theorem neO_bl (S : List Ct) (i j : Bool) : neO S (.bl i) (.bl j) = .ok (.bl !(i == j)) S := by
  rw [neO_flat S rfl rfl]
  simp [toPy, PyData.eqv]
@[simp] theorem intO_int {C : Int → Int → Prop} [∀ i j, Decidable (C i j)] {h : Int → Int → Int} (S : List Ct) {i j : Int} (hc : C i j) : intO C h S (.int i) (.int j) = .ok (.int (h i j)) S := by
  show (if C i j then R.ok (D.int (h i j)) S else .stuck) = _
  rw [if_pos hc]
theorem bind_ok {T U : Type} (a : T) (S : List Ct) (k : T → List Ct → R U) : (R.ok a S).bind k = k a S := rfl
theorem modO_int (S : List Ct) (i : Int) {j : Int} (h : 0 < j) : modO S (.int i) (.int j) = .ok (.int (i % j)) S := intO_int S h
theorem fdivO_int (S : List Ct) {i j : Int} (h : CDiv i j) : fdivO S (.int i) (.int j) = .ok (.int (i / j)) S := intO_int S h
theorem powO_int (S : List Ct) {i j : Int} (h : CPow i j) : powO S (.int i) (.int j) = .ok (.int (i ^ j.toNat)) S := intO_int S h
theorem subO_int (S : List Ct) (i j : Int) : subO S (.int i) (.int j) = .ok (.int (i - j)) S := intO_int S trivial
theorem intOL_int (S : List Ct) (i : Int) : intOL S [.int i] = .ok (.int i) S := rfl
@[simp] theorem addO_int (S : List Ct) (i j : Int) : addO S (.int i) (.int j) = .ok (.int (i + j)) S := rfl
@[simp] theorem mulO_int (S : List Ct) {i j : Int} (h : CMul i j) : mulO S (.int i) (.int j) = .ok (.int (i * j)) S := by
  show (if CMul i j then R.ok (D.int (i * j)) S else .stuck) = _
  rw [if_pos h]
theorem addO_str (S : List Ct) {x y : Str} (h : x.length + y.length ≤ sizeLine) : addO S (.str x) (.str y) = .ok (.str (x ++ y)) S := by
  show (if x.length + y.length ≤ sizeLine then R.ok (D.str (x ++ y)) S else .stuck) = _
  rw [if_pos h]
@[simp] theorem cmpO_int {fi : Int → Int → Bool} {fs : Str → Str → Bool} (S : List Ct) (i j : Int) : cmpO fi fs S (.int i) (.int j) = .ok (.bl (fi i j)) S := rfl
@[simp] theorem cmpO_str {fi : Int → Int → Bool} {fs : Str → Str → Bool} (S : List Ct) (i j : Str) : cmpO fi fs S (.str i) (.str j) = .ok (.bl (fs i j)) S := rfl
theorem blsOf_map : ∀ l : List Bool, blsOf (l.map D.bl) = some l
  | [] => rfl
  | b :: l => by
    show (blsOf (l.map D.bl)).map (b :: ·) = _
    rw [blsOf_map l]
    rfl
theorem strsOf_map : ∀ l : List Str, strsOf (l.map D.str) = some l
  | [] => rfl
  | b :: l => by
    show (strsOf (l.map D.str)).map (b :: ·) = _
    rw [strsOf_map l]
    rfl
theorem intsOf_map : ∀ l : List Int, intsOf (l.map D.int) = some l
  | [] => rfl
  | b :: l => by
    show (intsOf (l.map D.int)).map (b :: ·) = _
    rw [intsOf_map l]
    rfl
theorem allO_bls (S : List Ct) (l : List Bool) : allO S [.lst (l.map D.bl)] = .ok (.bl (l.all id)) S := by
  show (match blsOf (l.map D.bl) with | some bs => R.ok (D.bl (bs.all id)) S | none => .stuck) = _
  rw [blsOf_map]
end MP

/-! MpL: what recurs in the laws: the bag of draws, the comparison. -/
namespace MP
open PySem PySem.Spec PyProof.Rows L2
/-! ### the bag -/
def bagL (ns : List Int) (i z r : Int) : Ct := .lst [.lst (ns.map D.int), .int i, .int z, .int r]
def Bag (b : Nat) (S : List Ct) : Prop := ∃ (ns : List Int) (i : Nat) (z r : Int), S[b]? = some (bagL ns i z r) ∧ i ≤ ns.length ∧ 0 ≤ z ∧ 0 ≤ r ∧ r < 2147483629
/-- but b nothing changed -/
def Oth (b : Nat) (S S' : List Ct) : Prop := S'.length = S.length ∧ ∀ j, j ≠ b → S'[j]? = S[j]?
theorem Oth.refl (b : Nat) (S : List Ct) : Oth b S S := ⟨rfl, fun _ _ => rfl⟩
theorem Oth.trans {b : Nat} {S S1 S2 : List Ct} (h : Oth b S S1) (k : Oth b S1 S2) : Oth b S S2 := ⟨k.1.trans h.1, fun j hj => (k.2 j hj).trans (h.2 j hj)⟩
theorem Oth.set (b : Nat) (S : List Ct) (c : Ct) : Oth b S (S.set b c) := ⟨List.length_set .., fun j hj => List.getElem?_set_ne fun e => hj e.symm⟩
def PullOk (ph : Dn') : Prop := ∀ (b : Nat) (S : List Ct) (m : Int), Bag b S → 0 < m → m < 1073741824 → Wp (ph [.cel b, .int m] S) fun d S' => ∃ v : Int, d = .int v ∧ 0 ≤ v ∧ v < m ∧ Bag b S' ∧ Oth b S S'
def OfOk (ph : Dn') : Prop := ∀ (b : Nat) (S : List Ct) (d : D) (l : List D), Bag b S → itemsOf d = some l → 0 < l.length → l.length < 1073741824 → Wp (ph [.cel b, d] S) fun x S' => x ∈ l ∧ Bag b S' ∧ Oth b S S'
def cPull (Ph : Den) : CS :=
  sSeq (sCond (sAnd (sBin eqO (sBin ixO (sVar 0) (sC (.int 2))) (sC (.int 0))) (sBin ltO (sBin ixO (sVar 0) (sC (.int 1))) (sCallB lenO (sCons (sBin ixO (sVar 0) (sC (.int 0))) (sNil))))) (sSeq (sSet 2 (sBin ixO (sBin ixO (sVar 0) (sC (.int 0))) (sBin ixO (sVar 0) (sC (.int 1))))) (sSeq (sSetIx (sVar 0) (sC (.int 1)) (sBin addO (sBin ixO (sVar 0) (sC (.int 1))) (sC (.int 1)))) (sCond (sBin geO (sCallB absO (sCons (sVar 2) (sNil))) (sBin powO (sC (.int 10)) (sC (.int 18)))) (sSetIx (sVar 0) (sC (.int 2)) (sCallB absO (sCons (sVar 2) (sNil)))) (sSetIx (sVar 0) (sC (.int 3)) (sBin modO (sCallB intOL (sCons (sBin addO (sBin addO (sBin mulO (sBin ixO (sVar 0) (sC (.int 3))) (sC (.int 69069))) (sBin mulO (sBin modO (sCallB intOL (sCons (sVar 2) (sNil))) (sC (.int 1000000007))) (sC (.int 40503)))) (sC (.int 17))) (sNil))) (sC (.int 2147483629))))))) (sSkip)) (sSeq (sCond (sBin gtO (sBin ixO (sVar 0) (sC (.int 2))) (sC (.int 0))) (sSeq (sSet 3 (sBin modO (sCallB intOL (sCons (sBin ixO (sVar 0) (sC (.int 2))) (sNil))) (sVar 1))) (sSeq (sSetIx (sVar 0) (sC (.int 2)) (sBin fdivO (sBin ixO (sVar 0) (sC (.int 2))) (sVar 1))) (sRet (sVar 3)))) (sSkip)) (sSeq (sSetIx (sVar 0) (sC (.int 3)) (sBin modO (sCallB intOL (sCons (sBin addO (sBin addO (sBin powO (sBin ixO (sVar 0) (sC (.int 3))) (sC (.int 3))) (sBin mulO (sBin ixO (sVar 0) (sC (.int 3))) (sC (.int 40503)))) (sC (.int 1013904223))) (sNil))) (sC (.int 2147483629)))) (sRet (sBin modO (sCallB intOL (sCons (sBin addO (sBin fdivO (sBin ixO (sVar 0) (sC (.int 3))) (sC (.int 61))) (sBin mulO (sBin modO (sCallB intOL (sCons (sBin ixO (sVar 0) (sC (.int 3))) (sNil))) (sC (.int 8209))) (sC (.int 29)))) (sNil))) (sVar 1)))))
/-! the bag's items, by their places -/
section
variable {b : Nat} {S : List Ct} {ns : List Int} {i z r : Int}
theorem bag_ix (h : S[b]? = some (bagL ns i z r)) : ixO S (.cel b) (.int 0) = .ok (.lst (ns.map D.int)) S ∧ ixO S (.cel b) (.int 1) = .ok (.int i) S ∧ ixO S (.cel b) (.int 2) = .ok (.int z) S ∧ ixO S (.cel b) (.int 3) = .ok (.int r) S := by
  have e : asQ S (.cel b) = some [.lst (ns.map D.int), .int i, .int z, .int r] := by
    show ctL S[b]? = _
    rw [h]
    rfl
  have go : ∀ j x, atI [D.lst (ns.map D.int), .int i, .int z, .int r] j = some x → ixO S (.cel b) (.int j) = .ok x S := fun j x hx => by
    show (match asQ S (.cel b) with
      | some l => match atI l j with
        | some x => R.ok x S
        | none => .stuck
      | none => .stuck) = _
    rw [e]
    show (match atI [D.lst (ns.map D.int), .int i, .int z, .int r] j with
        | some x => R.ok x S
        | none => .stuck) = _
    rw [hx]
  exact ⟨go 0 _ rfl, go 1 _ rfl, go 2 _ rfl, go 3 _ rfl⟩
theorem bag_set (h : S[b]? = some (bagL ns i z r)) (v : Int) (k : List Ct → R (Fl × Env')) : (setIxO S (.cel b) (.int 1) (.int v) .stuck k = k (S.set b (bagL ns v z r))) ∧ (setIxO S (.cel b) (.int 2) (.int v) .stuck k = k (S.set b (bagL ns i v r))) ∧ (setIxO S (.cel b) (.int 3) (.int v) .stuck k = k (S.set b (bagL ns i z v))) := by
  have e : ctL S[b]? = some [.lst (ns.map D.int), .int i, .int z, .int r] := by
    rw [h]
    rfl
  have go : ∀ j m, ixN 4 j = some m → setIxO S (.cel b) (.int j) (.int v) .stuck k = k (S.set b (.lst ([D.lst (ns.map D.int), .int i, .int z, .int r].set m (.int v)))) := fun j m hx => by
    show (match ctL S[b]? with
    | some l => match ixN l.length j with
      | some m => k (S.set b (.lst (l.set m (.int v))))
      | none => .stuck
    | none => .stuck) = _
    rw [e]
    show (match ixN 4 j with
      | some m => k (S.set b (.lst ([D.lst (ns.map D.int), .int i, .int z, .int r].set m (.int v))))
      | none => .stuck) = _
    rw [hx]
  exact ⟨go 1 1 rfl, go 2 2 rfl, go 3 3 rfl⟩
end
theorem bag_there {b : Nat} {S : List Ct} {c c' : Ct} (h : S[b]? = some c) : (S.set b c')[b]? = some c' := List.getElem?_set_self (List.getElem?_eq_some_iff.mp h).1

def pull2 : CS := sSeq (sCond (sBin gtO (sBin ixO (sVar 0) (sC (.int 2))) (sC (.int 0))) (sSeq (sSet 3 (sBin modO (sCallB intOL (sCons (sBin ixO (sVar 0) (sC (.int 2))) (sNil))) (sVar 1))) (sSeq (sSetIx (sVar 0) (sC (.int 2)) (sBin fdivO (sBin ixO (sVar 0) (sC (.int 2))) (sVar 1))) (sRet (sVar 3)))) (sSkip)) (sSeq (sSetIx (sVar 0) (sC (.int 3)) (sBin modO (sCallB intOL (sCons (sBin addO (sBin addO (sBin powO (sBin ixO (sVar 0) (sC (.int 3))) (sC (.int 3))) (sBin mulO (sBin ixO (sVar 0) (sC (.int 3))) (sC (.int 40503)))) (sC (.int 1013904223))) (sNil))) (sC (.int 2147483629)))) (sRet (sBin modO (sCallB intOL (sCons (sBin addO (sBin fdivO (sBin ixO (sVar 0) (sC (.int 3))) (sC (.int 61))) (sBin mulO (sBin modO (sCallB intOL (sCons (sBin ixO (sVar 0) (sC (.int 3))) (sNil))) (sC (.int 8209))) (sC (.int 29)))) (sNil))) (sVar 1))))
theorem pull2_ok {b : Nat} {S : List Ct} {m : Int} (x2 : Option D) (h : Bag b S) (h0 : 0 < m) (hm : m < 1073741824) : Wp (pull2 [some (.cel b), some (.int m), x2, none] S) fun p S' => ∃ v : Int, p.1 = .rt (.int v) ∧ 0 ≤ v ∧ v < m ∧ Bag b S' ∧ Oth b S S' := by
  obtain ⟨ns, i, z, r, hb, hi, hz, hr, hr2⟩ := h
  obtain ⟨q0, q1, q2, q3⟩ := bag_ix hb
  have c3 : CPow r 3 := by unfold CPow; omega
  have cm : CMul r 40503 := by unfold CMul; omega
  have cd : CDiv z m := by unfold CDiv; omega
  by_cases hz0 : 0 < z
  · have hd : decide (0 < z) = true := decide_eq_true hz0
    simp only [pull2, sSeq, sCond, sBin, sVar, sC, sSet, sCallB, sCons, sNil, sRet, sSetIx, bind_ok, List.getElem?_cons_zero, List.getElem?_cons_succ, List.set_cons_zero, List.set_cons_succ, q2, cmpO_int, hd, intOL_int, modO_int _ _ h0, fdivO_int _ cd, (bag_set hb _ _).2.1]
    exact ⟨_, rfl, Int.emod_nonneg _ (by omega), Int.emod_lt_of_pos _ h0, ⟨ns, i, z / m, r, bag_there hb, hi, Int.ediv_nonneg hz (by omega), hr, hr2⟩, Oth.set ..⟩
  · have hd : decide (0 < z) = false := decide_eq_false hz0
    have w : ∀ r' : Int, 0 ≤ r' → r' < 2147483629 → Wp ((sRet (sBin modO (sCallB intOL (sCons (sBin addO (sBin fdivO (sBin ixO (sVar 0) (sC (.int 3))) (sC (.int 61))) (sBin mulO (sBin modO (sCallB intOL (sCons (sBin ixO (sVar 0) (sC (.int 3))) (sNil))) (sC (.int 8209))) (sC (.int 29)))) (sNil))) (sVar 1))) [some (.cel b), some (.int m), x2, none] (S.set b (bagL ns i z r'))) fun p S' => ∃ v : Int, p.1 = .rt (.int v) ∧ 0 ≤ v ∧ v < m ∧ Bag b S' ∧ Oth b S S' := by
      intro r' g0 g1
      obtain ⟨u0, u1, u2, u3⟩ := bag_ix (bag_there (c' := bagL ns i z r') hb)
      have d1 : CDiv r' 61 := by unfold CDiv; omega
      have d2 : CMul (r' % 8209) 29 := by unfold CMul; omega
      simp only [sBin, sVar, sC, sCallB, sCons, sNil, sRet, bind_ok, List.getElem?_cons_zero, List.getElem?_cons_succ, u3, intOL_int, fdivO_int _ d1, modO_int _ _ (show (0 : Int) < 8209 by decide), mulO_int _ d2, addO_int, modO_int _ _ h0]
      exact ⟨_, rfl, Int.emod_nonneg _ (by omega), Int.emod_lt_of_pos _ h0, ⟨ns, i, z, r', bag_there hb, hi, hz, g0, g1⟩, Oth.set ..⟩
    have w2 := w ((r ^ 3 + r * 40503 + 1013904223) % 2147483629) (Int.emod_nonneg _ (by decide)) (Int.emod_lt_of_pos _ (by decide))
    have e3 : (3 : Int).toNat = 3 := rfl
    unfold pull2
    refine wp_bind.mpr ?_
    have hc : sCond (sBin gtO (sBin ixO (sVar 0) (sC (.int 2))) (sC (.int 0))) (sSeq (sSet 3 (sBin modO (sCallB intOL (sCons (sBin ixO (sVar 0) (sC (.int 2))) (sNil))) (sVar 1))) (sSeq (sSetIx (sVar 0) (sC (.int 2)) (sBin fdivO (sBin ixO (sVar 0) (sC (.int 2))) (sVar 1))) (sRet (sVar 3)))) (sSkip) [some (.cel b), some (.int m), x2, none] S = .ok (.nx, [some (.cel b), some (.int m), x2, none]) S := by
      simp only [sCond, sBin, sVar, sC, sSkip, bind_ok, List.getElem?_cons_zero, List.getElem?_cons_succ, q2, cmpO_int, hd]
    rw [hc]
    show Wp (sSeq _ _ _ S) _
    refine wp_bind.mpr ?_
    have hs : sSetIx (sVar 0) (sC (.int 3)) (sBin modO (sCallB intOL (sCons (sBin addO (sBin addO (sBin powO (sBin ixO (sVar 0) (sC (.int 3))) (sC (.int 3))) (sBin mulO (sBin ixO (sVar 0) (sC (.int 3))) (sC (.int 40503)))) (sC (.int 1013904223))) (sNil))) (sC (.int 2147483629))) [some (.cel b), some (.int m), x2, none] S = .ok (.nx, [some (.cel b), some (.int m), x2, none]) (S.set b (bagL ns i z ((r ^ 3 + r * 40503 + 1013904223) % 2147483629))) := by
      simp only [sSetIx, sBin, sVar, sC, sCallB, sCons, sNil, bind_ok, List.getElem?_cons_zero, List.getElem?_cons_succ, q3, powO_int _ c3, mulO_int _ cm, addO_int, intOL_int, modO_int _ _ (show (0 : Int) < 2147483629 by decide), (bag_set hb _ _).2.2, e3]
    rw [hs]
    exact w2

theorem pull1_ok {b : Nat} {S : List Ct} {m : Int} (h : Bag b S) (Ph : Den) : ∃ (x2 : Option D) (S' : List Ct), (sCond (sAnd (sBin eqO (sBin ixO (sVar 0) (sC (.int 2))) (sC (.int 0))) (sBin ltO (sBin ixO (sVar 0) (sC (.int 1))) (sCallB lenO (sCons (sBin ixO (sVar 0) (sC (.int 0))) (sNil))))) (sSeq (sSet 2 (sBin ixO (sBin ixO (sVar 0) (sC (.int 0))) (sBin ixO (sVar 0) (sC (.int 1))))) (sSeq (sSetIx (sVar 0) (sC (.int 1)) (sBin addO (sBin ixO (sVar 0) (sC (.int 1))) (sC (.int 1)))) (sCond (sBin geO (sCallB absO (sCons (sVar 2) (sNil))) (sBin powO (sC (.int 10)) (sC (.int 18)))) (sSetIx (sVar 0) (sC (.int 2)) (sCallB absO (sCons (sVar 2) (sNil)))) (sSetIx (sVar 0) (sC (.int 3)) (sBin modO (sCallB intOL (sCons (sBin addO (sBin addO (sBin mulO (sBin ixO (sVar 0) (sC (.int 3))) (sC (.int 69069))) (sBin mulO (sBin modO (sCallB intOL (sCons (sVar 2) (sNil))) (sC (.int 1000000007))) (sC (.int 40503)))) (sC (.int 17))) (sNil))) (sC (.int 2147483629))))))) (sSkip)) [some (.cel b), some (.int m), none, none] S = .ok (.nx, [some (.cel b), some (.int m), x2, none]) S' ∧ Bag b S' ∧ Oth b S S' := by
  obtain ⟨ns, i, z, r, hb, hi, hz, hr, hr2⟩ := h
  obtain ⟨q0, q1, q2, q3⟩ := bag_ix hb
  have hl : lenO S [.lst (ns.map D.int)] = .ok (.int ns.length) S := by
    show R.ok (D.int ((ns.map D.int).length : Nat)) S = _
    rw [List.length_map]
  by_cases hz0 : z = 0
  case neg =>
    have hd : (z == 0) = false := by simpa using hz0
    refine ⟨none, S, ?_, ⟨ns, i, z, r, hb, hi, hz, hr, hr2⟩, Oth.refl ..⟩
    simp only [sCond, sAnd, sBin, sVar, sC, sSkip, bind_ok, List.getElem?_cons_zero, q2, eqO_int, hd]
  case pos =>
    have hd : (z == 0) = true := by simpa using hz0
    by_cases hlt : (i : Int) < ns.length
    case neg =>
      have hd2 : decide ((i : Int) < ns.length) = false := decide_eq_false hlt
      refine ⟨none, S, ?_, ⟨ns, i, z, r, hb, hi, hz, hr, hr2⟩, Oth.refl ..⟩
      simp only [sCond, sAnd, sBin, sVar, sC, sSkip, sCallB, sCons, sNil, bind_ok, List.getElem?_cons_zero, q0, q1, q2, eqO_int, hd, hl, cmpO_int, hd2]
    case pos =>
      have hd2 : decide ((i : Int) < ns.length) = true := decide_eq_true hlt
      have hi2 : i < ns.length := by omega
      have hat : ixO S (.lst (ns.map D.int)) (.int i) = .ok (.int ns[i]) S := by
        show (match atI (ns.map D.int) (i : Int) with
          | some x => R.ok x S
          | none => .stuck) = _
        have : atI (ns.map D.int) (i : Int) = some (D.int ns[i]) := by
          unfold atI ixN
          rw [if_pos (by omega), if_pos (by rw [List.length_map]; exact hlt)]
          show (ns.map D.int)[(i : Int).toNat]? = _
          rw [Int.toNat_natCast, List.getElem?_map, List.getElem?_eq_getElem hi2]
          rfl
        rw [this]
      have hb2 := bag_there (c' := bagL ns ((i : Int) + 1) z r) hb
      obtain ⟨u0, u1, u2, u3⟩ := bag_ix hb2
      have habs : ∀ (S : List Ct) (c : Int), absO S [.int c] = .ok (.int (if c < 0 then -c else c)) S := fun _ _ => rfl
      have c18 : CPow 10 18 := by unfold CPow; omega
      have e18 : (18 : Int).toNat = 18 := rfl
      by_cases hbig : (10 : Int) ^ 18 ≤ (if ns[i] < 0 then -ns[i] else ns[i])
      · have hd3 : decide ((10 : Int) ^ 18 ≤ (if ns[i] < 0 then -ns[i] else ns[i])) = true := decide_eq_true hbig
        refine ⟨some (.int ns[i]), _, ?_, ⟨ns, i + 1, _, r, bag_there (c' := bagL ns ((i : Int) + 1) (if ns[i] < 0 then -ns[i] else ns[i]) r) hb2, hi2, by omega, hr, hr2⟩, (Oth.set ..).trans (Oth.set ..)⟩
        simp only [sSeq, sSet, sSetIx, sCond, sAnd, sBin, sVar, sC, sCallB, sCons, sNil, bind_ok, List.getElem?_cons_zero, List.getElem?_cons_succ, List.set_cons_zero, List.set_cons_succ, q0, q1, q2, eqO_int, hd, hl, cmpO_int, hd2, hat, addO_int, (bag_set hb _ _).1, habs, powO_int _ c18, e18, hd3, (bag_set hb2 _ _).2.1]
      · have hd3 : decide ((10 : Int) ^ 18 ≤ (if ns[i] < 0 then -ns[i] else ns[i])) = false := decide_eq_false hbig
        have c1 : CMul r 69069 := by unfold CMul; omega
        have c2 : CMul (ns[i] % 1000000007) 40503 := by unfold CMul; omega
        refine ⟨some (.int ns[i]), _, ?_, ⟨ns, i + 1, z, _, bag_there (c' := bagL ns ((i : Int) + 1) z ((r * 69069 + ns[i] % 1000000007 * 40503 + 17) % 2147483629)) hb2, hi2, hz, Int.emod_nonneg _ (by decide), Int.emod_lt_of_pos _ (by decide)⟩, (Oth.set ..).trans (Oth.set ..)⟩
        simp only [sSeq, sSet, sSetIx, sCond, sAnd, sBin, sVar, sC, sCallB, sCons, sNil, bind_ok, List.getElem?_cons_zero, List.getElem?_cons_succ, List.set_cons_zero, List.set_cons_succ, q0, q1, q2, eqO_int, hd, hl, cmpO_int, hd2, hat, addO_int, (bag_set hb _ _).1, habs, powO_int _ c18, e18, hd3, u3, mulO_int _ c1, mulO_int _ c2, intOL_int, modO_int _ _ (show (0 : Int) < 1000000007 by decide), modO_int _ _ (show (0 : Int) < 2147483629 by decide), (bag_set hb2 _ _).2.2]
theorem pull_ok (Ph : Den) : PullOk (runFn 2 4 (cPull Ph)) := by
  intro b S m h h0 hm
  obtain ⟨x2, S1, e1, hB, o1⟩ := pull1_ok (m := m) h Ph
  show Wp ((cPull Ph [some (.cel b), some (.int m), none, none] S).bind _) _
  refine wp_bind.mpr ?_
  unfold cPull
  refine wp_bind.mpr ?_
  rw [e1]
  refine (pull2_ok x2 hB h0 hm).imp fun p S2 q => ?_
  obtain ⟨v, e, v0, vm, hB2, o2⟩ := q
  rw [e]
  exact ⟨v, rfl, v0, vm, hB2, o1.trans o2⟩
/-! ### one of some -/
def cOf (Ph : Den) : CS :=
  sRet (sBin ixO (sVar 1) (sCall (Ph "_law_pull") (sCons (sVar 0) (sCons (sCallB lenO (sCons (sVar 1) (sNil))) (sNil)))))
theorem len_items {S : List Ct} {d : D} {l : List D} (h : itemsOf d = some l) : lenO S [d] = .ok (.int l.length) S := by
  cases d <;> cases h
  case str x =>
    show R.ok (D.int x.length) S = _
    simp [signs, Str.length]
  all_goals rfl
theorem ix_items {S : List Ct} {d : D} {l : List D} (h : itemsOf d = some l) {v : Int} (h0 : 0 ≤ v) (hl : v < l.length) : ∃ x, x ∈ l ∧ l[v.toNat]? = some x ∧ ixO S d (.int v) = .ok x S := by
  have hn : v.toNat < l.length := by omega
  have at_ : ∀ {A : Type} (m : List A) (hv : v.toNat < m.length), atI m v = some m[v.toNat] := fun m hv => by
    unfold atI ixN
    rw [if_pos h0, if_pos (by omega)]
    exact List.getElem?_eq_getElem hv
  refine ⟨l[v.toNat], List.getElem_mem hn, List.getElem?_eq_getElem hn, ?_⟩
  have go : ∀ m : List D, asQ S d = some m → (∀ z, d ≠ .str z) → m = l → ixO S d (.int v) = .ok l[v.toNat] S := fun m hm hd e => by
    subst e
    unfold ixO
    cases d with
    | str z => exact absurd rfl (hd z)
    | _ => simp only [hm, at_ m hn]
  cases d <;> cases h
  case str x =>
    have hx : v.toNat < x.cps.toList.length := by simpa [signs] using hn
    show (match atI x.cps.toList v with
      | some c => R.ok (D.str ⟨#[c]⟩) S
      | none => .stuck) = _
    rw [at_ _ hx]
    simp [signs]
  all_goals exact go _ rfl (fun z e => nomatch e) rfl
theorem of_ok {Ph : Den} (hp : PullOk (Ph "_law_pull")) : OfOk (runFn 2 2 (cOf Ph)) := by
  intro b S d l h hd h0 hl
  show Wp ((cOf Ph [some (.cel b), some d] S).bind _) _
  refine wp_bind.mpr ?_
  unfold cOf
  simp only [sRet, sBin, sVar, sCall, sCallB, sCons, sNil, bind_ok, List.getElem?_cons_zero, List.getElem?_cons_succ, len_items hd]
  refine wp_bind.mpr (wp_bind.mpr ((hp b S l.length h (by omega) (by omega)).imp fun x S2 q => ?_))
  obtain ⟨v, rfl, v0, vm, hB, o⟩ := q
  obtain ⟨x, hx, _, e⟩ := ix_items (S := S2) hd v0 vm
  rw [e]
  exact ⟨hx, hB, o⟩
end MP

/-! MpM: isinstance at plain data; the laws' comparison. -/
namespace MP
open PySem PySem.Spec PyProof.Rows L2
@[simp] theorem isi_non_bool (S : List Ct) : isiO S [.non, .ty "bool"] = .ok (.bl false) S := rfl
@[simp] theorem isi_non_int (S : List Ct) : isiO S [.non, .ty "int"] = .ok (.bl false) S := rfl
@[simp] theorem isi_non_str (S : List Ct) : isiO S [.non, .ty "str"] = .ok (.bl false) S := rfl
@[simp] theorem isi_non_list (S : List Ct) : isiO S [.non, .ty "list"] = .ok (.bl false) S := rfl
@[simp] theorem isi_non_tuple (S : List Ct) : isiO S [.non, .ty "tuple"] = .ok (.bl false) S := rfl
@[simp] theorem isi_non_dict (S : List Ct) : isiO S [.non, .ty "dict"] = .ok (.bl false) S := rfl
@[simp] theorem isi_non_lt (S : List Ct) : isiO S [.non, .tup [.ty "list", .ty "tuple"]] = .ok (.bl false) S := rfl
@[simp] theorem isi_bl_bool (S : List Ct) (b : Bool) : isiO S [(.bl b), .ty "bool"] = .ok (.bl true) S := rfl
@[simp] theorem isi_bl_int (S : List Ct) (b : Bool) : isiO S [(.bl b), .ty "int"] = .ok (.bl true) S := rfl
@[simp] theorem isi_bl_str (S : List Ct) (b : Bool) : isiO S [(.bl b), .ty "str"] = .ok (.bl false) S := rfl
@[simp] theorem isi_bl_list (S : List Ct) (b : Bool) : isiO S [(.bl b), .ty "list"] = .ok (.bl false) S := rfl
@[simp] theorem isi_bl_tuple (S : List Ct) (b : Bool) : isiO S [(.bl b), .ty "tuple"] = .ok (.bl false) S := rfl
@[simp] theorem isi_bl_dict (S : List Ct) (b : Bool) : isiO S [(.bl b), .ty "dict"] = .ok (.bl false) S := rfl
@[simp] theorem isi_bl_lt (S : List Ct) (b : Bool) : isiO S [(.bl b), .tup [.ty "list", .ty "tuple"]] = .ok (.bl false) S := rfl
@[simp] theorem isi_int_bool (S : List Ct) (i : Int) : isiO S [(.int i), .ty "bool"] = .ok (.bl false) S := rfl
@[simp] theorem isi_int_int (S : List Ct) (i : Int) : isiO S [(.int i), .ty "int"] = .ok (.bl true) S := rfl
@[simp] theorem isi_int_str (S : List Ct) (i : Int) : isiO S [(.int i), .ty "str"] = .ok (.bl false) S := rfl
@[simp] theorem isi_int_list (S : List Ct) (i : Int) : isiO S [(.int i), .ty "list"] = .ok (.bl false) S := rfl
@[simp] theorem isi_int_tuple (S : List Ct) (i : Int) : isiO S [(.int i), .ty "tuple"] = .ok (.bl false) S := rfl
@[simp] theorem isi_int_dict (S : List Ct) (i : Int) : isiO S [(.int i), .ty "dict"] = .ok (.bl false) S := rfl
@[simp] theorem isi_int_lt (S : List Ct) (i : Int) : isiO S [(.int i), .tup [.ty "list", .ty "tuple"]] = .ok (.bl false) S := rfl
@[simp] theorem isi_str_bool (S : List Ct) (x : Str) : isiO S [(.str x), .ty "bool"] = .ok (.bl false) S := rfl
@[simp] theorem isi_str_int (S : List Ct) (x : Str) : isiO S [(.str x), .ty "int"] = .ok (.bl false) S := rfl
@[simp] theorem isi_str_str (S : List Ct) (x : Str) : isiO S [(.str x), .ty "str"] = .ok (.bl true) S := rfl
@[simp] theorem isi_str_list (S : List Ct) (x : Str) : isiO S [(.str x), .ty "list"] = .ok (.bl false) S := rfl
@[simp] theorem isi_str_tuple (S : List Ct) (x : Str) : isiO S [(.str x), .ty "tuple"] = .ok (.bl false) S := rfl
@[simp] theorem isi_str_dict (S : List Ct) (x : Str) : isiO S [(.str x), .ty "dict"] = .ok (.bl false) S := rfl
@[simp] theorem isi_str_lt (S : List Ct) (x : Str) : isiO S [(.str x), .tup [.ty "list", .ty "tuple"]] = .ok (.bl false) S := rfl
@[simp] theorem isi_tup_bool (S : List Ct) (l : List D) : isiO S [(.tup l), .ty "bool"] = .ok (.bl false) S := rfl
@[simp] theorem isi_tup_int (S : List Ct) (l : List D) : isiO S [(.tup l), .ty "int"] = .ok (.bl false) S := rfl
@[simp] theorem isi_tup_str (S : List Ct) (l : List D) : isiO S [(.tup l), .ty "str"] = .ok (.bl false) S := rfl
@[simp] theorem isi_tup_list (S : List Ct) (l : List D) : isiO S [(.tup l), .ty "list"] = .ok (.bl false) S := rfl
@[simp] theorem isi_tup_tuple (S : List Ct) (l : List D) : isiO S [(.tup l), .ty "tuple"] = .ok (.bl true) S := rfl
@[simp] theorem isi_tup_dict (S : List Ct) (l : List D) : isiO S [(.tup l), .ty "dict"] = .ok (.bl false) S := rfl
@[simp] theorem isi_tup_lt (S : List Ct) (l : List D) : isiO S [(.tup l), .tup [.ty "list", .ty "tuple"]] = .ok (.bl true) S := rfl
@[simp] theorem isi_lst_bool (S : List Ct) (l : List D) : isiO S [(.lst l), .ty "bool"] = .ok (.bl false) S := rfl
@[simp] theorem isi_lst_int (S : List Ct) (l : List D) : isiO S [(.lst l), .ty "int"] = .ok (.bl false) S := rfl
@[simp] theorem isi_lst_str (S : List Ct) (l : List D) : isiO S [(.lst l), .ty "str"] = .ok (.bl false) S := rfl
@[simp] theorem isi_lst_list (S : List Ct) (l : List D) : isiO S [(.lst l), .ty "list"] = .ok (.bl true) S := rfl
@[simp] theorem isi_lst_tuple (S : List Ct) (l : List D) : isiO S [(.lst l), .ty "tuple"] = .ok (.bl false) S := rfl
@[simp] theorem isi_lst_dict (S : List Ct) (l : List D) : isiO S [(.lst l), .ty "dict"] = .ok (.bl false) S := rfl
@[simp] theorem isi_lst_lt (S : List Ct) (l : List D) : isiO S [(.lst l), .tup [.ty "list", .ty "tuple"]] = .ok (.bl true) S := rfl
def cSame (Ph : Den) : CS :=
  sSeq (sCond (sOr (sBin isO (sVar 1) (sC .non)) (sBin isO (sVar 0) (sC .non))) (sRet (sAnd (sBin isO (sVar 1) (sC .non)) (sBin isO (sVar 0) (sC .non)))) (sSkip)) (sSeq (sCond (sOr (sCallB isiO (sCons (sVar 1) (sCons (sC (.ty "bool")) (sNil)))) (sCallB isiO (sCons (sVar 0) (sCons (sC (.ty "bool")) (sNil))))) (sRet (sAnd (sCallB isiO (sCons (sVar 1) (sCons (sC (.ty "bool")) (sNil)))) (sAnd (sCallB isiO (sCons (sVar 0) (sCons (sC (.ty "bool")) (sNil)))) (sBin eqO (sVar 0) (sVar 1))))) (sSkip)) (sSeq (sCond (sOr (sCallB isiO (sCons (sVar 1) (sCons (sTup (sCons (sC (.ty "list")) (sCons (sC (.ty "tuple")) (sNil)))) (sNil)))) (sCallB isiO (sCons (sVar 0) (sCons (sTup (sCons (sC (.ty "list")) (sCons (sC (.ty "tuple")) (sNil)))) (sNil))))) (sSeq (sCond (sBin neO (sCallB isiO (sCons (sVar 1) (sCons (sC (.ty "list")) (sNil)))) (sCallB isiO (sCons (sVar 0) (sCons (sC (.ty "list")) (sNil))))) (sRet (sC (.bl false))) (sSkip)) (sSeq (sCond (sOr (sBin neO (sCallB isiO (sCons (sVar 1) (sCons (sC (.ty "tuple")) (sNil)))) (sCallB isiO (sCons (sVar 0) (sCons (sC (.ty "tuple")) (sNil))))) (sBin neO (sCallB lenO (sCons (sVar 0) (sNil))) (sCallB lenO (sCons (sVar 1) (sNil))))) (sRet (sC (.bl false))) (sSkip)) (sRet (sCallB allO (sCons (sLc (sZip (sVar 0) (sVar 1)) (gT (gL [gN 2, gN 3])) (sYes) (sCall (Ph "_law_same") (sCons (sVar 2) (sCons (sVar 3) (sNil)))) [2, 3]) (sNil)))))) (sSkip)) (sSeq (sCond (sOr (sBin neO (sCallB isiO (sCons (sVar 1) (sCons (sC (.ty "int")) (sNil)))) (sCallB isiO (sCons (sVar 0) (sCons (sC (.ty "int")) (sNil))))) (sBin neO (sCallB isiO (sCons (sVar 1) (sCons (sC (.ty "str")) (sNil)))) (sCallB isiO (sCons (sVar 0) (sCons (sC (.ty "str")) (sNil)))))) (sRet (sC (.bl false))) (sSkip)) (sRet (sBin eqO (sVar 0) (sVar 1))))))
theorem isO_non (S : List Ct) (d : D) : isO S d .non = .ok (.bl (isNone d)) S := rfl
theorem tup_lt (S : List Ct) (env : Env') : sTup (sCons (sC (.ty "list")) (sCons (sC (.ty "tuple")) (sNil))) env S = .ok (.tup [.ty "list", .ty "tuple"]) S := rfl
theorem len_lst (S : List Ct) (l : List D) : lenO S [.lst l] = .ok (.int l.length) S := rfl
theorem len_tup (S : List Ct) (l : List D) : lenO S [.tup l] = .ok (.int l.length) S := rfl
theorem same_leaf (Ph : Den) (S : List Ct) {d : D} (h : flatD d = true) : runFn 2 4 (cSame Ph) [d, d] S = .ok (.bl true) S := by
  show (cSame Ph [some d, some d, none, none] S).bind _ = _
  unfold cSame
  cases d <;> first | (cases h; done) | skip
  all_goals simp only [sSeq, sCond, sOr, sAnd, sBin, sVar, sC, sRet, sSkip, sCallB, sCons, sNil, tup_lt, bind_ok, List.getElem?_cons_zero, List.getElem?_cons_succ, isO_non, isNone, isi_bl_bool, isi_int_bool, isi_str_bool, isi_int_lt, isi_str_lt, isi_int_int, isi_int_str, isi_str_int, isi_str_str, neO_bl, eqO_int, eqO_bl, eqO_str, beq_self_eq_true, Bool.not_true]
theorem pairs_self : ∀ l : List D, ∀ d ∈ pairs l l, ∃ c ∈ l, d = .tup [c, c]
  | [], _, h => nomatch h
  | x :: l, d, h => by
    have h : d = .tup [x, x] ∨ d ∈ pairs l l := by
      have : pairs (x :: l) (x :: l) = .tup [x, x] :: pairs l l := rfl
      rw [this] at h
      exact List.mem_cons.mp h
    rcases h with h | h
    · exact ⟨x, List.mem_cons_self .., h⟩
    · obtain ⟨c, hc, e⟩ := pairs_self l d h
      exact ⟨c, List.mem_cons_of_mem _ hc, e⟩
theorem same_all (Ph : Den) (S : List Ct) {d : D} {l : List D} (hd : itemsOf d = some l) (h : ∀ c ∈ l, Ph "_law_same" [c, c] S = .ok (.bl true) S) (hl : l.length ≤ sizeLine) :
    sCallB allO (sCons (sLc (sZip (sVar 0) (sVar 1)) (gT (gL [gN 2, gN 3])) (sYes) (sCall (Ph "_law_same") (sCons (sVar 2) (sCons (sVar 3) (sNil)))) [2, 3]) (sNil)) [some d, some d, none, none] S = .ok (.bl true) S := by
  have e : sLc (sZip (sVar 0) (sVar 1)) (gT (gL [gN 2, gN 3])) (sYes) (sCall (Ph "_law_same") (sCons (sVar 2) (sCons (sVar 3) (sNil)))) [2, 3] [some d, some d, none, none] S = .ok (.lst ((pairs l l).map fun _ => .bl true)) S := by
    refine lc_map _ (items := pairs l l) ?_ (by simp [pairs]; exact hl) fun p hp => ?_
    · simp only [sZip, sVar, bind_ok, List.getElem?_cons_zero, List.getElem?_cons_succ, hd]
    · obtain ⟨c, hc, rfl⟩ := pairs_self l p hp
      exact ⟨[some d, some d, some c, some c], rfl, h c hc⟩
  simp only [sCallB, sCons, sNil, bind_ok, e]
  rw [show ((pairs l l).map fun _ => D.bl true) = ((pairs l l).map fun _ => true).map D.bl by rw [List.map_map]; rfl, allO_bls]
  simp
theorem same_list (Ph : Den) (S : List Ct) {l : List D} (h : ∀ c ∈ l, Ph "_law_same" [c, c] S = .ok (.bl true) S) (hl : l.length ≤ sizeLine) : runFn 2 4 (cSame Ph) [.lst l, .lst l] S = .ok (.bl true) S := by
  show (cSame Ph [some (.lst l), some (.lst l), none, none] S).bind _ = _
  unfold cSame
  have e := same_all Ph S (d := .lst l) rfl h hl
  generalize sCallB allO (sCons (sLc (sZip (sVar 0) (sVar 1)) (gT (gL [gN 2, gN 3])) (sYes) (sCall (Ph "_law_same") (sCons (sVar 2) (sCons (sVar 3) (sNil)))) [2, 3]) (sNil)) = fa at e ⊢
  simp only [sSeq, sCond, sOr, sAnd, sBin, sVar, sC, sRet, sSkip, sCallB, sCons, sNil, tup_lt, bind_ok, List.getElem?_cons_zero, List.getElem?_cons_succ, isO_non, isNone, isi_lst_bool, isi_lst_lt, isi_lst_list, isi_lst_tuple, len_lst, neO_bl, neO_int, beq_self_eq_true, Bool.not_true, e]
theorem same_tup (Ph : Den) (S : List Ct) {l : List D} (h : ∀ c ∈ l, Ph "_law_same" [c, c] S = .ok (.bl true) S) (hl : l.length ≤ sizeLine) : runFn 2 4 (cSame Ph) [.tup l, .tup l] S = .ok (.bl true) S := by
  show (cSame Ph [some (.tup l), some (.tup l), none, none] S).bind _ = _
  unfold cSame
  have e := same_all Ph S (d := .tup l) rfl h hl
  generalize sCallB allO (sCons (sLc (sZip (sVar 0) (sVar 1)) (gT (gL [gN 2, gN 3])) (sYes) (sCall (Ph "_law_same") (sCons (sVar 2) (sCons (sVar 3) (sNil)))) [2, 3]) (sNil)) = fa at e ⊢
  simp only [sSeq, sCond, sOr, sAnd, sBin, sVar, sC, sRet, sSkip, sCallB, sCons, sNil, tup_lt, bind_ok, List.getElem?_cons_zero, List.getElem?_cons_succ, isO_non, isNone, isi_tup_bool, isi_tup_lt, isi_tup_list, isi_tup_tuple, len_tup, neO_bl, neO_int, beq_self_eq_true, Bool.not_true, e]
/-! data that may be compared, and how deep it is -/
mutual
def sg : D → Nat → Bool
  | .non, _ => true
  | .bl _, _ => true
  | .int _, _ => true
  | .str _, _ => true
  | .tup l, n + 1 => decide (l.length ≤ sizeLine) && sgL l n
  | .lst l, n + 1 => decide (l.length ≤ sizeLine) && sgL l n
  | _, _ => false
def sgL : List D → Nat → Bool
  | [], _ => true
  | d :: ds, n => sg d n && sgL ds n
end
theorem sgL_mem : ∀ {l : List D} {n : Nat}, sgL l n = true → ∀ d ∈ l, sg d n = true
  | [], _, _, _, h => nomatch h
  | x :: l, n, h, d, hd => by
    have h : (sg x n && sgL l n) = true := by simpa [sgL] using h
    obtain ⟨h1, h2⟩ := Bool.and_eq_true_iff.mp h
    rcases List.mem_cons.mp hd with e | e
    · rw [e]
      exact h1
    · exact sgL_mem h2 d e
theorem sgL_of : ∀ {l : List D} {n : Nat}, (∀ d ∈ l, sg d n = true) → sgL l n = true
  | [], _, _ => by simp [sgL]
  | x :: l, n, h => by
    have := sgL_of (l := l) (n := n) fun d hd => h d (List.mem_cons_of_mem _ hd)
    simp [sgL, h x (List.mem_cons_self ..), this]
/-- a function of this text compares so -/
theorem same_ok {t : List Fn} (he : ∀ k, denT t (k + 1) "_law_same" = runFn 2 4 (cSame (denT t k))) (S : List Ct) : ∀ (n k : Nat) (d : D), sg d n = true → denT t (k + n + 1) "_law_same" [d, d] S = .ok (.bl true) S
  | 0, k, d, h => by
    rw [he]
    refine same_leaf _ S ?_
    cases d <;> first | rfl | (simp [sg] at h)
  | n + 1, k, d, h => by
    have ih := same_ok he S n k
    rw [show k + (n + 1) + 1 = (k + n + 1) + 1 by omega, he]
    have flat : flatD d = true → runFn 2 4 (cSame (denT t (k + n + 1))) [d, d] S = .ok (.bl true) S := same_leaf _ S
    cases d with
    | lst l =>
      have h : (decide (l.length ≤ sizeLine) && sgL l n) = true := by simpa [sg] using h
      obtain ⟨h1, h2⟩ := Bool.and_eq_true_iff.mp h
      exact same_list _ S (fun c hc => ih c (sgL_mem h2 c hc)) (of_decide_eq_true h1)
    | tup l =>
      have h : (decide (l.length ≤ sizeLine) && sgL l n) = true := by simpa [sg] using h
      obtain ⟨h1, h2⟩ := Bool.and_eq_true_iff.mp h
      exact same_tup _ S (fun c hc => ih c (sgL_mem h2 c hc)) (of_decide_eq_true h1)
    | non => exact flat rfl
    | bl _ => exact flat rfl
    | int _ => exact flat rfl
    | str _ => exact flat rfl
    | _ => simp [sg] at h
end MP

/-! MpN: lamps, sets of lamps: rising, within. -/
namespace MP
open PySem PySem.Spec PyProof.Rows L2
/-- all([p(x) for x in ..]) -/
theorem all_lc {fi : CI} {t : TgE} {fe : CE} {own : List Nat} {env : Env'} {S : List Ct} {items : List D} (p : D → Bool) (hi : fi env S = .ok items S) (hl : items.length ≤ sizeLine)
    (hs : ∀ d ∈ items, ∃ env1, t d (wipeE env own) = some env1 ∧ fe env1 S = .ok (.bl (p d)) S) : sCallB allO (sCons (sLc fi t sYes fe own) sNil) env S = .ok (.bl (items.all p)) S := by
  have e := lc_map (fi := fi) (t := t) (fe := fe) (own := own) (env := env) (S := S) (items := items) (fun d => .bl (p d)) hi hl hs
  simp only [sCallB, sCons, sNil, bind_ok, e]
  rw [show (items.map fun d => D.bl (p d)) = (items.map p).map D.bl by rw [List.map_map]; rfl, allO_bls]
  rw [List.all_map]
  rfl
theorem signs_mem {x : Str} {d : D} (h : d ∈ signs x) : ∃ c ∈ x.cps.toList, d = .str ⟨#[c]⟩ := by
  obtain ⟨c, hc, e⟩ := List.mem_map.mp h
  exact ⟨c, hc, e.symm⟩
theorem signs_len (x : Str) : (signs x).length = x.length := by
  simp [signs, Str.length]
theorem pairs_mem {l m : List D} {d : D} (h : d ∈ pairs l m) : ∃ a ∈ l, ∃ b ∈ m, d = .tup [a, b] := by
  obtain ⟨p, hp, e⟩ := List.mem_map.mp h
  exact ⟨p.1, (List.of_mem_zip (show (p.1, p.2) ∈ l.zip m from hp)).1, p.2, (List.of_mem_zip (show (p.1, p.2) ∈ l.zip m from hp)).2, e.symm⟩
abbrev letters : Str := "abcdefghijklmnopqrstuvwxyz"
def inP (z : Str) : D → Bool
  | .str c => inStr c z
  | _ => false
def ltP : D → Bool
  | .tup [.str a, .str b] => ltL a b
  | _ => false
/-- the letters rise -/
def risB (x : Str) : Bool := (signs x).all (inP letters) && (pairs (signs x) (signs (cutS x (some 1) none))).all ltP
def witB (x z : Str) : Bool := (signs x).all (inP z)
def cRising (Ph : Den) : CS :=
  sSeq (sCond (sNot (sCallB allO (sCons (sLc (sIter (sVar 0)) (gN 1) (sYes) (sBin inO (sVar 1) (sC (.str "abcdefghijklmnopqrstuvwxyz"))) [1]) (sNil)))) (sRet (sC (.bl false))) (sSkip)) (sRet (sCallB allO (sCons (sLc (sZip (sVar 0) (sSl (sVar 0) (sP (sC (.int 1))) sNoP)) (gT (gL [gN 2, gN 3])) (sYes) (sBin ltO (sVar 2) (sVar 3)) [2, 3]) (sNil))))
theorem inO_str (S : List Ct) (x z : Str) : inO S (.str x) (.str z) = .ok (.bl (inStr x z)) S := rfl
theorem rising_ok (Ph : Den) (S : List Ct) {x : Str} (hx : x.length ≤ sizeLine) : runFn 1 4 (cRising Ph) [.str x] S = .ok (.bl (risB x)) S := by
  show (cRising Ph [some (.str x), none, none, none] S).bind _ = _
  have e1 : sCallB allO (sCons (sLc (sIter (sVar 0)) (gN 1) (sYes) (sBin inO (sVar 1) (sC (.str "abcdefghijklmnopqrstuvwxyz"))) [1]) (sNil)) [some (.str x), none, none, none] S = .ok (.bl ((signs x).all (inP letters))) S := by
    refine all_lc (inP letters) (items := signs x) rfl (by rw [signs_len]; exact hx) fun d hd => ?_
    obtain ⟨c, _, rfl⟩ := signs_mem hd
    exact ⟨_, rfl, rfl⟩
  have e2 : sCallB allO (sCons (sLc (sZip (sVar 0) (sSl (sVar 0) (sP (sC (.int 1))) sNoP)) (gT (gL [gN 2, gN 3])) (sYes) (sBin ltO (sVar 2) (sVar 3)) [2, 3]) (sNil)) [some (.str x), none, none, none] S = .ok (.bl ((pairs (signs x) (signs (cutS x (some 1) none))).all ltP)) S := by
    refine all_lc ltP (items := pairs (signs x) (signs (cutS x (some 1) none))) rfl ?_ fun d hd => ?_
    · have : (pairs (signs x) (signs (cutS x (some 1) none))).length ≤ (signs x).length := by
        unfold pairs
        rw [List.length_map, List.length_zip]
        exact Nat.min_le_left ..
      exact Nat.le_trans this (by rw [signs_len]; exact hx)
    · obtain ⟨a, ha, b, hb, rfl⟩ := pairs_mem hd
      obtain ⟨c, _, rfl⟩ := signs_mem ha
      obtain ⟨c2, _, rfl⟩ := signs_mem hb
      exact ⟨_, rfl, rfl⟩
  unfold cRising risB
  cases h : (signs x).all (inP letters) with
  | true =>
    rw [h] at e1
    simp only [sSeq, sCond, sNot, sRet, sSkip, bind_ok, e1, e2, Bool.not_true, Bool.true_and]
  | false =>
    rw [h] at e1
    simp only [sSeq, sCond, sNot, sRet, sC, bind_ok, e1, Bool.not_false, Bool.false_and]
def cWithin (Ph : Den) : CS :=
  sRet (sCallB allO (sCons (sLc (sIter (sVar 0)) (gN 2) (sYes) (sBin inO (sVar 2) (sVar 1)) [2]) (sNil)))
theorem within_all (S : List Ct) (x3 : Option D) {x z : Str} (hx : x.length ≤ sizeLine) : sCallB allO (sCons (sLc (sIter (sVar 0)) (gN 2) (sYes) (sBin inO (sVar 2) (sVar 1)) [2]) (sNil)) [some (.str x), some (.str z), x3] S = .ok (.bl (witB x z)) S := by
  refine all_lc (inP z) (items := signs x) rfl (by rw [signs_len]; exact hx) fun d hd => ?_
  obtain ⟨c, _, rfl⟩ := signs_mem hd
  exact ⟨_, rfl, rfl⟩
theorem within_ok (Ph : Den) (S : List Ct) {x z : Str} (hx : x.length ≤ sizeLine) : runFn 2 3 (cWithin Ph) [.str x, .str z] S = .ok (.bl (witB x z)) S := by
  show (cWithin Ph [some (.str x), some (.str z), none] S).bind _ = _
  unfold cWithin
  simp only [sRet, within_all S none hx, bind_ok]

/-- what a body's end gives -/
def outF (p : Fl × Env') (S : List Ct) : R D := match p.1 with
  | .nx => .ok .non S
  | .rt d => .ok d S
  | _ => .stuck
theorem runFn_eq {n N : Nat} {body : CS} {ds : List D} {S : List Ct} (h : ds.length = n) : runFn n N body ds S = (body (ds.map some ++ List.replicate (N - n) none) S).bind outF := if_pos h
theorem meth_str (o : OM) (a : Str) (fs : CL) (env : Env') (S : List Ct) : sMeth "str" o (sC (.str a)) fs env S = (fs env S).bind fun l S => o S (.str a) l := by
  show (if tyN S (.str a) = some "str" then (fs env S).bind fun l S => o S (.str a) l else R.stuck) = _
  exact if_pos rfl
/-! ### short texts -/
def Sml (n : Nat) (d : D) : Prop := ∃ x : Str, d = .str x ∧ x.length ≤ n
theorem Sml.mono {n m : Nat} {d : D} (h : Sml n d) (k : n ≤ m) : Sml m d := by
  obtain ⟨x, e, l⟩ := h
  exact ⟨x, e, Nat.le_trans l k⟩
theorem sml_sign {x : Str} {d : D} (h : d ∈ signs x) : Sml 1 d := by
  obtain ⟨c, _, e⟩ := signs_mem h
  exact ⟨_, e, Nat.le_refl _⟩
theorem smls : ∀ {l : List D} {n : Nat}, (∀ d ∈ l, Sml n d) → ∃ ys : List Str, l = ys.map D.str ∧ ys.length = l.length ∧ ∀ y ∈ ys, y.length ≤ n
  | [], _, _ => ⟨[], rfl, rfl, fun _ h => nomatch h⟩
  | d :: l, n, h => by
    obtain ⟨ys, e, el, hy⟩ := smls (l := l) (n := n) fun d hd => h d (List.mem_cons_of_mem _ hd)
    obtain ⟨x, ex, hx⟩ := h d (List.mem_cons_self ..)
    refine ⟨x :: ys, by rw [e, ex]; rfl, congrArg (· + 1) el, fun y hy2 => ?_⟩
    rcases List.mem_cons.mp hy2 with q | q
    · rw [q]
      exact hx
    · exact hy y q
theorem sum_le : ∀ {ys : List Str} {n : Nat}, (∀ y ∈ ys, Str.length y ≤ n) → (ys.map (fun y : Str => y.length)).sum ≤ ys.length * n
  | [], _, _ => Nat.zero_le _
  | y :: ys, n, h => by
    have ih := sum_le (ys := ys) (n := n) fun y hy => h y (List.mem_cons_of_mem _ hy)
    have h1 := h y (List.mem_cons_self ..)
    rw [List.map_cons, List.sum_cons, List.length_cons, Nat.succ_mul]
    omega
theorem join_len (y : Str) : ∀ parts : List Str, (Str.join y parts).length ≤ (parts.map (·.length)).sum + parts.length * y.length
  | [] => by simp [Str.join, Str.empty, Str.length]
  | [p] => by simp [Str.join, Str.length]
  | p :: q :: r => by
    have ih := join_len y (q :: r)
    have e : (Str.join y (p :: q :: r)).length = p.length + y.length + (Str.join y (q :: r)).length := by
      show ((p.cps ++ y.cps) ++ (Str.join y (q :: r)).cps).size = _
      rw [Array.size_append, Array.size_append]
      rfl
    have e3 : (p :: q :: r).length * y.length = (q :: r).length * y.length + y.length := Nat.succ_mul _ _
    rw [e, e3, List.map_cons, List.sum_cons]
    omega
abbrev emp : Str := ""
/-- ''.join of a list of short texts -/
theorem join_sml {S : List Ct} {l : List D} {n m : Nat} (h : ∀ d ∈ l, Sml n d) (hl : l.length ≤ m) (hz : m * n ≤ 16777216) : ∃ z, joinO S (.str emp) [.lst l] = .ok (.str z) S ∧ z.length ≤ m * n := by
  obtain ⟨ys, e, el, hy⟩ := smls h
  have s1 := sum_le hy
  have s2 : ys.length * n ≤ m * n := Nat.mul_le_mul_right _ (by omega)
  have e0 : emp.length = 0 := by decide +kernel
  refine ⟨Str.join emp ys, ?_, ?_⟩
  · show (match (some l).bind strsOf with
    | some ys => if (ys.map (fun y : Str => y.length)).sum + ys.length * emp.length ≤ 16777216 then R.ok (D.str (Str.join emp ys)) S else .stuck
    | none => .stuck) = _
    have : (some l).bind strsOf = some ys := by
      rw [e]
      exact strsOf_map ys
    rw [this]
    show (if (ys.map (fun y : Str => y.length)).sum + ys.length * emp.length ≤ 16777216 then R.ok (D.str (Str.join emp ys)) S else .stuck) = _
    rw [if_pos (by rw [e0]; omega)]
  · have := join_len emp ys
    rw [e0] at this
    omega
theorem sorted_sml {S : List Ct} {l : List D} {n : Nat} (h : ∀ d ∈ l, Sml n d) (hl : l.length < 64) : ∃ m, sortedO S [.lst l] = .ok (.lst m) S ∧ m.length = l.length ∧ ∀ d ∈ m, Sml n d := by
  obtain ⟨ys, e, el, hy⟩ := smls h
  refine ⟨(sortS ys).map D.str, ?_, ?_, fun d hd => ?_⟩
  · show (match (some l).bind strsOf with
    | some xs => if xs.length < 64 then R.ok (D.lst ((sortS xs).map D.str)) S else .stuck
    | none => .stuck) = _
    have : (some l).bind strsOf = some ys := by
      rw [e]
      exact strsOf_map ys
    rw [this]
    show (if ys.length < 64 then R.ok (D.lst ((sortS ys).map D.str)) S else .stuck) = _
    rw [if_pos (by omega)]
  · rw [List.length_map, (sortS_perm ys).length_eq, el]
  · obtain ⟨x, hx, e⟩ := List.mem_map.mp hd
    exact ⟨x, e.symm, hy x ((sortS_perm ys).mem_iff.mp hx)⟩
end MP

/-! MpO: the rules of Wp, construct by construct; the bag is made. -/
namespace MP
open PySem PySem.Spec PyProof.Rows L2
section
variable {f g h : CE} {fs : CL} {s t u : CS} {env : Env'} {S : List Ct} {QD : D → List Ct → Prop} {QL : List D → List Ct → Prop} {QS : Fl × Env' → List Ct → Prop} {d : D} {ph : Dn'}
theorem wp_var {i : Nat} (e : env[i]? = some (some d)) (q : QD d S) : Wp (sVar i env S) QD := by
  unfold sVar
  rw [e]
  exact q
theorem wp_c (q : QD d S) : Wp (sC d env S) QD := q
theorem wp_nil (q : QL [] S) : Wp (sNil env S) QL := q
theorem wp_cons (w : Wp (f env S) fun d S => Wp (fs env S) fun l S => QL (d :: l) S) : Wp (sCons f fs env S) QL := wp_bind.mpr (w.imp fun d S q => wp_bind.mpr q)
theorem wp_bin {o : O2} (w : Wp (f env S) fun d S => Wp (g env S) fun e S => Wp (o S d e) QD) : Wp (sBin o f g env S) QD := wp_bind.mpr (w.imp fun d S q => wp_bind.mpr q)
theorem wp_un {o : O1} (w : Wp (f env S) fun d S => Wp (o S d) QD) : Wp (sUn o f env S) QD := wp_bind.mpr w
theorem wp_call (w : Wp (fs env S) fun l S => Wp (ph l S) QD) : Wp (sCall ph fs env S) QD := wp_bind.mpr w
theorem wp_callB {o : OL} (w : Wp (fs env S) fun l S => Wp (o S l) QD) : Wp (sCallB o fs env S) QD := wp_bind.mpr w
theorem wp_meth {T : String} {o : OM} (w : Wp (f env S) fun d S => tyN S d = some T ∧ Wp (fs env S) fun l S => Wp (o S d l) QD) : Wp (sMeth T o f fs env S) QD := wp_bind.mpr (w.imp fun d S q => by
  rw [if_pos q.1]
  exact wp_bind.mpr q.2)
theorem wp_lst (w : Wp (fs env S) fun l S => l.length ≤ sizeLine ∧ QD (.lst l) S) : Wp (sLst fs env S) QD := wp_bind.mpr (w.imp fun l S q => by
  rw [if_pos q.1]
  exact q.2)
theorem wp_tup (w : Wp (fs env S) fun l S => l.length ≤ sizeLine ∧ QD (.tup l) S) : Wp (sTup fs env S) QD := wp_bind.mpr (w.imp fun l S q => by
  rw [if_pos q.1]
  exact q.2)
theorem wp_not (w : Wp (f env S) fun d S => ∃ k, d = .bl k ∧ QD (.bl !k) S) : Wp (sNot f env S) QD := wp_bind.mpr (w.imp fun d S ⟨k, e, q⟩ => by
  subst e
  exact q)
theorem wp_and (w : Wp (f env S) fun d S => ∃ k, d = .bl k ∧ (k = true → Wp (g env S) QD) ∧ (k = false → QD (.bl false) S)) : Wp (sAnd f g env S) QD := wp_bind.mpr (w.imp fun d S ⟨k, e, q⟩ => by
  subst e
  cases k with
  | true => exact q.1 rfl
  | false => exact q.2 rfl)
theorem wp_or (w : Wp (f env S) fun d S => ∃ k, d = .bl k ∧ (k = true → QD (.bl true) S) ∧ (k = false → Wp (g env S) QD)) : Wp (sOr f g env S) QD := wp_bind.mpr (w.imp fun d S ⟨k, e, q⟩ => by
  subst e
  cases k with
  | true => exact q.1 rfl
  | false => exact q.2 rfl)
theorem wp_if (w : Wp (f env S) fun d S => ∃ k, d = .bl k ∧ (k = true → Wp (g env S) QD) ∧ (k = false → Wp (h env S) QD)) : Wp (sIf f g h env S) QD := wp_bind.mpr (w.imp fun d S ⟨k, e, q⟩ => by
  subst e
  cases k with
  | true => exact q.1 rfl
  | false => exact q.2 rfl)
theorem wp_seq (w : Wp (s env S) fun p S => (p.1 = .nx ∧ Wp (t p.2 S) QS) ∨ (p.1 ≠ .nx ∧ QS p S)) : Wp (sSeq s t env S) QS := wp_bind.mpr (w.imp fun p S q => by
  obtain ⟨fl, env2⟩ := p
  rcases q with ⟨e, q⟩ | ⟨e, q⟩
  · have e : fl = .nx := e
    subst e
    exact q
  · cases fl with
    | nx => exact absurd rfl e
    | rt d => exact q
    | bk => exact q
    | ct => exact q)
/-- a statement that sets a slot, then others -/
theorem wp_set {i : Nat} (w : Wp (f env S) fun d S => QS (.nx, env.set i (some d)) S) : Wp (sSet i f env S) QS := wp_bind.mpr w
theorem wp_setSeq {i : Nat} (w : Wp (f env S) fun d S => Wp (t (env.set i (some d)) S) QS) : Wp (sSeq (sSet i f) t env S) QS := wp_seq (wp_set (w.imp fun _ _ q => .inl ⟨rfl, q⟩))
theorem wp_ret (w : Wp (f env S) fun d S => QS (.rt d, env) S) : Wp (sRet f env S) QS := wp_bind.mpr w
theorem wp_do (w : Wp (f env S) fun _ S => QS (.nx, env) S) : Wp (sDo f env S) QS := wp_bind.mpr w
theorem wp_skip (q : QS (.nx, env) S) : Wp (sSkip env S) QS := q
theorem wp_cond (w : Wp (f env S) fun d S => ∃ k, d = .bl k ∧ (k = true → Wp (t env S) QS) ∧ (k = false → Wp (u env S) QS)) : Wp (sCond f t u env S) QS := wp_bind.mpr (w.imp fun d S ⟨k, e, q⟩ => by
  subst e
  cases k with
  | true => exact q.1 rfl
  | false => exact q.2 rfl)
/-- a test that fails, else nothing; then others -/
theorem wp_guard (w : Wp (f env S) fun d S => d = .bl false ∧ Wp (u env S) QS) : Wp (sSeq (sCond f t sSkip) u env S) QS := wp_seq (wp_cond (w.imp fun d S q => ⟨false, q.1, (fun z => nomatch z), fun _ => wp_skip (.inl ⟨rfl, q.2⟩)⟩))
theorem wp_chain {o o' : O2} (w : Wp (f env S) fun x S => Wp (g env S) fun y S => Wp (o S x y) fun b S => ∃ k, b = .bl k ∧ (k = true → Wp (h env S) fun z S => Wp (o' S y z) QD) ∧ (k = false → QD (.bl false) S)) : Wp (sChain o o' f g h env S) QD := by
  refine wp_bind.mpr (w.imp fun x S q => wp_bind.mpr (q.imp fun y S q => wp_bind.mpr (q.imp fun b S ⟨k, e, q⟩ => ?_)))
  subst e
  cases k with
  | true => exact wp_bind.mpr (q.1 rfl)
  | false => exact q.2 rfl
theorem wp_range1 {QI : List D → List Ct → Prop} (w : Wp (f env S) fun d S => ∃ j : Int, d = .int j ∧ -(2 ^ 62) ≤ j ∧ j < 2 ^ 62 ∧ QI (rints 0 j.toNat) S) : Wp (sRange1 f env S) QI := wp_bind.mpr (w.imp fun d S ⟨j, e, h1, h2, q⟩ => by
  subst e
  show Wp (if -(2 ^ 62) ≤ j ∧ j < 2 ^ 62 then R.ok (rints 0 j.toNat) S else .stuck) QI
  rw [if_pos ⟨h1, h2⟩]
  exact q)
theorem wp_iter {QI : List D → List Ct → Prop} (w : Wp (f env S) fun d S => ∃ l, itemsOf d = some l ∧ QI l S) : Wp (sIter f env S) QI := wp_bind.mpr (w.imp fun d S ⟨l, e, q⟩ => by
  rw [e]
  exact q)
end
/-- a loop whose body goes through each time -/
theorem wp_forN {t : TgE} {body : CS} {fi : CI} {env : Env'} {S : List Ct} {Q : Fl × Env' → List Ct → Prop} (I : Env' → List Ct → Prop) (h : Wp (fi env S) fun items S => I env S ∧ ∀ d ∈ items, ∀ env S, I env S → ∃ env1, t d env = some env1 ∧ Wp (body env1 S) fun p S => p.1 = .nx ∧ I p.2 S)
    (he : ∀ env S, I env S → Q (.nx, env) S) : Wp (sFor fi t body env S) Q := by
  refine wp_for I (h.imp fun items S q => ⟨q.1, fun d hd env S hI => ?_⟩) he
  obtain ⟨env1, e, w⟩ := q.2 d hd env S hI
  refine ⟨env1, e, w.imp fun p S q => ?_⟩
  obtain ⟨fl, env2⟩ := p
  have e : fl = .nx := q.1
  subst e
  exact q.2
theorem wp_callK {ph : Dn'} {perm : List Nat} {fs fk : CL} {env : Env'} {S : List Ct} {QD : D → List Ct → Prop} (w : Wp (fs env S) fun l S => Wp (fk env S) fun m S => Wp (ph (pick perm (l ++ m)) S) QD) : Wp (sCallK ph perm fs fk env S) QD := wp_bind.mpr (w.imp fun l S q => wp_bind.mpr q)
theorem rints_len (n : Nat) (lo : Int) : (rints lo n).length = n := by simp [rints]
def cBag (Ph : Den) : CS :=
  sRet (sLstC (sCons (sCallB listO (sCons (sSl (sVar 0) sNoP (sP (sC (.int 63)))) (sNil))) (sCons (sC (.int 0)) (sCons (sC (.int 0)) (sCons (sC (.int 5601)) (sNil))))))
theorem bag_made (Ph : Den) (ns : List Int) : runFn 1 1 (cBag Ph) [.scr (ns.map D.int)] [] = .ok (.cel 0) [bagL (ns.take 63) 0 0 5601] := by
  refine (runFn_eq rfl).trans ?_
  show (cBag Ph [some (D.scr (ns.map D.int))] []).bind outF = _
  unfold cBag
  have e2 : sCallB listO (sCons (sSl (sVar 0) sNoP (sP (sC (.int 63)))) (sNil)) [some (.scr (ns.map D.int))] [] = .ok (.lst ((ns.take 63).map D.int)) [] := by
    have e3 : MP.cutD (ns.map D.int) none (some 63) = (ns.take 63).map D.int := by
      have e4 : HT.sIx (ns.map D.int).length (ns.map D.int).length (some (63 : Int)) = min 63 (ns.map D.int).length := HT.sIx_nat _ _ 63
      unfold MP.cutD
      rw [HT.sIx_none, e4, List.drop_zero, List.map_take, List.length_map, Nat.sub_zero]
      by_cases hm : 63 ≤ ns.length
      · rw [Nat.min_eq_left hm]
      · rw [Nat.min_eq_right (by omega), List.take_of_length_le (by rw [List.length_map]; exact Nat.le_refl _), List.take_of_length_le (by rw [List.length_map]; omega)]
    show R.ok (D.lst (MP.cutD (ns.map D.int) none (some 63))) [] = _
    rw [e3]
  generalize sCallB listO (sCons (sSl (sVar 0) sNoP (sP (sC (.int 63)))) (sNil)) = fa at e2 ⊢
  simp only [sRet, sLstC, sCons, sNil, sC, bind_ok, e2]
  rfl
theorem bag_first (ns : List Int) : Bag 0 [bagL (ns.take 63) 0 0 5601] := ⟨ns.take 63, 0, 0, 5601, rfl, Nat.zero_le _, by decide, by decide, by decide⟩
end MP

namespace Lw
open PySem PySem.Spec PyProof.Rows L2
open MP
/-! ### the text's functions -/
def tp (i : Nat) : Stmt := PySem.Challenge.pw_relitgoals_k01_lamps_and_sets.main.body.getD i (.Pass ⟨0, 0, 0, 0⟩)
structure Fc (mg : Str → Option Value) : Prop where
  m_abs : mg "abs" = none
  m_all : mg "all" = none
  m_bool : mg "bool" = none
  m_int : mg "int" = none
  m_isinstance : mg "isinstance" = none
  m_len : mg "len" = none
  m_list : mg "list" = none
  m_range : mg "range" = none
  m_sorted : mg "sorted" = none
  m_str : mg "str" = none
  m_tuple : mg "tuple" = none
  m_zip : mg "zip" = none
  m_LETTERS : ∃ t, mg "LETTERS" = some (.str "abcdefghijklmnopqrstuvwxyz" t)
  m_MOST_LAMPS : ∃ t, mg "MOST_LAMPS" = some (.int 4 t)
def c_is_rising (Ph : Den) : CS :=
  sSeq (sCond (sNot (sCallB allO (sCons (sLc (sIter (sVar 0)) (gN 1) (sYes) (sBin inO (sVar 1) (sC (.str "abcdefghijklmnopqrstuvwxyz"))) [1]) (sNil)))) (sRet (sC (.bl false))) (sSkip)) (sRet (sCallB allO (sCons (sLc (sZip (sVar 0) (sSl (sVar 0) (sP (sC (.int 1))) sNoP)) (gT (gL [gN 2, gN 3])) (sYes) (sBin ltO (sVar 2) (sVar 3)) [2, 3]) (sNil))))
def f_is_rising : Fn := ⟨"is_rising", tp 3, ["value"], ["value", "letter", "one", "other"], c_is_rising⟩
def c_is_lamps (Ph : Den) : CS :=
  sRet (sAnd (sCallB isiO (sCons (sVar 0) (sCons (sC (.ty "str")) (sNil)))) (sAnd (sChain leO leO (sC (.int 1)) (sCallB lenO (sCons (sVar 0) (sNil))) (sC (.int 4))) (sCall (Ph "is_rising") (sCons (sVar 0) (sNil)))))
def f_is_lamps : Fn := ⟨"is_lamps", tp 4, ["value"], ["value"], c_is_lamps⟩
def c_is_set (Ph : Den) : CS :=
  sRet (sAnd (sCallB isiO (sCons (sVar 0) (sCons (sC (.ty "str")) (sNil)))) (sAnd (sCall (Ph "is_rising") (sCons (sVar 0) (sNil))) (sCallB allO (sCons (sLc (sIter (sVar 0)) (gN 2) (sYes) (sBin inO (sVar 2) (sVar 1)) [2]) (sNil)))))
def f_is_set : Fn := ⟨"is_set", tp 5, ["value", "lamps"], ["value", "lamps", "letter"], c_is_set⟩
def c__law_bag (Ph : Den) : CS :=
  sRet (sLstC (sCons (sCallB listO (sCons (sSl (sVar 0) sNoP (sP (sC (.int 63)))) (sNil))) (sCons (sC (.int 0)) (sCons (sC (.int 0)) (sCons (sC (.int 5601)) (sNil))))))
def f__law_bag : Fn := ⟨"_law_bag", tp 7, ["_law_script"], ["_law_script"], c__law_bag⟩
def c__law_pull (Ph : Den) : CS :=
  sSeq (sCond (sAnd (sBin eqO (sBin ixO (sVar 0) (sC (.int 2))) (sC (.int 0))) (sBin ltO (sBin ixO (sVar 0) (sC (.int 1))) (sCallB lenO (sCons (sBin ixO (sVar 0) (sC (.int 0))) (sNil))))) (sSeq (sSet 2 (sBin ixO (sBin ixO (sVar 0) (sC (.int 0))) (sBin ixO (sVar 0) (sC (.int 1))))) (sSeq (sSetIx (sVar 0) (sC (.int 1)) (sBin addO (sBin ixO (sVar 0) (sC (.int 1))) (sC (.int 1)))) (sCond (sBin geO (sCallB absO (sCons (sVar 2) (sNil))) (sBin powO (sC (.int 10)) (sC (.int 18)))) (sSetIx (sVar 0) (sC (.int 2)) (sCallB absO (sCons (sVar 2) (sNil)))) (sSetIx (sVar 0) (sC (.int 3)) (sBin modO (sCallB intOL (sCons (sBin addO (sBin addO (sBin mulO (sBin ixO (sVar 0) (sC (.int 3))) (sC (.int 69069))) (sBin mulO (sBin modO (sCallB intOL (sCons (sVar 2) (sNil))) (sC (.int 1000000007))) (sC (.int 40503)))) (sC (.int 17))) (sNil))) (sC (.int 2147483629))))))) (sSkip)) (sSeq (sCond (sBin gtO (sBin ixO (sVar 0) (sC (.int 2))) (sC (.int 0))) (sSeq (sSet 3 (sBin modO (sCallB intOL (sCons (sBin ixO (sVar 0) (sC (.int 2))) (sNil))) (sVar 1))) (sSeq (sSetIx (sVar 0) (sC (.int 2)) (sBin fdivO (sBin ixO (sVar 0) (sC (.int 2))) (sVar 1))) (sRet (sVar 3)))) (sSkip)) (sSeq (sSetIx (sVar 0) (sC (.int 3)) (sBin modO (sCallB intOL (sCons (sBin addO (sBin addO (sBin powO (sBin ixO (sVar 0) (sC (.int 3))) (sC (.int 3))) (sBin mulO (sBin ixO (sVar 0) (sC (.int 3))) (sC (.int 40503)))) (sC (.int 1013904223))) (sNil))) (sC (.int 2147483629)))) (sRet (sBin modO (sCallB intOL (sCons (sBin addO (sBin fdivO (sBin ixO (sVar 0) (sC (.int 3))) (sC (.int 61))) (sBin mulO (sBin modO (sCallB intOL (sCons (sBin ixO (sVar 0) (sC (.int 3))) (sNil))) (sC (.int 8209))) (sC (.int 29)))) (sNil))) (sVar 1)))))
def f__law_pull : Fn := ⟨"_law_pull", tp 8, ["_law_bag_here", "_law_many"], ["_law_bag_here", "_law_many", "_law_cell", "_law_digit"], c__law_pull⟩
def c__law_of (Ph : Den) : CS :=
  sRet (sBin ixO (sVar 1) (sCall (Ph "_law_pull") (sCons (sVar 0) (sCons (sCallB lenO (sCons (sVar 1) (sNil))) (sNil)))))
def f__law_of : Fn := ⟨"_law_of", tp 9, ["_law_bag_here", "_law_some"], ["_law_bag_here", "_law_some"], c__law_of⟩
def c__law_same (Ph : Den) : CS :=
  sSeq (sCond (sOr (sBin isO (sVar 1) (sC .non)) (sBin isO (sVar 0) (sC .non))) (sRet (sAnd (sBin isO (sVar 1) (sC .non)) (sBin isO (sVar 0) (sC .non)))) (sSkip)) (sSeq (sCond (sOr (sCallB isiO (sCons (sVar 1) (sCons (sC (.ty "bool")) (sNil)))) (sCallB isiO (sCons (sVar 0) (sCons (sC (.ty "bool")) (sNil))))) (sRet (sAnd (sCallB isiO (sCons (sVar 1) (sCons (sC (.ty "bool")) (sNil)))) (sAnd (sCallB isiO (sCons (sVar 0) (sCons (sC (.ty "bool")) (sNil)))) (sBin eqO (sVar 0) (sVar 1))))) (sSkip)) (sSeq (sCond (sOr (sCallB isiO (sCons (sVar 1) (sCons (sTup (sCons (sC (.ty "list")) (sCons (sC (.ty "tuple")) (sNil)))) (sNil)))) (sCallB isiO (sCons (sVar 0) (sCons (sTup (sCons (sC (.ty "list")) (sCons (sC (.ty "tuple")) (sNil)))) (sNil))))) (sSeq (sCond (sBin neO (sCallB isiO (sCons (sVar 1) (sCons (sC (.ty "list")) (sNil)))) (sCallB isiO (sCons (sVar 0) (sCons (sC (.ty "list")) (sNil))))) (sRet (sC (.bl false))) (sSkip)) (sSeq (sCond (sOr (sBin neO (sCallB isiO (sCons (sVar 1) (sCons (sC (.ty "tuple")) (sNil)))) (sCallB isiO (sCons (sVar 0) (sCons (sC (.ty "tuple")) (sNil))))) (sBin neO (sCallB lenO (sCons (sVar 0) (sNil))) (sCallB lenO (sCons (sVar 1) (sNil))))) (sRet (sC (.bl false))) (sSkip)) (sRet (sCallB allO (sCons (sLc (sZip (sVar 0) (sVar 1)) (gT (gL [gN 2, gN 3])) (sYes) (sCall (Ph "_law_same") (sCons (sVar 2) (sCons (sVar 3) (sNil)))) [2, 3]) (sNil)))))) (sSkip)) (sSeq (sCond (sOr (sBin neO (sCallB isiO (sCons (sVar 1) (sCons (sC (.ty "int")) (sNil)))) (sCallB isiO (sCons (sVar 0) (sCons (sC (.ty "int")) (sNil))))) (sBin neO (sCallB isiO (sCons (sVar 1) (sCons (sC (.ty "str")) (sNil)))) (sCallB isiO (sCons (sVar 0) (sCons (sC (.ty "str")) (sNil)))))) (sRet (sC (.bl false))) (sSkip)) (sRet (sBin eqO (sVar 0) (sVar 1))))))
def f__law_same : Fn := ⟨"_law_same", tp 10, ["_law_found", "_law_due"], ["_law_found", "_law_due", "_law_one", "_law_other"], c__law_same⟩
def c__law_within (Ph : Den) : CS :=
  sRet (sCallB allO (sCons (sLc (sIter (sVar 0)) (gN 2) (sYes) (sBin inO (sVar 2) (sVar 1)) [2]) (sNil)))
def f__law_within : Fn := ⟨"_law_within", tp 11, ["_law_one", "_law_other"], ["_law_one", "_law_other", "_law_letter"], c__law_within⟩
def c__law_rising (Ph : Den) : CS :=
  sSeq (sCond (sNot (sCallB allO (sCons (sLc (sIter (sVar 0)) (gN 1) (sYes) (sBin inO (sVar 1) (sC (.str "abcdefghijklmnopqrstuvwxyz"))) [1]) (sNil)))) (sRet (sC (.bl false))) (sSkip)) (sRet (sCallB allO (sCons (sLc (sZip (sVar 0) (sSl (sVar 0) (sP (sC (.int 1))) sNoP)) (gT (gL [gN 2, gN 3])) (sYes) (sBin ltO (sVar 2) (sVar 3)) [2, 3]) (sNil))))
def f__law_rising : Fn := ⟨"_law_rising", tp 12, ["_law_value_z"], ["_law_value_z", "_law_letter", "_law_one", "_law_other"], c__law_rising⟩
def c__law_is_set (Ph : Den) : CS :=
  sRet (sAnd (sCallB isiO (sCons (sVar 0) (sCons (sC (.ty "str")) (sNil)))) (sAnd (sCall (Ph "_law_rising") (sCons (sVar 0) (sNil))) (sCall (Ph "_law_within") (sCons (sVar 0) (sCons (sVar 1) (sNil))))))
def f__law_is_set : Fn := ⟨"_law_is_set", tp 13, ["_law_value_z", "_law_lamps_z"], ["_law_value_z", "_law_lamps_z"], c__law_is_set⟩
def c__law_lamps (Ph : Den) : CS :=
  sRet (sCall (Ph "_law_of") (sCons (sVar 0) (sCons (sSl (sLst (sCons (sC (.str "ab")) (sCons (sC (.str "a")) (sCons (sC (.str "abc")) (sCons (sC (.str "ab")) (sCons (sC (.str "xyz")) (sCons (sC (.str "bd")) (sCons (sC (.str "abc")) (sCons (sC (.str "abcd")) (sCons (sC (.str "nopt")) (sNil))))))))))) sNoP (sP (sVar 1))) (sNil))))
def f__law_lamps : Fn := ⟨"_law_lamps", tp 14, ["_law_bag_here", "_law_most"], ["_law_bag_here", "_law_most"], c__law_lamps⟩
def c__law_lits (Ph : Den) : CS :=
  sRet (sMeth "str" joinO (sC (.str "")) (sCons (sLc (sIter (sVar 1)) (gN 2) (sBin eqO (sCall (Ph "_law_pull") (sCons (sVar 0) (sCons (sC (.int 2)) (sNil)))) (sC (.int 0))) (sVar 2) [2]) (sNil)))
def f__law_lits : Fn := ⟨"_law_lits", tp 15, ["_law_bag_here", "_law_lamps_z"], ["_law_bag_here", "_law_lamps_z", "_law_lamp"], c__law_lits⟩
def c_law (Ph : Den) : CS :=
  sSeq (sSet 1 (sCall (Ph "_law_bag") (sCons (sVar 0) (sNil)))) (sSeq (sFor (sRange1 (sC (.int 8))) (gN 2) (sSeq (sSet 3 (sLc (sRange1 (sCall (Ph "_law_pull") (sCons (sVar 1) (sCons (sC (.int 6)) (sNil))))) (gN 4) (sYes) (sCall (Ph "_law_of") (sCons (sVar 1) (sCons (sC (.str "abcdefghijklmnopqrstuvwxyz")) (sNil)))) [4])) (sSeq (sSet 5 (sMeth "str" joinO (sC (.str "")) (sCons (sIf (sBin gtO (sCall (Ph "_law_pull") (sCons (sVar 1) (sCons (sC (.int 3)) (sNil)))) (sC (.int 0))) (sCallB sortedO (sCons (sVar 3) (sNil))) (sVar 3)) (sNil)))) (sSeq (sCond (sNot (sCall (Ph "_law_same") (sCons (sCall (Ph "is_lamps") (sCons (sVar 5) (sNil))) (sCons (sAnd (sCall (Ph "_law_rising") (sCons (sVar 5) (sNil))) (sChain leO leO (sC (.int 1)) (sCallB lenO (sCons (sVar 5) (sNil))) (sC (.int 4)))) (sNil))))) (sRet (sC (.bl false))) (sSkip)) (sSeq (sSet 6 (sCall (Ph "_law_lamps") (sCons (sVar 1) (sCons (sC (.int 9)) (sNil))))) (sSeq (sSet 7 (sMeth "str" joinO (sC (.str "")) (sCons (sLc (sRange1 (sCall (Ph "_law_pull") (sCons (sVar 1) (sCons (sC (.int 5)) (sNil))))) (gN 4) (sYes) (sCall (Ph "_law_of") (sCons (sVar 1) (sCons (sBin addO (sVar 6) (sC (.str "q"))) (sNil)))) [4]) (sNil)))) (sSeq (sFor (sIter (sLst (sCons (sVar 7) (sCons (sCall (Ph "_law_lits") (sCons (sVar 1) (sCons (sVar 6) (sNil)))) (sCons (sVar 6) (sCons (sUn revO (sVar 6)) (sCons (sC (.str "")) (sNil)))))))) (gN 8) (sSeq (sSet 9 (sCall (Ph "_law_is_set") (sCons (sVar 8) (sCons (sVar 6) (sNil))))) (sCond (sNot (sCall (Ph "_law_same") (sCons (sLst (sCons (sCall (Ph "is_set") (sCons (sVar 8) (sCons (sVar 6) (sNil)))) (sCons (sCallK (Ph "is_set") [0, 1] sNil (sCons (sVar 8) (sCons (sVar 6) (sNil)))) (sNil)))) (sCons (sLst (sCons (sVar 9) (sCons (sVar 9) (sNil)))) (sNil))))) (sRet (sC (.bl false))) (sSkip)))) (sSeq (sSet 10 (sCall (Ph "_law_of") (sCons (sVar 1) (sCons (sLst (sCons (sC .non) (sCons (sC (.int 3)) (sCons (sC (.bl true)) (sCons (sLst (sCons (sC (.str "a")) (sNil))) (sCons (sTup (sCons (sC (.str "a")) (sNil))) (sCons (sC (.str "A")) (sCons (sC (.str "a b")) (sCons (sC (.str "1")) (sCons (sC (.str "aB")) (sCons (sTup (sNil)) (sNil)))))))))))) (sNil))))) (sCond (sNot (sCall (Ph "_law_same") (sCons (sLst (sCons (sCall (Ph "is_lamps") (sCons (sVar 10) (sNil))) (sCons (sCall (Ph "is_set") (sCons (sVar 10) (sCons (sVar 6) (sNil)))) (sNil)))) (sCons (sLst (sCons (sC (.bl false)) (sCons (sC (.bl false)) (sNil)))) (sNil))))) (sRet (sC (.bl false))) (sSkip)))))))))) (sSeq (sSet 11 (sLst (sCons (sCall (Ph "is_lamps") (sCons (sC (.str "ba")) (sNil))) (sCons (sCall (Ph "is_lamps") (sCons (sC (.str "aa")) (sNil))) (sCons (sCall (Ph "is_lamps") (sCons (sC (.str "abcd")) (sNil))) (sCons (sCall (Ph "is_lamps") (sCons (sC (.str "abcde")) (sNil))) (sCons (sCall (Ph "is_lamps") (sCons (sC (.str "")) (sNil))) (sNil)))))))) (sRet (sAnd (sBin eqO (sVar 11) (sLst (sCons (sC (.bl false)) (sCons (sC (.bl false)) (sCons (sC (.bl true)) (sCons (sC (.bl false)) (sCons (sC (.bl false)) (sNil)))))))) (sCall (Ph "is_set") (sCons (sC (.str "")) (sCons (sC (.str "a")) (sNil))))))))
def f_law : Fn := ⟨"law", tp 16, ["_law_script"], ["_law_script", "_law_bag_here", "_law_turn", "_law_letters", "_law_k", "_law_value_z", "_law_lamps_z", "_law_word", "_law_lit", "_law_good", "_law_odd", "_law_told"], c_law⟩
def tbl : List Fn := [f_is_rising, f_is_lamps, f_is_set, f__law_bag, f__law_pull, f__law_of, f__law_same, f__law_within, f__law_rising, f__law_is_set, f__law_lamps, f__law_lits, f_law]
theorem sc_is_rising : FnScope f_is_rising.N f_is_rising.ps (defScope f_is_rising.st) := ⟨rfl, rfl, rfl, by decide +kernel, rfl, by decide +kernel, by decide +kernel⟩
theorem sc_is_lamps : FnScope f_is_lamps.N f_is_lamps.ps (defScope f_is_lamps.st) := ⟨rfl, rfl, rfl, by decide +kernel, rfl, by decide +kernel, by decide +kernel⟩
theorem sc_is_set : FnScope f_is_set.N f_is_set.ps (defScope f_is_set.st) := ⟨rfl, rfl, rfl, by decide +kernel, rfl, by decide +kernel, by decide +kernel⟩
theorem sc__law_bag : FnScope f__law_bag.N f__law_bag.ps (defScope f__law_bag.st) := ⟨rfl, rfl, rfl, by decide +kernel, rfl, by decide +kernel, by decide +kernel⟩
theorem sc__law_pull : FnScope f__law_pull.N f__law_pull.ps (defScope f__law_pull.st) := ⟨rfl, rfl, rfl, by decide +kernel, rfl, by decide +kernel, by decide +kernel⟩
theorem sc__law_of : FnScope f__law_of.N f__law_of.ps (defScope f__law_of.st) := ⟨rfl, rfl, rfl, by decide +kernel, rfl, by decide +kernel, by decide +kernel⟩
theorem sc__law_same : FnScope f__law_same.N f__law_same.ps (defScope f__law_same.st) := ⟨rfl, rfl, rfl, by decide +kernel, rfl, by decide +kernel, by decide +kernel⟩
theorem sc__law_within : FnScope f__law_within.N f__law_within.ps (defScope f__law_within.st) := ⟨rfl, rfl, rfl, by decide +kernel, rfl, by decide +kernel, by decide +kernel⟩
theorem sc__law_rising : FnScope f__law_rising.N f__law_rising.ps (defScope f__law_rising.st) := ⟨rfl, rfl, rfl, by decide +kernel, rfl, by decide +kernel, by decide +kernel⟩
theorem sc__law_is_set : FnScope f__law_is_set.N f__law_is_set.ps (defScope f__law_is_set.st) := ⟨rfl, rfl, rfl, by decide +kernel, rfl, by decide +kernel, by decide +kernel⟩
theorem sc__law_lamps : FnScope f__law_lamps.N f__law_lamps.ps (defScope f__law_lamps.st) := ⟨rfl, rfl, rfl, by decide +kernel, rfl, by decide +kernel, by decide +kernel⟩
theorem sc__law_lits : FnScope f__law_lits.N f__law_lits.ps (defScope f__law_lits.st) := ⟨rfl, rfl, rfl, by decide +kernel, rfl, by decide +kernel, by decide +kernel⟩
theorem sc_law : FnScope f_law.N f_law.ps (defScope f_law.st) := ⟨rfl, rfl, rfl, by decide +kernel, rfl, by decide +kernel, by decide +kernel⟩
section
variable {P : Program} {w : World} {K : PySem.W.Frag} {mg : Str → Option Value} {base : Heap}
theorem wor_is_rising (fc : Fc mg) : Wor P w K mg base tbl f_is_rising := fun k Ph T cdv A outer s H E hr => by
  have hx : Passes (L2.CX P w) (cxOf (L2.CX P w) P w K mg base f_is_rising.N f_is_rising.name (defScope f_is_rising.st) (He.ga K f_is_rising.name) cdv A outer s H E) E := passes_call (takes_of rfl rfl rfl rfl) (fun _ _ _ _ h => h)
  exact (c_cons (c_if (t_not (t_val (e_callB (oc_all rfl) (by rfl) fc.m_all (a_cons (d_lc (own := [(("letter" : Str), 1)]) rfl sc_is_rising.nd (i_any (d_var 0)) (blkOk_by (by show blkC f_is_rising.N (defScope f_is_rising.st) _ _ = true; decide +kernel)) (by decide +kernel) (fun _ _ _ _ _ => g_name 1 sc_is_rising.nd) (fun _ _ _ _ _ => ts_nil) (fun _ _ _ _ _ => e_cmp o_in (d_var 1) (d_gstr (by rfl) fc.m_LETTERS))) (a_nil))))) (c_one (c_ret (d_bl))) (c_nil)) (c_one (c_ret (e_callB (oc_all rfl) (by rfl) fc.m_all (a_cons (d_lc (own := [(("one" : Str), 2), (("other" : Str), 3)]) rfl sc_is_rising.nd (i_zip (by rfl) fc.m_zip (d_var 0) (e_slice (d_var 0) (o_some (d_int)) o_none)) (blkOk_by (by show blkC f_is_rising.N (defScope f_is_rising.st) _ _ = true; decide +kernel)) (by decide +kernel) (fun _ _ _ _ _ => g_tup rfl (gs_cons (g_name 2 sc_is_rising.nd) (gs_cons (g_name 3 sc_is_rising.nd) (gs_nil)))) (fun _ _ _ _ _ => ts_nil) (fun _ _ _ _ _ => e_cmp o_lt (d_var 2) (d_var 3))) (a_nil))))) : EvSs (cxOf (L2.CX P w) P w K mg base f_is_rising.N f_is_rising.name (defScope f_is_rising.st) (He.ga K f_is_rising.name) cdv A outer s H E) E (defBody (tp 3)) (c_is_rising Ph))
theorem wor_is_lamps (fc : Fc mg) : Wor P w K mg base tbl f_is_lamps := fun k Ph T cdv A outer s H E hr => by
  have hx : Passes (L2.CX P w) (cxOf (L2.CX P w) P w K mg base f_is_lamps.N f_is_lamps.name (defScope f_is_lamps.st) (He.ga K f_is_lamps.name) cdv A outer s H E) E := passes_call (takes_of rfl rfl rfl rfl) (fun _ _ _ _ h => h)
  exact (c_one (c_ret (d_and (e_callB oc_isi (by rfl) fc.m_isinstance (a_cons (d_var 0) (a_cons (d_ty (by rfl) fc.m_str) (a_nil)))) (d_and (e_chain o_le o_le (d_int) (e_callB oc_len (by rfl) fc.m_len (a_cons (d_var 0) (a_nil))) (d_gint (by rfl) fc.m_MOST_LAMPS)) (d_one (x_call (fn := f_is_rising) (T _ (List.mem_of_getElem? (i := 0) (a := f_is_rising) rfl)) hr hx (by rfl) (a_cons (d_var 0) (a_nil))))))) : EvSs (cxOf (L2.CX P w) P w K mg base f_is_lamps.N f_is_lamps.name (defScope f_is_lamps.st) (He.ga K f_is_lamps.name) cdv A outer s H E) E (defBody (tp 4)) (c_is_lamps Ph))
theorem wor_is_set (fc : Fc mg) : Wor P w K mg base tbl f_is_set := fun k Ph T cdv A outer s H E hr => by
  have hx : Passes (L2.CX P w) (cxOf (L2.CX P w) P w K mg base f_is_set.N f_is_set.name (defScope f_is_set.st) (He.ga K f_is_set.name) cdv A outer s H E) E := passes_call (takes_of rfl rfl rfl rfl) (fun _ _ _ _ h => h)
  exact (c_one (c_ret (d_and (e_callB oc_isi (by rfl) fc.m_isinstance (a_cons (d_var 0) (a_cons (d_ty (by rfl) fc.m_str) (a_nil)))) (d_and (x_call (fn := f_is_rising) (T _ (List.mem_of_getElem? (i := 0) (a := f_is_rising) rfl)) hr hx (by rfl) (a_cons (d_var 0) (a_nil))) (d_one (e_callB (oc_all rfl) (by rfl) fc.m_all (a_cons (d_lc (own := [(("letter" : Str), 2)]) rfl sc_is_set.nd (i_any (d_var 0)) (blkOk_by (by show blkC f_is_set.N (defScope f_is_set.st) _ _ = true; decide +kernel)) (by decide +kernel) (fun _ _ _ _ _ => g_name 2 sc_is_set.nd) (fun _ _ _ _ _ => ts_nil) (fun _ _ _ _ _ => e_cmp o_in (d_var 2) (d_var 1))) (a_nil))))))) : EvSs (cxOf (L2.CX P w) P w K mg base f_is_set.N f_is_set.name (defScope f_is_set.st) (He.ga K f_is_set.name) cdv A outer s H E) E (defBody (tp 5)) (c_is_set Ph))
theorem wor__law_bag (fc : Fc mg) : Wor P w K mg base tbl f__law_bag := fun k Ph T cdv A outer s H E hr => by
  have hx : Passes (L2.CX P w) (cxOf (L2.CX P w) P w K mg base f__law_bag.N f__law_bag.name (defScope f__law_bag.st) (He.ga K f__law_bag.name) cdv A outer s H E) E := passes_call (takes_of rfl rfl rfl rfl) (fun _ _ _ _ h => h)
  exact (c_one (c_ret (d_lstC (a_cons (e_callTy oc_list (by rfl) fc.m_list (a_cons (e_slice (d_var 0) o_none (o_some (d_int))) (a_nil))) (a_cons (d_int) (a_cons (d_int) (a_cons (d_int) (a_nil))))))) : EvSs (cxOf (L2.CX P w) P w K mg base f__law_bag.N f__law_bag.name (defScope f__law_bag.st) (He.ga K f__law_bag.name) cdv A outer s H E) E (defBody (tp 7)) (c__law_bag Ph))
theorem wor__law_pull (fc : Fc mg) : Wor P w K mg base tbl f__law_pull := fun k Ph T cdv A outer s H E hr => by
  have hx : Passes (L2.CX P w) (cxOf (L2.CX P w) P w K mg base f__law_pull.N f__law_pull.name (defScope f__law_pull.st) (He.ga K f__law_pull.name) cdv A outer s H E) E := passes_call (takes_of rfl rfl rfl rfl) (fun _ _ _ _ h => h)
  exact (c_cons (c_if ((w_and (et_cmp (o_eq (units_of hr)) (e_ix (d_var 0) (d_int)) (d_int)) (w_and1 (et_cmp o_lt (e_ix (d_var 0) (d_int)) (e_callB oc_len (by rfl) fc.m_len (a_cons (e_ix (d_var 0) (d_int)) (a_nil)))))).t) (c_cons (c_set 2 sc__law_pull.nd (e_ix (e_ix (d_var 0) (d_int)) (e_ix (d_var 0) (d_int)))) (c_cons (c_setIx (e_bin o_add (e_ix (d_var 0) (d_int)) (d_int)) (d_var 0) (d_int)) (c_one (c_if (et_cmp o_ge (e_callB oc_abs (by rfl) fc.m_abs (a_cons (d_var 2) (a_nil))) (e_bin o_pow (d_int) (d_int))) (c_one (c_setIx (e_callB oc_abs (by rfl) fc.m_abs (a_cons (d_var 2) (a_nil))) (d_var 0) (d_int))) (c_one (c_setIx (e_bin o_mod (e_callTy oc_int (by rfl) fc.m_int (a_cons (e_bin o_add (e_bin o_add (e_bin o_mul (e_ix (d_var 0) (d_int)) (d_int)) (e_bin o_mul (e_bin o_mod (e_callTy oc_int (by rfl) fc.m_int (a_cons (d_var 2) (a_nil))) (d_int)) (d_int))) (d_int)) (a_nil))) (d_int)) (d_var 0) (d_int))))))) (c_nil)) (c_cons (c_if (et_cmp o_gt (e_ix (d_var 0) (d_int)) (d_int)) (c_cons (c_set 3 sc__law_pull.nd (e_bin o_mod (e_callTy oc_int (by rfl) fc.m_int (a_cons (e_ix (d_var 0) (d_int)) (a_nil))) (d_var 1))) (c_cons (c_setIx (e_bin o_fdiv (e_ix (d_var 0) (d_int)) (d_var 1)) (d_var 0) (d_int)) (c_one (c_ret (d_var 3))))) (c_nil)) (c_cons (c_setIx (e_bin o_mod (e_callTy oc_int (by rfl) fc.m_int (a_cons (e_bin o_add (e_bin o_add (e_bin o_pow (e_ix (d_var 0) (d_int)) (d_int)) (e_bin o_mul (e_ix (d_var 0) (d_int)) (d_int))) (d_int)) (a_nil))) (d_int)) (d_var 0) (d_int)) (c_one (c_ret (e_bin o_mod (e_callTy oc_int (by rfl) fc.m_int (a_cons (e_bin o_add (e_bin o_fdiv (e_ix (d_var 0) (d_int)) (d_int)) (e_bin o_mul (e_bin o_mod (e_callTy oc_int (by rfl) fc.m_int (a_cons (e_ix (d_var 0) (d_int)) (a_nil))) (d_int)) (d_int))) (a_nil))) (d_var 1)))))) : EvSs (cxOf (L2.CX P w) P w K mg base f__law_pull.N f__law_pull.name (defScope f__law_pull.st) (He.ga K f__law_pull.name) cdv A outer s H E) E (defBody (tp 8)) (c__law_pull Ph))
theorem wor__law_of (fc : Fc mg) : Wor P w K mg base tbl f__law_of := fun k Ph T cdv A outer s H E hr => by
  have hx : Passes (L2.CX P w) (cxOf (L2.CX P w) P w K mg base f__law_of.N f__law_of.name (defScope f__law_of.st) (He.ga K f__law_of.name) cdv A outer s H E) E := passes_call (takes_of rfl rfl rfl rfl) (fun _ _ _ _ h => h)
  exact (c_one (c_ret (e_ix (d_var 1) (x_call (fn := f__law_pull) (T _ (List.mem_of_getElem? (i := 4) (a := f__law_pull) rfl)) hr hx (by rfl) (a_cons (d_var 0) (a_cons (e_callB oc_len (by rfl) fc.m_len (a_cons (d_var 1) (a_nil))) (a_nil)))))) : EvSs (cxOf (L2.CX P w) P w K mg base f__law_of.N f__law_of.name (defScope f__law_of.st) (He.ga K f__law_of.name) cdv A outer s H E) E (defBody (tp 9)) (c__law_of Ph))
theorem wor__law_same (fc : Fc mg) : Wor P w K mg base tbl f__law_same := fun k Ph T cdv A outer s H E hr => by
  have hx : Passes (L2.CX P w) (cxOf (L2.CX P w) P w K mg base f__law_same.N f__law_same.name (defScope f__law_same.st) (He.ga K f__law_same.name) cdv A outer s H E) E := passes_call (takes_of rfl rfl rfl rfl) (fun _ _ _ _ h => h)
  exact (c_cons (c_if ((w_or (et_cmp o_is (d_var 1) (d_non)) (w_or1 (et_cmp o_is (d_var 0) (d_non)))).t) (c_one (c_ret (d_and (e_cmp o_is (d_var 1) (d_non)) (d_one (e_cmp o_is (d_var 0) (d_non)))))) (c_nil)) (c_cons (c_if ((w_or (t_val (e_callB oc_isi (by rfl) fc.m_isinstance (a_cons (d_var 1) (a_cons (d_ty (by rfl) fc.m_bool) (a_nil))))) (w_or1 (t_val (e_callB oc_isi (by rfl) fc.m_isinstance (a_cons (d_var 0) (a_cons (d_ty (by rfl) fc.m_bool) (a_nil))))))).t) (c_one (c_ret (d_and (e_callB oc_isi (by rfl) fc.m_isinstance (a_cons (d_var 1) (a_cons (d_ty (by rfl) fc.m_bool) (a_nil)))) (d_and (e_callB oc_isi (by rfl) fc.m_isinstance (a_cons (d_var 0) (a_cons (d_ty (by rfl) fc.m_bool) (a_nil)))) (d_one (e_cmp (o_eq (units_of hr)) (d_var 0) (d_var 1))))))) (c_nil)) (c_cons (c_if ((w_or (t_val (e_callB oc_isi (by rfl) fc.m_isinstance (a_cons (d_var 1) (a_cons (d_tup (a_cons (d_ty (by rfl) fc.m_list) (a_cons (d_ty (by rfl) fc.m_tuple) (a_nil)))) (a_nil))))) (w_or1 (t_val (e_callB oc_isi (by rfl) fc.m_isinstance (a_cons (d_var 0) (a_cons (d_tup (a_cons (d_ty (by rfl) fc.m_list) (a_cons (d_ty (by rfl) fc.m_tuple) (a_nil)))) (a_nil))))))).t) (c_cons (c_if (et_cmp (o_ne (units_of hr)) (e_callB oc_isi (by rfl) fc.m_isinstance (a_cons (d_var 1) (a_cons (d_ty (by rfl) fc.m_list) (a_nil)))) (e_callB oc_isi (by rfl) fc.m_isinstance (a_cons (d_var 0) (a_cons (d_ty (by rfl) fc.m_list) (a_nil))))) (c_one (c_ret (d_bl))) (c_nil)) (c_cons (c_if ((w_or (et_cmp (o_ne (units_of hr)) (e_callB oc_isi (by rfl) fc.m_isinstance (a_cons (d_var 1) (a_cons (d_ty (by rfl) fc.m_tuple) (a_nil)))) (e_callB oc_isi (by rfl) fc.m_isinstance (a_cons (d_var 0) (a_cons (d_ty (by rfl) fc.m_tuple) (a_nil))))) (w_or1 (et_cmp (o_ne (units_of hr)) (e_callB oc_len (by rfl) fc.m_len (a_cons (d_var 0) (a_nil))) (e_callB oc_len (by rfl) fc.m_len (a_cons (d_var 1) (a_nil)))))).t) (c_one (c_ret (d_bl))) (c_nil)) (c_one (c_ret (e_callB (oc_all rfl) (by rfl) fc.m_all (a_cons (d_lc (own := [(("_law_one" : Str), 2), (("_law_other" : Str), 3)]) rfl sc__law_same.nd (i_zip (by rfl) fc.m_zip (d_var 0) (d_var 1)) (blkOk_by (by show blkC f__law_same.N (defScope f__law_same.st) _ _ = true; decide +kernel)) (by decide +kernel) (fun _ _ _ _ _ => g_tup rfl (gs_cons (g_name 2 sc__law_same.nd) (gs_cons (g_name 3 sc__law_same.nd) (gs_nil)))) (fun _ _ _ _ _ => ts_nil) (fun _ _ _ _ _ => x_call (fn := f__law_same) (T _ (List.mem_of_getElem? (i := 6) (a := f__law_same) rfl)) hr passL (by rfl) (a_cons (d_var 2) (a_cons (d_var 3) (a_nil))))) (a_nil))))))) (c_nil)) (c_cons (c_if ((w_or (et_cmp (o_ne (units_of hr)) (e_callB oc_isi (by rfl) fc.m_isinstance (a_cons (d_var 1) (a_cons (d_ty (by rfl) fc.m_int) (a_nil)))) (e_callB oc_isi (by rfl) fc.m_isinstance (a_cons (d_var 0) (a_cons (d_ty (by rfl) fc.m_int) (a_nil))))) (w_or1 (et_cmp (o_ne (units_of hr)) (e_callB oc_isi (by rfl) fc.m_isinstance (a_cons (d_var 1) (a_cons (d_ty (by rfl) fc.m_str) (a_nil)))) (e_callB oc_isi (by rfl) fc.m_isinstance (a_cons (d_var 0) (a_cons (d_ty (by rfl) fc.m_str) (a_nil))))))).t) (c_one (c_ret (d_bl))) (c_nil)) (c_one (c_ret (e_cmp (o_eq (units_of hr)) (d_var 0) (d_var 1))))))) : EvSs (cxOf (L2.CX P w) P w K mg base f__law_same.N f__law_same.name (defScope f__law_same.st) (He.ga K f__law_same.name) cdv A outer s H E) E (defBody (tp 10)) (c__law_same Ph))
theorem wor__law_within (fc : Fc mg) : Wor P w K mg base tbl f__law_within := fun k Ph T cdv A outer s H E hr => by
  have hx : Passes (L2.CX P w) (cxOf (L2.CX P w) P w K mg base f__law_within.N f__law_within.name (defScope f__law_within.st) (He.ga K f__law_within.name) cdv A outer s H E) E := passes_call (takes_of rfl rfl rfl rfl) (fun _ _ _ _ h => h)
  exact (c_one (c_ret (e_callB (oc_all rfl) (by rfl) fc.m_all (a_cons (d_lc (own := [(("_law_letter" : Str), 2)]) rfl sc__law_within.nd (i_any (d_var 0)) (blkOk_by (by show blkC f__law_within.N (defScope f__law_within.st) _ _ = true; decide +kernel)) (by decide +kernel) (fun _ _ _ _ _ => g_name 2 sc__law_within.nd) (fun _ _ _ _ _ => ts_nil) (fun _ _ _ _ _ => e_cmp o_in (d_var 2) (d_var 1))) (a_nil)))) : EvSs (cxOf (L2.CX P w) P w K mg base f__law_within.N f__law_within.name (defScope f__law_within.st) (He.ga K f__law_within.name) cdv A outer s H E) E (defBody (tp 11)) (c__law_within Ph))
theorem wor__law_rising (fc : Fc mg) : Wor P w K mg base tbl f__law_rising := fun k Ph T cdv A outer s H E hr => by
  have hx : Passes (L2.CX P w) (cxOf (L2.CX P w) P w K mg base f__law_rising.N f__law_rising.name (defScope f__law_rising.st) (He.ga K f__law_rising.name) cdv A outer s H E) E := passes_call (takes_of rfl rfl rfl rfl) (fun _ _ _ _ h => h)
  exact (c_cons (c_if (t_not (t_val (e_callB (oc_all rfl) (by rfl) fc.m_all (a_cons (d_lc (own := [(("_law_letter" : Str), 1)]) rfl sc__law_rising.nd (i_any (d_var 0)) (blkOk_by (by show blkC f__law_rising.N (defScope f__law_rising.st) _ _ = true; decide +kernel)) (by decide +kernel) (fun _ _ _ _ _ => g_name 1 sc__law_rising.nd) (fun _ _ _ _ _ => ts_nil) (fun _ _ _ _ _ => e_cmp o_in (d_var 1) (d_str))) (a_nil))))) (c_one (c_ret (d_bl))) (c_nil)) (c_one (c_ret (e_callB (oc_all rfl) (by rfl) fc.m_all (a_cons (d_lc (own := [(("_law_one" : Str), 2), (("_law_other" : Str), 3)]) rfl sc__law_rising.nd (i_zip (by rfl) fc.m_zip (d_var 0) (e_slice (d_var 0) (o_some (d_int)) o_none)) (blkOk_by (by show blkC f__law_rising.N (defScope f__law_rising.st) _ _ = true; decide +kernel)) (by decide +kernel) (fun _ _ _ _ _ => g_tup rfl (gs_cons (g_name 2 sc__law_rising.nd) (gs_cons (g_name 3 sc__law_rising.nd) (gs_nil)))) (fun _ _ _ _ _ => ts_nil) (fun _ _ _ _ _ => e_cmp o_lt (d_var 2) (d_var 3))) (a_nil))))) : EvSs (cxOf (L2.CX P w) P w K mg base f__law_rising.N f__law_rising.name (defScope f__law_rising.st) (He.ga K f__law_rising.name) cdv A outer s H E) E (defBody (tp 12)) (c__law_rising Ph))
theorem wor__law_is_set (fc : Fc mg) : Wor P w K mg base tbl f__law_is_set := fun k Ph T cdv A outer s H E hr => by
  have hx : Passes (L2.CX P w) (cxOf (L2.CX P w) P w K mg base f__law_is_set.N f__law_is_set.name (defScope f__law_is_set.st) (He.ga K f__law_is_set.name) cdv A outer s H E) E := passes_call (takes_of rfl rfl rfl rfl) (fun _ _ _ _ h => h)
  exact (c_one (c_ret (d_and (e_callB oc_isi (by rfl) fc.m_isinstance (a_cons (d_var 0) (a_cons (d_ty (by rfl) fc.m_str) (a_nil)))) (d_and (x_call (fn := f__law_rising) (T _ (List.mem_of_getElem? (i := 8) (a := f__law_rising) rfl)) hr hx (by rfl) (a_cons (d_var 0) (a_nil))) (d_one (x_call (fn := f__law_within) (T _ (List.mem_of_getElem? (i := 7) (a := f__law_within) rfl)) hr hx (by rfl) (a_cons (d_var 0) (a_cons (d_var 1) (a_nil)))))))) : EvSs (cxOf (L2.CX P w) P w K mg base f__law_is_set.N f__law_is_set.name (defScope f__law_is_set.st) (He.ga K f__law_is_set.name) cdv A outer s H E) E (defBody (tp 13)) (c__law_is_set Ph))
theorem wor__law_lamps (fc : Fc mg) : Wor P w K mg base tbl f__law_lamps := fun k Ph T cdv A outer s H E hr => by
  have hx : Passes (L2.CX P w) (cxOf (L2.CX P w) P w K mg base f__law_lamps.N f__law_lamps.name (defScope f__law_lamps.st) (He.ga K f__law_lamps.name) cdv A outer s H E) E := passes_call (takes_of rfl rfl rfl rfl) (fun _ _ _ _ h => h)
  exact (c_one (c_ret (x_call (fn := f__law_of) (T _ (List.mem_of_getElem? (i := 5) (a := f__law_of) rfl)) hr hx (by rfl) (a_cons (d_var 0) (a_cons (e_slice (d_lst (a_cons (d_str) (a_cons (d_str) (a_cons (d_str) (a_cons (d_str) (a_cons (d_str) (a_cons (d_str) (a_cons (d_str) (a_cons (d_str) (a_cons (d_str) (a_nil))))))))))) o_none (o_some (d_var 1))) (a_nil))))) : EvSs (cxOf (L2.CX P w) P w K mg base f__law_lamps.N f__law_lamps.name (defScope f__law_lamps.st) (He.ga K f__law_lamps.name) cdv A outer s H E) E (defBody (tp 14)) (c__law_lamps Ph))
theorem wor__law_lits (fc : Fc mg) : Wor P w K mg base tbl f__law_lits := fun k Ph T cdv A outer s H E hr => by
  have hx : Passes (L2.CX P w) (cxOf (L2.CX P w) P w K mg base f__law_lits.N f__law_lits.name (defScope f__law_lits.st) (He.ga K f__law_lits.name) cdv A outer s H E) E := passes_call (takes_of rfl rfl rfl rfl) (fun _ _ _ _ h => h)
  exact (c_one (c_ret (e_join (d_str) (a_cons (d_lc (own := [(("_law_lamp" : Str), 2)]) rfl sc__law_lits.nd (i_any (d_var 1)) (blkOk_by (by show blkC f__law_lits.N (defScope f__law_lits.st) _ _ = true; decide +kernel)) (by decide +kernel) (fun _ _ _ _ _ => g_name 2 sc__law_lits.nd) (fun _ _ _ _ _ => ts_one (et_cmp (o_eq (units_of hr)) (x_call (fn := f__law_pull) (T _ (List.mem_of_getElem? (i := 4) (a := f__law_pull) rfl)) hr passL (by rfl) (a_cons (d_var 0) (a_cons (d_int) (a_nil)))) (d_int))) (fun _ _ _ _ _ => d_var 2)) (a_nil)))) : EvSs (cxOf (L2.CX P w) P w K mg base f__law_lits.N f__law_lits.name (defScope f__law_lits.st) (He.ga K f__law_lits.name) cdv A outer s H E) E (defBody (tp 15)) (c__law_lits Ph))
theorem wor_law (fc : Fc mg) : Wor P w K mg base tbl f_law := fun k Ph T cdv A outer s H E hr => by
  have hx : Passes (L2.CX P w) (cxOf (L2.CX P w) P w K mg base f_law.N f_law.name (defScope f_law.st) (He.ga K f_law.name) cdv A outer s H E) E := passes_call (takes_of rfl rfl rfl rfl) (fun _ _ _ _ h => h)
  exact (c_cons (c_set 1 sc_law.nd (x_call (fn := f__law_bag) (T _ (List.mem_of_getElem? (i := 3) (a := f__law_bag) rfl)) hr hx (by rfl) (a_cons (d_var 0) (a_nil)))) (c_cons (c_for (passes_of rfl) rfl (i_range1 (by rfl) fc.m_range (d_int)) (g_name 2 sc_law.nd) (c_cons (c_setLc (own := [(("_law_k" : Str), 4)]) 3 rfl sc_law.nd (sw_true rfl rfl rfl (by decide +kernel)) (i_range1 (by rfl) fc.m_range (x_call (fn := f__law_pull) (T _ (List.mem_of_getElem? (i := 4) (a := f__law_pull) rfl)) hr hx (by rfl) (a_cons (d_var 1) (a_cons (d_int) (a_nil))))) (blkOk_by (by show blkC f_law.N (defScope f_law.st) _ _ = true; decide +kernel)) (by decide +kernel) (fun _ _ _ _ _ => g_name 4 sc_law.nd) (fun _ _ _ _ _ => ts_nil) (fun _ _ _ _ _ => x_call (fn := f__law_of) (T _ (List.mem_of_getElem? (i := 5) (a := f__law_of) rfl)) hr passL (by rfl) (a_cons (d_var 1) (a_cons (d_str) (a_nil))))) (c_cons (c_set 5 sc_law.nd (e_join (d_str) (a_cons (d_if (et_cmp o_gt (x_call (fn := f__law_pull) (T _ (List.mem_of_getElem? (i := 4) (a := f__law_pull) rfl)) hr hx (by rfl) (a_cons (d_var 1) (a_cons (d_int) (a_nil)))) (d_int)) (e_callB oc_sortedS (by rfl) fc.m_sorted (a_cons (d_var 3) (a_nil))) (d_var 3)) (a_nil)))) (c_cons (c_if (t_not (t_val (x_call (fn := f__law_same) (T _ (List.mem_of_getElem? (i := 6) (a := f__law_same) rfl)) hr hx (by rfl) (a_cons (x_call (fn := f_is_lamps) (T _ (List.mem_of_getElem? (i := 1) (a := f_is_lamps) rfl)) hr hx (by rfl) (a_cons (d_var 5) (a_nil))) (a_cons (d_and (x_call (fn := f__law_rising) (T _ (List.mem_of_getElem? (i := 8) (a := f__law_rising) rfl)) hr hx (by rfl) (a_cons (d_var 5) (a_nil))) (d_one (e_chain o_le o_le (d_int) (e_callB oc_len (by rfl) fc.m_len (a_cons (d_var 5) (a_nil))) (d_int)))) (a_nil)))))) (c_one (c_ret (d_bl))) (c_nil)) (c_cons (c_set 6 sc_law.nd (x_call (fn := f__law_lamps) (T _ (List.mem_of_getElem? (i := 10) (a := f__law_lamps) rfl)) hr hx (by rfl) (a_cons (d_var 1) (a_cons (d_int) (a_nil))))) (c_cons (c_set 7 sc_law.nd (e_join (d_str) (a_cons (d_lc (own := [(("_law_k" : Str), 4)]) rfl sc_law.nd (i_range1 (by rfl) fc.m_range (x_call (fn := f__law_pull) (T _ (List.mem_of_getElem? (i := 4) (a := f__law_pull) rfl)) hr hx (by rfl) (a_cons (d_var 1) (a_cons (d_int) (a_nil))))) (blkOk_by (by show blkC f_law.N (defScope f_law.st) _ _ = true; decide +kernel)) (by decide +kernel) (fun _ _ _ _ _ => g_name 4 sc_law.nd) (fun _ _ _ _ _ => ts_nil) (fun _ _ _ _ _ => x_call (fn := f__law_of) (T _ (List.mem_of_getElem? (i := 5) (a := f__law_of) rfl)) hr passL (by rfl) (a_cons (d_var 1) (a_cons (e_bin o_add (d_var 6) (d_str)) (a_nil))))) (a_nil)))) (c_cons (c_for (passes_of rfl) rfl (i_any (d_lst (a_cons (d_var 7) (a_cons (x_call (fn := f__law_lits) (T _ (List.mem_of_getElem? (i := 11) (a := f__law_lits) rfl)) hr hx (by rfl) (a_cons (d_var 1) (a_cons (d_var 6) (a_nil)))) (a_cons (d_var 6) (a_cons (e_rev (d_var 6)) (a_cons (d_str) (a_nil)))))))) (g_name 8 sc_law.nd) (c_cons (c_set 9 sc_law.nd (x_call (fn := f__law_is_set) (T _ (List.mem_of_getElem? (i := 9) (a := f__law_is_set) rfl)) hr hx (by rfl) (a_cons (d_var 8) (a_cons (d_var 6) (a_nil))))) (c_one (c_if (t_not (t_val (x_call (fn := f__law_same) (T _ (List.mem_of_getElem? (i := 6) (a := f__law_same) rfl)) hr hx (by rfl) (a_cons (d_lst (a_cons (x_call (fn := f_is_set) (T _ (List.mem_of_getElem? (i := 2) (a := f_is_set) rfl)) hr hx (by rfl) (a_cons (d_var 8) (a_cons (d_var 6) (a_nil)))) (a_cons (x_callK0 (fn := f_is_set) [("value" : Str), ("lamps" : Str)] [0, 1] (T _ (List.mem_of_getElem? (i := 2) (a := f_is_set) rfl)) hr hx (by rfl) (fun _ _ _ _ _ _ ws hl => match ws, hl with | [_, _], _ => rfl) (k_cons (d_var 8) (k_cons (d_var 6) (k_nil))) (len_cons (len_cons (len_nil)))) (a_nil)))) (a_cons (d_lst (a_cons (d_var 9) (a_cons (d_var 9) (a_nil)))) (a_nil)))))) (c_one (c_ret (d_bl))) (c_nil))))) (c_cons (c_set 10 sc_law.nd (x_call (fn := f__law_of) (T _ (List.mem_of_getElem? (i := 5) (a := f__law_of) rfl)) hr hx (by rfl) (a_cons (d_var 1) (a_cons (d_lst (a_cons (d_non) (a_cons (d_int) (a_cons (d_bl) (a_cons (d_lst (a_cons (d_str) (a_nil))) (a_cons (d_tup (a_cons (d_str) (a_nil))) (a_cons (d_str) (a_cons (d_str) (a_cons (d_str) (a_cons (d_str) (a_cons (d_tup (a_nil)) (a_nil)))))))))))) (a_nil))))) (c_one (c_if (t_not (t_val (x_call (fn := f__law_same) (T _ (List.mem_of_getElem? (i := 6) (a := f__law_same) rfl)) hr hx (by rfl) (a_cons (d_lst (a_cons (x_call (fn := f_is_lamps) (T _ (List.mem_of_getElem? (i := 1) (a := f_is_lamps) rfl)) hr hx (by rfl) (a_cons (d_var 10) (a_nil))) (a_cons (x_call (fn := f_is_set) (T _ (List.mem_of_getElem? (i := 2) (a := f_is_set) rfl)) hr hx (by rfl) (a_cons (d_var 10) (a_cons (d_var 6) (a_nil)))) (a_nil)))) (a_cons (d_lst (a_cons (d_bl) (a_cons (d_bl) (a_nil)))) (a_nil)))))) (c_one (c_ret (d_bl))) (c_nil))))))))))) (c_cons (c_set 11 sc_law.nd (d_lst (a_cons (x_call (fn := f_is_lamps) (T _ (List.mem_of_getElem? (i := 1) (a := f_is_lamps) rfl)) hr hx (by rfl) (a_cons (d_str) (a_nil))) (a_cons (x_call (fn := f_is_lamps) (T _ (List.mem_of_getElem? (i := 1) (a := f_is_lamps) rfl)) hr hx (by rfl) (a_cons (d_str) (a_nil))) (a_cons (x_call (fn := f_is_lamps) (T _ (List.mem_of_getElem? (i := 1) (a := f_is_lamps) rfl)) hr hx (by rfl) (a_cons (d_str) (a_nil))) (a_cons (x_call (fn := f_is_lamps) (T _ (List.mem_of_getElem? (i := 1) (a := f_is_lamps) rfl)) hr hx (by rfl) (a_cons (d_str) (a_nil))) (a_cons (x_call (fn := f_is_lamps) (T _ (List.mem_of_getElem? (i := 1) (a := f_is_lamps) rfl)) hr hx (by rfl) (a_cons (d_str) (a_nil))) (a_nil)))))))) (c_one (c_ret (d_and (e_cmp (o_eq (units_of hr)) (d_var 11) (d_lst (a_cons (d_bl) (a_cons (d_bl) (a_cons (d_bl) (a_cons (d_bl) (a_cons (d_bl) (a_nil)))))))) (d_one (x_call (fn := f_is_set) (T _ (List.mem_of_getElem? (i := 2) (a := f_is_set) rfl)) hr hx (by rfl) (a_cons (d_str) (a_cons (d_str) (a_nil)))))))))) : EvSs (cxOf (L2.CX P w) P w K mg base f_law.N f_law.name (defScope f_law.st) (He.ga K f_law.name) cdv A outer s H E) E (defBody (tp 16)) (c_law Ph))
theorem wor_all (fc : Fc mg) : ∀ f ∈ tbl, Wor P w K mg base tbl f :=
  all_cons (wor_is_rising fc) (all_cons (wor_is_lamps fc) (all_cons (wor_is_set fc) (all_cons (wor__law_bag fc) (all_cons (wor__law_pull fc) (all_cons (wor__law_of fc) (all_cons (wor__law_same fc) (all_cons (wor__law_within fc) (all_cons (wor__law_rising fc) (all_cons (wor__law_is_set fc) (all_cons (wor__law_lamps fc) (all_cons (wor__law_lits fc) (all_cons (wor_law fc) (all_nil)))))))))))))
theorem sc_all : ∀ f ∈ tbl, FnScope f.N f.ps (defScope f.st) :=
  all_cons sc_is_rising (all_cons sc_is_lamps (all_cons sc_is_set (all_cons sc__law_bag (all_cons sc__law_pull (all_cons sc__law_of (all_cons sc__law_same (all_cons sc__law_within (all_cons sc__law_rising (all_cons sc__law_is_set (all_cons sc__law_lamps (all_cons sc__law_lits (all_cons sc_law (all_nil)))))))))))))
theorem nd_all : ∀ f ∈ tbl, tbl.find? (fun g => g.name == f.name) = some f := find_all (by decide +kernel)
end
theorem dn_is_rising (k : Nat) : denT tbl (k + 1) "is_rising" = runFn 1 4 (c_is_rising (denT tbl k)) := den_at (f := f_is_rising) (nd_all _ (List.mem_of_getElem? (i := 0) (a := f_is_rising) rfl)) k
theorem dn_is_lamps (k : Nat) : denT tbl (k + 1) "is_lamps" = runFn 1 1 (c_is_lamps (denT tbl k)) := den_at (f := f_is_lamps) (nd_all _ (List.mem_of_getElem? (i := 1) (a := f_is_lamps) rfl)) k
theorem dn_is_set (k : Nat) : denT tbl (k + 1) "is_set" = runFn 2 3 (c_is_set (denT tbl k)) := den_at (f := f_is_set) (nd_all _ (List.mem_of_getElem? (i := 2) (a := f_is_set) rfl)) k
theorem dn__law_bag (k : Nat) : denT tbl (k + 1) "_law_bag" = runFn 1 1 (c__law_bag (denT tbl k)) := den_at (f := f__law_bag) (nd_all _ (List.mem_of_getElem? (i := 3) (a := f__law_bag) rfl)) k
theorem dn__law_pull (k : Nat) : denT tbl (k + 1) "_law_pull" = runFn 2 4 (c__law_pull (denT tbl k)) := den_at (f := f__law_pull) (nd_all _ (List.mem_of_getElem? (i := 4) (a := f__law_pull) rfl)) k
theorem dn__law_of (k : Nat) : denT tbl (k + 1) "_law_of" = runFn 2 2 (c__law_of (denT tbl k)) := den_at (f := f__law_of) (nd_all _ (List.mem_of_getElem? (i := 5) (a := f__law_of) rfl)) k
theorem dn__law_same (k : Nat) : denT tbl (k + 1) "_law_same" = runFn 2 4 (c__law_same (denT tbl k)) := den_at (f := f__law_same) (nd_all _ (List.mem_of_getElem? (i := 6) (a := f__law_same) rfl)) k
theorem dn__law_within (k : Nat) : denT tbl (k + 1) "_law_within" = runFn 2 3 (c__law_within (denT tbl k)) := den_at (f := f__law_within) (nd_all _ (List.mem_of_getElem? (i := 7) (a := f__law_within) rfl)) k
theorem dn__law_rising (k : Nat) : denT tbl (k + 1) "_law_rising" = runFn 1 4 (c__law_rising (denT tbl k)) := den_at (f := f__law_rising) (nd_all _ (List.mem_of_getElem? (i := 8) (a := f__law_rising) rfl)) k
theorem dn__law_is_set (k : Nat) : denT tbl (k + 1) "_law_is_set" = runFn 2 2 (c__law_is_set (denT tbl k)) := den_at (f := f__law_is_set) (nd_all _ (List.mem_of_getElem? (i := 9) (a := f__law_is_set) rfl)) k
theorem dn__law_lamps (k : Nat) : denT tbl (k + 1) "_law_lamps" = runFn 2 2 (c__law_lamps (denT tbl k)) := den_at (f := f__law_lamps) (nd_all _ (List.mem_of_getElem? (i := 10) (a := f__law_lamps) rfl)) k
theorem dn__law_lits (k : Nat) : denT tbl (k + 1) "_law_lits" = runFn 2 3 (c__law_lits (denT tbl k)) := den_at (f := f__law_lits) (nd_all _ (List.mem_of_getElem? (i := 11) (a := f__law_lits) rfl)) k
theorem dn_law (k : Nat) : denT tbl (k + 1) "law" = runFn 1 12 (c_law (denT tbl k)) := den_at (f := f_law) (nd_all _ (List.mem_of_getElem? (i := 12) (a := f_law) rfl)) k
theorem env_1 {T : Type} {env : List T} (h : env.length = 1) : ∃ x0, env = [x0] := match env, h with | [x0], _ => ⟨x0, rfl⟩
theorem env_2 {T : Type} {env : List T} (h : env.length = 2) : ∃ x0 x1, env = [x0, x1] := match env, h with | [x0, x1], _ => ⟨x0, x1, rfl⟩
theorem env_3 {T : Type} {env : List T} (h : env.length = 3) : ∃ x0 x1 x2, env = [x0, x1, x2] := match env, h with | [x0, x1, x2], _ => ⟨x0, x1, x2, rfl⟩
theorem env_4 {T : Type} {env : List T} (h : env.length = 4) : ∃ x0 x1 x2 x3, env = [x0, x1, x2, x3] := match env, h with | [x0, x1, x2, x3], _ => ⟨x0, x1, x2, x3, rfl⟩
theorem env_12 {T : Type} {env : List T} (h : env.length = 12) : ∃ x0 x1 x2 x3 x4 x5 x6 x7 x8 x9 x10 x11, env = [x0, x1, x2, x3, x4, x5, x6, x7, x8, x9, x10, x11] := match env, h with | [x0, x1, x2, x3, x4, x5, x6, x7, x8, x9, x10, x11], _ => ⟨x0, x1, x2, x3, x4, x5, x6, x7, x8, x9, x10, x11, rfl⟩
theorem tk_is_rising : Taken f_is_rising := fun _ _ _ _ _ _ us hl => match us, hl with | [_], _ => rfl
theorem tk_is_lamps : Taken f_is_lamps := fun _ _ _ _ _ _ us hl => match us, hl with | [_], _ => rfl
theorem tk_is_set : Taken f_is_set := fun _ _ _ _ _ _ us hl => match us, hl with | [_, _], _ => rfl
theorem tk__law_bag : Taken f__law_bag := fun _ _ _ _ _ _ us hl => match us, hl with | [_], _ => rfl
theorem tk__law_pull : Taken f__law_pull := fun _ _ _ _ _ _ us hl => match us, hl with | [_, _], _ => rfl
theorem tk__law_of : Taken f__law_of := fun _ _ _ _ _ _ us hl => match us, hl with | [_, _], _ => rfl
theorem tk__law_same : Taken f__law_same := fun _ _ _ _ _ _ us hl => match us, hl with | [_, _], _ => rfl
theorem tk__law_within : Taken f__law_within := fun _ _ _ _ _ _ us hl => match us, hl with | [_, _], _ => rfl
theorem tk__law_rising : Taken f__law_rising := fun _ _ _ _ _ _ us hl => match us, hl with | [_], _ => rfl
theorem tk__law_is_set : Taken f__law_is_set := fun _ _ _ _ _ _ us hl => match us, hl with | [_, _], _ => rfl
theorem tk__law_lamps : Taken f__law_lamps := fun _ _ _ _ _ _ us hl => match us, hl with | [_, _], _ => rfl
theorem tk__law_lits : Taken f__law_lits := fun _ _ _ _ _ _ us hl => match us, hl with | [_, _], _ => rfl
theorem tk_law : Taken f_law := fun _ _ _ _ _ _ us hl => match us, hl with | [_], _ => rfl
theorem tk_all : ∀ f ∈ tbl, Taken f :=
  all_cons tk_is_rising (all_cons tk_is_lamps (all_cons tk_is_set (all_cons tk__law_bag (all_cons tk__law_pull (all_cons tk__law_of (all_cons tk__law_same (all_cons tk__law_within (all_cons tk__law_rising (all_cons tk__law_is_set (all_cons tk__law_lamps (all_cons tk__law_lits (all_cons tk_law (all_nil)))))))))))))
def fa : List He.Fa := [.free "abs", .free "all", .free "bool", .free "int", .free "isinstance", .free "len", .free "list", .free "range", .free "sorted", .free "str", .free "tuple", .free "zip", .str "LETTERS" "abcdefghijklmnopqrstuvwxyz", .int "MOST_LAMPS" 4]
theorem fc_of (K : PySem.W.Frag) (h : Heap) (mg : Str → Option Value) (X : K.In h) (G : h.Ns mainGlobals mg) (c : He.SaysD (asked tbl fa) (tbl.map Fn.dd) K) : Fc mg where
  m_abs := He.free_ok X G (asked_fa c 0 (f := .free "abs"))
  m_all := He.free_ok X G (asked_fa c 1 (f := .free "all"))
  m_bool := He.free_ok X G (asked_fa c 2 (f := .free "bool"))
  m_int := He.free_ok X G (asked_fa c 3 (f := .free "int"))
  m_isinstance := He.free_ok X G (asked_fa c 4 (f := .free "isinstance"))
  m_len := He.free_ok X G (asked_fa c 5 (f := .free "len"))
  m_list := He.free_ok X G (asked_fa c 6 (f := .free "list"))
  m_range := He.free_ok X G (asked_fa c 7 (f := .free "range"))
  m_sorted := He.free_ok X G (asked_fa c 8 (f := .free "sorted"))
  m_str := He.free_ok X G (asked_fa c 9 (f := .free "str"))
  m_tuple := He.free_ok X G (asked_fa c 10 (f := .free "tuple"))
  m_zip := He.free_ok X G (asked_fa c 11 (f := .free "zip"))
  m_LETTERS := He.str_ok X G (asked_fa c 12 (f := .str "LETTERS" "abcdefghijklmnopqrstuvwxyz"))
  m_MOST_LAMPS := He.int_ok X G (asked_fa c 13 (f := .int "MOST_LAMPS" 4))
/-! ### the head -/
abbrev R1 : PySem.W.OpenRow := PySem.W.OpenLaw.row PySem.Challenge.rw_relitgoals_k01_lamps_and_sets
abbrev hk : PySem.W.Hook := He.hookD 4 (asked tbl fa) (tbl.map Fn.dd)
def ob (s : PySem.W.SharedT) : He.AlD := He.obsDG 4 (asked tbl fa) (tbl.map Fn.dd) (HandSHeadRun.getT s)
theorem ob_is (s : PySem.W.SharedT) : ob s = hk.obs s.abs := He.obsDG_eq (HandSHeadRun.getT_eq s)
def loose : List Str := (["LETTERS", "MOST_LAMPS", "is_rising", "is_lamps", "is_set", "_law_bag", "_law_pull", "_law_of", "_law_same", "_law_within", "_law_rising", "_law_is_set", "_law_lamps", "_law_lits"] : List Str)
theorem run (w : World) : HandSHeadRun.RunEq R1 (PySem.W.view R1.prog [16]) hk ob 1080 loose w := by
  intro os
  kernel_rfl
end Lw

namespace Lw
open PySem PySem.Spec PyProof.Rows L2 MP
abbrev depth : Nat := 8
theorem pull (k : Nat) : PullOk (denT tbl (k + 1) "_law_pull") := by
  rw [dn__law_pull]
  exact pull_ok (denT tbl k)
theorem of (k : Nat) : OfOk (denT tbl (k + 2) "_law_of") := by
  rw [dn__law_of]
  exact of_ok (pull k)
theorem same (S : List Ct) (n k : Nat) (d : D) (h : sg d n = true) : denT tbl (k + n + 1) "_law_same" [d, d] S = .ok (.bl true) S := same_ok (fun k => dn__law_same k) S n k d h
theorem ris1 (k : Nat) (S : List Ct) {x : Str} (h : x.length ≤ sizeLine) : denT tbl (k + 1) "is_rising" [.str x] S = .ok (.bl (risB x)) S := by
  rw [dn_is_rising]
  exact rising_ok (denT tbl k) S h
theorem ris2 (k : Nat) (S : List Ct) {x : Str} (h : x.length ≤ sizeLine) : denT tbl (k + 1) "_law_rising" [.str x] S = .ok (.bl (risB x)) S := by
  rw [dn__law_rising]
  exact rising_ok (denT tbl k) S h
theorem wit (k : Nat) (S : List Ct) {x z : Str} (h : x.length ≤ sizeLine) : denT tbl (k + 1) "_law_within" [.str x, .str z] S = .ok (.bl (witB x z)) S := by
  rw [dn__law_within]
  exact within_ok (denT tbl k) S h
def lampsB (x : Str) : Bool := (decide ((1 : Int) ≤ (x.length : Int)) && decide ((x.length : Int) ≤ 4)) && risB x
theorem len_str (S : List Ct) (x : Str) : lenO S [.str x] = .ok (.int x.length) S := rfl
theorem is_lamps_str (k : Nat) (S : List Ct) {x : Str} (h : x.length ≤ sizeLine) : denT tbl (k + 2) "is_lamps" [.str x] S = .ok (.bl (lampsB x)) S := by
  rw [dn_is_lamps]
  show (c_is_lamps _ [some (.str x)] S).bind _ = _
  unfold c_is_lamps lampsB
  simp only [sRet, sAnd, sChain, sVar, sC, sCall, sCallB, sCons, sNil, bind_ok, List.getElem?_cons_zero, isi_str_str, len_str, cmpO_int, ris1 k S h]
  cases decide ((1 : Int) ≤ (x.length : Int)) <;> cases decide ((x.length : Int) ≤ 4) <;> simp only [bind_ok, ris1 k S h, Bool.true_and, Bool.false_and, Bool.and_false]
theorem is_set_str (k : Nat) (S : List Ct) {x z : Str} (h : x.length ≤ sizeLine) : denT tbl (k + 2) "is_set" [.str x, .str z] S = .ok (.bl (risB x && witB x z)) S := by
  rw [dn_is_set]
  show (c_is_set _ [some (.str x), some (.str z), none] S).bind _ = _
  unfold c_is_set
  have e := fun S => within_all S none (x := x) (z := z) h
  generalize sCallB allO (sCons (sLc (sIter (sVar 0)) (gN 2) (sYes) (sBin inO (sVar 2) (sVar 1)) [2]) (sNil)) = fa at e ⊢
  simp only [sRet, sAnd, sVar, sC, sCall, sCallB, sCons, sNil, bind_ok, List.getElem?_cons_zero, isi_str_str, ris1 k S h]
  cases risB x <;> simp only [bind_ok, e, Bool.true_and, Bool.false_and]
theorem law_is_set (k : Nat) (S : List Ct) {x z : Str} (h : x.length ≤ sizeLine) : denT tbl (k + 2) "_law_is_set" [.str x, .str z] S = .ok (.bl (risB x && witB x z)) S := by
  rw [dn__law_is_set]
  show (c__law_is_set _ [some (.str x), some (.str z)] S).bind _ = _
  unfold c__law_is_set
  simp only [sRet, sAnd, sVar, sC, sCall, sCallB, sCons, sNil, bind_ok, List.getElem?_cons_zero, List.getElem?_cons_succ, isi_str_str, ris2 k S h, wit k S h]
  cases risB x <;> simp only [bind_ok, wit k S h, Bool.true_and, Bool.false_and]
/-- no text: neither -/
def odd (d : D) : Prop := ∀ S, isiO S [d, .ty "str"] = .ok (.bl false) S
theorem is_lamps_odd (k : Nat) (S : List Ct) {d : D} (h : odd d) : denT tbl (k + 2) "is_lamps" [d] S = .ok (.bl false) S := by
  rw [dn_is_lamps]
  show (c_is_lamps _ [some d] S).bind _ = _
  unfold c_is_lamps
  simp only [sRet, sAnd, sVar, sC, sCallB, sCons, sNil, bind_ok, List.getElem?_cons_zero, h S]
theorem is_set_odd (k : Nat) (S : List Ct) {d z : D} (h : odd d) : denT tbl (k + 2) "is_set" [d, z] S = .ok (.bl false) S := by
  rw [dn_is_set]
  show (c_is_set _ [some d, some z, none] S).bind _ = _
  unfold c_is_set
  simp only [sRet, sAnd, sVar, sC, sCallB, sCons, sNil, bind_ok, List.getElem?_cons_zero, h S]

theorem lamps_law (k b : Nat) (S : List Ct) (h : Bag b S) : Wp (denT tbl (k + 3) "_law_lamps" [.cel b, .int 9] S) fun d S' => Sml 4 d ∧ Bag b S' ∧ Oth b S S' := by
  rw [dn__law_lamps]
  show Wp ((c__law_lamps _ [some (.cel b), some (.int 9)] S).bind _) _
  refine wp_bind.mpr ?_
  unfold c__law_lamps
  refine wp_bind.mpr (wp_bind.mpr ?_)
  have e : ∃ l : List D, sCons (sVar 0) (sCons (sSl (sLst (sCons (sC (.str "ab")) (sCons (sC (.str "a")) (sCons (sC (.str "abc")) (sCons (sC (.str "ab")) (sCons (sC (.str "xyz")) (sCons (sC (.str "bd")) (sCons (sC (.str "abc")) (sCons (sC (.str "abcd")) (sCons (sC (.str "nopt")) (sNil))))))))))) sNoP (sP (sVar 1))) (sNil)) [some (.cel b), some (.int 9)] S = .ok [.cel b, .lst l] S ∧ l = [.str "ab", .str "a", .str "abc", .str "ab", .str "xyz", .str "bd", .str "abc", .str "abcd", .str "nopt"] := ⟨_, rfl, rfl⟩
  obtain ⟨l, e, el⟩ := e
  rw [e]
  refine (of k b S (.lst l) l h rfl (by rw [el]; decide) (by rw [el]; decide)).imp fun x S2 q => ⟨?_, q.2⟩
  have hx := q.1
  rw [el] at hx
  simp only [List.mem_cons, List.not_mem_nil, or_false] at hx
  rcases hx with e | e | e | e | e | e | e | e | e <;> (rw [e]; exact ⟨_, rfl, by decide +kernel⟩)
theorem lits_law (k b : Nat) (S : List Ct) {x : Str} (hx : x.length ≤ 4) (h : Bag b S) : Wp (denT tbl (k + 2) "_law_lits" [.cel b, .str x] S) fun d S' => Sml 4 d ∧ Bag b S' ∧ Oth b S S' := by
  rw [dn__law_lits]
  show Wp ((c__law_lits _ [some (.cel b), some (.str x), none] S).bind _) _
  refine wp_bind.mpr ?_
  unfold c__law_lits
  refine wp_bind.mpr ?_
  have hs : sizeLine = 16777216 := sizeLine_eq
  have w : Wp (sLc (sIter (sVar 1)) (gN 2) (sBin eqO (sCall (denT tbl (k + 1) "_law_pull") (sCons (sVar 0) (sCons (sC (.int 2)) (sNil)))) (sC (.int 0))) (sVar 2) [2] [some (.cel b), some (.str x), none] S) fun d S' => ∃ l, d = .lst l ∧ (∀ y ∈ l, Sml 1 y) ∧ l.length ≤ 4 ∧ Bag b S' ∧ Oth b S S' := by
    refine wp_lc (fun S' => Bag b S' ∧ Oth b S S') (Sml 1) (wp_ok.mpr ⟨by rw [signs_len, hs]; omega, ⟨h, Oth.refl ..⟩, fun d hd S1 hS => ⟨_, rfl, ?_⟩, fun l S1 hl hn hS => ⟨l, rfl, hl, by rw [signs_len] at hn; omega, hS.1, hS.2⟩⟩)
    refine wp_bind.mpr ((pull k b S1 2 hS.1 (by decide) (by decide)).imp fun y S2 q => ?_)
    obtain ⟨v, rfl, _, _, hB, o⟩ := q
    simp only [sC, bind_ok, eqO_int]
    exact ⟨_, rfl, fun _ => ⟨sml_sign hd, hB, hS.2.trans o⟩, fun _ => ⟨hB, hS.2.trans o⟩⟩
  rw [meth_str]
  refine wp_bind.mpr (wp_bind.mpr (w.imp fun d S2 q => ?_))
  obtain ⟨l, rfl, hl, hn, hB, o⟩ := q
  obtain ⟨z, ez, hz⟩ := join_sml (S := S2) hl hn (by decide)
  show Wp (joinO S2 (.str emp) [.lst l]) _
  rw [ez]
  exact ⟨⟨z, rfl, hz⟩, hB, o⟩

theorem mem10 {d : D} {l : List D} (h : d ∈ l) (hl : l = [.non, .int 3, .bl true, .lst [.str "a"], .tup [.str "a"], .str "A", .str "a b", .str "1", .str "aB", .tup []]) : (odd d ∨ ∃ x : Str, d = .str x ∧ x.length ≤ 4 ∧ risB x = false) := by
  rw [hl] at h
  simp only [List.mem_cons, List.not_mem_nil, or_false] at h
  rcases h with e | e | e | e | e | e | e | e | e | e <;> subst e
  · exact .inl fun S => rfl
  · exact .inl fun S => rfl
  · exact .inl fun S => rfl
  · exact .inl fun S => rfl
  · exact .inl fun S => rfl
  · exact .inr ⟨_, rfl, by decide +kernel, by decide +kernel⟩
  · exact .inr ⟨_, rfl, by decide +kernel, by decide +kernel⟩
  · exact .inr ⟨_, rfl, by decide +kernel, by decide +kernel⟩
  · exact .inr ⟨_, rfl, by decide +kernel, by decide +kernel⟩
  · exact .inl fun S => rfl
def body : CS := (sSeq (sSet 3 (sLc (sRange1 (sCall (denT tbl 7 "_law_pull") (sCons (sVar 1) (sCons (sC (.int 6)) (sNil))))) (gN 4) (sYes) (sCall (denT tbl 7 "_law_of") (sCons (sVar 1) (sCons (sC (.str "abcdefghijklmnopqrstuvwxyz")) (sNil)))) [4])) (sSeq (sSet 5 (sMeth "str" joinO (sC (.str "")) (sCons (sIf (sBin gtO (sCall (denT tbl 7 "_law_pull") (sCons (sVar 1) (sCons (sC (.int 3)) (sNil)))) (sC (.int 0))) (sCallB sortedO (sCons (sVar 3) (sNil))) (sVar 3)) (sNil)))) (sSeq (sCond (sNot (sCall (denT tbl 7 "_law_same") (sCons (sCall (denT tbl 7 "is_lamps") (sCons (sVar 5) (sNil))) (sCons (sAnd (sCall (denT tbl 7 "_law_rising") (sCons (sVar 5) (sNil))) (sChain leO leO (sC (.int 1)) (sCallB lenO (sCons (sVar 5) (sNil))) (sC (.int 4)))) (sNil))))) (sRet (sC (.bl false))) (sSkip)) (sSeq (sSet 6 (sCall (denT tbl 7 "_law_lamps") (sCons (sVar 1) (sCons (sC (.int 9)) (sNil))))) (sSeq (sSet 7 (sMeth "str" joinO (sC (.str "")) (sCons (sLc (sRange1 (sCall (denT tbl 7 "_law_pull") (sCons (sVar 1) (sCons (sC (.int 5)) (sNil))))) (gN 4) (sYes) (sCall (denT tbl 7 "_law_of") (sCons (sVar 1) (sCons (sBin addO (sVar 6) (sC (.str "q"))) (sNil)))) [4]) (sNil)))) (sSeq (sFor (sIter (sLst (sCons (sVar 7) (sCons (sCall (denT tbl 7 "_law_lits") (sCons (sVar 1) (sCons (sVar 6) (sNil)))) (sCons (sVar 6) (sCons (sUn revO (sVar 6)) (sCons (sC (.str "")) (sNil)))))))) (gN 8) (sSeq (sSet 9 (sCall (denT tbl 7 "_law_is_set") (sCons (sVar 8) (sCons (sVar 6) (sNil))))) (sCond (sNot (sCall (denT tbl 7 "_law_same") (sCons (sLst (sCons (sCall (denT tbl 7 "is_set") (sCons (sVar 8) (sCons (sVar 6) (sNil)))) (sCons (sCallK (denT tbl 7 "is_set") [0, 1] sNil (sCons (sVar 8) (sCons (sVar 6) (sNil)))) (sNil)))) (sCons (sLst (sCons (sVar 9) (sCons (sVar 9) (sNil)))) (sNil))))) (sRet (sC (.bl false))) (sSkip)))) (sSeq (sSet 10 (sCall (denT tbl 7 "_law_of") (sCons (sVar 1) (sCons (sLst (sCons (sC .non) (sCons (sC (.int 3)) (sCons (sC (.bl true)) (sCons (sLst (sCons (sC (.str "a")) (sNil))) (sCons (sTup (sCons (sC (.str "a")) (sNil))) (sCons (sC (.str "A")) (sCons (sC (.str "a b")) (sCons (sC (.str "1")) (sCons (sC (.str "aB")) (sCons (sTup (sNil)) (sNil)))))))))))) (sNil))))) (sCond (sNot (sCall (denT tbl 7 "_law_same") (sCons (sLst (sCons (sCall (denT tbl 7 "is_lamps") (sCons (sVar 10) (sNil))) (sCons (sCall (denT tbl 7 "is_set") (sCons (sVar 10) (sCons (sVar 6) (sNil)))) (sNil)))) (sCons (sLst (sCons (sC (.bl false)) (sCons (sC (.bl false)) (sNil)))) (sNil))))) (sRet (sC (.bl false))) (sSkip)))))))))
def rest : CS := (sSeq (sCond (sNot (sCall (denT tbl 7 "_law_same") (sCons (sCall (denT tbl 7 "is_lamps") (sCons (sVar 5) (sNil))) (sCons (sAnd (sCall (denT tbl 7 "_law_rising") (sCons (sVar 5) (sNil))) (sChain leO leO (sC (.int 1)) (sCallB lenO (sCons (sVar 5) (sNil))) (sC (.int 4)))) (sNil))))) (sRet (sC (.bl false))) (sSkip)) (sSeq (sSet 6 (sCall (denT tbl 7 "_law_lamps") (sCons (sVar 1) (sCons (sC (.int 9)) (sNil))))) (sSeq (sSet 7 (sMeth "str" joinO (sC (.str "")) (sCons (sLc (sRange1 (sCall (denT tbl 7 "_law_pull") (sCons (sVar 1) (sCons (sC (.int 5)) (sNil))))) (gN 4) (sYes) (sCall (denT tbl 7 "_law_of") (sCons (sVar 1) (sCons (sBin addO (sVar 6) (sC (.str "q"))) (sNil)))) [4]) (sNil)))) (sSeq (sFor (sIter (sLst (sCons (sVar 7) (sCons (sCall (denT tbl 7 "_law_lits") (sCons (sVar 1) (sCons (sVar 6) (sNil)))) (sCons (sVar 6) (sCons (sUn revO (sVar 6)) (sCons (sC (.str "")) (sNil)))))))) (gN 8) (sSeq (sSet 9 (sCall (denT tbl 7 "_law_is_set") (sCons (sVar 8) (sCons (sVar 6) (sNil))))) (sCond (sNot (sCall (denT tbl 7 "_law_same") (sCons (sLst (sCons (sCall (denT tbl 7 "is_set") (sCons (sVar 8) (sCons (sVar 6) (sNil)))) (sCons (sCallK (denT tbl 7 "is_set") [0, 1] sNil (sCons (sVar 8) (sCons (sVar 6) (sNil)))) (sNil)))) (sCons (sLst (sCons (sVar 9) (sCons (sVar 9) (sNil)))) (sNil))))) (sRet (sC (.bl false))) (sSkip)))) (sSeq (sSet 10 (sCall (denT tbl 7 "_law_of") (sCons (sVar 1) (sCons (sLst (sCons (sC .non) (sCons (sC (.int 3)) (sCons (sC (.bl true)) (sCons (sLst (sCons (sC (.str "a")) (sNil))) (sCons (sTup (sCons (sC (.str "a")) (sNil))) (sCons (sC (.str "A")) (sCons (sC (.str "a b")) (sCons (sC (.str "1")) (sCons (sC (.str "aB")) (sCons (sTup (sNil)) (sNil)))))))))))) (sNil))))) (sCond (sNot (sCall (denT tbl 7 "_law_same") (sCons (sLst (sCons (sCall (denT tbl 7 "is_lamps") (sCons (sVar 10) (sNil))) (sCons (sCall (denT tbl 7 "is_set") (sCons (sVar 10) (sCons (sVar 6) (sNil)))) (sNil)))) (sCons (sLst (sCons (sC (.bl false)) (sCons (sC (.bl false)) (sNil)))) (sNil))))) (sRet (sC (.bl false))) (sSkip)))))))
def rest4 : CS := (sSeq (sSet 6 (sCall (denT tbl 7 "_law_lamps") (sCons (sVar 1) (sCons (sC (.int 9)) (sNil))))) (sSeq (sSet 7 (sMeth "str" joinO (sC (.str "")) (sCons (sLc (sRange1 (sCall (denT tbl 7 "_law_pull") (sCons (sVar 1) (sCons (sC (.int 5)) (sNil))))) (gN 4) (sYes) (sCall (denT tbl 7 "_law_of") (sCons (sVar 1) (sCons (sBin addO (sVar 6) (sC (.str "q"))) (sNil)))) [4]) (sNil)))) (sSeq (sFor (sIter (sLst (sCons (sVar 7) (sCons (sCall (denT tbl 7 "_law_lits") (sCons (sVar 1) (sCons (sVar 6) (sNil)))) (sCons (sVar 6) (sCons (sUn revO (sVar 6)) (sCons (sC (.str "")) (sNil)))))))) (gN 8) (sSeq (sSet 9 (sCall (denT tbl 7 "_law_is_set") (sCons (sVar 8) (sCons (sVar 6) (sNil))))) (sCond (sNot (sCall (denT tbl 7 "_law_same") (sCons (sLst (sCons (sCall (denT tbl 7 "is_set") (sCons (sVar 8) (sCons (sVar 6) (sNil)))) (sCons (sCallK (denT tbl 7 "is_set") [0, 1] sNil (sCons (sVar 8) (sCons (sVar 6) (sNil)))) (sNil)))) (sCons (sLst (sCons (sVar 9) (sCons (sVar 9) (sNil)))) (sNil))))) (sRet (sC (.bl false))) (sSkip)))) (sSeq (sSet 10 (sCall (denT tbl 7 "_law_of") (sCons (sVar 1) (sCons (sLst (sCons (sC .non) (sCons (sC (.int 3)) (sCons (sC (.bl true)) (sCons (sLst (sCons (sC (.str "a")) (sNil))) (sCons (sTup (sCons (sC (.str "a")) (sNil))) (sCons (sC (.str "A")) (sCons (sC (.str "a b")) (sCons (sC (.str "1")) (sCons (sC (.str "aB")) (sCons (sTup (sNil)) (sNil)))))))))))) (sNil))))) (sCond (sNot (sCall (denT tbl 7 "_law_same") (sCons (sLst (sCons (sCall (denT tbl 7 "is_lamps") (sCons (sVar 10) (sNil))) (sCons (sCall (denT tbl 7 "is_set") (sCons (sVar 10) (sCons (sVar 6) (sNil)))) (sNil)))) (sCons (sLst (sCons (sC (.bl false)) (sCons (sC (.bl false)) (sNil)))) (sNil))))) (sRet (sC (.bl false))) (sSkip))))))
def rest5 : CS := (sSeq (sSet 7 (sMeth "str" joinO (sC (.str "")) (sCons (sLc (sRange1 (sCall (denT tbl 7 "_law_pull") (sCons (sVar 1) (sCons (sC (.int 5)) (sNil))))) (gN 4) (sYes) (sCall (denT tbl 7 "_law_of") (sCons (sVar 1) (sCons (sBin addO (sVar 6) (sC (.str "q"))) (sNil)))) [4]) (sNil)))) (sSeq (sFor (sIter (sLst (sCons (sVar 7) (sCons (sCall (denT tbl 7 "_law_lits") (sCons (sVar 1) (sCons (sVar 6) (sNil)))) (sCons (sVar 6) (sCons (sUn revO (sVar 6)) (sCons (sC (.str "")) (sNil)))))))) (gN 8) (sSeq (sSet 9 (sCall (denT tbl 7 "_law_is_set") (sCons (sVar 8) (sCons (sVar 6) (sNil))))) (sCond (sNot (sCall (denT tbl 7 "_law_same") (sCons (sLst (sCons (sCall (denT tbl 7 "is_set") (sCons (sVar 8) (sCons (sVar 6) (sNil)))) (sCons (sCallK (denT tbl 7 "is_set") [0, 1] sNil (sCons (sVar 8) (sCons (sVar 6) (sNil)))) (sNil)))) (sCons (sLst (sCons (sVar 9) (sCons (sVar 9) (sNil)))) (sNil))))) (sRet (sC (.bl false))) (sSkip)))) (sSeq (sSet 10 (sCall (denT tbl 7 "_law_of") (sCons (sVar 1) (sCons (sLst (sCons (sC .non) (sCons (sC (.int 3)) (sCons (sC (.bl true)) (sCons (sLst (sCons (sC (.str "a")) (sNil))) (sCons (sTup (sCons (sC (.str "a")) (sNil))) (sCons (sC (.str "A")) (sCons (sC (.str "a b")) (sCons (sC (.str "1")) (sCons (sC (.str "aB")) (sCons (sTup (sNil)) (sNil)))))))))))) (sNil))))) (sCond (sNot (sCall (denT tbl 7 "_law_same") (sCons (sLst (sCons (sCall (denT tbl 7 "is_lamps") (sCons (sVar 10) (sNil))) (sCons (sCall (denT tbl 7 "is_set") (sCons (sVar 10) (sCons (sVar 6) (sNil)))) (sNil)))) (sCons (sLst (sCons (sC (.bl false)) (sCons (sC (.bl false)) (sNil)))) (sNil))))) (sRet (sC (.bl false))) (sSkip)))))
def rest6 : CS := (sSeq (sSet 10 (sCall (denT tbl 7 "_law_of") (sCons (sVar 1) (sCons (sLst (sCons (sC .non) (sCons (sC (.int 3)) (sCons (sC (.bl true)) (sCons (sLst (sCons (sC (.str "a")) (sNil))) (sCons (sTup (sCons (sC (.str "a")) (sNil))) (sCons (sC (.str "A")) (sCons (sC (.str "a b")) (sCons (sC (.str "1")) (sCons (sC (.str "aB")) (sCons (sTup (sNil)) (sNil)))))))))))) (sNil))))) (sCond (sNot (sCall (denT tbl 7 "_law_same") (sCons (sLst (sCons (sCall (denT tbl 7 "is_lamps") (sCons (sVar 10) (sNil))) (sCons (sCall (denT tbl 7 "is_set") (sCons (sVar 10) (sCons (sVar 6) (sNil)))) (sNil)))) (sCons (sLst (sCons (sC (.bl false)) (sCons (sC (.bl false)) (sNil)))) (sNil))))) (sRet (sC (.bl false))) (sSkip)))
def inner : CS := (sSeq (sSet 9 (sCall (denT tbl 7 "_law_is_set") (sCons (sVar 8) (sCons (sVar 6) (sNil))))) (sCond (sNot (sCall (denT tbl 7 "_law_same") (sCons (sLst (sCons (sCall (denT tbl 7 "is_set") (sCons (sVar 8) (sCons (sVar 6) (sNil)))) (sCons (sCallK (denT tbl 7 "is_set") [0, 1] sNil (sCons (sVar 8) (sCons (sVar 6) (sNil)))) (sNil)))) (sCons (sLst (sCons (sVar 9) (sCons (sVar 9) (sNil)))) (sNil))))) (sRet (sC (.bl false))) (sSkip)))
/-- the loop's invariant -/
def I0 (env : Env') (S : List Ct) : Prop := env.length = 12 ∧ env[1]? = some (some (.cel 0)) ∧ Bag 0 S
def I1 (z : Str) (env : Env') (S : List Ct) : Prop := env.length = 12 ∧ env[1]? = some (some (.cel 0)) ∧ env[6]? = some (some (.str z)) ∧ Bag 0 S
theorem I0.mk {l : Env'} {S : List Ct} (h : l.length = 12) (h1 : l[1]? = some (some (.cel 0))) (h2 : Bag 0 S) : I0 l S := ⟨h, h1, h2⟩
theorem law_rest6 (z y : Str) (hz : z.length ≤ 4) (x0 x2 x3 x4 x5 x7 x8 x9 x10 x11 : Option D) (S : List Ct) (hB : Bag 0 S) : Wp (rest6 [x0, some (.cel 0), x2, x3, x4, x5, some (.str z), x7, x8, x9, x10, x11] S) fun p S => p.1 = .nx ∧ I0 p.2 S := by
  have hs : sizeLine = 16777216 := sizeLine_eq
  have e : ∃ l : List D, sCons (sVar 1) (sCons (sLst (sCons (sC .non) (sCons (sC (.int 3)) (sCons (sC (.bl true)) (sCons (sLst (sCons (sC (.str "a")) (sNil))) (sCons (sTup (sCons (sC (.str "a")) (sNil))) (sCons (sC (.str "A")) (sCons (sC (.str "a b")) (sCons (sC (.str "1")) (sCons (sC (.str "aB")) (sCons (sTup (sNil)) (sNil)))))))))))) (sNil)) [x0, some (.cel 0), x2, x3, x4, x5, some (.str z), x7, x8, x9, x10, x11] S = .ok [.cel 0, .lst l] S ∧ l = [.non, .int 3, .bl true, .lst [.str "a"], .tup [.str "a"], .str "A", .str "a b", .str "1", .str "aB", .tup []] := ⟨_, rfl, rfl⟩
  obtain ⟨l, e, el⟩ := e
  refine wp_setSeq (wp_call (Wp.of_eq e ((of 5 0 S _ l hB rfl (by rw [el]; decide) (by rw [el]; decide)).imp fun v S2 q => ?_)))
  obtain ⟨hm, hB2, _⟩ := q
  have e1 : denT tbl 7 "is_lamps" [v] S2 = .ok (.bl false) S2 ∧ denT tbl 7 "is_set" [v, .str z] S2 = .ok (.bl false) S2 := by
    rcases mem10 hm el with h | ⟨x, rfl, hx, hr⟩
    · exact ⟨is_lamps_odd 5 S2 h, is_set_odd 5 S2 h⟩
    · refine ⟨(is_lamps_str 5 S2 (by rw [hs]; omega)).trans ?_, (is_set_str 5 S2 (by rw [hs]; omega)).trans ?_⟩
      · unfold lampsB
        rw [hr, Bool.and_false]
      · rw [hr, Bool.false_and]
  refine wp_cond (wp_not (wp_call (wp_cons (wp_lst (wp_cons (wp_call (wp_cons (wp_var rfl (wp_nil (Wp.of_eq e1.1 (wp_cons (wp_call (wp_cons (wp_var rfl (wp_cons (wp_var rfl (wp_nil (Wp.of_eq e1.2 (wp_nil (⟨by rw [hs]; decide, wp_cons (wp_lst (wp_cons (wp_c (wp_cons (wp_c (wp_nil (⟨by rw [hs]; decide, wp_nil (?_)⟩)))))))⟩))))))))))))))))))))
  exact Wp.of_eq (same S2 1 5 (.lst [.bl false, .bl false]) (by decide +kernel)) ⟨true, rfl, false, rfl, (fun z => nomatch z), fun _ => ⟨rfl, rfl, rfl, hB2⟩⟩
theorem law_in (d : D) (z : Str) (hz : z.length ≤ 4) (hd : Sml 4 d) (env : Env') (S : List Ct) (hI : I1 z env S) : ∃ env1, gN 8 d env = some env1 ∧ Wp (inner env1 S) fun p S => p.1 = .nx ∧ I1 z p.2 S := by
  have hs : sizeLine = 16777216 := sizeLine_eq
  obtain ⟨hl, h1, h6, hB⟩ := hI
  obtain ⟨x0, x1, x2, x3, x4, x5, x6, x7, x8, x9, x10, x11, rfl⟩ := env_12 hl
  have h1 : some x1 = some (some (.cel 0)) := h1
  have h6 : some x6 = some (some (.str z)) := h6
  cases h1
  cases h6
  obtain ⟨x, rfl, hx⟩ := hd
  have hx2 : x.length ≤ sizeLine := by rw [hs]; omega
  refine ⟨_, rfl, ?_⟩
  refine wp_setSeq (wp_call (wp_cons (wp_var rfl (wp_cons (wp_var rfl (wp_nil (Wp.of_eq (law_is_set 5 S hx2) ?_)))))))
  refine wp_cond (wp_not (wp_call (wp_cons (wp_lst (wp_cons (wp_call (wp_cons (wp_var rfl (wp_cons (wp_var rfl (wp_nil (Wp.of_eq (is_set_str 5 S hx2) (wp_cons (wp_callK (wp_nil (wp_cons (wp_var rfl (wp_cons (wp_var rfl (wp_nil (Wp.of_eq (is_set_str 5 S hx2) (wp_nil (⟨by rw [hs]; exact Nat.le_of_ble_eq_true rfl, wp_cons (wp_lst (wp_cons (wp_var rfl (wp_cons (wp_var rfl (wp_nil (⟨by rw [hs]; exact Nat.le_of_ble_eq_true rfl, wp_nil (?_)⟩)))))))⟩)))))))))))))))))))))))
  exact Wp.of_eq (same S 1 5 (.lst [.bl (risB x && witB x z), .bl (risB x && witB x z)]) (by simp [sg, sgL, hs])) ⟨true, rfl, false, rfl, (fun z => nomatch z), fun _ => ⟨rfl, rfl, rfl, rfl, hB⟩⟩
theorem law_rest5 (z y : Str) (hz : z.length ≤ 4) (x0 x2 x3 x4 x5 x7 x8 x9 x10 x11 : Option D) (S : List Ct) (hB : Bag 0 S) : Wp (rest5 [x0, some (.cel 0), x2, x3, x4, x5, some (.str z), x7, x8, x9, x10, x11] S) fun p S => p.1 = .nx ∧ I0 p.2 S := by
  have hs : sizeLine = 16777216 := sizeLine_eq
  -- the word
  refine wp_setSeq (wp_meth (wp_c ⟨rfl, wp_cons (wp_lc (Bag 0) (Sml 1) (wp_range1 (wp_call (wp_cons (wp_var rfl (wp_cons (wp_c (wp_nil ((pull 6 0 S 5 hB (by decide) (by decide)).imp ?_)))))))))⟩))
  rintro v1 S1 ⟨v, rfl, v0, v5, hB1, _⟩
  refine ⟨v, rfl, by omega, by omega, by rw [rints_len, hs]; omega, hB1, fun d hd S2 hB2 => ⟨_, rfl, true, rfl, fun _ => ?_, fun z => nomatch z⟩, fun l S2 hl1 hl2 hB2 => ?_⟩
  · have hq : (z ++ ("q" : Str)).length ≤ 5 := by
      show (z.cps ++ (Str.ofString "q").cps).size ≤ 5
      rw [Array.size_append]
      have : (Str.ofString "q").cps.size = 1 := by decide +kernel
      have : z.cps.size ≤ 4 := hz
      omega
    have hq1 : 1 ≤ (z ++ ("q" : Str)).length := by
      show 1 ≤ (z.cps ++ (Str.ofString "q").cps).size
      rw [Array.size_append]
      have : (Str.ofString "q").cps.size = 1 := by decide +kernel
      omega
    have hq2 : z.length + ("q" : Str).length ≤ sizeLine := by
      have : ("q" : Str).length = 1 := by decide +kernel
      rw [hs]
      omega
    refine wp_call (wp_cons (wp_var rfl (wp_cons (wp_bin (wp_var rfl (wp_c (Wp.of_eq (addO_str S2 hq2) (wp_nil ((of 5 0 S2 _ (signs (z ++ ("q" : Str))) hB2 rfl (by rw [signs_len]; omega) (by rw [signs_len]; omega)).imp fun x S3 q => ?_)))))))))
    exact ⟨sml_sign q.1, q.2.1⟩
  rw [rints_len] at hl2
  obtain ⟨w, ew, hw⟩ := join_sml (S := S2) (n := 1) (m := 4) hl1 (by omega) (by decide)
  refine wp_nil (Wp.of_eq ew ?_)
  -- the loop over five
  refine wp_seq (wp_forN (I1 z) (wp_iter (wp_lst (wp_cons (wp_var rfl (wp_cons (wp_call (wp_cons (wp_var rfl (wp_cons (wp_var rfl (wp_nil ((lits_law 5 0 S2 hz hB2).imp fun a S3 q => ?_))))))))))) ) fun env S hI => ?_)
  · obtain ⟨⟨lt, rfl, hlt⟩, hB3, _⟩ := q
    refine wp_cons (wp_var rfl (wp_cons (wp_un (wp_var rfl (Wp.of_eq (a := D.str ⟨z.cps.reverse⟩) (S := S3) rfl (wp_cons (wp_c (wp_nil (⟨by rw [hs]; exact Nat.le_of_ble_eq_true rfl, _, rfl, ⟨rfl, rfl, rfl, hB3⟩, fun d hd env S hI => law_in d z hz ?_ env S hI⟩)))))))))
    simp only [List.mem_cons, List.not_mem_nil, or_false] at hd
    rcases hd with e | e | e | e | e <;> rw [e]
    · exact ⟨_, rfl, hw⟩
    · exact ⟨_, rfl, hlt⟩
    · exact ⟨_, rfl, hz⟩
    · exact ⟨_, rfl, by show z.cps.reverse.size ≤ 4; rw [Array.size_reverse]; exact hz⟩
    · exact ⟨_, rfl, by decide +kernel⟩
  · obtain ⟨hl, h1, h6, hB⟩ := hI
    obtain ⟨y0, y1, y2, y3, y4, y5, y6, y7, y8, y9, y10, y11, rfl⟩ := env_12 hl
    have h1 : some y1 = some (some (.cel 0)) := h1
    have h6 : some y6 = some (some (.str z)) := h6
    cases h1
    cases h6
    exact .inl ⟨rfl, law_rest6 z y hz _ _ _ _ _ _ _ _ _ _ _ hB⟩
theorem law_rest4 (d : D) (l : List D) (z : Str) (hz : z.length ≤ 5) (x0 x4 x6 x7 x8 x9 x10 x11 : Option D) (S : List Ct) (hB : Bag 0 S) : Wp (rest4 [x0, some (.cel 0), some d, some (.lst l), x4, some (.str z), x6, x7, x8, x9, x10, x11] S) fun p S => p.1 = .nx ∧ I0 p.2 S := by
  refine wp_setSeq (wp_call (wp_cons (wp_var rfl (wp_cons (wp_c (wp_nil ((lamps_law 4 0 S hB).imp fun v S2 q => ?_)))))))
  obtain ⟨⟨y, rfl, hy⟩, hB2, _⟩ := q
  exact law_rest5 y z hy _ _ _ _ _ _ _ _ _ _ S2 hB2
theorem law_rest (d : D) (l : List D) (z : Str) (hz : z.length ≤ 5) (x0 x4 x6 x7 x8 x9 x10 x11 : Option D) (S : List Ct) (hB : Bag 0 S) : Wp (rest [x0, some (.cel 0), some d, some (.lst l), x4, some (.str z), x6, x7, x8, x9, x10, x11] S) fun p S => p.1 = .nx ∧ I0 p.2 S := by
  have hs : sizeLine = 16777216 := sizeLine_eq
  have hz2 : z.length ≤ sizeLine := by rw [hs]; omega
  refine wp_guard (wp_not (wp_call (wp_cons (wp_call (wp_cons (wp_var rfl (wp_nil (Wp.of_eq (is_lamps_str 5 S hz2) (wp_cons (wp_and (wp_call (wp_cons (wp_var rfl (wp_nil (Wp.of_eq (ris2 6 S hz2) (⟨risB z, rfl, fun h => ?_, fun h => ?_⟩))))))))))))))))
  · refine wp_chain (wp_c (wp_callB (wp_cons (wp_var rfl (wp_nil (Wp.of_eq (len_str S z) (Wp.of_eq (cmpO_int S 1 (z.length : Int)) (⟨decide ((1 : Int) ≤ (z.length : Int)), rfl, fun h1 => ?_, fun h1 => ?_⟩))))))))
    · refine wp_c (Wp.of_eq (cmpO_int S (z.length : Int) 4) (wp_nil (?_)))
      have e : lampsB z = decide ((z.length : Int) ≤ 4) := by
        unfold lampsB
        rw [h, h1, Bool.and_true, Bool.true_and]
      rw [e]
      exact Wp.of_eq (same S 0 6 (.bl _) rfl) ⟨true, rfl, rfl, law_rest4 d l z hz x0 x4 x6 x7 x8 x9 x10 x11 S hB⟩
    · refine wp_nil ?_
      have e : lampsB z = false := by
        unfold lampsB
        rw [h, h1, Bool.and_true, Bool.false_and]
      rw [e]
      exact Wp.of_eq (same S 0 6 (.bl _) rfl) ⟨true, rfl, rfl, law_rest4 d l z hz x0 x4 x6 x7 x8 x9 x10 x11 S hB⟩
  · refine wp_nil ?_
    have e : lampsB z = false := by
      unfold lampsB
      rw [h, Bool.and_false]
    rw [e]
    exact Wp.of_eq (same S 0 6 (.bl _) rfl) ⟨true, rfl, rfl, law_rest4 d l z hz x0 x4 x6 x7 x8 x9 x10 x11 S hB⟩
theorem law_body (d : D) (env : Env') (S : List Ct) (hI : I0 env S) : ∃ env1, gN 2 d env = some env1 ∧ Wp (body env1 S) fun p S => p.1 = .nx ∧ I0 p.2 S := by
  have hs : sizeLine = 16777216 := sizeLine_eq
  obtain ⟨hl, h1, hB⟩ := hI
  obtain ⟨x0, x1, x2, x3, x4, x5, x6, x7, x8, x9, x10, x11, rfl⟩ := env_12 hl
  have h1 : some x1 = some (some (.cel 0)) := h1
  cases h1
  refine ⟨_, rfl, ?_⟩
  -- the letters
  refine wp_setSeq (wp_lc (Bag 0) (Sml 1) (wp_range1 (wp_call (wp_cons (wp_var rfl (wp_cons (wp_c (wp_nil ((pull 6 0 S 6 hB (by decide) (by decide)).imp ?_)))))))))
  rintro y S1 ⟨v, rfl, v0, v6, hB1, _⟩
  refine ⟨v, rfl, by omega, by omega, by rw [rints_len, hs]; omega, hB1, fun d hd S2 hB2 => ⟨_, rfl, true, rfl, fun _ => ?_, fun z => nomatch z⟩, fun l S2 hl1 hl2 hB2 => ?_⟩
  · refine wp_call (wp_cons (wp_var rfl (wp_cons (wp_c (wp_nil ((of 5 0 S2 _ (signs letters) hB2 rfl (by decide +kernel) (by decide +kernel)).imp fun x S3 q => ?_))))))
    exact ⟨sml_sign q.1, q.2.1⟩
  rw [rints_len] at hl2
  have hl2 : l.length ≤ 5 := by omega
  clear hB1 hB
  -- the value
  refine wp_setSeq (wp_meth (wp_c ⟨rfl, wp_cons (wp_if (wp_bin (wp_call (wp_cons (wp_var rfl (wp_cons (wp_c (wp_nil ((pull 6 0 S2 3 hB2 (by decide) (by decide)).imp ?_)))))))))⟩))
  rintro y S3 ⟨v3, rfl, _, _, hB3, _⟩
  have key : ∀ l' : List D, l'.length ≤ 5 → (∀ d ∈ l', Sml 1 d) → ∀ Q' : D → List Ct → Prop, (∀ z : Str, z.length ≤ 5 → Q' (.str z) S3) → Wp (joinO S3 (.str "") [.lst l']) Q' := fun l' h1 h2 Q' k => by
    obtain ⟨z, ez, hz⟩ := join_sml (S := S3) (n := 1) (m := 5) h2 h1 (by decide)
    exact Wp.of_eq ez (k z hz)
  have rest : ∀ z : Str, z.length ≤ 5 → Wp (rest [x0, some (.cel 0), some d, some (.lst l), x4, some (.str z), x6, x7, x8, x9, x10, x11] S3) fun p S => p.1 = .nx ∧ I0 p.2 S := fun z hz => law_rest d l z hz x0 x4 x6 x7 x8 x9 x10 x11 S3 hB3
  refine wp_c ⟨_, rfl, fun _ => ?_, fun _ => ?_⟩
  · obtain ⟨m, em, hm, hm2⟩ := sorted_sml (S := S3) hl1 (by omega)
    refine wp_callB (wp_cons (wp_var rfl (wp_nil (Wp.of_eq em (wp_nil (key m (by omega) hm2 _ rest))))))
  · exact wp_var rfl (wp_nil (key l hl2 hl1 _ rest))
theorem law_math (ns : List Int) (h : ns.length ≤ 63) : ∃ S', denT tbl depth f_law.name [.scr (ns.map D.int)] [] = .ok (.bl true) S' := by
  have hs : sizeLine = 16777216 := sizeLine_eq
  suffices w : Wp (denT tbl 8 "law" [.scr (ns.map D.int)] []) fun d S => d = .bl true by
    obtain ⟨d, S, e, rfl⟩ := w.eq
    exact ⟨S, e⟩
  rw [dn_law]
  show Wp ((c_law (denT tbl 7) [some (.scr (ns.map D.int)), none, none, none, none, none, none, none, none, none, none, none] []).bind _) _
  refine wp_bind.mpr ?_
  unfold c_law
  refine wp_bind.mpr ?_
  have hbag : ∃ S, sSet 1 (sCall (denT tbl 7 "_law_bag") (sCons (sVar 0) (sNil))) [some (.scr (ns.map D.int)), none, none, none, none, none, none, none, none, none, none, none] [] = .ok (.nx, [some (.scr (ns.map D.int)), some (.cel 0), none, none, none, none, none, none, none, none, none, none]) S ∧ Bag 0 S := by
    have e : denT tbl 7 "_law_bag" [.scr (ns.map D.int)] [] = .ok (.cel 0) [bagL (ns.take 63) 0 0 5601] := by
      rw [dn__law_bag]
      exact bag_made (denT tbl 6) ns
    refine ⟨[bagL (ns.take 63) 0 0 5601], ?_, bag_first ns⟩
    simp only [sSet, sCall, sCons, sNil, sVar, bind_ok, List.getElem?_cons_zero, e, List.set_cons_zero, List.set_cons_succ]
  obtain ⟨S0, eb, hB0⟩ := hbag
  rw [eb]
  refine wp_seq (wp_forN I0 ⟨⟨rfl, rfl, hB0⟩, fun d hd env S hI => ?_⟩ ?_)
  case refine_2 =>
    intro env S ⟨hl, h1, hB⟩
    refine .inl ⟨rfl, ?_⟩
    obtain ⟨x0, x1, x2, x3, x4, x5, x6, x7, x8, x9, x10, x11, rfl⟩ := env_12 hl
    have r1 : ∀ S, denT tbl 7 "is_lamps" [.str "ba"] S = .ok (.bl false) S := fun S => (is_lamps_str 5 S (by rw [hs]; decide +kernel)).trans (congrArg (fun b => R.ok (D.bl b) S) (by decide +kernel))
    have r2 : ∀ S, denT tbl 7 "is_lamps" [.str "aa"] S = .ok (.bl false) S := fun S => (is_lamps_str 5 S (by rw [hs]; decide +kernel)).trans (congrArg (fun b => R.ok (D.bl b) S) (by decide +kernel))
    have r3 : ∀ S, denT tbl 7 "is_lamps" [.str "abcd"] S = .ok (.bl true) S := fun S => (is_lamps_str 5 S (by rw [hs]; decide +kernel)).trans (congrArg (fun b => R.ok (D.bl b) S) (by decide +kernel))
    have r4 : ∀ S, denT tbl 7 "is_lamps" [.str "abcde"] S = .ok (.bl false) S := fun S => (is_lamps_str 5 S (by rw [hs]; decide +kernel)).trans (congrArg (fun b => R.ok (D.bl b) S) (by decide +kernel))
    have r5 : ∀ S, denT tbl 7 "is_lamps" [.str ""] S = .ok (.bl false) S := fun S => (is_lamps_str 5 S (by rw [hs]; decide +kernel)).trans (congrArg (fun b => R.ok (D.bl b) S) (by decide +kernel))
    have r6 : ∀ S, denT tbl 7 "is_set" [.str "", .str "a"] S = .ok (.bl true) S := fun S => (is_set_str 5 S (by rw [hs]; decide +kernel)).trans (congrArg (fun b => R.ok (D.bl b) S) (by decide +kernel))
    have r7 : ∀ S, eqO S (.lst [.bl false, .bl false, .bl true, .bl false, .bl false]) (.lst [.bl false, .bl false, .bl true, .bl false, .bl false]) = .ok (.bl true) S := fun S => rfl
    have l5 : ([.bl false, .bl false, .bl true, .bl false, .bl false] : List D).length ≤ sizeLine := by rw [hs]; decide
    simp only [sSeq, sSet, sRet, sAnd, sBin, sVar, sC, sCall, sLst, sCons, sNil, bind_ok, r1, r2, r3, r4, r5, if_pos l5, List.set_cons_zero, List.set_cons_succ, List.getElem?_cons_zero, List.getElem?_cons_succ, r6, r7]
    exact rfl
  exact law_body d env S hI
end Lw

open PySem PySem.W PySem.Calls PyProof.Rows MP
open Lw
theorem PySem.Challenge.cw_relitgoals_k01_lamps_and_sets_holds : PySem.Challenge.rw_relitgoals_k01_lamps_and_sets.Holds := by
  w_on; o_law
  refine HandSHeadRun.head_any (r := R1) (q := PySem.W.view R1.prog [16]) (H := hk) (ob := ob) (M := 1080) (loose := loose) (d := HandSHeadRun.topDef R1.prog 16) (kwd := []) ob_is
    (by kernel_rfl) (fun s => by kernel_rfl) Lw.run (by kernel_rfl) (by kernel_rfl) (by kernel_rfl) (by rfl) (by first | assumption | decide +kernel) (by decide +kernel) ⟨rfl, rfl, rfl, rfl, rfl, by decide +kernel⟩ ?hw ?hc
  case hw => w_witness2
  case hc =>
    exact law_goes (l := PySem.Challenge.rw_relitgoals_k01_lamps_and_sets) (n := 63) (k := depth) (x := "_law_script") (f := f_law) (Fc := Fc) rfl (by decide) (by kernel_rfl) ⟨rfl, by decide, by decide⟩ (List.mem_of_getElem? (i := 12) (a := f_law) rfl) (by kernel_rfl) rfl
      tk_all sc_all nd_all fc_of (fun _ _ _ _ c => wor_all c) law_math

