import PyProof.Rows.All
import Wide.All
import OpenK.AllK
import Wide.FinOn
import PySem.Challenge.RW_leastcrews_k02_names_judged
import HandS.ForMost
import HandS.Walk
import HandS.Exc
import KE.SortData
import PyProof.ReprReads
import HandS.Text
import HandS.ForExc
import HandS.CallSlots
import HandS.TupAny
import HandS.TupMul
import HandS.Wide
import HandS.Zip
import HandS.Deep
import HandS.IsInst
import HandS.TupLen
import HandS.Iter
import PyProof.ReprRoads
import PyProof.CallFns
import HandS.Star
import HandS.Flow
import HandS.Dict
import HandS.Ends
import HandS.Words
import PyProof.StrLawsRepr
import PyProof.ReprText
import PyProof.Rows.RegStrFacts
set_option Elab.async false
set_option linter.all false
set_option maxRecDepth 100000
set_option autoImplicit false
namespace RL
open PySem PySem.Spec PyProof.Rows L2

/-! ### data by value -/
inductive D where
  | non | bl (b : Bool) | int (i : Int) | str (s : Str)
  | tup (xs : List D) | lst (xs : List D)
  | dct (ks vs : List D)
  | obj (C : Nat) (ns : List Str) (vs : List D)
  | cell (n : Nat)
  | kl (ns : List Int)
  deriving Inhabited
inductive Cell where
  | lst (xs : List D) | dct (ks vs : List D) | inst (C : Nat) (ns : List Str) (vs : List D)
  deriving Inhabited

/-- a key of a dict as data -/
def keyD : Key → D
  | .inl i => .int i
  | .inr s => .str s
def keysD (k : List Key) : D := .tup (k.map keyD)

structure G0 where
  K : PySem.W.Frag
  cls : Nat → Addr
  xf : Nat → Str
def isDict : HO → Bool
  | .dK _ => true
  | .dT _ => true
  | _ => false
structure Wd where
  F : Hp
  as : List Addr

/-- a frozen tuple, list: in the frozen part, or written -/
def FqT (K : PySem.W.Frag) (F : Hp) (a : Addr) (xs : List V) : Prop :=
  F a = some (.tup xs) ∨ xs = [] ∧
    ∃ (o : Obj) (its : Array Value) (n : Nat), K.lookup a = some o ∧ o.cls = .type "tuple" ∧ o.data = .seq its n ∧ its.size ≤ sizeLine ∧ Vals xs its.toList
/-- a list that is only read: in the frozen part, or written -/
def FqL (K : PySem.W.Frag) (F : Hp) (a : Addr) (xs : List V) : Prop :=
  F a = some (.lst xs) ∨ ∃ (o : Obj) (its : Array Value) (n : Nat), K.lookup a = some o ∧ o.cls = .type "list" ∧ o.dict = none ∧ o.data = .seq its n ∧ its.size ≤ sizeLine ∧ Vals xs its.toList
/-- what stands there just so -/
def hard : HO → Bool
  | .lst _ => false
  | .dK _ => false
  | .dT _ => false
  | _ => true
/-- the dict at a holds the keys ks and the values vs (as V) -/
def DRep (H : Hp) (a : Addr) (ks : List D) (vs : List V) : Prop :=
  (∃ keys : List Key, ks = keys.map keyD ∧ keys.length = vs.length ∧ H a = some (.dK (keys.zip vs))) ∨
  (∃ keys : List (List Key), keys ≠ [] ∧ ks = keys.map keysD ∧ keys.length = vs.length ∧ H a = some (.dT (keys.zip vs)))

mutual
def Rep (g : G0) (W : Wd) : D → V → Prop
  | .non, v => v = .non
  | .bl b, v => v = .bl b
  | .int i, v => v = .int i
  | .str s, v => v = .str s
  | .tup ds, v => ∃ a vs, v = .ref a ∧ FqT g.K W.F a vs ∧ Reps g W ds vs
  | .lst ds, v => ∃ a vs, v = .ref a ∧ W.F a = some (.lst vs) ∧ Reps g W ds vs
  | .dct ks ds, v => ∃ a vs, v = .ref a ∧ DRep W.F a ks vs ∧ Reps g W ds vs
  | .obj C ns ds, v => ∃ a dx vs, v = .ref a ∧ W.F a = some (.ins (g.cls C) dx (ns.zip vs)) ∧ W.F dx = some (.own a) ∧ ns.length = vs.length ∧ Reps g W ds vs
  | .cell n, v => ∃ a, v = .ref a ∧ W.as[n]? = some a
  | .kl ns, v => ∃ a, v = .ref a ∧ FqL g.K W.F a (ns.map V.int)
def Reps (g : G0) (W : Wd) : List D → List V → Prop
  | [], vs => vs = []
  | d :: ds, vs => ∃ v r, vs = v :: r ∧ Rep g W d v ∧ Reps g W ds r
end

def CRep (g : G0) (W : Wd) (H : Hp) (a : Addr) : Cell → Prop
  | .lst ds => ∃ vs, H a = some (.lst vs) ∧ Reps g W ds vs
  | .dct ks ds => ∃ vs, DRep H a ks vs ∧ Reps g W ds vs
  | .inst C ns ds => ∃ dx vs, H a = some (.ins (g.cls C) dx (ns.zip vs)) ∧ H dx = some (.own a) ∧ ns.length = vs.length ∧ Reps g W ds vs

structure Sim (g : G0) (W : Wd) (μ : List Cell) (H : Hp) : Prop where
  fz : ∀ a u, W.F a = some u → Rd H a u
  fd : ∀ a u, W.F a = some u → isDict u = true → ∃ o, H a = some (.frz o u)
  fx : ∀ a u, W.F a = some u → hard u = true → H a = some u
  cl : ∀ (n : Nat) (c : Cell), μ[n]? = some c → ∃ a, W.as[n]? = some a ∧ CRep g W H a c
  cln : W.as.length = μ.length
  nd : W.as.Nodup
  nf : ∀ a ∈ W.as, W.F a = none

/-- the slots -/
structure EnvR (g : G0) (W : Wd) (ρ : List (Option D)) (σ : L2.St) : Prop where
  len : ρ.length = σ.length
  at_ : ∀ (i : Nat) (d : D), ρ[i]? = some (some d) → ∃ v, σ[i]? = some (some v) ∧ Rep g W d v

structure WLe (W W' : Wd) : Prop where
  F : ∀ a u, W.F a = some u → W'.F a = some u
  as : ∃ r, W'.as = W.as ++ r

structure Step (W : Wd) (H : Hp) (W' : Wd) (H' : Hp) : Prop where
  le : WLe W W'
  keep : ∀ b o, H b = some o → b ∉ W.as → H' b = some o
  alive : ∀ b o, H b = some o → ∃ o', H' b = some o'
  newF : ∀ (b : Addr) (o u : HO), H b = some o → W'.F b = some u → ∃ u', W.F b = some u'
  newc : ∀ (b : Addr) (o : HO), H b = some o → b ∈ W'.as → b ∈ W.as

theorem WLe.refl (W : Wd) : WLe W W := ⟨fun _ _ h => h, [], by simp⟩
theorem WLe.trans {A B C : Wd} (h : WLe A B) (h' : WLe B C) : WLe A C := by
  obtain ⟨r, e⟩ := h.as
  obtain ⟨r', e'⟩ := h'.as
  exact ⟨fun a u q => h'.F a u (h.F a u q), r ++ r', by rw [e', e, List.append_assoc]⟩
theorem WLe.at {A B : Wd} (h : WLe A B) {n : Nat} {a : Addr} (e : A.as[n]? = some a) : B.as[n]? = some a := by
  obtain ⟨r, e'⟩ := h.as
  rw [e']
  have hn : n < A.as.length := (List.getElem?_eq_some_iff.mp e).1
  rw [List.getElem?_append_left hn]; exact e
theorem WLe.mem {A B : Wd} (h : WLe A B) {a : Addr} (e : a ∈ A.as) : a ∈ B.as := by
  obtain ⟨r, e'⟩ := h.as
  rw [e']; exact List.mem_append_left _ e
theorem Step.refl (W : Wd) (H : Hp) : Step W H W H := ⟨.refl W, fun _ _ h _ => h, fun b o h => ⟨o, h⟩, fun b o u _ h => ⟨u, h⟩, fun _ _ _ h => h⟩
theorem Step.trans {W W1 W2 : Wd} {H H1 H2 : Hp} (a : Step W H W1 H1) (b : Step W1 H1 W2 H2) : Step W H W2 H2 where
  le := a.le.trans b.le
  keep := fun c o h hn => b.keep c o (a.keep c o h hn) fun z => hn (a.newc c o h z)
  alive := fun c o h => by
    obtain ⟨o', e⟩ := a.alive c o h
    exact b.alive c o' e
  newF := fun c o u h hu => by
    obtain ⟨o', e⟩ := a.alive c o h
    obtain ⟨u', e'⟩ := b.newF c o' u e hu
    exact a.newF c o u' h e'
  newc := fun c o h hc => by
    obtain ⟨o', e⟩ := a.alive c o h
    exact a.newc c o h (b.newc c o' e hc)

theorem FqT.le {K : PySem.W.Frag} {W W' : Wd} (l : WLe W W') {a : Addr} {vs : List V} (h : FqT K W.F a vs) : FqT K W'.F a vs := by
  rcases h with h | h
  · exact .inl (l.F _ _ h)
  · exact .inr h
theorem FqL.le {K : PySem.W.Frag} {W W' : Wd} (l : WLe W W') {a : Addr} {vs : List V} (h : FqL K W.F a vs) : FqL K W'.F a vs := by
  rcases h with h | h
  · exact .inl (l.F _ _ h)
  · exact .inr h
theorem DRep.mono {H H' : Hp} {a : Addr} {ks : List D} {vs : List V} (k : ∀ u, H a = some u → H' a = some u) (h : DRep H a ks vs) : DRep H' a ks vs := by
  rcases h with ⟨keys, e, l, q⟩ | ⟨keys, n, e, l, q⟩
  · exact .inl ⟨keys, e, l, k _ q⟩
  · exact .inr ⟨keys, n, e, l, k _ q⟩

mutual
theorem Rep.le {g : G0} {W W' : Wd} (l : WLe W W') : ∀ (d : D) (v : V), Rep g W d v → Rep g W' d v
  | .non, v, h => h
  | .bl b, v, h => h
  | .int i, v, h => h
  | .str s, v, h => h
  | .tup ds, v, h => by
    obtain ⟨a, vs, e, q, r⟩ := h
    exact ⟨a, vs, e, q.le l, Reps.le l ds vs r⟩
  | .lst ds, v, h => by
    obtain ⟨a, vs, e, q, r⟩ := h
    exact ⟨a, vs, e, l.F _ _ q, Reps.le l ds vs r⟩
  | .dct ks ds, v, h => by
    obtain ⟨a, vs, e, q, r⟩ := h
    exact ⟨a, vs, e, q.mono fun u => l.F a u, Reps.le l ds vs r⟩
  | .obj C ns ds, v, h => by
    obtain ⟨a, dx, vs, e, q, q2, hl, r⟩ := h
    exact ⟨a, dx, vs, e, l.F _ _ q, l.F _ _ q2, hl, Reps.le l ds vs r⟩
  | .cell n, v, h => by
    obtain ⟨a, e, q⟩ := h
    exact ⟨a, e, l.at q⟩
  | .kl ns, v, h => by
    obtain ⟨a, e, q⟩ := h
    exact ⟨a, e, q.le l⟩
theorem Reps.le {g : G0} {W W' : Wd} (l : WLe W W') : ∀ (ds : List D) (vs : List V), Reps g W ds vs → Reps g W' ds vs
  | [], vs, h => h
  | d :: ds, vs, h => by
    obtain ⟨v, r, e, h1, h2⟩ := h
    exact ⟨v, r, e, Rep.le l d v h1, Reps.le l ds r h2⟩
end
theorem EnvR.le {g : G0} {W W' : Wd} {ρ : List (Option D)} {σ : L2.St} (l : WLe W W') (h : EnvR g W ρ σ) : EnvR g W' ρ σ :=
  ⟨h.len, fun i d e => by
    obtain ⟨v, q, r⟩ := h.at_ i d e
    exact ⟨v, q, Rep.le l d v r⟩⟩
theorem EnvR.step {g : G0} {W W' : Wd} {H H' : Hp} {ρ : List (Option D)} {σ : L2.St} (l : Step W H W' H') (h : EnvR g W ρ σ) : EnvR g W' ρ σ := h.le l.le
theorem CRep.le {g : G0} {W W' : Wd} (l : WLe W W') {H : Hp} {a : Addr} {c : Cell} (h : CRep g W H a c) : CRep g W' H a c := by
  cases c with
  | lst ds => obtain ⟨vs, q, r⟩ := h; exact ⟨vs, q, Reps.le l ds vs r⟩
  | dct ks ds => obtain ⟨vs, q, r⟩ := h; exact ⟨vs, q, Reps.le l ds vs r⟩
  | inst C ns ds => obtain ⟨dx, vs, q, q2, hl, r⟩ := h; exact ⟨dx, vs, q, q2, hl, Reps.le l ds vs r⟩

theorem Reps.len {g : G0} {W : Wd} : ∀ {ds : List D} {vs : List V}, Reps g W ds vs → ds.length = vs.length
  | [], vs, h => by cases h; rfl
  | d :: ds, vs, h => by
    obtain ⟨v, r, e, h1, h2⟩ := h
    subst e
    simp only [List.length_cons]
    rw [Reps.len h2]
theorem Reps.nil {g : G0} {W : Wd} : Reps g W [] [] := rfl
theorem Reps.cons {g : G0} {W : Wd} {d : D} {v : V} {ds : List D} {vs : List V} (h : Rep g W d v) (t : Reps g W ds vs) : Reps g W (d :: ds) (v :: vs) := ⟨v, vs, rfl, h, t⟩
theorem Reps.get {g : G0} {W : Wd} : ∀ {ds : List D} {vs : List V} {i : Nat} {d : D}, Reps g W ds vs → ds[i]? = some d → ∃ v, vs[i]? = some v ∧ Rep g W d v
  | [], _, _, _, _, e => by simp at e
  | a :: ds, vs, 0, d, h, e => by
    obtain ⟨v, r, e', h1, h2⟩ := h
    subst e'
    simp at e; subst e
    exact ⟨v, by simp, h1⟩
  | a :: ds, vs, i + 1, d, h, e => by
    obtain ⟨v, r, e', h1, h2⟩ := h
    subst e'
    obtain ⟨v', q, r'⟩ := Reps.get (i := i) h2 (by simpa using e)
    exact ⟨v', by simpa using q, r'⟩
theorem Reps.get' {g : G0} {W : Wd} : ∀ {ds : List D} {vs : List V} {i : Nat} {v : V}, Reps g W ds vs → vs[i]? = some v → ∃ d, ds[i]? = some d ∧ Rep g W d v
  | [], _, _, _, h, e => by cases h; simp at e
  | a :: ds, vs, 0, v, h, e => by
    obtain ⟨w, r, e', h1, h2⟩ := h
    subst e'
    simp at e; subst e
    exact ⟨a, by simp, h1⟩
  | a :: ds, vs, i + 1, v, h, e => by
    obtain ⟨w, r, e', h1, h2⟩ := h
    subst e'
    obtain ⟨v', q, r'⟩ := Reps.get' (i := i) h2 (by simpa using e)
    exact ⟨v', by simpa using q, r'⟩
theorem Reps.append {g : G0} {W : Wd} : ∀ {ds es : List D} {vs ws : List V}, Reps g W ds vs → Reps g W es ws → Reps g W (ds ++ es) (vs ++ ws)
  | [], es, vs, ws, h, h' => by cases h; simpa using h'
  | d :: ds, es, vs, ws, h, h' => by
    obtain ⟨v, r, e, h1, h2⟩ := h
    subst e
    exact .cons h1 (Reps.append h2 h')
theorem Reps.drop {g : G0} {W : Wd} : ∀ (n : Nat) {ds : List D} {vs : List V}, Reps g W ds vs → Reps g W (ds.drop n) (vs.drop n)
  | 0, _, _, h => h
  | n + 1, [], vs, h => by cases h; exact rfl
  | n + 1, d :: ds, vs, h => by
    obtain ⟨v, r, e, h1, h2⟩ := h
    subst e
    exact Reps.drop n h2
theorem Reps.take {g : G0} {W : Wd} : ∀ (n : Nat) {ds : List D} {vs : List V}, Reps g W ds vs → Reps g W (ds.take n) (vs.take n)
  | 0, _, _, h => by simpa using Reps.nil
  | n + 1, [], vs, h => by cases h; exact rfl
  | n + 1, d :: ds, vs, h => by
    obtain ⟨v, r, e, h1, h2⟩ := h
    subst e
    exact .cons h1 (Reps.take n h2)
theorem Reps.set {g : G0} {W : Wd} {d : D} {v : V} (hd : Rep g W d v) : ∀ (n : Nat) {ds : List D} {vs : List V}, Reps g W ds vs → Reps g W (ds.set n d) (vs.set n v)
  | _, [], vs, h => by cases h; exact rfl
  | 0, a :: ds, vs, h => by
    obtain ⟨w, r, e, h1, h2⟩ := h
    subst e
    exact .cons hd h2
  | n + 1, a :: ds, vs, h => by
    obtain ⟨w, r, e, h1, h2⟩ := h
    subst e
    exact .cons h1 (Reps.set hd n h2)
theorem Reps.reverse {g : G0} {W : Wd} : ∀ {ds : List D} {vs : List V}, Reps g W ds vs → Reps g W ds.reverse vs.reverse
  | [], vs, h => by cases h; exact rfl
  | d :: ds, vs, h => by
    obtain ⟨v, r, e, h1, h2⟩ := h
    subst e
    rw [List.reverse_cons, List.reverse_cons]
    exact (Reps.reverse h2).append (.cons h1 .nil)

/-! ### from the frozen part to the heap -/
section
variable {g : G0} {W W' : Wd} {μ : List Cell} {H H' : Hp} {a : Addr} {vs : List V}
theorem Sim.sqT (s : Sim g W μ H) (h : FqT g.K W.F a vs) : SqT g.K H a vs := by
  rcases h with h | h
  · exact .inl (s.fz _ _ h)
  · exact .inr h.2
theorem rd_some {H : Hp} {a : Addr} {u : HO} (h : Rd H a u) : ∃ o, H a = some o := by
  rcases h with h | ⟨o, h⟩
  · exact ⟨_, h⟩
  · exact ⟨_, h⟩
theorem Sim.fzN (s : Sim g W μ H) (hn : H a = none) : W.F a = none := by
  cases e : W.F a with
  | none => rfl
  | some x =>
    obtain ⟨o, q⟩ := rd_some (s.fz _ _ e)
    rw [hn] at q; cases q
theorem crep_some {c : Cell} (h : CRep g W H a c) : ∃ o, H a = some o := by
  cases c with
  | lst ds => obtain ⟨_, q, _⟩ := h; exact ⟨_, q⟩
  | dct ks ds =>
    obtain ⟨_, q, _⟩ := h
    rcases q with ⟨_, _, _, q⟩ | ⟨_, _, _, _, q⟩ <;> exact ⟨_, q⟩
  | inst C ns ds => obtain ⟨_, _, q, _⟩ := h; exact ⟨_, q⟩
theorem Sim.asS (s : Sim g W μ H) (h : a ∈ W.as) : ∃ o, H a = some o := by
  obtain ⟨n, hlt, e⟩ := List.getElem_of_mem h
  have hn' : n < μ.length := by rw [← s.cln]; exact hlt
  obtain ⟨a', e1, c⟩ := s.cl n _ (List.getElem?_eq_getElem hn')
  have : a' = a := by
    rw [List.getElem?_eq_getElem hlt] at e1
    rw [e] at e1; exact (Option.some.inj e1).symm
  subst this
  exact crep_some c
theorem Sim.asN (s : Sim g W μ H) (hn : H a = none) : a ∉ W.as := fun z => by
  obtain ⟨o, q⟩ := s.asS z
  rw [hn] at q; cases q
theorem CRep.keep {c : Cell} (k : ∀ x o, H x = some o → x = a ∨ (∃ y, o = .own y) → H' x = some o) (h : CRep g W H a c) : CRep g W H' a c := by
  cases c with
  | lst ds => obtain ⟨vs, q, r⟩ := h; exact ⟨vs, k _ _ q (.inl rfl), r⟩
  | dct ks ds => obtain ⟨vs, q, r⟩ := h; exact ⟨vs, q.mono fun x e => k _ x e (.inl rfl), r⟩
  | inst C ns ds => obtain ⟨dx, vs, q, q2, hl, r⟩ := h; exact ⟨dx, vs, k _ _ q (.inl rfl), k _ _ q2 (.inr ⟨_, rfl⟩), hl, r⟩
/-- a new object: not tracked by us -/
theorem Sim.garb (s : Sim g W μ H) (hn : H a = none) (u : HO) : Step W H W (upd H a u) ∧ Sim g W μ (upd H a u) := by
  have k : ∀ x o, H x = some o → upd H a u x = some o := fun x o h => by rw [upd_ne (ne_of_none h hn)]; exact h
  refine ⟨⟨.refl W, fun b o h _ => k b o h, fun b o h => ⟨o, k b o h⟩, fun b o u' _ hu => ⟨u', hu⟩, fun b o _ h => h⟩, ⟨fun b o h => ?_, fun b o h hd => ?_, fun b o h hh => k _ _ (s.fx b o h hh), fun n c e => ?_, s.cln, s.nd, s.nf⟩⟩
  · rcases s.fz b o h with q | ⟨ob, q⟩
    · exact .inl (k _ _ q)
    · exact .inr ⟨ob, k _ _ q⟩
  · obtain ⟨ob, q⟩ := s.fd b o h hd
    exact ⟨ob, k _ _ q⟩
  · obtain ⟨b, e1, c1⟩ := s.cl n c e
    exact ⟨b, e1, CRep.keep (fun x o h _ => k x o h) c1⟩
/-- an object of ours that nobody else knows is frozen -/
theorem Sim.freeze {W0 : Wd} {H0 : Hp} {u : HO} (st : Step W0 H0 W H) (s : Sim g W μ H) (h0 : H0 a = none) (h : (isDict u = false ∧ H a = some u) ∨ (isDict u = true ∧ ∃ o, H a = some (.frz o u))) (hF : W.F a = none) (hA : a ∉ W.as) :
    WLe W ⟨upd W.F a u, W.as⟩ ∧ Step W0 H0 ⟨upd W.F a u, W.as⟩ H ∧ Sim g ⟨upd W.F a u, W.as⟩ μ H := by
  have le : WLe W ⟨upd W.F a u, W.as⟩ := ⟨fun b o h => by
    show upd W.F a u b = _
    rw [upd_ne (ne_of_none h hF)]; exact h, [], by simp⟩
  refine ⟨le, ⟨st.le.trans le, st.keep, st.alive, fun b o u' hb hu => ?_, st.newc⟩, ⟨fun b o h' => ?_, fun b o h' hd => ?_, fun b o h' hh => ?_, fun n c e => ?_, s.cln, s.nd, fun b hb => ?_⟩⟩
  · have hu : upd W.F a u b = some u' := hu
    rw [upd_ne (ne_of_none hb h0)] at hu
    exact st.newF b o u' hb hu
  · have h' : upd W.F a u b = some o := h'
    by_cases hb : b = a
    · subst hb
      rw [upd_same] at h'; cases h'
      rcases h with h | h
      · exact .inl h.2
      · exact .inr h.2
    · rw [upd_ne hb] at h'
      exact s.fz b o h'
  · have h' : upd W.F a u b = some o := h'
    by_cases hb : b = a
    · subst hb
      rw [upd_same] at h'; cases h'
      rcases h with h | h
      · rw [h.1] at hd; cases hd
      · exact h.2
    · rw [upd_ne hb] at h'
      exact s.fd b o h' hd
  · have h' : upd W.F a u b = some o := h'
    by_cases hb : b = a
    · subst hb
      rw [upd_same] at h'; cases h'
      rcases h with h | h
      · exact h.2
      · exfalso
        have hq := h.1
        revert hh hq
        cases u <;> simp [hard, isDict]
    · rw [upd_ne hb] at h'
      exact s.fx b o h' hh
  · obtain ⟨b, e1, c1⟩ := s.cl n c e
    exact ⟨b, e1, c1.le le⟩
  · show upd W.F a u b = none
    rw [upd_ne (fun z : b = a => hA (by rw [← z]; exact hb))]
    exact s.nf b hb
/-- .. is locked -/
theorem Sim.lock {W0 : Wd} {H0 : Hp} {u o' : HO} (st : Step W0 H0 W H) (s : Sim g W μ H) (h0 : H0 a = none) (h : H a = some u) (hn : ∀ x, u ≠ .own x) (hF : W.F a = none) (hA : a ∉ W.as) :
    Step W0 H0 W (upd H a o') ∧ Sim g W μ (upd H a o') := by
  refine ⟨⟨st.le, fun b o hb hm => ?_, fun b o hb => ?_, st.newF, st.newc⟩, ⟨fun b o h' => ?_, fun b o h' hd => ?_, fun b o h' hh => by
      have hb : b ≠ a := fun z => by subst z; rw [hF] at h'; cases h'
      rw [upd_ne hb]; exact s.fx b o h' hh, fun n c e => ?_, s.cln, s.nd, s.nf⟩⟩
  · rw [upd_ne (ne_of_none hb h0)]; exact st.keep b o hb hm
  · rw [upd_ne (ne_of_none hb h0)]; exact st.alive b o hb
  · have hb : b ≠ a := fun z => by subst z; rw [hF] at h'; cases h'
    rcases s.fz b o h' with q | ⟨ob, q⟩
    · exact .inl (by rw [upd_ne hb]; exact q)
    · exact .inr ⟨ob, by rw [upd_ne hb]; exact q⟩
  · have hb : b ≠ a := fun z => by subst z; rw [hF] at h'; cases h'
    obtain ⟨ob, q⟩ := s.fd b o h' hd
    exact ⟨ob, by rw [upd_ne hb]; exact q⟩
  · obtain ⟨b, e1, c1⟩ := s.cl n c e
    refine ⟨b, e1, CRep.keep (fun x o hx hw => ?_) c1⟩
    have hxa : x ≠ a := by
      rcases hw with z | ⟨y, z⟩
      · intro q
        exact hA (by rw [← q, z]; exact List.mem_of_getElem? e1)
      · intro q
        rw [q, h] at hx
        exact hn y ((Option.some.inj hx).trans z)
    rw [upd_ne hxa]; exact hx
/-- .. becomes a cell -/
theorem Sim.celled {W0 : Wd} {H0 : Hp} {c : Cell} (st : Step W0 H0 W H) (s : Sim g W μ H) (h0 : H0 a = none) (h : CRep g W H a c) (hF : W.F a = none) (hA : a ∉ W.as) :
    WLe W ⟨W.F, W.as ++ [a]⟩ ∧ Step W0 H0 ⟨W.F, W.as ++ [a]⟩ H ∧ Sim g ⟨W.F, W.as ++ [a]⟩ (μ ++ [c]) H := by
  have le : WLe W ⟨W.F, W.as ++ [a]⟩ := ⟨fun b o h => h, [a], rfl⟩
  refine ⟨le, ⟨st.le.trans le, st.keep, st.alive, fun b o u' hb hu => st.newF b o u' hb hu, fun b o hb hc => ?_⟩, ⟨s.fz, s.fd, s.fx, fun n c' e => ?_, by simp [s.cln], ?_, fun b hb => ?_⟩⟩
  · have hc : b ∈ W.as ++ [a] := hc
    rcases List.mem_append.mp hc with z | z
    · exact st.newc b o hb z
    · have : b = a := by simpa using z
      subst this
      rw [h0] at hb; cases hb
  · by_cases hn : n < μ.length
    · rw [List.getElem?_append_left hn] at e
      obtain ⟨b, e1, c1⟩ := s.cl n c' e
      exact ⟨b, le.at e1, c1.le le⟩
    · rw [List.getElem?_append_right (by omega)] at e
      have hz : n - μ.length = 0 := by
        cases hk : n - μ.length with
        | zero => rfl
        | succ k => rw [hk] at e; simp at e
      rw [hz] at e
      have e : c = c' := by simpa using e
      subst e
      refine ⟨a, ?_, h.le le⟩
      show (W.as ++ [a])[n]? = some a
      rw [List.getElem?_append_right (by rw [s.cln]; omega), s.cln, hz]; rfl
  · show (W.as ++ [a]).Nodup
    rw [List.nodup_append]
    exact ⟨s.nd, by simp, fun x hx y hy => by
      have : y = a := by simpa using hy
      subst this
      intro z; subst z; exact hA hx⟩
  · have hb : b ∈ W.as ++ [a] := hb
    rcases List.mem_append.mp hb with z | z
    · exact s.nf b z
    · have : b = a := by simpa using z
      subst this
      exact hF
theorem nodup_at {as : List Addr} (h : as.Nodup) {i j : Nat} (e1 : as[i]? = some a) (e2 : as[j]? = some a) : i = j := by
  obtain ⟨h1, q1⟩ := List.getElem?_eq_some_iff.mp e1
  obtain ⟨h2, q2⟩ := List.getElem?_eq_some_iff.mp e2
  exact (List.getElem_inj h).mp (q1.trans q2.symm)
/-- a cell is written; the object at a is no instance's own dict -/
theorem Sim.write (s : Sim g W μ H) {n : Nat} {c c' : Cell} {u : HO} (hc : μ[n]? = some c) (ha : W.as[n]? = some a) (hn : ∀ x, H a ≠ some (.own x)) (h : CRep g W (upd H a u) a c') :
    Step W H W (upd H a u) ∧ Sim g W (μ.set n c') (upd H a u) := by
  have hmem : a ∈ W.as := List.mem_of_getElem? ha
  have hF := s.nf a hmem
  refine ⟨⟨.refl W, fun b o h hb => by rw [upd_ne (fun z : b = a => hb (z ▸ hmem))]; exact h, fun b o h => ?_, fun b o u' _ hu => ⟨u', hu⟩, fun b o _ h => h⟩, ⟨fun b o h' => ?_, fun b o h' hd => ?_, fun b o h' hh => by
      have hb : b ≠ a := fun z => by subst z; rw [hF] at h'; cases h'
      rw [upd_ne hb]; exact s.fx b o h' hh, fun m d e => ?_, by simp [s.cln], s.nd, s.nf⟩⟩
  · by_cases hb : b = a
    · subst hb; exact ⟨u, upd_same⟩
    · exact ⟨o, by rw [upd_ne hb]; exact h⟩
  · have hb : b ≠ a := fun z => by subst z; rw [hF] at h'; cases h'
    rcases s.fz b o h' with q | ⟨ob, q⟩
    · exact .inl (by rw [upd_ne hb]; exact q)
    · exact .inr ⟨ob, by rw [upd_ne hb]; exact q⟩
  · have hb : b ≠ a := fun z => by subst z; rw [hF] at h'; cases h'
    obtain ⟨ob, q⟩ := s.fd b o h' hd
    exact ⟨ob, by rw [upd_ne hb]; exact q⟩
  · by_cases hm : m = n
    · subst hm
      have hlt : m < μ.length := (List.getElem?_eq_some_iff.mp hc).1
      rw [List.getElem?_set_self hlt] at e
      cases e
      exact ⟨a, ha, h⟩
    · rw [List.getElem?_set_ne (Ne.symm hm)] at e
      obtain ⟨b, e1, c1⟩ := s.cl m d e
      refine ⟨b, e1, CRep.keep (fun x o hx hw => ?_) c1⟩
      have hxa : x ≠ a := by
        rcases hw with z | ⟨y, z⟩
        · subst z
          intro z; subst z
          exact hm (nodup_at s.nd e1 ha)
        · intro q; subst q; subst z
          exact hn y hx
      rw [upd_ne hxa]; exact hx
/-- the cells from n on are let go -/
theorem Sim.pop (s : Sim g W μ H) (n : Nat) (hc : ∀ c ∈ μ.take n, ∀ a, CRep g W H a c → CRep g ⟨W.F, W.as.take n⟩ H a c) : Sim g ⟨W.F, W.as.take n⟩ (μ.take n) H := by
  refine ⟨s.fz, s.fd, s.fx, fun m c e => ?_, by simp [s.cln], s.nd.sublist (List.take_sublist _ _), fun b hb => s.nf b (List.mem_of_mem_take hb)⟩
  have hm : m < n := by
    obtain ⟨h, _⟩ := List.getElem?_eq_some_iff.mp e
    rw [List.length_take] at h; omega
  have e' := e
  rw [List.getElem?_take_of_lt hm] at e
  obtain ⟨a, e1, c1⟩ := s.cl m c e
  exact ⟨a, by show (W.as.take n)[m]? = some a; rw [List.getElem?_take_of_lt hm]; exact e1, hc c (List.mem_of_getElem? e') a c1⟩
end
end RL

set_option Elab.async false
set_option linter.all false
set_option maxRecDepth 100000
set_option autoImplicit false
namespace RL
open PySem L2

/-! ### equality of data, decided -/
mutual
def D.beq : D → D → Bool
  | .non, .non => true
  | .bl a, .bl b => a == b
  | .int a, .int b => a == b
  | .str a, .str b => decide (a = b)
  | .tup a, .tup b => D.beqs a b
  | .lst a, .lst b => D.beqs a b
  | .dct a b, .dct c d => D.beqs a c && D.beqs b d
  | .obj C n a, .obj E m b => C == E && (decide (n = m) && D.beqs a b)
  | .cell n, .cell m => n == m
  | .kl n, .kl m => n == m
  | _, _ => false
def D.beqs : List D → List D → Bool
  | [], [] => true
  | a :: as, b :: bs => D.beq a b && D.beqs as bs
  | _, _ => false
end
mutual
theorem D.beq_iff : ∀ a b : D, D.beq a b = true ↔ a = b
  | .non, b => by cases b <;> simp [D.beq]
  | .bl x, b => by cases b <;> simp [D.beq]
  | .int x, b => by cases b <;> simp [D.beq]
  | .str x, b => by cases b <;> simp [D.beq]
  | .tup x, b => by cases b <;> simp [D.beq, D.beqs_iff]
  | .lst x, b => by cases b <;> simp [D.beq, D.beqs_iff]
  | .dct x y, b => by cases b <;> simp [D.beq, D.beqs_iff]
  | .obj C n x, b => by cases b <;> simp [D.beq, D.beqs_iff]
  | .cell n, b => by cases b <;> simp [D.beq]
  | .kl n, b => by cases b <;> simp [D.beq]
theorem D.beqs_iff : ∀ a b : List D, D.beqs a b = true ↔ a = b
  | [], [] => by simp [D.beqs]
  | [], _ :: _ => by simp [D.beqs]
  | _ :: _, [] => by simp [D.beqs]
  | x :: xs, y :: ys => by simp [D.beqs, D.beq_iff x y, D.beqs_iff xs ys]
end
instance : DecidableEq D := fun a b => decidable_of_iff _ (D.beq_iff a b)
instance : DecidableEq Cell := fun a b => match a, b with
  | .lst x, .lst y => if h : x = y then isTrue (by rw [h]) else isFalse (fun e => h (Cell.lst.inj e))
  | .dct x y, .dct z w => if h : x = z ∧ y = w then isTrue (by rw [h.1, h.2]) else isFalse (fun e => h (Cell.dct.inj e))
  | .inst C n x, .inst E m y => if h : C = E ∧ n = m ∧ x = y then isTrue (by rw [h.1, h.2.1, h.2.2]) else isFalse (fun e => h (Cell.inst.inj e))
  | .lst _, .dct _ _ => isFalse nofun | .lst _, .inst _ _ _ => isFalse nofun
  | .dct _ _, .lst _ => isFalse nofun | .dct _ _, .inst _ _ _ => isFalse nofun
  | .inst _ _ _, .lst _ => isFalse nofun | .inst _ _ _, .dct _ _ => isFalse nofun

/-! ### data without cells and instances, as the model's data -/
mutual
def plain : D → Bool
  | .non => true | .bl _ => true | .int _ => true | .str _ => true
  | .tup xs => plains xs | .lst xs => plains xs
  | .dct _ _ => false | .obj _ _ _ => false | .cell _ => false | .kl _ => false
def plains : List D → Bool
  | [] => true
  | d :: ds => plain d && plains ds
end
mutual
def toPy : D → PyData
  | .non => .none | .bl b => .bool b | .int i => .int i | .str s => .str s
  | .tup xs => .tuple (toPys xs) | .lst xs => .list (toPys xs)
  | .dct _ _ => .none | .obj _ _ _ => .none | .cell _ => .none | .kl _ => .none
def toPys : List D → List PyData
  | [] => []
  | d :: ds => toPy d :: toPys ds
end
/-! every cell that is named is below n -/
mutual
def closed (n : Nat) : D → Bool
  | .non => true | .bl _ => true | .int _ => true | .str _ => true
  | .tup xs => closeds n xs | .lst xs => closeds n xs
  | .dct ks xs => closeds n xs | .obj _ _ xs => closeds n xs
  | .cell k => decide (k < n)
  | .kl _ => true
def closeds (n : Nat) : List D → Bool
  | [] => true
  | d :: ds => closed n d && closeds n ds
end
def closedC (n : Nat) : Cell → Bool
  | .lst xs => closeds n xs
  | .dct ks xs => closeds n xs
  | .inst _ _ xs => closeds n xs

/-! ### the machine's results -/
inductive R (α : Type) where
  | stuck
  | ok (a : α) (μ : List Cell)
  | exc (C : Nat) (vs : List D) (μ : List Cell)
def M (α : Type) := List Cell → R α
def M.bind {α β : Type} (m : M α) (f : α → M β) : M β := fun μ => match m μ with
  | .stuck => .stuck
  | .ok a μ' => f a μ'
  | .exc C vs μ' => .exc C vs μ'
instance : Monad M where
  pure a := fun μ => .ok a μ
  bind := M.bind
def stuck {α : Type} : M α := fun _ => .stuck
def ofO {α : Type} (o : Option α) : M α := fun μ => match o with | some a => .ok a μ | none => .stuck
theorem bind_ok {α β : Type} {m : M α} {f : α → M β} {μ μ' : List Cell} {a : α} (h : m μ = .ok a μ') : (m >>= f) μ = f a μ' := by
  show M.bind m f μ = _
  unfold M.bind; rw [h]
theorem pure_bind' {α β : Type} (a : α) (f : α → M β) : ((pure a : M α) >>= f) = f a := rfl

/-- what an expression gives: data, or a new object that nobody else knows -/
inductive ER where
  | v (d : D) | fl (xs : List D) | fd (ks vs : List D) | fo (C : Nat) (ns : List Str) (vs : List D)
def ER.d : ER → D
  | .v d => d | .fl xs => .lst xs | .fd ks vs => .dct ks vs | .fo C ns vs => .obj C ns vs

inductive TyN where
  | int | str | bool | list | tuple | dict | cls (C : Nat)
  deriving DecidableEq
inductive BI where
  | len | all | any | sum | max1 | min1 | max2 | min2 | abs | int | tuple | list | sorted | repr
  deriving DecidableEq
/-- a method of a built-in type -/
inductive BM where
  | append | extend | pop | popAt | index | count | get | join | values | keys | items | split | clear | insert | update
  deriving DecidableEq
/-- a target -/
inductive MT where
  | name (i : Nat) | tup (is : List Nat)
  deriving DecidableEq
inductive ME where
  | k (d : D)
  | v (i : Nat)
  | bin (op : Operator) (a b : ME)
  | neg (a : ME)
  | cmp (op : CmpOp) (a b : ME)
  | chain (o1 o2 : CmpOp) (a b c : ME)
  | and (a b : ME) | or (a b : ME) | not (a : ME)
  | ite (c a b : ME)
  | tup (es : List ME) | lst (es : List ME) | star (e : ME)
  | dct (es : List ME)
  | sub (a i : ME)
  | slice (a lo hi : ME) | absent | iter (e : ME)
  | attr (a : ME) (f : Str)
  | callF (f : Nat) (es : List ME)
  | callK (f : Nat) (perm : List Nat) (es : List ME)
  | callC (C : Nat) (es : List ME)
  | callB (b : BI) (es : List ME)
  | isinst (e : ME) (ts : List TyN)
  | lenset (e : ME) | sortedset (e : ME) | dictOf (e : ME)
  | bm (m : BM) (o : ME) (es : List ME)
  | om (m : Str) (o : ME) (es : List ME)
  | lc (elt : ME) (tg : MT) (it : ME) (ifs : List ME)
  | lc2 (elt : ME) (tg : MT) (it : ME) (tg2 : MT) (it2 : ME) (ifs2 : List ME)
  | dc (k v : ME) (tg : MT) (it : ME)
  | fstr (es : List ME)
  | irange1 (a : ME) | irange2 (a b : ME) | izip (a b : ME) | ienum (a : ME)
  deriving Inhabited
inductive MS where
  | asg (t : MT) (e : ME) (cellify : Bool)
  | par (i j : Nat) (a b : ME)
  | setix (o i e : ME)
  | setattr (o : ME) (f : Str) (e : ME)
  | aug (i : Nat) (op : Operator) (e : ME)
  | expr (e : ME)
  | ret (e : ME) | ret0
  | ite (c : ME) (a b : List MS)
  | whil (c : ME) (b : List MS)
  | for_ (t : MT) (it : ME) (b : List MS)
  | brk | cont | pass
  | raise (C : Nat) (es : List ME)
  deriving Inhabited

/-! ### operations by value -/
def lineN : Nat := 16777216
def bigI (i : Int) : Bool := decide (-(2 ^ 64) < i) && decide (i < 2 ^ 64)
def seqOf (μ : List Cell) : D → Option (List D)
  | .kl ns => some (ns.map .int)
  | .tup xs => some xs
  | .lst xs => some xs
  | .cell n => match μ[n]? with | some (.lst xs) => some xs | _ => none
  | _ => none
def dctOf (μ : List Cell) : D → Option (List D × List D)
  | .dct ks vs => some (ks, vs)
  | .cell n => match μ[n]? with | some (.dct ks vs) => some (ks, vs) | _ => none
  | _ => none
def chars (s : Str) : List D := s.cps.toList.map fun c => .str ⟨#[c]⟩
/-- a key of a dict: int, text, or a tuple of these -/
def asKey : D → Option Key
  | .int i => some (.inl i)
  | .str s => some (.inr s)
  | _ => none
def listOf (μ : List Cell) : D → Option (List D)
  | .lst xs => some xs
  | .cell n => match μ[n]? with | some (.lst xs) => some xs | _ => none
  | _ => none
/-- two lists, or two tuples -/
def zipOf (μ : List Cell) (a b : D) : Option (List D × List D) := match a, b with
  | .tup xs, .tup ys => some (xs, ys)
  | a, b => (listOf μ a).bind fun xs => (listOf μ b).bind fun ys => some (xs, ys)
def itemsOf (μ : List Cell) (d : D) : Option (List D) := match d with
  | .kl ns => some (ns.map .int)
  | .str s => some (chars s)
  | .dct ks _ => if ks.all (fun d => (asKey d).isSome) then some ks else none
  | .cell n => match μ[n]? with | some (.lst xs) => some xs | _ => none
  | .tup xs => some xs
  | .lst xs => some xs
  | _ => none
def lenD (μ : List Cell) (d : D) : Option Nat := match d with
  | .kl ns => some ns.length
  | .str s => if s.length ≤ sizeLine then some s.length else none
  | .dct ks _ => some ks.length
  | .cell n => match μ[n]? with | some (.lst xs) => some xs.length | some (.dct ks _) => some ks.length | _ => none
  | .tup xs => some xs.length
  | .lst xs => some xs.length
  | _ => none
def truthD (μ : List Cell) (d : D) : Option Bool := match d with
  | .non => some false
  | .bl b => some b
  | .int i => some (i != 0)
  | .str s => if s.length ≤ sizeLine then some (s.length != 0) else none
  | .tup xs => some (!xs.isEmpty)
  | .lst xs => some (!xs.isEmpty)
  | .cell n => match μ[n]? with | some (.lst xs) => some (!xs.isEmpty) | _ => none
  | _ => none
/-- a list cell as the list that it is now -/
def flat (μ : List Cell) (d : D) : D := match d with
  | .cell n => match μ[n]? with | some (.lst xs) => .lst xs | _ => .cell n
  | _ => d
def eqD (μ : List Cell) (a b : D) : Option Bool :=
  if plain (flat μ a) && plain (flat μ b) && SeqAt.shaped (toPy (flat μ a)) && SeqAt.shaped (toPy (flat μ b)) then some (PyData.eqv (toPy (flat μ a)) (toPy (flat μ b))) else none
def findIx (x : PyData) : List PyData → Nat → Option Nat
  | [], _ => none
  | y :: ys, n => if PyData.eqv y x then some n else findIx x ys (n + 1)
def okSeq (x : D) (xs : List D) : Bool := plain x && plains xs && SeqAt.shaped (toPy x) && SeqAt.shaped (.list (toPys xs))
def inSeq (x : D) (xs : List D) : Option Bool :=
  if okSeq x xs then some ((toPys xs).any fun y => PyData.eqv y (toPy x)) else none
def strIn (x y : Str) : Bool := !(Builtin.Str.occurrences y x 0 y.length 1).isEmpty
def okKey : D → Bool
  | .int _ => true
  | .str _ => true
  | .tup xs => !xs.isEmpty && xs.all fun d => (asKey d).isSome
  | _ => false
/-- the keys are all of the kind of k -/
def alikeKeys (k : D) (ks : List D) : Bool := match k with
  | .tup xs => !xs.isEmpty && !ks.isEmpty && (xs.all (fun d => (asKey d).isSome) && ks.all fun d => match d with | .tup ys => ys.all (fun d => (asKey d).isSome) | _ => false)
  | .int _ => ks.all fun d => (asKey d).isSome
  | .str _ => ks.all fun d => (asKey d).isSome
  | _ => false
def look (k : D) : List D → List D → Option D
  | k' :: ks, v :: vs => if k' = k then some v else look k ks vs
  | _, _ => none
def inD (μ : List Cell) (x y : D) : Option Bool := match y with
  | .str s => match x with | .str z => some (strIn z s) | _ => none
  | _ => match dctOf μ y with
    | some (ks, _) => if alikeKeys x ks then some (ks.contains x) else none
    | none => (seqOf μ y).bind (inSeq x)
def ltD (a b : D) : Option Bool := match a, b with
  | .int i, .int j => some (decide (i < j))
  | .str i, .str j => some (decide (i.cps.toList < j.cps.toList))
  | _, _ => none
def leD (a b : D) : Option Bool := match a, b with
  | .int i, .int j => some (decide (i ≤ j))
  | .str i, .str j => some (!decide (j.cps.toList < i.cps.toList))
  | _, _ => none
def gtD (a b : D) : Option Bool := match a, b with
  | .int i, .int j => some (decide (j < i))
  | .str i, .str j => some (decide (j.cps.toList < i.cps.toList))
  | _, _ => none
def geD (a b : D) : Option Bool := match a, b with
  | .int i, .int j => some (decide (j ≤ i))
  | .str i, .str j => some (!decide (i.cps.toList < j.cps.toList))
  | _, _ => none
def isD (a b : D) : Option Bool := match b with | .non => some (decide (a = .non)) | _ => none
def cmpD (μ : List Cell) (op : CmpOp) (a b : D) : Option Bool := match op with
  | .Eq => eqD μ a b
  | .NotEq => (eqD μ a b).map (!·)
  | .Lt => ltD a b
  | .LtE => leD a b
  | .Gt => gtD a b
  | .GtE => geD a b
  | .Is => isD a b
  | .IsNot => (isD a b).map (!·)
  | .In => inD μ a b
  | .NotIn => (inD μ a b).map (!·)
def mulOk (i j : Int) : Bool := bigI i || bigI j || decide (i.natAbs.log2 + j.natAbs.log2 < 1000000)
def addD (μ : List Cell) (a b : D) : Option ER := match a, b with
  | .int i, .int j => some (.v (.int (i + j)))
  | .str i, .str j => if i.length + j.length ≤ lineN then some (.v (.str (i ++ j))) else none
  | .tup xs, .tup ys => if xs.length + ys.length ≤ lineN then some (.v (.tup (xs ++ ys))) else none
  | a, b => (listOf μ a).bind fun xs => (listOf μ b).bind fun ys => if xs.length + ys.length ≤ lineN then some (.fl (xs ++ ys)) else none
def mulD (μ : List Cell) (a b : D) : Option ER := match a, b with
  | .int i, .int j => if mulOk i j then some (.v (.int (i * j))) else none
  | .tup xs, .int k => if k = 1 then some (.v (.tup xs)) else if xs ≠ [] ∧ 2 ≤ k ∧ k ≤ 1000 ∧ xs.length ≤ 1000 then some (.v (.tup (List.replicate k.toNat xs).flatten)) else none
  | a, .int k => (listOf μ a).bind fun xs => if 0 ≤ k ∧ k < 2 ^ 62 ∧ xs.length * k.toNat ≤ lineN then some (.fl (List.replicate k.toNat xs).flatten) else none
  | _, _ => none
def subtD (a b : D) : Option ER := match a, b with | .int i, .int j => some (.v (.int (i - j))) | _, _ => none
def fdivD (a b : D) : Option ER := match a, b with | .int i, .int j => if 0 < j ∧ j.natAbs.log2 < 9000 then some (.v (.int (i / j))) else none | _, _ => none
def modD (a b : D) : Option ER := match a, b with | .int i, .int j => if 0 < j then some (.v (.int (i % j))) else none | _, _ => none
def powD (a b : D) : Option ER := match a, b with | .int i, .int j => if 0 ≤ j ∧ j ≤ 1000000 ∧ i.natAbs < 2 ^ 64 then some (.v (.int (i ^ j.toNat))) else none | _, _ => none
def binD (μ : List Cell) (op : Operator) (a b : D) : Option ER := match op with
  | .Add => addD μ a b
  | .Sub => subtD a b
  | .Mult => mulD μ a b
  | .FloorDiv => fdivD a b
  | .Mod => modD a b
  | .Pow => powD a b
  | _ => none
def subD (μ : List Cell) (a i : D) : Option D := match i with
  | .int j => match a with
    | .str z => if z.length ≤ sizeLine then (atI z.cps.toList j).map fun c => .str ⟨#[c]⟩ else none
    | _ => match seqOf μ a with
      | some xs => atI xs j
      | none => match dctOf μ a with | some (ks, vs) => if alikeKeys i ks then look i ks vs else none | none => none
  | _ => match dctOf μ a with | some (ks, vs) => if alikeKeys i ks then look i ks vs else none | none => none
def cutD {α : Type} (xs : List α) (lo hi : Option Int) : List α := (xs.drop (HT.sIx xs.length 0 lo)).take (HT.sIx xs.length xs.length hi - HT.sIx xs.length 0 lo)
def partD : D → Option (Option Int)
  | .int i => some (some i)
  | _ => none
def sliceD (μ : List Cell) (a : D) (lo hi : Option Int) : Option ER := match a with
  | .str z => if z.length ≤ sizeLine then some (.v (.str ⟨(cutD z.cps.toList lo hi).toArray⟩)) else none
  | .tup xs => some (.v (.tup (cutD xs lo hi)))
  | _ => (seqOf μ a).map fun xs => .fl (cutD xs lo hi)
def asInts : List D → Option (List Int)
  | [] => some []
  | .int i :: ds => (asInts ds).map (i :: ·)
  | _ => none
def asBools : List D → Option (List Bool)
  | [] => some []
  | .bl i :: ds => (asBools ds).map (i :: ·)
  | _ => none
def asStrs : List D → Option (List Str)
  | [] => some []
  | .str i :: ds => (asStrs ds).map (i :: ·)
  | _ => none
def lstMax : List Int → Option Int
  | [] => none
  | x :: xs => some (xs.foldl max x)
def lstMin : List Int → Option Int
  | [] => none
  | x :: xs => some (xs.foldl min x)
inductive Tg where
  | non | bl | int | str | tup | lst | dct
def tgOf (μ : List Cell) : D → Option Tg
  | .non => some .non | .bl _ => some .bl | .int _ => some .int | .str _ => some .str | .tup _ => some .tup | .lst _ => some .lst
  | .dct ks _ => if ks.all (fun d => (asKey d).isSome) then some .dct else none
  | .obj _ _ _ => none
  | .kl _ => none
  | .cell n => match μ[n]? with | some (.lst _) => some .lst | some (.dct _ _) => some .dct | _ => none
def isaT : Tg → TyN → Bool
  | .bl, .bool => true | .bl, .int => true | .int, .int => true | .str, .str => true | .tup, .tuple => true | .lst, .list => true | .dct, .dict => true
  | _, _ => false
def isB : TyN → Bool
  | .cls _ => false
  | _ => true
/-- one of these types? -/
def isaTs (t : Tg) (ts : List TyN) : Bool := ts.any (isaT t)
/-- an instance's class -/
def clsOf (μ : List Cell) : D → Option Nat
  | .obj C _ _ => some C
  | .cell n => match μ[n]? with | some (.inst C _ _) => some C | _ => none
  | _ => none
def tysD (μ : List Cell) (d : D) (ts : List TyN) : Option Bool := (tgOf μ d).bind fun tt => if ts.all isB then some (isaTs tt ts) else none
def allAlike (ds : List PyData) : Bool := ds.all fun d => ds.all fun d' => PySem.W.alike d d'
def isTupC : PyData → Bool
  | .tuple (_ :: _) => true
  | _ => false
def notNT : PyData → Bool
  | .none => false
  | .tuple _ => false
  | _ => true
def sortable (ds : List PyData) : Bool := ds.all isTupC || ds.all notNT
def sortD (xs : List D) : Option (List D) :=
  if plains xs && allAlike (toPys xs) && sortable (toPys xs) && (toPys xs).all (fun d => decide (d.depth ≤ 64)) then some (xs.mergeSort (PySem.W.dataLe false toPy)) else none
def reprD (μ : List Cell) (d : D) : Option ER := if d = .dct [] [] then some (.v (.str (PyData.dict []).shown)) else
  if plain (flat μ d) && (toPy (flat μ d)).showable && decide ((toPy (flat μ d)).depth ≤ 64) && decide ((toPy (flat μ d)).shown.length ≤ lineN) then some (.v (.str (toPy (flat μ d)).shown)) else none
def biD (μ : List Cell) (b : BI) (xs : List D) : Option ER := match b, xs with
  | .len, [d] => (lenD μ d).map fun (n : Nat) => .v (.int (n : Int))
  | .all, [d] => ((listOf μ d).bind asBools).map fun bs => .v (.bl (bs.all id))
  | .any, [d] => ((listOf μ d).bind asBools).map fun bs => .v (.bl (bs.any id))
  | .sum, [d] => ((listOf μ d).bind asInts).map fun ns => .v (.int ns.sum)
  | .max1, [d] => (((listOf μ d).bind asInts).bind lstMax).map fun n => .v (.int n)
  | .min1, [d] => (((listOf μ d).bind asInts).bind lstMin).map fun n => .v (.int n)
  | .max2, [.int i, .int j] => some (.v (.int (if j > i then j else i)))
  | .min2, [.int i, .int j] => some (.v (.int (if j < i then j else i)))
  | .abs, [.int i] => some (.v (.int (if i < 0 then -i else i)))
  | .int, [.int i] => some (.v (.int i))
  | .int, [.bl b] => some (.v (.int (if b then 1 else 0)))
  | .tuple, [d] => (seqOf μ d).map fun xs => .v (.tup xs)
  | .list, [d] => (seqOf μ d).map fun xs => .fl xs
  | .sorted, [d] => ((listOf μ d).bind sortD).map .fl
  | .repr, [d] => reprD μ d
  | _, _ => none
def cellL (μ : List Cell) (o : D) : Option (Nat × List D) := match o with
  | .cell n => match μ[n]? with | some (.lst ys) => some (n, ys) | _ => none
  | _ => none
def one1 : List D → Option D
  | [x] => some x
  | _ => none
def asInt : D → Option Int
  | .int i => some i
  | _ => none
def asStr : D → Option Str
  | .str i => some i
  | _ => none
def appendD (μ : List Cell) (o : D) (xs : List D) : Option (ER × List Cell) := (cellL μ o).bind fun c => (one1 xs).bind fun x => if c.2.length < lineN then some (.v .non, μ.set c.1 (.lst (c.2 ++ [x]))) else none
def extendD (μ : List Cell) (o : D) (xs : List D) : Option (ER × List Cell) := (cellL μ o).bind fun c => (one1 xs).bind fun x => (listOf μ x).bind fun zs => if c.2.length + zs.length ≤ lineN then some (.v .non, μ.set c.1 (.lst (c.2 ++ zs))) else none
def popD (μ : List Cell) (o : D) (xs : List D) : Option (ER × List Cell) := (cellL μ o).bind fun c => (c.2[c.2.length - 1]?).bind fun y => if xs = [] then some (.v y, μ.set c.1 (.lst c.2.dropLast)) else none
def popAtD (μ : List Cell) (o : D) (xs : List D) : Option (ER × List Cell) := (cellL μ o).bind fun c => ((one1 xs).bind asInt).bind fun i => (ixN c.2.length i).bind fun j => (c.2[j]?).bind fun y => if c.2.length ≤ lineN then some (.v y, μ.set c.1 (.lst (c.2.eraseIdx j))) else none
def joinD (μ : List Cell) (o : D) (xs : List D) : Option (ER × List Cell) := (asStr o).bind fun sep => (((one1 xs).bind (seqOf μ)).bind asStrs).bind fun ss => if (ss.map (·.length)).sum + ss.length * sep.length ≤ 16777216 then some (.v (.str (Txt.join sep ss)), μ) else none
def bmD (μ : List Cell) (m : BM) (o : D) (xs : List D) : Option (ER × List Cell) := match m with
  | .append => appendD μ o xs
  | .extend => extendD μ o xs
  | .pop => popD μ o xs
  | .popAt => popAtD μ o xs
  | .join => joinD μ o xs
  | _ => none
/-- the receiver's type, ahead of the arguments -/
def bmTy (μ : List Cell) (m : BM) (o : D) : Option Unit := match m with
  | .join => match o with | .str _ => some () | _ => none
  | .get => (dctOf μ o).map fun _ => ()
  | .append => (listOf μ o).map fun _ => ()
  | .extend => (listOf μ o).map fun _ => ()
  | .pop => (listOf μ o).map fun _ => ()
  | .popAt => (listOf μ o).map fun _ => ()
  | .index => (listOf μ o).map fun _ => ()
  | .count => (listOf μ o).map fun _ => ()
  | _ => none

/-! ### slots -/
def assignT (ρ : List (Option D)) (t : MT) (d : D) : Option (List (Option D)) := match t with
  | .name i => if i < ρ.length then some (ρ.set i (some d)) else none
  | .tup is => match d with
    | .tup ds => if is.length = ds.length ∧ ∀ i ∈ is, i < ρ.length then some ((is.zip ds).foldl (fun r p => r.set p.1 (some p.2)) ρ) else none
    | _ => none
def ownT : MT → List Nat
  | .name i => [i]
  | .tup is => is
def wipeD (ρ : List (Option D)) : List Nat → List (Option D)
  | [] => ρ
  | v :: vs => (wipeD ρ vs).set v none
/-- what a walk takes, and the cells that must stand still -/
structure Itm where
  xs : List D
  w : List (Nat × Cell)
def still (w : List (Nat × Cell)) (μ : List Cell) : Bool := w.all fun p => decide (μ[p.1]? = some p.2)
def watchOf (μ : List Cell) : D → List (Nat × Cell)
  | .cell n => match μ[n]? with | some c => [(n, c)] | none => []
  | _ => []

/-- the xs at these places -/
def permL {α : Type} (xs : List α) : List Nat → Option (List α)
  | [] => some []
  | i :: is => (xs[i]?).bind fun d => (permL xs is).bind fun r => some (d :: r)
structure Cfg where
  fuel : Nat
  call : Nat → List D → M ER
  make : Nat → List D → M ER
  meth : Nat → Str → Option Nat
  fld : Nat → Str → Option Nat

def getF (μ : List Cell) (d : D) : Option (Nat × List Str × List D) := match d with
  | .obj C ns vs => some (C, ns, vs)
  | .cell n => match μ[n]? with | some (.inst C ns vs) => some (C, ns, vs) | _ => none
  | _ => none
def lookF (f : Str) : List Str → List D → Option D
  | n :: ns, v :: vs => if n = f then some v else lookF f ns vs
  | _, _ => none
def getM {α : Type} (f : List Cell → Option α) : M α := fun μ => match f μ with | some a => .ok a μ | none => .stuck
def modM {α : Type} (f : List Cell → Option (α × List Cell)) : M α := fun μ => match f μ with | some (a, μ') => .ok a μ' | none => .stuck

/-- keys and values in turn; a key stands once -/
def pairsD : List D → Option (List D × List D)
  | [] => some ([], [])
  | k :: v :: r => (pairsD r).bind fun p => if (asKey k).isSome && !(p.1.contains k) then some (k :: p.1, v :: p.2) else none
  | _ => none
def unlists : List D → Option (List D)
  | [] => some []
  | .lst ys :: r => (unlists r).map (ys ++ ·)
  | _ => none
/-- no exception leaves a comprehension's block -/
def noX {α : Type} (m : M α) : M α := fun μ => match m μ with
  | .exc _ _ _ => .stuck
  | r => r
variable (c : Cfg)
/-- over the items of a walk, each turn from the same slots -/
def mapIt (w : List (Nat × Cell)) (f : D → M (Option D)) : List D → M (List D)
  | [] => fun μ => if still w μ then .ok [] μ else .stuck
  | x :: xs => fun μ => if still w μ then (do
      let y ← noX (f x)
      let ys ← mapIt w f xs
      pure (match y with | some y => y :: ys | none => ys)) μ else .stuck
mutual
def ev : ME → List (Option D) → M ER
  | .k d, _ => pure (.v d)
  | .v i, ρ => ofO ((ρ[i]?).join.map .v)
  | .bin op a b, ρ => do
    let x ← ev a ρ
    let y ← ev b ρ
    getM fun μ => binD μ op x.d y.d
  | .neg a, ρ => do
    let x ← ev a ρ
    match x.d with | .int i => pure (.v (.int (-i))) | _ => stuck
  | .cmp op a b, ρ => do
    let x ← ev a ρ
    let y ← ev b ρ
    getM fun μ => (cmpD μ op x.d y.d).map fun b => .v (.bl b)
  | .chain o1 o2 a b d, ρ => do
    let x ← ev a ρ
    let y ← ev b ρ
    let p ← getM fun μ => cmpD μ o1 x.d y.d
    if p then do
      let z ← ev d ρ
      getM fun μ => (cmpD μ o2 y.d z.d).map fun b => .v (.bl b)
    else pure (.v (.bl false))
  | .and a b, ρ => do
    let x ← ev a ρ
    let p ← getM fun μ => truthD μ x.d
    if p then ev b ρ else pure (.v x.d)
  | .or a b, ρ => do
    let x ← ev a ρ
    let p ← getM fun μ => truthD μ x.d
    if p then pure (.v x.d) else ev b ρ
  | .not a, ρ => do
    let x ← ev a ρ
    let p ← getM fun μ => truthD μ x.d
    pure (.v (.bl (!p)))
  | .ite t a b, ρ => do
    let x ← ev t ρ
    let p ← getM fun μ => truthD μ x.d
    if p then ev a ρ else ev b ρ
  | .tup es, ρ => do
    let xs ← evs es ρ
    if xs.length ≤ lineN then pure (.v (.tup xs)) else stuck
  | .lst es, ρ => do
    let xs ← evs es ρ
    if xs.length ≤ lineN then pure (.fl xs) else stuck
  | .star _, _ => stuck
  | .dct es, ρ => do
    let xs ← evs es ρ
    ofO ((pairsD xs).bind fun p => if p.1.length ≤ 15 then some (.fd p.1 p.2) else none)
  | .sub a i, ρ => do
    let x ← ev a ρ
    let y ← ev i ρ
    getM fun μ => (subD μ x.d y.d).map .v
  | .slice a lo hi, ρ => do
    let x ← ev a ρ
    let l ← evp lo ρ
    let h ← evp hi ρ
    getM fun μ => sliceD μ x.d l h
  | .absent, _ => stuck
  | .iter _, _ => stuck
  | .attr a f, ρ => do
    let x ← ev a ρ
    let (C, ns, vs) ← getM fun μ => getF μ x.d
    match c.fld C f with
    | some g => c.call g [x.d]
    | none => ofO ((lookF f ns vs).map .v)
  | .callF f es, ρ => do
    let xs ← evs es ρ
    c.call f xs
  | .callK f perm es, ρ => do
    let xs ← evs es ρ
    let ys ← ofO (if xs.length = perm.length then permL xs perm else none)
    c.call f ys
  | .callC C es, ρ => do
    let xs ← evs es ρ
    c.make C xs
  | .callB b es, ρ => do
    let xs ← evs es ρ
    getM fun μ => biD μ b xs
  | .isinst e ts, ρ => do
    let x ← ev e ρ
    getM fun μ => (tysD μ x.d ts).map fun b => .v (.bl b)
  | .lenset _, _ => stuck
  | .sortedset _, _ => stuck
  | .dictOf _, _ => stuck
  | .bm m o es, ρ => do
    let x ← ev o ρ
    let _ ← getM fun μ => bmTy μ m x.d
    let xs ← evs es ρ
    modM fun μ => bmD μ m x.d xs
  | .om m o es, ρ => do
    let x ← ev o ρ
    let (C, _, _) ← getM fun μ => getF μ x.d
    match c.meth C m with
    | some g => do
      let xs ← evs es ρ
      c.call g (x.d :: xs)
    | none => stuck
  | .lc elt tg it ifs, ρ => do
    let i ← evI it ρ
    if i.xs.length ≤ lineN then do
      let ys ← mapIt i.w (fun x => do
        let ρ' ← ofO (assignT (wipeD ρ (ownT tg)) tg x)
        let p ← evT ifs ρ'
        if p then do
          let y ← ev elt ρ'
          pure (some y.d)
        else pure none) i.xs
      pure (.fl ys)
    else stuck
  | .lc2 elt tg it tg2 it2 ifs2, ρ => do
    let i ← evI it ρ
    let yss ← mapIt i.w (fun x => do
      let ρ' ← ofO (assignT (wipeD (wipeD ρ (ownT tg2)) (ownT tg)) tg x)
      let j ← evI it2 ρ'
      let ys ← mapIt j.w (fun x => do
        let ρ'' ← ofO (assignT ρ' tg2 x)
        let p ← evT ifs2 ρ''
        if p then do
          let y ← ev elt ρ''
          pure (some y.d)
        else pure none) j.xs
      pure (some (.lst ys))) i.xs
    ofO ((unlists yss).bind fun ys => if ys.length ≤ lineN then some (.fl ys) else none)
  | .dc _ _ _ _, _ => stuck
  | .fstr _, _ => stuck
  | .irange1 _, _ => stuck
  | .irange2 _ _, _ => stuck
  | .izip _ _, _ => stuck
  | .ienum _, _ => stuck
def evs : List ME → List (Option D) → M (List D)
  | [], _ => pure []
  | .star e :: es, ρ => do
    let x ← ev e ρ
    let xs ← getM fun μ => seqOf μ x.d
    let ys ← evs es ρ
    pure (xs ++ ys)
  | e :: es, ρ => do
    let x ← ev e ρ
    let xs ← evs es ρ
    pure (x.d :: xs)
def evp : ME → List (Option D) → M (Option Int)
  | .absent, _ => pure none
  | .star e, ρ => do
    let x ← ev e ρ
    match x.d with | .int i => pure (some i) | _ => stuck
  | _, _ => stuck
/-- the tests of a comprehension: at most one -/
def evT : List ME → List (Option D) → M Bool
  | [], _ => pure true
  | e :: es, ρ => do
    let x ← ev e ρ
    let p ← getM fun μ => truthD μ x.d
    match es with
    | [] => pure p
    | _ => stuck
def evI : ME → List (Option D) → M Itm
  | .irange1 a, ρ => do
    let x ← ev a ρ
    match x.d with
    | .int n => if -(2 ^ 62) ≤ n ∧ n ≤ lineN then pure ⟨(List.range n.toNat).map fun i => .int (i : Nat), []⟩ else stuck
    | _ => stuck
  | .irange2 a b, ρ => do
    let x ← ev a ρ
    let y ← ev b ρ
    match x.d, y.d with
    | .int m, .int n => if -(2 ^ 62) ≤ m ∧ m < 2 ^ 62 ∧ -(2 ^ 62) ≤ n ∧ n < 2 ^ 62 ∧ n - m ≤ lineN then pure ⟨(List.range (n - m).toNat).map fun i => .int (m + (i : Nat)), []⟩ else stuck
    | _, _ => stuck
  | .izip a b, ρ => do
    let x ← ev a ρ
    let y ← ev b ρ
    getM fun μ => (zipOf μ x.d y.d).bind fun p => some ⟨(p.1.zip p.2).map fun p => .tup [p.1, p.2], watchOf μ x.d ++ watchOf μ y.d⟩
  | .ienum a, ρ => do
    let x ← ev a ρ
    getM fun μ => (listOf μ x.d).bind fun xs => some ⟨xs.zipIdx.map fun p => .tup [.int (p.2 : Nat), p.1], watchOf μ x.d⟩
  | .iter e, ρ => do
    let x ← ev e ρ
    getM fun μ => (itemsOf μ x.d).bind fun xs => some ⟨xs, watchOf μ x.d⟩
  | _, _ => stuck
end

inductive Flow where
  | nx | brk | cont | ret (r : ER) | exc (C : Nat) (vs : List D)
/-- an expression within a statement: an exception ends the statement, the slots as they are -/
def tryE {α : Type} (ρ : List (Option D)) (m : M α) (k : α → M (Flow × List (Option D))) : M (Flow × List (Option D)) := fun μ => match m μ with
  | .stuck => .stuck
  | .exc C vs μ' => .ok (.exc C vs, ρ) μ'
  | .ok a μ' => k a μ'
/-- the cells are let go that nobody names any more -/
def okUp (n : Nat) (μ0 μ1 : List Cell) : Bool := ((List.range n).all fun i => decide (μ1[i]? = μ0[i]?) || match μ1[i]? with | some c => closedC n c | none => true)
def finish (μ0 : List Cell) (r : ER) (μ1 : List Cell) : R ER :=
  let n := μ0.length
  if μ1.length = n then .ok r μ1 else
  match r with
  | .v (.cell k) => match μ1[k]? with
    | some (.lst xs) => if n ≤ k ∧ closeds n xs ∧ okUp n μ0 μ1 then .ok (.fl xs) (μ1.take n) else .ok r μ1
    | some (.dct ks xs) => if n ≤ k ∧ closeds n xs ∧ okUp n μ0 μ1 then .ok (.fd ks xs) (μ1.take n) else .ok r μ1
    | _ => .ok r μ1
  | _ => if closed n r.d ∧ okUp n μ0 μ1 then .ok r (μ1.take n) else .ok r μ1
def celled (r : ER) (cellify : Bool) : M D := fun μ => match r, cellify with
  | .fl xs, true => .ok (.cell μ.length) (μ ++ [.lst xs])
  | .fd ks vs, true => .ok (.cell μ.length) (μ ++ [.dct ks vs])
  | .fo C ns vs, true => .ok (.cell μ.length) (μ ++ [.inst C ns vs])
  | .v d, _ => .ok d μ
  | r, false => .ok r.d μ
def cellDct (μ : List Cell) (o : D) : Option (Nat × List D × List D) := match o with
  | .cell n => match μ[n]? with | some (.dct ks vs) => some (n, ks, vs) | _ => none
  | _ => none
/-- the dict with k at x -/
def putD (k x : D) (ks vs : List D) : List D × List D := if ks.contains k then (ks, List.zipWith (fun k' v' => if k' = k then x else v') ks vs) else (ks ++ [k], vs ++ [x])
def setixD (μ : List Cell) (o i x : D) : Option (Unit × List Cell) := match cellL μ o with
  | some (n, xs) => (asInt i).bind fun j => (ixN xs.length j).bind fun k => some ((), μ.set n (.lst (xs.set k x)))
  | none => (cellDct μ o).bind fun c => if (asKey i).isSome && c.2.1.all (fun d => (asKey d).isSome) && decide (c.2.1.length < lineN) then some ((), μ.set c.1 (.dct (putD i x c.2.1 c.2.2).1 (putD i x c.2.1 c.2.2).2)) else none
def setF (f : Str) (x : D) : List Str → List D → List Str × List D
  | n :: ns, v :: vs => if n = f then (n :: ns, x :: vs) else let r := setF f x ns vs; (n :: r.1, v :: r.2)
  | _, _ => ([f], [x])
def setattrD (μ : List Cell) (o : D) (f : Str) (x : D) : Option (Unit × List Cell) := match o with
  | .cell n => match μ[n]? with
    | some (.inst C ns vs) => if ns.length < 1000 ∧ ns.length = vs.length then some ((), μ.set n (.inst C (setF f x ns vs).1 (setF f x ns vs).2)) else none
    | _ => none
  | _ => none
/-- behind a turn of a loop -/
def turnF (k : List (Option D) → M (Flow × List (Option D))) : Flow × List (Option D) → M (Flow × List (Option D)) := fun p => match p with
  | (.nx, ρ') => k ρ'
  | (.cont, ρ') => k ρ'
  | (.brk, ρ') => pure (.nx, ρ')
  | (f, ρ') => pure (f, ρ')
/-- behind a statement -/
def nextF (k : List (Option D) → M (Flow × List (Option D))) : Flow × List (Option D) → M (Flow × List (Option D)) := fun p => match p with
  | (.nx, ρ') => k ρ'
  | (f, ρ') => pure (f, ρ')
def augD (op : Operator) (x y : D) : Option D := match x, y with
  | .int a, .int b => match op with
    | .Add => some (.int (a + b))
    | .Sub => some (.int (a - b))
    | _ => none
  | _, _ => none
def forIt (w : List (Nat × Cell)) (t : MT) (body : List (Option D) → M (Flow × List (Option D))) : List D → List (Option D) → M (Flow × List (Option D))
  | [], ρ => fun μ => if still w μ then .ok (.nx, ρ) μ else .stuck
  | x :: xs, ρ => fun μ => if still w μ then (ofO (assignT ρ t x) >>= fun ρ' => body ρ' >>= turnF fun ρ2 => forIt w t body xs ρ2) μ else .stuck
def whileIt (test : List (Option D) → M Bool) (body : List (Option D) → M (Flow × List (Option D))) : Nat → List (Option D) → M (Flow × List (Option D))
  | 0, _ => stuck
  | n + 1, ρ => tryE ρ (test ρ) fun p =>
    if p then body ρ >>= turnF fun ρ2 => whileIt test body n ρ2
    else pure (.nx, ρ)
def evB (me : ME) (ρ : List (Option D)) : M Bool := do
  let x ← ev c me ρ
  getM fun μ => truthD μ x.d
mutual
def ex : MS → List (Option D) → M (Flow × List (Option D))
  | .asg t e cl, ρ => tryE ρ (ev c e ρ) fun x => do
    let d ← celled x cl
    let ρ' ← ofO (assignT ρ t d)
    pure (.nx, ρ')
  | .par i j a b, ρ => tryE ρ (evs c [a, b] ρ) fun xs => match xs with
    | [x, y] => if i < ρ.length ∧ j < ρ.length ∧ i ≠ j then pure (.nx, (ρ.set i (some x)).set j (some y)) else stuck
    | _ => stuck
  | .setix o i e, ρ => tryE ρ (ev c e ρ) fun x => tryE ρ (ev c o ρ) fun a => tryE ρ (ev c i ρ) fun b => do
    modM fun μ => setixD μ a.d b.d x.d
    pure (.nx, ρ)
  | .setattr o f e, ρ => tryE ρ (ev c e ρ) fun x => tryE ρ (ev c o ρ) fun a => do
    modM fun μ => setattrD μ a.d f x.d
    pure (.nx, ρ)
  | .aug i op e, ρ => do
    let x ← ofO (ρ[i]?).join
    tryE ρ (ev c e ρ) fun y => do
      let d ← ofO (augD op x y.d)
      pure (.nx, ρ.set i (some d))
  | .expr e, ρ => tryE ρ (ev c e ρ) fun _ => pure (.nx, ρ)
  | .ret e, ρ => tryE ρ (ev c e ρ) fun x => pure (.ret x, ρ)
  | .ret0, ρ => pure (.ret (.v .non), ρ)
  | .ite t a b, ρ => tryE ρ (evB c t ρ) fun p => if p then exs a ρ else exs b ρ
  | .whil t b, ρ => whileIt (evB c t) (fun ρ => exs b ρ) c.fuel ρ
  | .for_ t it b, ρ => tryE ρ (evI c it ρ) fun i => forIt i.w t (fun ρ => exs b ρ) i.xs ρ
  | .brk, ρ => pure (.brk, ρ)
  | .cont, ρ => pure (.cont, ρ)
  | .pass, ρ => pure (.nx, ρ)
  | .raise _ _, _ => stuck
def exs : List MS → List (Option D) → M (Flow × List (Option D))
  | [], ρ => pure (.nx, ρ)
  | s :: ss, ρ => ex s ρ >>= nextF fun ρ' => exs ss ρ'
end

/-! ### defs -/
structure FD where
  ps : List Str
  ns : List Str
  body : List MS
  dflt : List D := []
def start0 (f : FD) (xs : List D) : List (Option D) := xs.map some ++ List.replicate (f.ns.length - xs.length) none
structure Pg where
  fuel : Nat
  fn : Nat → Option FD
  meth : Nat → Str → Option Nat
  fld : Nat → Str → Option Nat
def runF (P : Pg) : Nat → Nat → List D → M ER
  | 0, _, _ => stuck
  | n + 1, f, xs => fun μ => match P.fn f with
    | none => .stuck
    | some fd => let args := xs ++ fd.dflt.drop (fd.dflt.length - (fd.ps.length - xs.length))
      if args.length = fd.ps.length then
      match exs ⟨P.fuel, runF P n, fun _ _ => stuck, P.meth, P.fld⟩ fd.body (start0 fd args) μ with
      | .ok (.ret r, _) μ1 => finish μ r μ1
      | .ok (.nx, _) μ1 => finish μ (.v .non) μ1
      | .ok (.exc C vs, _) μ1 => .exc C vs μ1
      | .ok _ _ => .stuck
      | .exc _ _ _ => .stuck
      | .stuck => .stuck
      else .stuck
end RL

set_option Elab.async false
set_option linter.all false
set_option maxRecDepth 100000
set_option autoImplicit false
namespace RL
open PySem L2

abbrev EnvD := List (Option D)
/-- what an exception holds -/
def XRep (g : G0) (W : Wd) (H : Hp) (C : Nat) (vs : List D) (dd : Option Addr) : Prop := match vs with
  | [] => dd = none
  | d :: _ => ∃ a v, dd = some a ∧ H a = some (.xd [(g.xf C, v)]) ∧ Rep g W d v
/-- from the world W, H: what the result asks -/
def Post {α β : Type} (g : G0) (wx : WX) (W : Wd) (σ : L2.St) (H : Hp) (Rl : Wd → Hp → α → β → Prop) (r : R α) (Q : β → Hp → Prop) : Prop := match r with
  | .stuck => False
  | .ok a μ' => ∀ W' b H', Step W H W' H' → Sim g W' μ' H' → Rl W' H' a b → Q b H'
  | .exc C vs μ' => ∀ W' H' dd, Step W H W' H' → Sim g W' μ' H' → XRep g W' H' C vs dd → wx (.ref (g.cls C)) dd σ H'
def RepR (g : G0) (H0 : Hp) (W : Wd) (H : Hp) (r : ER) (v : V) : Prop := match r with
  | .v d => Rep g W d v
  | .fl xs => ∃ a vs, v = .ref a ∧ H a = some (.lst vs) ∧ H0 a = none ∧ W.F a = none ∧ a ∉ W.as ∧ Reps g W xs vs
  | .fd ks xs => ∃ a vs, v = .ref a ∧ DRep H a ks vs ∧ H0 a = none ∧ W.F a = none ∧ a ∉ W.as ∧ Reps g W xs vs
  | .fo C ns xs => ∃ a dx vs, v = .ref a ∧ H a = some (.ins (g.cls C) dx (ns.zip vs)) ∧ H dx = some (.own a) ∧ ns.length = vs.length ∧ H0 a = none ∧ H0 dx = none ∧ W.F a = none ∧ W.F dx = none ∧ a ∉ W.as ∧ dx ∉ W.as ∧ Reps g W xs vs
def tE (g : G0) (wx : WX) (f : EnvD → M ER) : TE := fun σ H Q => ∃ W ρ μ, Sim g W μ H ∧ EnvR g W ρ σ ∧ Post g wx W σ H (RepR g H) (f ρ μ) Q
def tV (g : G0) (wx : WX) (f : EnvD → M ER) : TE := fun σ H Q => ∃ W ρ μ, Sim g W μ H ∧ EnvR g W ρ σ ∧ Post g wx W σ H (fun W' _ r v => Rep g W' r.d v) (f ρ μ) Q
def tT (g : G0) (wx : WX) (f : EnvD → M Bool) : TT := fun σ H Q => ∃ W ρ μ, Sim g W μ H ∧ EnvR g W ρ σ ∧ Post g wx W σ H (fun _ _ a b => a = b) (f ρ μ) Q
def tAs (g : G0) (wx : WX) (f : EnvD → M (List D)) : TA := fun σ H Q => ∃ W ρ μ, Sim g W μ H ∧ EnvR g W ρ σ ∧ Post g wx W σ H (fun W' _ r vs => Reps g W' r vs) (f ρ μ) Q

section
variable {X : Cx} {e : Expr} {es : List Expr} {t t' : TE}
theorem PE.mono (h : PE X e t) (m : ∀ σ H Q, t' σ H Q → t σ H Q) : PE X e t' := ⟨fun pins s σ H Q I hw => h.run pins s σ H Q I (m _ _ _ hw)⟩
theorem PT.mono {t t' : TT} (h : PT X e t) (m : ∀ σ H Q, t' σ H Q → t σ H Q) : PT X e t' := ⟨fun pins s σ H Q I hw => h.run pins s σ H Q I (m _ _ _ hw)⟩
theorem PW.mono {t t' : TT} (h : PW X e t) (m : ∀ σ H Q, t' σ H Q → t σ H Q) : PW X e t' := ⟨fun wh pins s σ H Q I hw => h.run wh pins s σ H Q I (m _ _ _ hw)⟩
theorem PA.mono {t t' : TA} (h : PA X es t) (m : ∀ σ H Q, t' σ H Q → t σ H Q) : PA X es t' := ⟨fun p pins s σ H Q I hw => h.run p pins s σ H Q I (m _ _ _ hw)⟩
theorem PS.mono {st : Stmt} {t t' : TS} (h : PS X st t) (m : ∀ Dn σ H, t' Dn σ H → t Dn σ H) : PS X st t' := ⟨fun pins s σ H Dn I hw => h.run pins s σ H Dn I (m _ _ _ hw)⟩
theorem PSs.mono {st : List Stmt} {t t' : TS} (h : PSs X st t) (m : ∀ Dn σ H, t' Dn σ H → t Dn σ H) : PSs X st t' := ⟨fun pins s σ H Dn I hw => h.run pins s σ H Dn I (m _ _ _ hw)⟩
/-- the value may be locked -/
def tLk (t : TE) : TE := fun σ H Q => t σ H fun v H' => Q v H' ∨ ∃ d u, H' d = some u ∧ Mut (some u) ∧ ∀ od, Q v (upd H' d (.frz od u))
theorem PE.lk (h : PE X e t) : PE X e (tLk t) := ⟨fun pins s σ H Q I hw => by
  refine thn (h.run pins s σ H _ I hw) fun v s1 ⟨x, H1, I1, r1, q1⟩ => ?_
  rcases q1 with q | ⟨d, u, hd, mu, q⟩
  · exact ⟨x, H1, I1, r1, q⟩
  · obtain ⟨od, I2⟩ := I1.lock hd mu
    exact ⟨x, _, I2, r1, q od⟩⟩
end

section
variable {g : G0} {wx : WX} {W W0 W1 : Wd} {H H0 H1 : Hp} {μ : List Cell} {ρ : EnvD} {σ : L2.St}
theorem Reps.leW (l : WLe W W1) {ds : List D} {vs : List V} (h : Reps g W ds vs) : Reps g W1 ds vs := Reps.le l ds vs h
theorem Rep.leW (l : WLe W W1) {d : D} {v : V} (h : Rep g W d v) : Rep g W1 d v := Rep.le l d v h
theorem Step.back (st : Step W0 H0 W H) {a : Addr} (h : H a = none) : H0 a = none := by
  cases e : H0 a with
  | none => rfl
  | some o =>
    obtain ⟨o', q⟩ := st.alive a o e
    rw [h] at q; cases q
theorem RepR.back (st : Step W0 H0 W H) {r : ER} {v : V} (h : RepR g H W1 H1 r v) : RepR g H0 W1 H1 r v := by
  cases r with
  | v d => exact h
  | fl xs => obtain ⟨a, vs, e, q, n, r⟩ := h; exact ⟨a, vs, e, q, st.back n, r⟩
  | fd ks xs => obtain ⟨a, vs, e, q, n, r⟩ := h; exact ⟨a, vs, e, q, st.back n, r⟩
  | fo C ns xs => obtain ⟨a, dx, vs, e, q, q2, l, n, n2, r⟩ := h; exact ⟨a, dx, vs, e, q, q2, l, st.back n, st.back n2, r⟩
/-- freezing what nobody else knows -/
theorem RepR.frozen {Q : V → Hp → Prop} (st : Step W0 H0 W H) (s : Sim g W μ H) {r : ER} {v : V} (h : RepR g H0 W H r v)
    (q : ∀ W' H', Step W0 H0 W' H' → Sim g W' μ H' → WLe W W' → Rep g W' r.d v → Q v H') : Q v H ∨ ∃ d u, H d = some u ∧ Mut (some u) ∧ ∀ od, Q v (upd H d (.frz od u)) := by
  cases r with
  | v d => exact .inl (q W H st s (.refl W) h)
  | fl xs =>
    obtain ⟨a, vs, e, ha, h0, hF, hA, hr⟩ := h
    obtain ⟨le, st', s'⟩ := s.freeze st h0 (.inl ⟨rfl, ha⟩) hF hA
    exact .inl (q _ H st' s' le ⟨a, vs, e, upd_same, hr.leW le⟩)
  | fd ks xs =>
    obtain ⟨a, vs, e, hd, h0, hF, hA, hr⟩ := h
    have fin : ∀ u, isDict u = true → H a = some u → Mut (some u) → (∀ y, u ≠ .own y) → (∀ F : Hp, F a = some u → DRep F a ks vs) → Q v H ∨ ∃ d u, H d = some u ∧ Mut (some u) ∧ ∀ od, Q v (upd H d (.frz od u)) := fun u dd hu mu no dr => by
      refine .inr ⟨a, u, hu, mu, fun od => ?_⟩
      obtain ⟨st1, s1⟩ := s.lock (o' := .frz od u) st h0 hu no hF hA
      obtain ⟨le, st', s'⟩ := s1.freeze (u := u) st1 h0 (.inr ⟨dd, od, upd_same⟩) hF hA
      exact q _ _ st' s' le ⟨a, vs, e, dr _ upd_same, hr.leW le⟩
    rcases hd with ⟨keys, e1, l, hu⟩ | ⟨keys, n, e1, l, hu⟩
    · exact fin _ rfl hu trivial (fun _ => nofun) fun F hF => .inl ⟨keys, e1, l, hF⟩
    · exact fin _ rfl hu trivial (fun _ => nofun) fun F hF => .inr ⟨keys, n, e1, l, hF⟩
  | fo C ns xs =>
    obtain ⟨a, dx, vs, e, ha, hdx, hl, h0, h0d, hF, hFd, hA, hAd, hr⟩ := h
    obtain ⟨le1, st1, s1⟩ := s.freeze st h0 (.inl ⟨rfl, ha⟩) hF hA
    have ne : dx ≠ a := fun z => by rw [z, ha] at hdx; cases hdx
    obtain ⟨le2, st2, s2⟩ := s1.freeze st1 h0d (.inl ⟨rfl, hdx⟩) (by show upd W.F a _ dx = none; rw [upd_ne ne]; exact hFd) hAd
    exact .inl (q _ H st2 s2 (le1.trans le2) ⟨a, dx, vs, e, by show upd (upd W.F a _) dx _ a = _; rw [upd_ne ne.symm, upd_same], upd_same, hl, hr.leW (le1.trans le2)⟩)
end
section
variable {X : Cx} {e : Expr} {g : G0} {wx : WX} {f : EnvD → M ER}
theorem PE.val (h : PE X e (tE g wx f)) : PE X e (tV g wx f) := by
  refine PE.mono (PE.lk h) fun σ H Q hw => ?_
  obtain ⟨W, ρ, μ, s, en, hp⟩ := hw
  refine ⟨W, ρ, μ, s, en, ?_⟩
  cases hr : f ρ μ with
  | stuck => rw [hr] at hp; exact hp
  | exc C vs μ' => rw [hr] at hp; exact hp
  | ok r μ' =>
    rw [hr] at hp
    intro W' v H' st s' rr
    exact rr.frozen st s' fun W2 H2 st2 s2 le rep => hp W2 v H2 st2 s2 rep
end

/-! ### sequencing -/
section
variable {g : G0} {wx : WX} {W W0 : Wd} {H H0 : Hp} {μ : List Cell} {ρ : EnvD} {σ : L2.St} {α β : Type} {Rl : Wd → Hp → α → β → Prop} {Q : β → Hp → Prop}
theorem post_exc {C : Nat} {vs : List D} {μ' : List Cell} {γ δ : Type} {Rl' : Wd → Hp → γ → δ → Prop} {K : δ → Hp → Prop} (st0 : Step W0 H0 W H)
    (hp : Post g wx W0 σ H0 Rl (.exc C vs μ' : R α) Q) : Post g wx W σ H Rl' (.exc C vs μ' : R γ) K := fun W' H' dd st s x => hp W' H' dd (st0.trans st) s x
theorem tV_bind {f : EnvD → M ER} {k : ER → M α} {K : V → Hp → Prop} (s : Sim g W μ H) (en : EnvR g W ρ σ) (st0 : Step W0 H0 W H)
    (hp : Post g wx W0 σ H0 Rl ((f ρ >>= k) μ) Q)
    (h : ∀ W1 x H1 r μ1, Step W H W1 H1 → Step W0 H0 W1 H1 → Sim g W1 μ1 H1 → EnvR g W1 ρ σ → Rep g W1 r.d x → Post g wx W0 σ H0 Rl (k r μ1) Q → K x H1) : tV g wx f σ H K := by
  refine ⟨W, ρ, μ, s, en, ?_⟩
  have hp : Post g wx W0 σ H0 Rl (M.bind (f ρ) k μ) Q := hp
  unfold M.bind at hp
  cases hr : f ρ μ with
  | stuck => rw [hr] at hp; exact hp
  | exc C vs μ' => rw [hr] at hp; exact post_exc st0 hp
  | ok r μ' =>
    rw [hr] at hp
    intro W1 x H1 st1 s1 rep
    exact h W1 x H1 r μ' st1 (st0.trans st1) s1 (en.le st1.le) rep hp
theorem tT_bind {f : EnvD → M Bool} {k : Bool → M α} {K : Bool → Hp → Prop} (s : Sim g W μ H) (en : EnvR g W ρ σ) (st0 : Step W0 H0 W H)
    (hp : Post g wx W0 σ H0 Rl ((f ρ >>= k) μ) Q)
    (h : ∀ W1 H1 r μ1, Step W H W1 H1 → Step W0 H0 W1 H1 → Sim g W1 μ1 H1 → EnvR g W1 ρ σ → Post g wx W0 σ H0 Rl (k r μ1) Q → K r H1) : tT g wx f σ H K := by
  refine ⟨W, ρ, μ, s, en, ?_⟩
  have hp : Post g wx W0 σ H0 Rl (M.bind (f ρ) k μ) Q := hp
  unfold M.bind at hp
  cases hr : f ρ μ with
  | stuck => rw [hr] at hp; exact hp
  | exc C vs μ' => rw [hr] at hp; exact post_exc st0 hp
  | ok r μ' =>
    rw [hr] at hp
    intro W1 x H1 st1 s1 rep
    subst rep
    exact h W1 H1 r μ' st1 (st0.trans st1) s1 (en.le st1.le) hp
theorem tAs_bind {f : EnvD → M (List D)} {k : List D → M α} {K : List V → Hp → Prop} (s : Sim g W μ H) (en : EnvR g W ρ σ) (st0 : Step W0 H0 W H)
    (hp : Post g wx W0 σ H0 Rl ((f ρ >>= k) μ) Q)
    (h : ∀ W1 x H1 r μ1, Step W H W1 H1 → Step W0 H0 W1 H1 → Sim g W1 μ1 H1 → EnvR g W1 ρ σ → Reps g W1 r x → Post g wx W0 σ H0 Rl (k r μ1) Q → K x H1) : tAs g wx f σ H K := by
  refine ⟨W, ρ, μ, s, en, ?_⟩
  have hp : Post g wx W0 σ H0 Rl (M.bind (f ρ) k μ) Q := hp
  unfold M.bind at hp
  cases hr : f ρ μ with
  | stuck => rw [hr] at hp; exact hp
  | exc C vs μ' => rw [hr] at hp; exact post_exc st0 hp
  | ok r μ' =>
    rw [hr] at hp
    intro W1 x H1 st1 s1 rep
    exact h W1 x H1 r μ' st1 (st0.trans st1) s1 (en.le st1.le) rep hp
/-- an operation on the values, where the machine's cells stay -/
theorem post_get {f : List Cell → Option α} {K : Prop} (hp : Post g wx W0 σ H0 Rl (getM f μ) Q) (h : ∀ a, f μ = some a → (∀ W' b H', Step W0 H0 W' H' → Sim g W' μ H' → Rl W' H' a b → Q b H') → K) : K := by
  unfold getM at hp
  cases e : f μ with
  | none => rw [e] at hp; exact hp.elim
  | some a => rw [e] at hp; exact h a e hp
end

/-! ### operations by value: what is to be shown of each -/
/-- two values to one -/
def rP2 (g : G0) (F : List Cell → D → D → Option ER) : R2 := fun x y H Q => ∃ W μ a b r, Sim g W μ H ∧ Rep g W a x ∧ Rep g W b y ∧ F μ a b = some r ∧ ∀ W' v H', Step W H W' H' → Sim g W' μ H' → RepR g H W' H' r v → Q v H'
/-- several values to one -/
def rPn (g : G0) (F : List Cell → List D → Option ER) : List V → Hp → VK → Prop := fun xs H Q => ∃ W μ as r, Sim g W μ H ∧ Reps g W as xs ∧ F μ as = some r ∧ ∀ W' v H', Step W H W' H' → Sim g W' μ H' → RepR g H W' H' r v → Q v H'
end RL

set_option Elab.async false
set_option linter.all false
set_option maxRecDepth 100000
set_option autoImplicit false
set_option maxHeartbeats 1000000
namespace RL
open PySem PySem.Spec PyProof.Rows L2

theorem lineN_eq : lineN = sizeLine := by rw [sizeLine_eq]; rfl
section
variable {g : G0} {W : Wd} {μ : List Cell} {H : Hp} {d : D} {x : V}
theorem cell_rep {n : Nat} {c : Cell} (s : Sim g W μ H) (r : Rep g W (.cell n) x) (e : μ[n]? = some c) : ∃ a, x = .ref a ∧ W.as[n]? = some a ∧ CRep g W H a c := by
  obtain ⟨a, ex, ha⟩ := r
  obtain ⟨a', ha', cr⟩ := s.cl n c e
  rw [ha] at ha'; cases ha'
  exact ⟨a, ex, ha, cr⟩
theorem listOf_ok {xs : List D} (s : Sim g W μ H) (r : Rep g W d x) (e : listOf μ d = some xs) : ∃ a vs, x = .ref a ∧ Rd H a (.lst vs) ∧ Reps g W xs vs := by
  cases d with
  | lst ys =>
    obtain rfl : ys = xs := Option.some.inj e
    obtain ⟨a, vs, ex, ha, rr⟩ := r
    exact ⟨a, vs, ex, s.fz _ _ ha, rr⟩
  | cell n =>
    have e : (match μ[n]? with | some (.lst xs) => some xs | _ => none) = some xs := e
    cases hc : μ[n]? with
    | none => rw [hc] at e; cases e
    | some c =>
      rw [hc] at e
      cases c with
      | lst ys =>
        obtain rfl : ys = xs := Option.some.inj e
        obtain ⟨a, ex, _, vs, hv, rr⟩ := cell_rep s r hc
        exact ⟨a, vs, ex, .inl hv, rr⟩
      | dct _ _ => cases e
      | inst _ _ _ => cases e
  | _ => cases e
theorem ints_reps {W : Wd} : ∀ (ns : List Int), Reps g W (ns.map D.int) (ns.map V.int)
  | [] => Reps.nil
  | n :: ns => Reps.cons rfl (ints_reps ns)
theorem Sim.sqL (s : Sim g W μ H) {a : Addr} {vs : List V} (h : FqL g.K W.F a vs) : SqL g.K H a vs := by
  rcases h with h | h
  · exact .inl (s.fz _ _ h)
  · exact .inr h
theorem seqOf_ok {xs : List D} (s : Sim g W μ H) (r : Rep g W d x) (e : seqOf μ d = some xs) : ∃ a vs, x = .ref a ∧ (SqL g.K H a vs ∨ SqT g.K H a vs) ∧ Reps g W xs vs := by
  cases d with
  | tup ys =>
    obtain rfl : ys = xs := Option.some.inj e
    obtain ⟨a, vs, ex, ha, rr⟩ := r
    exact ⟨a, vs, ex, .inr (s.sqT ha), rr⟩
  | lst ys =>
    obtain ⟨a, vs, ex, ha, rr⟩ := listOf_ok s r (show listOf μ (.lst ys) = some xs from e)
    exact ⟨a, vs, ex, .inl (.inl ha), rr⟩
  | kl ns =>
    obtain rfl : ns.map D.int = xs := Option.some.inj e
    obtain ⟨a, ex, ha⟩ := r
    exact ⟨a, _, ex, .inl (s.sqL ha), ints_reps ns⟩
  | cell n =>
    obtain ⟨a, vs, ex, ha, rr⟩ := listOf_ok s r (show listOf μ (.cell n) = some xs from e)
    exact ⟨a, vs, ex, .inl (.inl ha), rr⟩
  | _ => cases e
theorem fin_int {k : Int} {Q : VK} (sm : Sim g W μ H) (q : ∀ W' v H', Step W H W' H' → Sim g W' μ H' → RepR g H W' H' (.v (.int k)) v → Q v H') : Q (.int k) H := q W _ H (.refl W H) sm rfl
theorem fin_str {k : Str} {Q : VK} (sm : Sim g W μ H) (q : ∀ W' v H', Step W H W' H' → Sim g W' μ H' → RepR g H W' H' (.v (.str k)) v → Q v H') : Q (.str k) H := q W _ H (.refl W H) sm rfl
theorem fin_bl {k : Bool} {Q : VK} (sm : Sim g W μ H) (q : ∀ W' v H', Step W H W' H' → Sim g W' μ H' → RepR g H W' H' (.v (.bl k)) v → Q v H') : Q (.bl k) H := q W _ H (.refl W H) sm rfl
theorem fin_rep {d : D} {x : V} {Q : VK} (sm : Sim g W μ H) (r : Rep g W d x) (q : ∀ W' v H', Step W H W' H' → Sim g W' μ H' → RepR g H W' H' (.v d) v → Q v H') : Q x H := q W _ H (.refl W H) sm r
theorem bl_rep (b : Bool) : Rep g W (.bl b) (.bl b) := rfl
theorem int_rep (i : Int) : Rep g W (.int i) (.int i) := rfl
theorem str_rep (i : Str) : Rep g W (.str i) (.str i) := rfl
end

section
variable {X : Cx} {g : G0}
theorem Inv.lstR {pins : List (Addr × Obj)} {σ : L2.St} {H : Hp} {s : Shared} {l : Addr} {xs : List V} (I : Inv X pins σ H s) (hH : Rd H l (.lst xs)) : xs.length ≤ sizeLine ∧ ∃ (its : List Value) (n : Nat), Vals xs its ∧ xs.length = its.length ∧ s.heap.get? l = some { cls := .type "list", data := .seq its.toArray n } := by
  obtain ⟨z, its, n, r, e⟩ := hH.ok I.hok
  exact ⟨z, its, n, r, r.length, e⟩
def rCatR : R2 := fun x y H Q => ∃ l b xs zs, x = .ref l ∧ y = .ref b ∧ Rd H l (.lst xs) ∧ Rd H b (.lst zs) ∧ xs.length + zs.length ≤ sizeLine ∧ ∀ p, H p = none → Q (.ref p) (upd H p (.lst (xs ++ zs)))
theorem op_catR : OpR X (binaryOp .Add) rCatR := by
  intro pins s σ H x y v u Q I rx ry h
  obtain ⟨l, b, xs, zs, rfl, rfl, hH, hB, hz, q⟩ := h
  cases rx
  cases ry
  obtain ⟨z, its, n, r, hl, e⟩ := Inv.lstR I hH
  obtain ⟨z2, its2, n2, r2, hl2, e2⟩ := Inv.lstR I hB
  refine PySem.P.add_list e e2 ?_ (by rw [List.size_toArray, List.size_toArray]; omega)
  have ea : its.toArray ++ its2.toArray = (its ++ its2).toArray := by simp
  rw [ea]
  exact ⟨.ref _, _, I.lnew (t' := s.toks) (r.append r2) (by rw [List.length_append]; omega), rfl, q _ I.fresh⟩
def rRepR : R2 := fun x y H Q => ∃ l k xs, x = .ref l ∧ y = .int k ∧ Rd H l (.lst xs) ∧ -(2 ^ 63) ≤ k ∧ k < 2 ^ 63 ∧ xs.length * k.toNat ≤ sizeLine ∧
  ∀ p, H p = none → Q (.ref p) (upd H p (.lst (List.replicate k.toNat xs).flatten))
theorem op_repR : OpR X (binaryOp .Mult) rRepR := by
  intro pins s σ H x y v u Q I rx ry h
  obtain ⟨l, k, xs, rfl, rfl, hH, h1, h2, hz, q⟩ := h
  cases rx
  obtain ⟨t, rfl⟩ := ry
  obtain ⟨z, its, n, r, hl, e⟩ := Inv.lstR I hH
  have hlen : its.toArray.size * k.toNat ≤ sizeLine := by rw [List.size_toArray, ← hl]; exact hz
  have hcap : ¬ its.toArray.size * k.toNat > (2 ^ 63 - 1) / 8 := by
    have : (sizeLine : Nat) ≤ (2 ^ 63 - 1) / 8 := by decide
    omega
  have hfit : ¬ (!Builtin.List.listFitsIndex k) = true := by
    rw [fitsIndex_both h1 h2]
    exact Bool.false_ne_true
  have hlong : ¬ Builtin.List.listTooLong (its.toArray.size * k.toNat) = true := by
    rw [notLongL hlen]
    exact Bool.false_ne_true
  have hnew : List.foldl (fun x1 x2 => x1 ++ x2) #[] (List.replicate (if its.toArray.isEmpty = true then 0 else k.toNat) its.toArray) = (List.replicate k.toNat its).flatten.toArray := by
    have f0 : ∀ m : Nat, List.foldl (fun x1 x2 => x1 ++ x2) #[] (List.replicate m its.toArray) = (List.replicate m its).flatten.toArray := fun m => by
      have := foldl_rep its m []
      rw [List.nil_append] at this
      exact this
    rw [f0]
    cases its with
    | nil => simp
    | cons a r' => rw [if_neg (by simp)]
  refine wpAny_binaryOp_repeat_ref (T := "list") (U := "int") (by decide) ⟨_, e, rfl⟩ (fun s' => typeIs_int s' k t) noFill_list_mul F.fills_int_mul F.slot_int_rmul repeat_list F.slot_int_index.lookup
    (call_meets F.slot_int_rmul (typeIs_int s k t) F.entry_int_rmul (F.args_int_rmul_2 _ _) (int___rmul___int_list k t l its.toArray n)
      ⟨e, rfl, ⟨_, e, rfl⟩, call_meets F.slot_list_mul ⟨_, e, rfl⟩ F.entry_list_mul (F.args_list_mul_2 _ _) (AutoListH.list___mul___list_int_3 l its.toArray n k t hfit hcap hlong) ⟨e, ?_⟩⟩)
  rw [hnew]
  exact ⟨.ref _, _, I.lnew (t' := s.toks) (r.rep k.toNat) (by rw [PyProof.Rows.lm_len_rep_flat, Nat.mul_comm]; exact hz), rfl, q _ I.fresh⟩

/-- a new tuple is frozen -/
theorem new_tup {W : Wd} {μ : List Cell} {H : Hp} {Q : VK} {ds : List D} {vs : List V} (s : Sim g W μ H) (rr : Reps g W ds vs)
    (q : ∀ W' v H', Step W H W' H' → Sim g W' μ H' → RepR g H W' H' (.v (.tup ds)) v → Q v H') : ∀ p, H p = none → Q (.ref p) (upd H p (.tup vs)) := fun p np => by
  obtain ⟨st1, s1⟩ := s.garb np (.tup vs)
  obtain ⟨le, st2, s2⟩ := s1.freeze (a := p) (u := .tup vs) st1 np (.inl ⟨rfl, upd_same⟩) (s.fzN np) (s.asN np)
  exact q _ (.ref p) _ st2 s2 ⟨p, vs, rfl, .inl upd_same, rr.leW le⟩
/-- a new list is loose -/
theorem new_lst {W : Wd} {μ : List Cell} {H : Hp} {Q : VK} {ds : List D} {vs : List V} (s : Sim g W μ H) (rr : Reps g W ds vs)
    (q : ∀ W' v H', Step W H W' H' → Sim g W' μ H' → RepR g H W' H' (.fl ds) v → Q v H') : ∀ p, H p = none → Q (.ref p) (upd H p (.lst vs)) := fun p np => by
  obtain ⟨st1, s1⟩ := s.garb np (.lst vs)
  exact q _ (.ref p) _ st1 s1 ⟨p, vs, rfl, upd_same, np, s.fzN np, s.asN np, rr⟩
theorem Reps.rep {W : Wd} {ds : List D} {vs : List V} (h : Reps g W ds vs) : ∀ k : Nat, Reps g W (List.replicate k ds).flatten (List.replicate k vs).flatten
  | 0 => by simp [Reps.nil]
  | k + 1 => by
    rw [List.replicate_succ, List.replicate_succ, List.flatten_cons, List.flatten_cons]
    exact h.append (Reps.rep h k)

theorem opAdd (hK : X.K = g.K) : OpR X (binaryOp .Add) (rP2 g fun μ a b => addD μ a b) := by
  intro pins s σ H x y v u Q I rx ry h
  obtain ⟨W, μ, a, b, r, sm, ra, rb, e, q⟩ := h
  have cat : (listOf μ a).bind (fun xs => (listOf μ b).bind fun ys => if xs.length + ys.length ≤ lineN then some (.fl (xs ++ ys)) else none) = some r → wpAny (model X.prog X.w) X.A (binaryOp .Add v u) (EP X pins σ Q) X.xe s := fun e => by
    cases ha : listOf μ a with
    | none => rw [ha] at e; cases e
    | some xs =>
      cases hb : listOf μ b with
      | none => rw [ha, hb] at e; cases e
      | some ys =>
        rw [ha, hb] at e
        have e : (if xs.length + ys.length ≤ lineN then some (ER.fl (xs ++ ys)) else none) = some r := e
        split at e
        · rename_i hz
          cases e
          obtain ⟨p, vs, ex, hp, rp⟩ := listOf_ok sm ra ha
          obtain ⟨p2, vs2, ex2, hp2, rp2⟩ := listOf_ok sm rb hb
          rw [lineN_eq, rp.len, rp2.len] at hz
          exact op_catR pins s σ H x y v u Q I rx ry ⟨p, p2, vs, vs2, ex, ex2, hp, hp2, hz, new_lst sm (rp.append rp2) q⟩
        · cases e
  have e : addD μ a b = some r := e
  unfold addD at e
  split at e
  · cases e; cases ra; cases rb
    exact op_add pins s σ H _ _ v u Q I rx ry ⟨_, _, rfl, rfl, fin_int sm q⟩
  · split at e
    · cases e; cases ra; cases rb
      rename_i hz
      exact op_add_str pins s σ H _ _ v u Q I rx ry ⟨_, _, rfl, rfl, by rw [← lineN_eq]; exact hz, fin_str sm q⟩
    · cases e
  · split at e
    · cases e
      rename_i hz
      obtain ⟨p, vs, ex, hp, rp⟩ := ra
      obtain ⟨p2, vs2, ex2, hp2, rp2⟩ := rb
      rw [lineN_eq, rp.len, rp2.len] at hz
      refine op_catA pins s σ H _ _ v u Q I rx ry ⟨p, p2, vs, vs2, ex, ex2, by rw [hK]; exact sm.sqT hp, by rw [hK]; exact sm.sqT hp2, hz, fun z => ?_, fun _ z => ?_, fun _ _ => new_tup sm (rp.append rp2) q⟩
      · subst z
        have := rp.len
        have : _ = [] := List.eq_nil_of_length_eq_zero this
        subst this
        exact q W _ H (.refl W H) sm ⟨p2, vs2, rfl, hp2, rp2⟩
      · subst z
        have := rp2.len
        have : _ = [] := List.eq_nil_of_length_eq_zero this
        subst this
        exact q W _ H (.refl W H) sm ⟨p, vs, rfl, hp, by simpa using rp⟩
    · cases e
  · exact cat e
/-- t * 1 is t itself -/
theorem tuple_mul1 (l : Addr) (items : Array Value) (n : Nat) (dd : Option Addr) (sl : Array (Option Value)) (u : Tok) :
    Meets (Builtin.«tuple.__mul__» ⟨[.ref l, .int 1 u], []⟩) (fun _ R s => s.heap.get? l = some { cls := .type "tuple", dict := dd, data := .seq items n, slots := sl } ∧ R (.ok (.ret (Value.ref l))) s) :=
  .of_wp fun prog w A R s h => by
    obtain ⟨hp, g, d, tk, os⟩ := s
    obtain ⟨hl, h⟩ := h
    have f1 := AutoSeq1.idx_int
    have c0 : (decide ((1 : Int) < -(2 ^ 63)) || decide ((1 : Int) ≥ 2 ^ 63)) = false := by decide
    have c1 : (items.isEmpty || (1 : Int) == 1) = true := by simp
    wp_walk using wpAny_loadPart' hl
    repeat (first
      | (refine wpAny_ite_false (decide_eq_false (by rw [c0]; exact Bool.false_ne_true)) ?_; wp_walk using wpAny_loadPart' hl)
      | (refine wpAny_ite_true (decide_eq_true (by rw [c1])) ?_; wp_walk using wpAny_loadPart' hl))
    exact ⟨_, rfl, h⟩
def rOneT (K : PySem.W.Frag) : R2 := fun x y H Q => ∃ l xs, x = .ref l ∧ y = .int 1 ∧ SqT K H l xs ∧ Q x H
theorem op_one : OpR X (binaryOp .Mult) (rOneT X.K) := by
  intro pins s σ H x y v u Q I rx ry h
  obtain ⟨l, xs, rfl, rfl, hT, q⟩ := h
  cases rx
  obtain ⟨t, rfl⟩ := ry
  obtain ⟨its, r, ⟨⟨cls, dd, data, sl⟩, ho, hc, n, hd⟩, hs⟩ := I.tuple hT
  simp only at hc hd
  subst hc hd
  exact wpAny_binaryOp_repeat_ref (T := "tuple") (U := "int") (by decide) ⟨_, ho, rfl⟩ (fun s' => typeIs_int s' 1 t) noFill_tuple_mul F.fills_int_mul F.slot_int_rmul repeat_tuple F.slot_int_index.lookup
    (call_meets F.slot_int_rmul (typeIs_int s 1 t) F.entry_int_rmul (F.args_int_rmul_2 _ _) (int_rmul_tuple 1 t l its.toArray n dd sl)
      ⟨ho, rfl, ⟨_, ho, rfl⟩, call_meets F.slot_tuple_mul ⟨_, ho, rfl⟩ F.entry_tuple_mul (F.args_tuple_mul_2 _ _) (tuple_mul1 l its.toArray n dd sl t) ⟨ho, ⟨.ref l, H, I, rfl, q⟩⟩⟩)
theorem bigI_ok {i : Int} (h : bigI i = true) : -(2 ^ 64) < i ∧ i < 2 ^ 64 := by
  unfold bigI at h
  rw [Bool.and_eq_true, decide_eq_true_eq, decide_eq_true_eq] at h
  exact h
theorem opMul (hK : X.K = g.K) : OpR X (binaryOp .Mult) (rP2 g fun μ a b => mulD μ a b) := by
  intro pins s σ H x y v u Q I rx ry h
  obtain ⟨W, μ, a, b, r, sm, ra, rb, e, q⟩ := h
  have e : mulD μ a b = some r := e
  unfold mulD at e
  split at e
  · cases ra; cases rb
    rename_i i j
    split at e
    · cases e
      rename_i hz
      unfold mulOk at hz
      rw [Bool.or_eq_true, Bool.or_eq_true, decide_eq_true_eq] at hz
      rcases hz with (hz | hz) | hz
      · exact op_mul pins s σ H _ _ v u Q I rx ry ⟨_, _, rfl, rfl, .inl (bigI_ok hz), fin_int sm q⟩
      · exact op_mul pins s σ H _ _ v u Q I rx ry ⟨_, _, rfl, rfl, .inr (bigI_ok hz), fin_int sm q⟩
      · exact op_mulW pins s σ H _ _ v u Q I rx ry ⟨_, _, rfl, rfl, hz, fin_int sm q⟩
    · cases e
  · obtain ⟨p, vs, ex, hp, rp⟩ := ra
    cases rb
    split at e
    · rename_i hk
      cases e
      subst hk
      exact op_one pins s σ H _ _ v u Q I rx ry ⟨p, vs, ex, rfl, by rw [hK]; exact sm.sqT hp, fin_rep sm (show Rep g W (.tup _) x from ⟨p, vs, ex, hp, rp⟩) q⟩
    · split at e
      · rename_i hz
        cases e
        refine op_repT pins s σ H _ _ v u Q I rx ry ⟨p, _, vs, ex, rfl, by rw [hK]; exact sm.sqT hp, fun z => hz.1 ?_, hz.2.1, hz.2.2.1, by rw [← rp.len]; exact hz.2.2.2, new_tup sm (rp.rep _) q⟩
        have := rp.len
        rw [z] at this
        exact List.eq_nil_of_length_eq_zero this
      · cases e
  · cases rb
    cases ha : listOf μ a with
    | none => rw [ha] at e; cases e
    | some xs =>
      rw [ha] at e
      have e : (if _ then some (ER.fl (List.replicate _ xs).flatten) else none) = some r := e
      split at e
      · rename_i hz
        cases e
        obtain ⟨p, vs, ex, hp, rp⟩ := listOf_ok sm ra ha
        rw [lineN_eq, rp.len] at hz
        exact op_repR pins s σ H x _ v u Q I rx ry ⟨p, _, vs, ex, rfl, hp, by omega, by omega, hz.2.2, new_lst sm (rp.rep _) q⟩
      · cases e
  · cases e
theorem opBin (hK : X.K = g.K) (op : Operator) : OpR X (binaryOp op) (rP2 g fun μ a b => binD μ op a b) := by
  cases op with
  | Add => exact opAdd hK
  | Mult => exact opMul hK
  | Sub =>
    intro pins s σ H x y v u Q I rx ry h
    obtain ⟨W, μ, a, b, r, sm, ra, rb, e, q⟩ := h
    have e : subtD a b = some r := e
    unfold subtD at e
    split at e
    · cases e; cases ra; cases rb
      exact op_sub pins s σ H _ _ v u Q I rx ry ⟨_, _, rfl, rfl, fin_int sm q⟩
    · cases e
  | FloorDiv =>
    intro pins s σ H x y v u Q I rx ry h
    obtain ⟨W, μ, a, b, r, sm, ra, rb, e, q⟩ := h
    have e : fdivD a b = some r := e
    unfold fdivD at e
    split at e
    · split at e
      · rename_i hz
        cases e; cases ra; cases rb
        exact op_fdivW pins s σ H _ _ v u Q I rx ry ⟨_, _, rfl, rfl, hz, fin_int sm q⟩
      · cases e
    · cases e
  | Mod =>
    intro pins s σ H x y v u Q I rx ry h
    obtain ⟨W, μ, a, b, r, sm, ra, rb, e, q⟩ := h
    have e : modD a b = some r := e
    unfold modD at e
    split at e
    · split at e
      · rename_i hz
        cases e; cases ra; cases rb
        exact op_mod pins s σ H _ _ v u Q I rx ry ⟨_, _, rfl, rfl, hz, fin_int sm q⟩
      · cases e
    · cases e
  | Pow =>
    intro pins s σ H x y v u Q I rx ry h
    obtain ⟨W, μ, a, b, r, sm, ra, rb, e, q⟩ := h
    have e : powD a b = some r := e
    unfold powD at e
    split at e
    · split at e
      · rename_i hz
        cases e; cases ra; cases rb
        exact op_pow pins s σ H _ _ v u Q I rx ry ⟨_, _, rfl, rfl, hz, fin_int sm q⟩
      · cases e
    · cases e
  | _ =>
    intro pins s σ H x y v u Q I rx ry h
    obtain ⟨W, μ, a, b, r, sm, ra, rb, e, q⟩ := h
    cases e
end
end RL

set_option Elab.async false
set_option linter.all false
set_option maxRecDepth 100000
set_option autoImplicit false
set_option maxHeartbeats 1000000
namespace RL
open PySem PySem.Spec PyProof.Rows L2

section
variable {g : G0} {W : Wd} {μ : List Cell} {H : Hp}
mutual
theorem rep_dp (s : Sim g W μ H) : ∀ (d : D) (x : V), plain d = true → Rep g W d x → Dp g.K H x (toPy d)
  | .non, x, _, h => by cases h; exact .non
  | .bl b, x, _, h => by cases h; exact .bl b
  | .int i, x, _, h => by cases h; exact .int i
  | .str i, x, _, h => by cases h; exact .str i
  | .tup ds, x, p, h => by
    obtain ⟨a, vs, e, q, r⟩ := h
    subst e
    exact .tup (s.sqT q) (reps_dp s ds vs p r)
  | .lst ds, x, p, h => by
    obtain ⟨a, vs, e, q, r⟩ := h
    subst e
    exact .lst (.inl (s.fz _ _ q)) (reps_dp s ds vs p r)
  | .dct _ _, _, p, _ => by cases p
  | .obj _ _ _, _, p, _ => by cases p
  | .cell _, _, p, _ => by cases p
theorem reps_dp (s : Sim g W μ H) : ∀ (ds : List D) (vs : List V), plains ds = true → Reps g W ds vs → DpAll g.K H vs (toPys ds)
  | [], vs, _, h => by cases h; exact .nil
  | d :: ds, vs, p, h => by
    obtain ⟨v, r, e, h1, h2⟩ := h
    subst e
    have p : (plain d && plains ds) = true := p
    rw [Bool.and_eq_true] at p
    exact .cons (rep_dp s d v p.1 h1) (reps_dp s ds r p.2 h2)
end
theorem flat_dp (s : Sim g W μ H) {d : D} {x : V} (p : plain (flat μ d) = true) (r : Rep g W d x) : Dp g.K H x (toPy (flat μ d)) := by
  cases d with
  | cell n =>
    cases hc : μ[n]? with
    | none =>
      have e : flat μ (.cell n) = .cell n := by simp only [flat, hc]
      rw [e] at p; cases p
    | some c =>
      cases c with
      | lst xs =>
        have e : flat μ (.cell n) = .lst xs := by simp only [flat, hc]
        rw [e] at p ⊢
        obtain ⟨a, ex, _, vs, hv, rr⟩ := cell_rep s r hc
        subst ex
        exact .lst (.inl (.inl hv)) (reps_dp s xs vs p rr)
      | dct _ _ =>
        have e : flat μ (.cell n) = .cell n := by simp only [flat, hc]
        rw [e] at p; cases p
      | inst _ _ _ =>
        have e : flat μ (.cell n) = .cell n := by simp only [flat, hc]
        rw [e] at p; cases p
  | _ => exact rep_dp s _ x p r
end

/-! ### dicts read -/
def DRd (H : Hp) (a : Addr) (ks : List D) (vs : List V) : Prop :=
  (∃ keys : List Key, ks = keys.map keyD ∧ keys.length = vs.length ∧ Rd H a (.dK (keys.zip vs))) ∨
  (∃ keys : List (List Key), keys ≠ [] ∧ ks = keys.map keysD ∧ keys.length = vs.length ∧ Rd H a (.dT (keys.zip vs)))
theorem DRd.of {H : Hp} {a : Addr} {ks : List D} {vs : List V} (h : DRep H a ks vs) : DRd H a ks vs := by
  rcases h with ⟨keys, e, l, q⟩ | ⟨keys, n, e, l, q⟩
  · exact .inl ⟨keys, e, l, .inl q⟩
  · exact .inr ⟨keys, n, e, l, .inl q⟩
section
variable {g : G0} {W : Wd} {μ : List Cell} {H : Hp} {d : D} {x : V}
theorem dctOf_ok {ks xs : List D} (s : Sim g W μ H) (r : Rep g W d x) (e : dctOf μ d = some (ks, xs)) : ∃ a vs, x = .ref a ∧ DRd H a ks vs ∧ Reps g W xs vs := by
  cases d with
  | dct ks' xs' =>
    have e : some (ks', xs') = some (ks, xs) := e
    cases e
    obtain ⟨a, vs, ex, hd, rr⟩ := r
    refine ⟨a, vs, ex, ?_, rr⟩
    rcases hd with ⟨keys, e, l, q⟩ | ⟨keys, n, e, l, q⟩
    · exact .inl ⟨keys, e, l, s.fz _ _ q⟩
    · exact .inr ⟨keys, n, e, l, s.fz _ _ q⟩
  | cell n =>
    have e : (match μ[n]? with | some (.dct ks vs) => some (ks, vs) | _ => none) = some (ks, xs) := e
    cases hc : μ[n]? with
    | none => rw [hc] at e; cases e
    | some c =>
      rw [hc] at e
      cases c with
      | lst _ => cases e
      | dct ks' xs' =>
        cases e
        obtain ⟨a, ex, _, vs, hv, rr⟩ := cell_rep s r hc
        exact ⟨a, vs, ex, .of hv, rr⟩
      | inst _ _ _ => cases e
  | _ => cases e
theorem keyD_inj {a b : Key} (h : keyD a = keyD b) : a = b := by
  cases a <;> cases b <;> simp [keyD] at h <;> simp [h]
theorem keyDs_inj : ∀ {a b : List Key}, a.map keyD = b.map keyD → a = b
  | [], [], _ => rfl
  | [], _ :: _, h => by simp at h
  | _ :: _, [], h => by simp at h
  | x :: xs, y :: ys, h => by
    simp only [List.map_cons, List.cons.injEq] at h
    rw [keyD_inj h.1, keyDs_inj h.2]
theorem keysD_inj {a b : List Key} (h : keysD a = keysD b) : a = b := keyDs_inj (D.tup.inj h)
theorem asKey_some {d : D} (h : (asKey d).isSome = true) : ∃ k, d = keyD k := by
  cases d <;> simp [asKey] at h
  · exact ⟨.inl _, rfl⟩
  · exact ⟨.inr _, rfl⟩
theorem asKeys_all : ∀ {ds : List D}, (ds.all fun d => (asKey d).isSome) = true → ∃ k : List Key, ds = k.map keyD
  | [], _ => ⟨[], rfl⟩
  | d :: ds, h => by
    rw [List.all_cons, Bool.and_eq_true] at h
    obtain ⟨k, e⟩ := asKey_some h.1
    obtain ⟨r, e'⟩ := asKeys_all h.2
    exact ⟨k :: r, by rw [e, e']; rfl⟩
theorem rep_key {k : Key} {x : V} (h : Rep g W (keyD k) x) : x = kV k := by
  cases k <;> exact h
theorem reps_keys : ∀ {ks : List Key} {vs : List V}, Reps g W (ks.map keyD) vs → vs = ks.map kV
  | [], vs, h => h
  | k :: ks, vs, h => by
    obtain ⟨v, r, e, h1, h2⟩ := h
    subst e
    rw [rep_key h1, reps_keys h2]; rfl
theorem look_val {κ : Type} [DecidableEq κ] (f : κ → D) (inj : ∀ a b, f a = f b → a = b) (k : κ) : ∀ {keys : List κ} {ds : List D} {vs : List V}, keys.length = vs.length → Reps g W ds vs →
    (∀ d, look (f k) (keys.map f) ds = some d → ∃ v, valV (keys.zip vs) k = some v ∧ Rep g W d v) ∧ (look (f k) (keys.map f) ds = none → valV (keys.zip vs) k = none) ∧ ((keys.map f).contains (f k) = (valV (keys.zip vs) k).isSome)
  | [], ds, vs, hl, hr => by
    have : vs = [] := List.eq_nil_of_length_eq_zero hl.symm
    subst this
    refine ⟨fun d h => ?_, fun _ => rfl, rfl⟩
    cases ds <;> cases h
  | a :: keys, ds, vs, hl, hr => by
    cases vs with
    | nil => cases hl
    | cons v vs =>
      cases ds with
      | nil => cases hr
      | cons d ds =>
        obtain ⟨v', r', e, h1, h2⟩ := hr
        cases e
        have ih := look_val f inj k (keys := keys) (ds := ds) (vs := vs) (by simpa using hl) h2
        by_cases e : a = k
        · subst e
          refine ⟨fun d' h => ?_, fun h => ?_, ?_⟩
          · have h : (if f a = f a then some d else look (f a) (keys.map f) ds) = some d' := h
            rw [if_pos rfl] at h; cases h
            exact ⟨v, valV_pos rfl, h1⟩
          · have h : (if f a = f a then some d else look (f a) (keys.map f) ds) = none := h
            rw [if_pos rfl] at h; cases h
          · rw [List.zip_cons_cons, valV_pos rfl]
            simp
        · have ne : f a ≠ f k := fun z => e (inj _ _ z)
          have lk : look (f k) ((a :: keys).map f) (d :: ds) = look (f k) (keys.map f) ds := by
            show (if f a = f k then some d else look (f k) (keys.map f) ds) = _
            rw [if_neg ne]
          rw [lk, List.zip_cons_cons, valV_neg e]
          refine ⟨ih.1, ih.2.1, ?_⟩
          rw [← ih.2.2, List.map_cons, List.contains_cons]
          have : (f k == f a) = false := by simp [Ne.symm ne]
          rw [this, Bool.false_or]
/-- a dict asked at a key of its kind -/
theorem dget_ok {k : D} {y : V} {ks xs : List D} {vs : List V} {a : Addr} (s : Sim g W μ H) (ry : Rep g W k y) (hd : DRd H a ks vs) (rr : Reps g W xs vs) (ha : alikeKeys k ks = true) :
    ∃ o, DGet H a y o ∧ (∀ d, look k ks xs = some d → ∃ v, o = some v ∧ Rep g W d v) ∧ (look k ks xs = none → o = none) ∧ ks.contains k = o.isSome := by
  have atom : ∀ kk : Key, k = keyD kk → (ks.all fun d => (asKey d).isSome) = true → ∃ o, DGet H a y o ∧ (∀ d, look k ks xs = some d → ∃ v, o = some v ∧ Rep g W d v) ∧ (look k ks xs = none → o = none) ∧ ks.contains k = o.isSome := fun kk ek hall => by
    subst ek
    have ey := rep_key ry
    rcases hd with ⟨keys, e, l, q⟩ | ⟨keys, n, e, l, q⟩
    · subst e
      obtain ⟨h1, h2, h3⟩ := look_val (g := g) (W := W) keyD (fun _ _ => keyD_inj) kk l rr
      exact ⟨_, .inl ⟨_, kk, q, ey, rfl⟩, h1, h2, h3⟩
    · cases keys with
      | nil => exact absurd rfl n
      | cons b bs =>
        rw [e] at hall
        simp [keysD, asKey] at hall
  cases k with
  | int i => exact atom (.inl i) rfl ha
  | str i => exact atom (.inr i) rfl ha
  | tup ds =>
    have ha : (!ds.isEmpty && !ks.isEmpty && (ds.all (fun d => (asKey d).isSome) && ks.all fun d => match d with | .tup ys => ys.all (fun d => (asKey d).isSome) | _ => false)) = true := ha
    rw [Bool.and_eq_true, Bool.and_eq_true, Bool.and_eq_true] at ha
    obtain ⟨⟨hne, hks⟩, h1, h2⟩ := ha
    obtain ⟨kk, ek⟩ := asKeys_all h1
    subst ek
    obtain ⟨b, ws, ey, hb, rk⟩ := ry
    have ew := reps_keys rk
    subst ew
    have hb' : H b = some (.tup (kk.map kV)) := by
      rcases hb with hb | ⟨hb, _⟩
      · exact s.fx _ _ hb rfl
      · cases kk with
        | nil => simp at hne
        | cons _ _ => simp at hb
    rcases hd with ⟨keys, e, l, q⟩ | ⟨keys, n, e, l, q⟩
    · exfalso
      subst e
      cases keys with
      | nil => simp at hks
      | cons b bs => cases b <;> simp [keyD] at h2
    · subst e
      obtain ⟨h1, h2, h3⟩ := look_val (g := g) (W := W) keysD (fun _ _ => keysD_inj) kk l rr
      exact ⟨_, .inr ⟨_, kk, b, q, ey, hb', rfl⟩, h1, h2, h3⟩
  | _ => cases ha
end

/-! ### comparisons -/
def rPc (g : G0) (F : List Cell → D → D → Option Bool) : R2 := fun x y H Q => ∃ W μ a b r, Sim g W μ H ∧ Rep g W a x ∧ Rep g W b y ∧ F μ a b = some r ∧ Q (.bl r) H
section
variable {X : Cx} {g : G0}
theorem op_inT (hu : X.A.units + 65 < cLine) {K : PySem.W.Frag} (hK : X.K = K) (neg : Bool) : OpR X (compareOp (if neg then .NotIn else .In)) (fun x y H Q => ∃ d ds, Dp K H x d ∧ (Dp K H y (.list ds) ∨ Dp K H y (.tuple ds)) ∧ SeqAt.shaped d = true ∧ SeqAt.shaped (.list ds) = true ∧ Q (.bl (if neg then !ds.any fun z => PyData.eqv z d else ds.any fun z => PyData.eqv z d)) H) := by
  subst hK
  intro pins s σ H x y v u Q I rx ry h
  obtain ⟨d, ds, hd, he, sd, se, q⟩ := h
  obtain ⟨as, r1⟩ := Dp.reads I d x v hd rx
  have hc : PyData.canLayAll0 ds = true := SeqAt.canLay_of_shaped se
  rcases he with he | he
  · obtain ⟨bs, r2⟩ := Dp.reads I (.list ds) y u he ry
    cases neg with
    | false => exact SeqAt.in_list_reads r2 r1 hc (SeqAt.canLay_of_shaped sd) (room_in_shaped sd hu) ⟨.bl _, H, I, rfl, q⟩
    | true => exact SeqAt.notIn_list_reads r2 r1 hc (SeqAt.canLay_of_shaped sd) (room_in_shaped sd hu) ⟨.bl _, H, I, rfl, q⟩
  · obtain ⟨bs, r2⟩ := Dp.reads I (.tuple ds) y u he ry
    cases neg with
    | false => exact SeqAt.in_tuple_reads r2 r1 hc (SeqAt.canLay_of_shaped sd) (room_in_shaped sd hu) ⟨.bl _, H, I, rfl, q⟩
    | true => exact SeqAt.notIn_tuple_reads r2 r1 hc (SeqAt.canLay_of_shaped sd) (room_in_shaped sd hu) ⟨.bl _, H, I, rfl, q⟩
theorem seqOf_dp {W : Wd} {μ : List Cell} {H : Hp} (s : Sim g W μ H) {d : D} {x : V} {xs : List D} (r : Rep g W d x) (e : seqOf μ d = some xs) (p : plains xs = true) : Dp g.K H x (.list (toPys xs)) ∨ Dp g.K H x (.tuple (toPys xs)) := by
  cases d with
  | tup ys =>
    obtain rfl : ys = xs := Option.some.inj e
    exact .inr (rep_dp s (.tup ys) x p r)
  | lst ys =>
    obtain rfl : ys = xs := Option.some.inj e
    exact .inl (rep_dp s (.lst ys) x p r)
  | cell n =>
    obtain ⟨a, vs, ex, ha, rr⟩ := listOf_ok s r (show listOf μ (.cell n) = some xs from e)
    subst ex
    exact .inl (.lst (.inl ha) (reps_dp s xs vs p rr))
  | kl ns =>
    obtain rfl : ns.map D.int = xs := Option.some.inj e
    obtain ⟨a, ex, ha⟩ := r
    subst ex
    exact .inl (.lst (s.sqL ha) (reps_dp s _ _ p (ints_reps ns)))
  | _ => cases e
theorem opIn (hK : X.K = g.K) (hu : X.A.units + 65 < cLine) (neg : Bool) : OpR X (compareOp (if neg then .NotIn else .In)) (rPc g fun μ a b => (inD μ a b).map fun r => if neg then !r else r) := by
  intro pins s σ H x y v u Q I rx ry h
  obtain ⟨W, μ, a, b, r, sm, ra, rb, e, q⟩ := h
  obtain ⟨r0, e, er⟩ := Option.map_eq_some_iff.mp e
  have seqs : (seqOf μ b).bind (inSeq a) = some r0 → wpAny (model X.prog X.w) X.A (compareOp (if neg then .NotIn else .In) v u) (EP X pins σ Q) X.xe s := fun e => by
    cases hs : seqOf μ b with
    | none => rw [hs] at e; cases e
    | some xs =>
      rw [hs] at e
      have e : inSeq a xs = some r0 := e
      unfold inSeq at e
      split at e
      · rename_i ho
        cases e
        unfold okSeq at ho
        rw [Bool.and_eq_true, Bool.and_eq_true, Bool.and_eq_true] at ho
        obtain ⟨⟨⟨p1, p2⟩, s1⟩, s2⟩ := ho
        exact op_inT hu hK neg pins s σ H x y v u Q I rx ry ⟨toPy a, toPys xs, rep_dp sm a x p1 ra, seqOf_dp sm rb hs p2, s1, s2, by rw [← er] at q; exact q⟩
      · cases e
  have dcts : (match dctOf μ b with
    | some (ks, _) => if alikeKeys a ks then some (ks.contains a) else none
    | none => (seqOf μ b).bind (inSeq a)) = some r0 → wpAny (model X.prog X.w) X.A (compareOp (if neg then .NotIn else .In) v u) (EP X pins σ Q) X.xe s := fun e => by
    cases hd : dctOf μ b with
    | none => rw [hd] at e; exact seqs e
    | some kx =>
      obtain ⟨ks, xs⟩ := kx
      rw [hd] at e
      have e : (if alikeKeys a ks then some (ks.contains a) else none) = some r0 := e
      split at e
      · rename_i ha
        cases e
        obtain ⟨p, vs, ex, dr, rr⟩ := dctOf_ok sm rb hd
        obtain ⟨o, dg, _, _, hc⟩ := dget_ok sm ra dr rr ha
        subst ex
        cases ry
        cases neg with
        | false => exact d_in (A := X.A) (by omega) I dg rx fun s' I' => ⟨.bl _, H, I', rfl, by rw [← er, hc] at q; exact q⟩
        | true => exact d_notIn (A := X.A) (by omega) I dg rx fun s' I' => ⟨.bl _, H, I', rfl, by rw [← er, hc] at q; exact q⟩
      · cases e
  cases b with
  | str z =>
    cases a with
    | str w =>
      have e : some (strIn w z) = some r0 := e
      cases e
      cases ra; cases rb
      cases neg with
      | false => exact op_in_str pins s σ H _ _ v u Q I rx ry ⟨w, z, rfl, rfl, by rw [← er] at q; exact q⟩
      | true => exact op_notin_str pins s σ H _ _ v u Q I rx ry ⟨w, z, rfl, rfl, by rw [← er] at q; exact q⟩
    | _ => cases e
  | _ => exact dcts e
theorem rep_non {W : Wd} {a : D} {x : V} (r : Rep g W a x) : decide (x = V.non) = decide (a = D.non) := by
  cases a with
  | non => cases r; rfl
  | bl _ => cases r; simp
  | int _ => cases r; simp
  | str _ => cases r; simp
  | tup _ => obtain ⟨_, _, e, _⟩ := r; subst e; simp
  | lst _ => obtain ⟨_, _, e, _⟩ := r; subst e; simp
  | dct _ _ => obtain ⟨_, _, e, _⟩ := r; subst e; simp
  | obj _ _ _ => obtain ⟨_, _, _, e, _⟩ := r; subst e; simp
  | cell _ => obtain ⟨_, e, _⟩ := r; subst e; simp
  | kl _ => obtain ⟨_, e, _⟩ := r; subst e; simp
theorem opCmp (hK : X.K = g.K) (hu : X.A.units + 65 < cLine) (op : CmpOp) : OpR X (compareOp op) (rPc g fun μ a b => cmpD μ op a b) := by
  cases op with
  | In =>
    intro pins s σ H x y v u Q I rx ry h
    obtain ⟨W, μ, a, b, r, sm, ra, rb, e, q⟩ := h
    exact opIn hK hu false pins s σ H x y v u Q I rx ry ⟨W, μ, a, b, r, sm, ra, rb, by have e : inD μ a b = some r := e; show Option.map _ (inD μ a b) = _; rw [e]; rfl, q⟩
  | NotIn => exact opIn hK hu true
  | Eq =>
    intro pins s σ H x y v u Q I rx ry h
    obtain ⟨W, μ, a, b, r, sm, ra, rb, e, q⟩ := h
    have e : eqD μ a b = some r := e
    unfold eqD at e
    split at e
    · rename_i ho
      cases e
      rw [Bool.and_eq_true, Bool.and_eq_true, Bool.and_eq_true] at ho
      obtain ⟨⟨⟨p1, p2⟩, s1⟩, s2⟩ := ho
      refine op_eqD (by omega) pins s σ H x y v u Q I rx ry ⟨_, _, by rw [hK]; exact flat_dp sm p1 ra, by rw [hK]; exact flat_dp sm p2 rb, s1, s2, q⟩
    · cases e
  | NotEq =>
    intro pins s σ H x y v u Q I rx ry h
    obtain ⟨W, μ, a, b, r, sm, ra, rb, e, q⟩ := h
    obtain ⟨r0, e, er⟩ := Option.map_eq_some_iff.mp e
    unfold eqD at e
    split at e
    · rename_i ho
      cases e
      rw [Bool.and_eq_true, Bool.and_eq_true, Bool.and_eq_true] at ho
      obtain ⟨⟨⟨p1, p2⟩, s1⟩, s2⟩ := ho
      refine op_neD (by omega) pins s σ H x y v u Q I rx ry ⟨_, _, by rw [hK]; exact flat_dp sm p1 ra, by rw [hK]; exact flat_dp sm p2 rb, s1, s2, by rw [← er] at q; exact q⟩
    · cases e
  | Lt =>
    intro pins s σ H x y v u Q I rx ry h
    obtain ⟨W, μ, a, b, r, sm, ra, rb, e, q⟩ := h
    have e : ltD a b = some r := e
    unfold ltD at e
    split at e
    · cases e; cases ra; cases rb
      exact op_lt pins s σ H _ _ v u Q I rx ry ⟨_, _, rfl, rfl, q⟩
    · cases e; cases ra; cases rb
      exact op_lt_str pins s σ H _ _ v u Q I rx ry ⟨_, _, rfl, rfl, q⟩
    · cases e
  | LtE =>
    intro pins s σ H x y v u Q I rx ry h
    obtain ⟨W, μ, a, b, r, sm, ra, rb, e, q⟩ := h
    have e : leD a b = some r := e
    unfold leD at e
    split at e
    · cases e; cases ra; cases rb
      exact op_le pins s σ H _ _ v u Q I rx ry ⟨_, _, rfl, rfl, q⟩
    · cases e; cases ra; cases rb
      exact op_le_str pins s σ H _ _ v u Q I rx ry ⟨_, _, rfl, rfl, q⟩
    · cases e
  | Gt =>
    intro pins s σ H x y v u Q I rx ry h
    obtain ⟨W, μ, a, b, r, sm, ra, rb, e, q⟩ := h
    have e : gtD a b = some r := e
    unfold gtD at e
    split at e
    · cases e; cases ra; cases rb
      exact op_gt pins s σ H _ _ v u Q I rx ry ⟨_, _, rfl, rfl, q⟩
    · cases e; cases ra; cases rb
      exact op_gt_str pins s σ H _ _ v u Q I rx ry ⟨_, _, rfl, rfl, q⟩
    · cases e
  | GtE =>
    intro pins s σ H x y v u Q I rx ry h
    obtain ⟨W, μ, a, b, r, sm, ra, rb, e, q⟩ := h
    have e : geD a b = some r := e
    unfold geD at e
    split at e
    · cases e; cases ra; cases rb
      exact op_ge pins s σ H _ _ v u Q I rx ry ⟨_, _, rfl, rfl, q⟩
    · cases e; cases ra; cases rb
      exact op_ge_str pins s σ H _ _ v u Q I rx ry ⟨_, _, rfl, rfl, q⟩
    · cases e
  | Is =>
    intro pins s σ H x y v u Q I rx ry h
    obtain ⟨W, μ, a, b, r, sm, ra, rb, e, q⟩ := h
    have e : isD a b = some r := e
    unfold isD at e
    split at e
    · cases e; cases rb
      exact op_isN pins s σ H _ _ v u Q I rx ry ⟨rfl, by rw [rep_non ra]; exact q⟩
    · cases e
  | IsNot =>
    intro pins s σ H x y v u Q I rx ry h
    obtain ⟨W, μ, a, b, r, sm, ra, rb, e, q⟩ := h
    obtain ⟨r0, e, er⟩ := Option.map_eq_some_iff.mp e
    unfold isD at e
    split at e
    · cases e; cases rb
      exact op_notN pins s σ H _ _ v u Q I rx ry ⟨rfl, by rw [rep_non ra]; rw [← er] at q; exact q⟩
    · cases e
end
end RL

set_option Elab.async false
set_option linter.all false
set_option maxRecDepth 100000
set_option autoImplicit false
set_option maxHeartbeats 1000000
namespace RL
open PySem PySem.Spec PyProof.Rows L2

/-! ### built-in functions by value -/
section
variable {X : Cx} {g : G0}
theorem reps1 {W : Wd} {xs : List V} {d : D} (r : Reps g W [d] xs) : ∃ v, xs = [v] ∧ Rep g W d v := by
  obtain ⟨v, r, e, h1, h2⟩ := r
  cases h2
  exact ⟨v, e, h1⟩
theorem reps2 {W : Wd} {xs : List V} {d e : D} (r : Reps g W [d, e] xs) : ∃ v w, xs = [v, w] ∧ Rep g W d v ∧ Rep g W e w := by
  obtain ⟨v, r, e, h1, h2⟩ := r
  obtain ⟨w, e2, h3⟩ := reps1 h2
  subst e2
  exact ⟨v, w, e, h1, h3⟩
theorem asInts_ok : ∀ {ds : List D} {ns : List Int}, asInts ds = some ns → ds = ns.map D.int
  | [], ns, h => by cases h; rfl
  | .int i :: ds, ns, h => by
    have h : (asInts ds).map (i :: ·) = some ns := h
    obtain ⟨r, h1, h2⟩ := Option.map_eq_some_iff.mp h
    rw [← h2, asInts_ok h1]; rfl
  | .non :: _, _, h => by cases h
  | .bl _ :: _, _, h => by cases h
  | .str _ :: _, _, h => by cases h
  | .tup _ :: _, _, h => by cases h
  | .lst _ :: _, _, h => by cases h
  | .dct _ _ :: _, _, h => by cases h
  | .obj _ _ _ :: _, _, h => by cases h
  | .cell _ :: _, _, h => by cases h
theorem asBools_ok : ∀ {ds : List D} {ns : List Bool}, asBools ds = some ns → ds = ns.map D.bl
  | [], ns, h => by cases h; rfl
  | .bl i :: ds, ns, h => by
    have h : (asBools ds).map (i :: ·) = some ns := h
    obtain ⟨r, h1, h2⟩ := Option.map_eq_some_iff.mp h
    rw [← h2, asBools_ok h1]; rfl
  | .non :: _, _, h => by cases h
  | .int _ :: _, _, h => by cases h
  | .str _ :: _, _, h => by cases h
  | .tup _ :: _, _, h => by cases h
  | .lst _ :: _, _, h => by cases h
  | .dct _ _ :: _, _, h => by cases h
  | .obj _ _ _ :: _, _, h => by cases h
  | .cell _ :: _, _, h => by cases h
theorem asStrs_ok : ∀ {ds : List D} {ns : List Str}, asStrs ds = some ns → ds = ns.map D.str
  | [], ns, h => by cases h; rfl
  | .str i :: ds, ns, h => by
    have h : (asStrs ds).map (i :: ·) = some ns := h
    obtain ⟨r, h1, h2⟩ := Option.map_eq_some_iff.mp h
    rw [← h2, asStrs_ok h1]; rfl
  | .non :: _, _, h => by cases h
  | .int _ :: _, _, h => by cases h
  | .bl _ :: _, _, h => by cases h
  | .tup _ :: _, _, h => by cases h
  | .lst _ :: _, _, h => by cases h
  | .dct _ _ :: _, _, h => by cases h
  | .obj _ _ _ :: _, _, h => by cases h
  | .cell _ :: _, _, h => by cases h
theorem reps_ints {W : Wd} : ∀ {ns : List Int} {vs : List V}, Reps g W (ns.map D.int) vs → vs = ns.map V.int
  | [], vs, h => h
  | n :: ns, vs, h => by
    obtain ⟨v, r, e, h1, h2⟩ := h
    cases h1
    rw [e, reps_ints h2]; rfl
theorem reps_bls {W : Wd} : ∀ {ns : List Bool} {vs : List V}, Reps g W (ns.map D.bl) vs → vs = ns.map V.bl
  | [], vs, h => h
  | n :: ns, vs, h => by
    obtain ⟨v, r, e, h1, h2⟩ := h
    cases h1
    rw [e, reps_bls h2]; rfl
theorem reps_strs {W : Wd} : ∀ {ns : List Str} {vs : List V}, Reps g W (ns.map D.str) vs → vs = ns.map V.str
  | [], vs, h => h
  | n :: ns, vs, h => by
    obtain ⟨v, r, e, h1, h2⟩ := h
    cases h1
    rw [e, reps_strs h2]; rfl
theorem lstMax_ok : ∀ {ns : List Int} {m : Int}, lstMax ns = some m → 0 < ns.length ∧ ∀ m', m' ∈ ns → (∀ y ∈ ns, y ≤ m') → m' = m
  | [], _, h => by cases h
  | x :: xs, m, h => by
    have h : some (xs.foldl max x) = some m := h
    cases h
    have key : ∀ (l : List Int) (a : Int), (l.foldl max a = a ∨ l.foldl max a ∈ l) ∧ a ≤ l.foldl max a ∧ ∀ y ∈ l, y ≤ l.foldl max a := by
      intro l
      induction l with
      | nil => intro a; exact ⟨.inl rfl, Int.le_refl _, fun y hy => by cases hy⟩
      | cons b l ih =>
        intro a
        obtain ⟨h1, h2, h3⟩ := ih (max a b)
        rw [List.foldl_cons]
        refine ⟨?_, by omega, fun y hy => ?_⟩
        · rcases h1 with h1 | h1
          · rw [h1]
            by_cases hab : a ≤ b
            · right; rw [Int.max_eq_right hab]; exact List.mem_cons_self
            · left; omega
          · right; exact List.mem_cons_of_mem _ h1
        · rcases List.mem_cons.mp hy with rfl | hy
          · omega
          · exact h3 y hy
    obtain ⟨h1, h2, h3⟩ := key xs x
    refine ⟨by simp, fun m' hm hy => ?_⟩
    have l1 : m' ≤ xs.foldl max x := by
      rcases List.mem_cons.mp hm with rfl | hm
      · exact h2
      · exact h3 m' hm
    have l2 : xs.foldl max x ≤ m' := by
      rcases h1 with h1 | h1
      · rw [h1]; exact hy x List.mem_cons_self
      · exact hy _ (List.mem_cons_of_mem _ h1)
    omega
theorem lstMin_ok : ∀ {ns : List Int} {m : Int}, lstMin ns = some m → 0 < ns.length ∧ ∀ m', m' ∈ ns → (∀ y ∈ ns, m' ≤ y) → m' = m
  | [], _, h => by cases h
  | x :: xs, m, h => by
    have h : some (xs.foldl min x) = some m := h
    cases h
    have key : ∀ (l : List Int) (a : Int), (l.foldl min a = a ∨ l.foldl min a ∈ l) ∧ l.foldl min a ≤ a ∧ ∀ y ∈ l, l.foldl min a ≤ y := by
      intro l
      induction l with
      | nil => intro a; exact ⟨.inl rfl, Int.le_refl _, fun y hy => by cases hy⟩
      | cons b l ih =>
        intro a
        obtain ⟨h1, h2, h3⟩ := ih (min a b)
        rw [List.foldl_cons]
        refine ⟨?_, by omega, fun y hy => ?_⟩
        · rcases h1 with h1 | h1
          · rw [h1]
            by_cases hab : a ≤ b
            · left; omega
            · right; rw [Int.min_eq_right (by omega)]; exact List.mem_cons_self
          · right; exact List.mem_cons_of_mem _ h1
        · rcases List.mem_cons.mp hy with rfl | hy
          · omega
          · exact h3 y hy
    obtain ⟨h1, h2, h3⟩ := key xs x
    refine ⟨by simp, fun m' hm hy => ?_⟩
    have l1 : xs.foldl min x ≤ m' := by
      rcases List.mem_cons.mp hm with rfl | hm
      · exact h2
      · exact h3 m' hm
    have l2 : m' ≤ xs.foldl min x := by
      rcases h1 with h1 | h1
      · rw [h1]; exact hy x List.mem_cons_self
      · exact hy _ (List.mem_cons_of_mem _ h1)
    omega
theorem drd_len {H : Hp} {a : Addr} {ks : List D} {vs : List V} (h : DRd H a ks vs) : ks.length = vs.length := by
  rcases h with ⟨keys, e, l, _⟩ | ⟨keys, _, e, l, _⟩ <;> rw [e, List.length_map, l]
/-- len of a dict with tuple keys -/
theorem d_lenT {pins : List (Addr × Obj)} {s : Shared} {σ : L2.St} {H : Hp} {a : Addr} {kvs : List (List Key × V)} {A : Around} {E : Value → Shared → Prop} {Q : Value → Shared → Prop} (I : Inv X pins σ H s) (e : Rd H a (.dT kvs)) (h : ∀ t s', Inv X pins σ H s' → Q (.int kvs.length t) s') : wpAny (model X.prog X.w) A (call (.builtin "len") [.ref a]) Q E s := by
  obtain ⟨z, hd, ys, rel, dd⟩ := dt_rd I.hok e
  have hl : kvs.length = ys.length := Paired.length rel
  refine call_len_dictH hd dd (by rw [← hl]; rw [sizeLine_eq] at z; omega) ?_
  rw [← hl]
  exact h _ _ (I.tok _)
theorem bLen (hK : X.K = g.K) : CallR X (.builtin "len") (rPn g fun μ xs => biD μ .len xs) := by
  intro pins s σ H xs us Q I rx h
  obtain ⟨W, μ, as, r, sm, ra, e, q⟩ := h
  match as, e with
  | [d], e =>
    obtain ⟨v, ex, rd⟩ := reps1 ra
    subst ex
    obtain ⟨n, e0, er⟩ := Option.map_eq_some_iff.mp (show (lenD μ d).map (fun (n : Nat) => ER.v (.int (n : Int))) = some r from e)
    subst er
    have q := fin_int sm q
    have seqs : ∀ ds : List D, (∃ a vs, v = .ref a ∧ (SqL g.K H a vs ∨ SqT g.K H a vs) ∧ Reps g W ds vs) → n = ds.length → wpAny (model X.prog X.w) X.A (call (.builtin "len") us) (EP X pins σ Q) X.xe s := fun ds hq hn => by
      obtain ⟨a, vs, ev, hs, rr⟩ := hq
      subst ev
      exact call_len_seq pins s σ H [.ref a] us Q I rx ⟨a, vs, rfl, by rw [hK]; exact hs, by rw [hn, rr.len] at q; exact q⟩
    have dcts : ∀ ks ds : List D, (∃ a vs, v = .ref a ∧ DRd H a ks vs ∧ Reps g W ds vs) → n = ks.length → wpAny (model X.prog X.w) X.A (call (.builtin "len") us) (EP X pins σ Q) X.xe s := fun ks ds hq hn => by
      obtain ⟨a, vs, ev, hs, rr⟩ := hq
      subst ev
      have hl := drd_len hs
      cases rx with
      | cons r1 r2 =>
        cases r2
        cases r1
        rcases hs with ⟨keys, e, l, hs⟩ | ⟨keys, _, e, l, hs⟩
        · exact d_len (A := X.A) I hs fun t s' I' => ⟨.int n, H, I', ⟨t, by rw [List.length_zip, hn, e, List.length_map, l]; simp⟩, q⟩
        · exact d_lenT (A := X.A) I hs fun t s' I' => ⟨.int n, H, I', ⟨t, by rw [List.length_zip, hn, e, List.length_map, l]; simp⟩, q⟩
    cases d with
    | str z =>
      have e0 : (if z.length ≤ sizeLine then some z.length else none) = some n := e0
      split at e0
      · rename_i hz
        cases e0; cases rd
        exact call_len_str pins s σ H _ us Q I rx ⟨z, rfl, hz, q⟩
      · cases e0
    | kl ns => exact seqs (ns.map .int) (seqOf_ok (d := .kl ns) sm rd rfl) (by rw [List.length_map]; exact (Option.some.inj e0).symm)
    | tup xs => exact seqs xs (seqOf_ok (d := .tup xs) sm rd rfl) (Option.some.inj e0).symm
    | lst xs => exact seqs xs (seqOf_ok (d := .lst xs) sm rd rfl) (Option.some.inj e0).symm
    | dct ks ds => exact dcts ks ds (dctOf_ok (d := .dct ks ds) sm rd rfl) (Option.some.inj e0).symm
    | cell m =>
      have e0 : (match μ[m]? with | some (.lst xs) => some xs.length | some (.dct ks _) => some ks.length | _ => none) = some n := e0
      cases hc : μ[m]? with
      | none => rw [hc] at e0; cases e0
      | some c =>
        rw [hc] at e0
        cases c with
        | lst xs => exact seqs xs (seqOf_ok (d := .cell m) sm rd (by simp only [seqOf, hc])) (Option.some.inj e0).symm
        | dct ks ds => exact dcts ks ds (dctOf_ok (d := .cell m) sm rd (by simp only [dctOf, hc])) (Option.some.inj e0).symm
        | inst _ _ _ => cases e0
    | _ => cases e0
theorem bAll (hK : X.K = g.K) (hc : X.calm = true) : CallR X (.builtin "all") (rPn g fun μ xs => biD μ .all xs) := by
  intro pins s σ H xs us Q I rx h
  obtain ⟨W, μ, as, r, sm, ra, e, q⟩ := h
  match as, e with
  | [d], e =>
    obtain ⟨v, ex, rd⟩ := reps1 ra
    subst ex
    obtain ⟨bs, e, er⟩ := Option.map_eq_some_iff.mp (show ((listOf μ d).bind asBools).map (fun bs => ER.v (.bl (bs.all id))) = some r from e)
    obtain ⟨ds, e1, e2⟩ := Option.bind_eq_some_iff.mp e
    subst er
    obtain ⟨a, vs, ev, ha, rr⟩ := listOf_ok sm rd e1
    rw [asBools_ok e2] at rr
    rw [reps_bls rr] at ha
    exact cr_all hc pins s σ H _ us Q I rx ⟨a, bs, by rw [ev], .inl ha, fin_bl sm q⟩
theorem bAny (hK : X.K = g.K) (hc : X.calm = true) : CallR X (.builtin "any") (rPn g fun μ xs => biD μ .any xs) := by
  intro pins s σ H xs us Q I rx h
  obtain ⟨W, μ, as, r, sm, ra, e, q⟩ := h
  match as, e with
  | [d], e =>
    obtain ⟨v, ex, rd⟩ := reps1 ra
    subst ex
    obtain ⟨bs, e, er⟩ := Option.map_eq_some_iff.mp (show ((listOf μ d).bind asBools).map (fun bs => ER.v (.bl (bs.any id))) = some r from e)
    obtain ⟨ds, e1, e2⟩ := Option.bind_eq_some_iff.mp e
    subst er
    obtain ⟨a, vs, ev, ha, rr⟩ := listOf_ok sm rd e1
    rw [asBools_ok e2] at rr
    rw [reps_bls rr] at ha
    exact cr_any hc pins s σ H _ us Q I rx ⟨a, bs, by rw [ev], .inl ha, fin_bl sm q⟩
theorem bSum (hK : X.K = g.K) (hc : X.calm = true) : CallR X (.builtin "sum") (rPn g fun μ xs => biD μ .sum xs) := by
  intro pins s σ H xs us Q I rx h
  obtain ⟨W, μ, as, r, sm, ra, e, q⟩ := h
  match as, e with
  | [d], e =>
    obtain ⟨v, ex, rd⟩ := reps1 ra
    subst ex
    obtain ⟨bs, e, er⟩ := Option.map_eq_some_iff.mp (show ((listOf μ d).bind asInts).map (fun ns => ER.v (.int ns.sum)) = some r from e)
    obtain ⟨ds, e1, e2⟩ := Option.bind_eq_some_iff.mp e
    subst er
    obtain ⟨a, vs, ev, ha, rr⟩ := listOf_ok sm rd e1
    rw [asInts_ok e2] at rr
    rw [reps_ints rr] at ha
    exact cr_sum hc pins s σ H _ us Q I rx ⟨a, bs, by rw [ev], .inl ha, fin_int sm q⟩
theorem bMax1 (hK : X.K = g.K) (hc : X.calm = true) : CallR X (.builtin "max") (rPn g fun μ xs => biD μ .max1 xs) := by
  intro pins s σ H xs us Q I rx h
  obtain ⟨W, μ, as, r, sm, ra, e, q⟩ := h
  match as, e with
  | [d], e =>
    have e : (((listOf μ d).bind asInts).bind lstMax).map (fun n => ER.v (.int n)) = some r := e
    obtain ⟨v, ex, rd⟩ := reps1 ra
    subst ex
    obtain ⟨m, e, er⟩ := Option.map_eq_some_iff.mp e
    obtain ⟨bs, e, em⟩ := Option.bind_eq_some_iff.mp e
    obtain ⟨ds, e1, e2⟩ := Option.bind_eq_some_iff.mp e
    subst er
    obtain ⟨a, vs, ev, ha, rr⟩ := listOf_ok sm rd e1
    rw [asInts_ok e2] at rr
    rw [reps_ints rr] at ha
    obtain ⟨hl, hm⟩ := lstMax_ok em
    exact cr_max hc pins s σ H _ us Q I rx ⟨a, bs, by rw [ev], .inl ha, hl, fun m' h1 h2 => by rw [hm m' h1 h2]; exact fin_int sm q⟩
theorem bMax2 (hc : X.calm = true) : CallR X (.builtin "max") (rPn g fun μ xs => biD μ .max2 xs) := by
  intro pins s σ H xs us Q I rx h
  obtain ⟨W, μ, as, r, sm, ra, e, q⟩ := h
  match as, e with
  | [.int i, .int j], e =>
    have e : some (ER.v (.int (if j > i then j else i))) = some r := e
    cases e
    obtain ⟨v, w, ex, r1, r2⟩ := reps2 ra
    cases r1; cases r2
    subst ex
    exact call_max2 hc pins s σ H _ us Q I rx ⟨i, j, rfl, fin_int sm q⟩
theorem bMin1 (hK : X.K = g.K) (hc : X.calm = true) : CallR X (.builtin "min") (rPn g fun μ xs => biD μ .min1 xs) := by
  intro pins s σ H xs us Q I rx h
  obtain ⟨W, μ, as, r, sm, ra, e, q⟩ := h
  match as, e with
  | [d], e =>
    have e : (((listOf μ d).bind asInts).bind lstMin).map (fun n => ER.v (.int n)) = some r := e
    obtain ⟨v, ex, rd⟩ := reps1 ra
    subst ex
    obtain ⟨m, e, er⟩ := Option.map_eq_some_iff.mp e
    obtain ⟨bs, e, em⟩ := Option.bind_eq_some_iff.mp e
    obtain ⟨ds, e1, e2⟩ := Option.bind_eq_some_iff.mp e
    subst er
    obtain ⟨a, vs, ev, ha, rr⟩ := listOf_ok sm rd e1
    rw [asInts_ok e2] at rr
    rw [reps_ints rr] at ha
    obtain ⟨hl, hm⟩ := lstMin_ok em
    exact cr_min hc pins s σ H _ us Q I rx ⟨a, bs, by rw [ev], .inl ha, hl, fun m' h1 h2 => by rw [hm m' h1 h2]; exact fin_int sm q⟩
theorem bMin2 (hc : X.calm = true) : CallR X (.builtin "min") (rPn g fun μ xs => biD μ .min2 xs) := by
  intro pins s σ H xs us Q I rx h
  obtain ⟨W, μ, as, r, sm, ra, e, q⟩ := h
  match as, e with
  | [.int i, .int j], e =>
    have e : some (ER.v (.int (if j < i then j else i))) = some r := e
    cases e
    obtain ⟨v, w, ex, r1, r2⟩ := reps2 ra
    cases r1; cases r2
    subst ex
    exact call_min2 hc pins s σ H _ us Q I rx ⟨i, j, rfl, fin_int sm q⟩
theorem bAbs : CallR X (.builtin "abs") (rPn g fun μ xs => biD μ .abs xs) := by
  intro pins s σ H xs us Q I rx h
  obtain ⟨W, μ, as, r, sm, ra, e, q⟩ := h
  match as, e with
  | [.int i], e =>
    cases e
    obtain ⟨v, ex, rd⟩ := reps1 ra
    cases rd
    subst ex
    exact call_abs pins s σ H _ us Q I rx ⟨i, rfl, fin_int sm q⟩
theorem bInt : CallR X (.type "int") (rPn g fun μ xs => biD μ .int xs) := by
  intro pins s σ H xs us Q I rx h
  obtain ⟨W, μ, as, r, sm, ra, e, q⟩ := h
  match as, e with
  | [.int i], e =>
    cases e
    obtain ⟨v, ex, rd⟩ := reps1 ra
    cases rd
    subst ex
    exact call_int1 pins s σ H _ us Q I rx (.inl ⟨i, rfl, fin_int sm q⟩)
  | [.bl b], e =>
    cases e
    obtain ⟨v, ex, rd⟩ := reps1 ra
    cases rd
    subst ex
    exact call_int1 pins s σ H _ us Q I rx (.inr ⟨b, rfl, fin_int sm q⟩)
theorem bTuple (hK : X.K = g.K) : CallR X (.type "tuple") (rPn g fun μ xs => biD μ .tuple xs) := by
  intro pins s σ H xs us Q I rx h
  obtain ⟨W, μ, as, r, sm, ra, e, q⟩ := h
  match as, e with
  | [d], e =>
    obtain ⟨v, ex, rd⟩ := reps1 ra
    subst ex
    obtain ⟨ds, e0, er⟩ := Option.map_eq_some_iff.mp (show (seqOf μ d).map (fun xs => ER.v (.tup xs)) = some r from e)
    subst er
    cases d with
    | tup ys =>
      obtain rfl : ys = ds := Option.some.inj e0
      obtain ⟨a, vs, ev, ha, rr⟩ := id rd
      exact call_tuple_of pins s σ H _ us Q I rx ⟨a, vs, by rw [ev], .inr ⟨by rw [hK]; exact sm.sqT ha, by rw [← ev]; exact fin_rep sm rd q⟩⟩
    | kl ns =>
      obtain ⟨a, ev, ha⟩ := id rd
      obtain rfl : ns.map D.int = ds := Option.some.inj e0
      exact call_tuple_of pins s σ H _ us Q I rx ⟨a, _, by rw [ev], .inl ⟨by rw [hK]; exact sm.sqL ha, new_tup sm (ints_reps ns) q⟩⟩
    | lst ys =>
      obtain ⟨a, vs, ev, ha, rr⟩ := listOf_ok sm rd (show listOf μ (.lst ys) = some ds from e0)
      exact call_tuple_of pins s σ H _ us Q I rx ⟨a, vs, by rw [ev], .inl ⟨.inl ha, new_tup sm rr q⟩⟩
    | cell n =>
      obtain ⟨a, vs, ev, ha, rr⟩ := listOf_ok sm rd (show listOf μ (.cell n) = some ds from e0)
      exact call_tuple_of pins s σ H _ us Q I rx ⟨a, vs, by rw [ev], .inl ⟨.inl ha, new_tup sm rr q⟩⟩
    | _ => cases e0
theorem bList (hK : X.K = g.K) : CallR X (.type "list") (rPn g fun μ xs => biD μ .list xs) := by
  intro pins s σ H xs us Q I rx h
  obtain ⟨W, μ, as, r, sm, ra, e, q⟩ := h
  match as, e with
  | [d], e =>
    obtain ⟨v, ex, rd⟩ := reps1 ra
    subst ex
    obtain ⟨ds, e0, er⟩ := Option.map_eq_some_iff.mp (show (seqOf μ d).map (fun xs => ER.fl xs) = some r from e)
    subst er
    obtain ⟨a, vs, ev, ha, rr⟩ := seqOf_ok sm rd e0
    exact call_list_of pins s σ H _ us Q I rx ⟨a, vs, by rw [ev], by rw [hK]; exact ha, new_lst sm rr q⟩
end
end RL

set_option Elab.async false
set_option linter.all false
set_option maxRecDepth 100000
set_option autoImplicit false
set_option maxHeartbeats 1000000
namespace RL
open PySem PySem.Spec PyProof.Rows L2

theorem toPys_map : ∀ xs : List D, xs.map toPy = toPys xs
  | [] => rfl
  | x :: xs => by rw [List.map_cons, toPys_map xs]; rfl
mutual
theorem plain_noDict : ∀ d : D, plain d = true → (toPy d).hasDict = false
  | .non, _ => rfl
  | .bl _, _ => rfl
  | .int _, _ => rfl
  | .str _, _ => rfl
  | .tup xs, h => by
    show (PyData.tuple (toPys xs)).hasDict = false
    simp only [PyData.hasDict]
    exact plains_noDict xs h
  | .lst xs, h => by
    show (PyData.list (toPys xs)).hasDict = false
    simp only [PyData.hasDict]
    exact plains_noDict xs h
  | .dct _ _, h => by cases h
  | .obj _ _ _, h => by cases h
  | .cell _, h => by cases h
theorem plains_noDict : ∀ ds : List D, plains ds = true → PyData.hasDictAll (toPys ds) = false
  | [], _ => by simp only [toPys, PyData.hasDictAll]
  | d :: ds, h => by
    have h : (plain d && plains ds) = true := h
    rw [Bool.and_eq_true] at h
    simp only [toPys, PyData.hasDictAll, plain_noDict d h.1, plains_noDict ds h.2, Bool.or_self]
end
section
variable {X : Cx} {g : G0}
/-- sorted: the items as data -/
theorem bSorted (hK : X.K = g.K) (hu : X.A.units + 70 < cLine) : CallR X (.builtin "sorted") (rPn g fun μ xs => biD μ .sorted xs) := by
  intro pins s σ H xs us Q I rx h
  obtain ⟨W, μ, as, r, sm, ra, e, q⟩ := h
  match as, e with
  | [d], e =>
    obtain ⟨v, ex, rd⟩ := reps1 ra
    subst ex
    obtain ⟨ds, e0, er⟩ := Option.map_eq_some_iff.mp (show ((listOf μ d).bind sortD).map ER.fl = some r from e)
    obtain ⟨xs, e1, e2⟩ := Option.bind_eq_some_iff.mp e0
    subst er
    obtain ⟨a, vs, ev, ha, rr⟩ := listOf_ok sm rd e1
    subst ev
    unfold sortD at e2
    split at e2
    · rename_i hs
      cases e2
      rw [Bool.and_eq_true, Bool.and_eq_true, Bool.and_eq_true] at hs
      obtain ⟨⟨⟨p, hal⟩, hso⟩, hdep⟩ := hs
      obtain ⟨hz, its, n, rv, hlen, ho⟩ := Inv.lstR I ha
      cases rx with
      | cons r1 r2 =>
        cases r2
        cases r1
        have emap : xs.map toPy = toPys xs := toPys_map xs
        -- the items as data
        have each : ∀ (ds : List D) (vs : List V) (us : List Value), plains ds = true → Reps g W ds vs → Vals vs us →
            PySem.W.EachIs (fun (u : Value) (d : D) => ∃ v, RelV v u ∧ Rep g W d v) us ds ∧ PySem.W.EachIs (fun (u : Value) (d : D) => ∃ as, Reads s.heap u (toPy d) as) us ds := by
          intro ds
          induction ds with
          | nil =>
            intro vs us _ h1 h2
            cases h1; cases h2
            exact ⟨.nil, .nil⟩
          | cons d ds ih =>
            intro vs us hp h1 h2
            obtain ⟨v, rr', e, h3, h4⟩ := h1
            subst e
            have hp : (plain d && plains ds) = true := hp
            rw [Bool.and_eq_true] at hp
            cases h2 with
            | cons q1 q2 =>
              obtain ⟨a1, a2⟩ := ih _ _ hp.2 h4 q2
              exact ⟨.cons ⟨v, q1, h3⟩ a1, .cons (Dp.reads I (toPy d) v _ (by rw [hK]; exact rep_dp sm d v hp.1 h3) q1) a2⟩
        obtain ⟨ea, eb⟩ := each xs vs its p rr rv
        refine PySem.W.sorted_data (vs := its) (enc := toPy) ⟨_, ho, rfl, n, rfl⟩ ea eb ?_ ?_ (by rw [rr.len]; exact hz) (fun b hb => ?_) fun out hlo heo => ?_
        · rw [emap]
          intro d hd d' hd'
          unfold allAlike at hal
          rw [List.all_eq_true] at hal
          have := hal d hd
          rw [List.all_eq_true] at this
          exact this d' hd'
        · rw [emap]
          unfold sortable at hso
          rw [Bool.or_eq_true] at hso
          rcases hso with h | h
          · refine .inl fun d hd => ?_
            rw [List.all_eq_true] at h
            have := h d hd
            cases d with
            | tuple ys =>
              cases ys with
              | nil => cases this
              | cons y ys => exact ⟨y, ys, rfl⟩
            | _ => cases this
          · refine .inr fun d hd => ?_
            rw [List.all_eq_true] at h
            have := h d hd
            cases d with
            | none => cases this
            | tuple _ => cases this
            | _ => exact ⟨nofun, fun _ => nofun⟩
        · rw [List.all_eq_true] at hdep
          have := of_decide_eq_true (hdep (toPy b) (by rw [← emap]; exact List.mem_map_of_mem hb))
          omega
        · -- the new list
          obtain ⟨c, hc⟩ := sortedAll_at s.heap its out.toArray
          have pick : ∀ (ds : List D) (us : List Value), PySem.W.EachIs (fun (u : Value) (d : D) => ∃ v, RelV v u ∧ Rep g W d v) us ds → ∃ ws, Vals ws us ∧ Reps g W ds ws := by
            intro ds us h
            induction h with
            | nil => exact ⟨[], .nil, rfl⟩
            | cons h1 _ ih =>
              obtain ⟨v, q1, q2⟩ := h1
              obtain ⟨ws, q3, q4⟩ := ih
              exact ⟨v :: ws, .cons q1 q3, .cons q2 q4⟩
          obtain ⟨ws, rw1, rw2⟩ := pick _ _ heo
          have hn : H (s.heap.objs.size + 1) = none := I.hok.fresh (Nat.le_succ _)
          refine ⟨.ref (s.heap.objs.size + 1), upd H (s.heap.objs.size + 1) (.lst ws), I.laid (t' := s.toks) (fun b o hb => sortedAll_old hb) (Nat.le_succ _) ⟨?_, out, c, rw1, hc⟩, rfl, new_lst sm rw2 q _ hn⟩
          rw [← rw2.len, List.length_mergeSort, rr.len]
          exact hz
    · cases e2
theorem bRepr (hK : X.K = g.K) (hu : X.A.units + 70 < cLine) (hg : X.A.guards = some []) : CallR X (.builtin "repr") (rPn g fun μ xs => biD μ .repr xs) := by
  intro pins s σ H xs us Q I rx h
  obtain ⟨W, μ, as, r, sm, ra, e, q⟩ := h
  match as, e with
  | [d], e =>
    have e : reprD μ d = some r := e
    unfold reprD at e
    obtain ⟨v, ex, rd⟩ := reps1 ra
    subst ex
    by_cases hdd : d = .dct [] []
    · subst hdd
      rw [if_pos rfl] at e
      cases e
      obtain ⟨a, vs, ev', hd, rr⟩ := rd
      subst ev'
      cases rr
      rcases hd with ⟨keys, e1, l, hF⟩ | ⟨keys, n, e1, l, hF⟩
      · have hk : keys = [] := by cases keys with
          | nil => rfl
          | cons _ _ => cases e1
        subst hk
        obtain ⟨o, ho⟩ := sm.fd _ _ hF rfl
        obtain ⟨hs, hgd, hx, es, ep, ws, hdt, hsz, kv, hm⟩ := I.frzK ho
        have hes : es = #[] := Array.eq_empty_of_size_eq_zero hsz
        subst hes
        cases rx with
        | cons r1 r2 =>
          cases r2
          cases r1
          have rd' : Reads s.heap (.ref a) (.dict []) (a :: [] ++ []) := Reads.dict hgd hx.1 hdt .nil .nil
          refine repr_of_reads' rd' rfl (fun _ z => ?_) hg (by show X.A.units + _ < _; have : (PyData.dict []).depth ≤ 64 := by decide
                                                               omega) (fun _ _ h => h) (fun h' u tk hk => ⟨.str (PyData.dict []).shown, H, I.kept (t' := tk) hk, ⟨u, rfl⟩, fin_str sm q⟩) (by rw [sizeLine_eq]; decide)
          have : sysModules = a := by simpa using z
          subst this
          simp at hs
      · cases keys with
        | nil => exact absurd rfl n
        | cons _ _ => cases e1
    rw [if_neg hdd] at e
    have e : (if plain (flat μ d) && (toPy (flat μ d)).showable && decide ((toPy (flat μ d)).depth ≤ 64) && decide ((toPy (flat μ d)).shown.length ≤ lineN) then some (ER.v (.str (toPy (flat μ d)).shown)) else none) = some r := e
    split at e
    · rename_i hs
      cases e
      rw [Bool.and_eq_true, Bool.and_eq_true, Bool.and_eq_true] at hs
      obtain ⟨⟨⟨p, hsh⟩, hdep⟩, hln⟩ := hs
      have hdep := of_decide_eq_true hdep
      have hln := of_decide_eq_true hln
      rw [lineN_eq] at hln
      have q := fin_str sm q
      have dp := flat_dp sm p rd
      have hnd := plain_noDict _ p
      clear e rd ra p
      generalize toPy (flat μ d) = y at hsh hdep hln q dp hnd
      cases rx with
      | cons r1 r2 =>
        cases r2
        rename_i u
        have refs : ∀ a, v = .ref a → wpAny (model X.prog X.w) X.A (call (.builtin "repr") [u]) (EP X pins σ Q) X.xe s := fun a ev => by
          subst ev
          cases r1
          obtain ⟨bs, rd'⟩ := Dp.reads I y (.ref a) (.ref a) (by rw [hK]; exact dp) rfl
          exact repr_of_reads' rd' hsh (fun h => by rw [hnd] at h; cases h) hg (by omega) (fun _ _ h => h) (fun h' u tk hk => ⟨.str y.shown, H, I.kept (t' := tk) hk, ⟨u, rfl⟩, q⟩) hln
        cases dp with
        | non => cases r1; exact PySem.P.repr_of_none ⟨.str _, H, I.tok _, ⟨_, rfl⟩, q⟩
        | bl b => cases r1; exact PySem.P.repr_of_bool ⟨.str _, H, I.tok _, ⟨_, rfl⟩, q⟩
        | int i =>
          obtain ⟨t, rfl⟩ := r1
          have hsh : decide (i.natAbs.log2 < 1920) = true := hsh
          exact PySem.P.repr_of_int (of_decide_eq_true hsh) ⟨.str _, H, I.tok _, ⟨_, rfl⟩, q⟩
        | str z =>
          obtain ⟨t, rfl⟩ := r1
          exact PySem.P.repr_of_str ⟨.str _, H, I.tok _, ⟨_, rfl⟩, q⟩ hln
        | lst hs ha => exact refs _ rfl
        | tup hs ha => exact refs _ rfl
    · cases e
end
end RL

set_option Elab.async false
set_option linter.all false
set_option maxRecDepth 100000
set_option autoImplicit false
set_option maxHeartbeats 1000000
namespace RL
open PySem PySem.Spec PyProof.Rows L2

/-! ### contracts of defs, where no repr runs around -/
structure FnG (P : Program) (w : World) (K : PySem.W.Frag) (mg : Str → Option Value) (base : Heap) (k : Nat) (f : Addr) (fd : FuncData) (ps : List Str) (sp : Sp) : Prop where
  run : ∀ (A : Around) (outer : List Env) (s : Shared) (H : Hp) (args : Args) (us : List Value) (vs : List V) (Q : VK) (E : XK), Room k A → A.guards = some [] → Env0 P w K mg base A outer s H → us.length = ps.length → BindsTo s fd args (ps.zip us) → Vals vs us → sp vs H Q E →
    codeAny (model P w) A (.call (.ref f) args) (CR (L2.CX P w) outer P w H s Q E) s
theorem FnG.mono {P : Program} {w : World} {K : PySem.W.Frag} {mg : Str → Option Value} {base : Heap} {j k : Nat} {f : Addr} {fd : FuncData} {ps : List Str} {sp : Sp} (F : FnG P w K mg base j f fd ps sp) (h : j ≤ k) : FnG P w K mg base k f fd ps sp :=
  ⟨fun A outer s H args us vs Q E hr => F.run A outer s H args us vs Q E (hr.mono h)⟩
theorem fn_ofG {P : Program} {w : World} {K : PySem.W.Frag} {mg : Str → Option Value} {base : Heap} {k : Nat} {f : Addr} {name qual : Str} {params : Arguments} {body : List Stmt} {scope : Scope} {dV kV doc pm cdv ct oc : Value} {an od : Option Addr}
    {osl : Array (Option Value)} {N ps : List Str} {sp : Sp} (lk : K.lookup f = some ⟨oc, od, .func (PySem.W.fnOf name qual params body scope dV kV doc pm an cdv ct), osl⟩) (hcd : PySem.W.codeIn K cdv qual = true) (S : FnScope N ps scope)
    (hbody : ∀ (A : Around) (outer : List Env) (s : Shared) (H : Hp) (vs : List V) (Q : VK) (E : XK), Room k (A.deeper (envOfC qual scope s.heap.objs.size f cdv)) → A.guards = some [] → vs.length = ps.length → sp vs H Q E →
      ∃ t, PSs (cxOf (L2.CX P w) P w K mg base N qual scope f cdv A outer s H E) body t ∧ t { nx := fun _ H' => Q .non H', rt := Q } (start N vs) H) :
    FnG P w K mg base (k + 1) f (PySem.W.fnOf name qual params body scope dV kV doc pm an cdv ct) ps sp := by
  refine ⟨fun A outer s H args us vs Q E hr hg e0 hlu hb r hsp => ?_⟩
  have hl : vs.length = ps.length := r.length.trans hlu
  have KX : K.In s.heap := e0.mod.kin.keeps fun b o e => (e0.bs b o e).1
  have lim : s.heap.NoLimit := e0.mod.nolimit.keeps fun b o e => (e0.bs b o e).1
  have hkind : ∀ y ∈ ps.zip us, scope.names.lookup y.1 = some .local ∨ (scope.names.lookup y.1 = some .cell ∧ ((cellsFrom (s.heap.objs.size + 1) scope.names []).lookup y.1).isSome = true) := fun ⟨n, v⟩ hy => by
    rcases S.par n (List.of_mem_zip hy).1 with q | q
    · exact .inl q
    · exact .inr ⟨q, PySem.W.cellsFrom_some _ _ _ (.inl q)⟩
  refine codeAny_call_function hr.depth (KX _ _ lk) rfl S.co S.gen rfl (PySem.W.codeRec_of KX hcd) (hb _ _ _ _ ?_)
  refine wpAny_newFunctionEnv_cells S.kind hkind fun env he s1 x => ?_
  subst he
  refine ⟨lim.keeps x.toInCall.keep, codeAny_func ?_⟩
  obtain ⟨t, ht, hq⟩ := hbody A outer s H vs Q E (hr.deeper _) hg hl hsp
  have I : Inv (cxOf (L2.CX P w) P w K mg base N qual scope f cdv A outer s H E) [] (start N vs) H s1 := inv_start S hr.hd e0 hl r x
  refine wpAny_mono (ht.run [] s1 (start N vs) H _ I hq) (fun fl s' hs => ?_) fun e s' hs => hs
  have fin : ∀ {σ' : L2.St} {H' : Hp} {v : V} {u : Value}, Inv (cxOf (L2.CX P w) P w K mg base N qual scope f cdv A outer s H E) [] σ' H' s' → RelV v u → Q v H' → CE outer P w H s Q u s' :=
    fun {σ' H' v u} J rv q => ⟨v, H', J.os, J.bare, J.base, J.hok, rv, q⟩
  cases fl with
  | ret u =>
    obtain ⟨v, σ', H', J, rv, q⟩ := hs
    exact fin J rv q
  | next =>
    obtain ⟨σ', H', J, q⟩ := hs
    exact fin (v := V.non) (u := Value.none) J rfl q
  | brk =>
    obtain ⟨_, _, _, q⟩ := hs
    exact False.elim q
  | cont =>
    obtain ⟨_, _, _, q⟩ := hs
    exact False.elim q
section
variable {X : Cx} {k : Nat} {f C : Addr} {fd : FuncData} {ps : List Str} {sp : Sp} {W : WX}
theorem run_fnG {pins : List (Addr × Obj)} {σ : L2.St} {H : Hp} {s : Shared} {Q : VK} {us ds : List Value} {vs dvs : List V} (F : FnG X.prog X.w X.K X.mg X.base k f fd ps sp) (hr : Room k X.A) (hg : X.A.guards = some []) (hb : Binds X.K fd ps ds) (hl : (us ++ ds).length = ps.length) (hd : Vals dvs ds) (tk : Takes X W)
    (I : Inv X pins σ H s) (r : Vals vs us) (h : sp (vs ++ dvs) H Q (WE W σ)) : wpAny (model X.prog X.w) X.A (call (.ref f) us) (EP X pins σ Q) X.xe s := by
  refine wpAny_call (codeAny_mono (F.run X.A X.stack s H ⟨us, []⟩ (us ++ ds) (vs ++ dvs) Q (WE W σ) hr hg I.env0 hl (hb s us I.kIn hl) (r.append hd) h) fun r s' hq => ?_)
  cases r with
  | error e => exact passAt tk σ pins H s e s' I hq
  | ok fl =>
    cases fl with
    | ret u => exact I.after hq
    | next => exact False.elim hq
    | brk => exact False.elim hq
    | cont => exact False.elim hq
end

/-! ### what a def's call gives, by the machine -/
def PostC (g : G0) (W : Wd) (H : Hp) (r : R ER) (Q : VK) (E : XK) : Prop := match r with
  | .stuck => False
  | .ok a μ' => ∀ W' v H', Step W H W' H' → Sim g W' μ' H' → RepR g H W' H' a v → Q v H'
  | .exc C vs μ' => ∀ W' H' dd, Step W H W' H' → Sim g W' μ' H' → XRep g W' H' C vs dd → E (.ref (g.cls C)) dd H'
def spD (g : G0) (f : List D → M ER) : Sp := fun vs H Q E => ∃ W μ xs, Sim g W μ H ∧ Reps g W xs vs ∧ PostC g W H (f xs μ) Q E

/-! ### the cells that are let go -/
section
variable {g : G0} {W0 W1 : Wd} {H0 H1 : Hp}
mutual
theorem Rep.narrow (l : WLe W0 W1) : ∀ (d : D) (v0 v : V), Rep g W0 d v0 → Rep g W1 d v → Rep g ⟨W1.F, W0.as⟩ d v
  | .non, _, _, _, h => h
  | .bl _, _, _, _, h => h
  | .int _, _, _, _, h => h
  | .str _, _, _, _, h => h
  | .tup ds, _, _, h0, h => by
    obtain ⟨a0, vs0, e0, q0, r0⟩ := h0
    obtain ⟨a, vs, e, q, r⟩ := h
    exact ⟨a, vs, e, q, Reps.narrow l ds vs0 vs r0 r⟩
  | .lst ds, _, _, h0, h => by
    obtain ⟨a0, vs0, e0, q0, r0⟩ := h0
    obtain ⟨a, vs, e, q, r⟩ := h
    exact ⟨a, vs, e, q, Reps.narrow l ds vs0 vs r0 r⟩
  | .dct ks ds, _, _, h0, h => by
    obtain ⟨a0, vs0, e0, q0, r0⟩ := h0
    obtain ⟨a, vs, e, q, r⟩ := h
    exact ⟨a, vs, e, q, Reps.narrow l ds vs0 vs r0 r⟩
  | .obj C ns ds, _, _, h0, h => by
    obtain ⟨a0, dx0, vs0, e0, q0, q20, l0, r0⟩ := h0
    obtain ⟨a, dx, vs, e, q, q2, hl, r⟩ := h
    exact ⟨a, dx, vs, e, q, q2, hl, Reps.narrow l ds vs0 vs r0 r⟩
  | .cell n, _, _, h0, h => by
    obtain ⟨a0, e0, q0⟩ := h0
    obtain ⟨a, e, q⟩ := h
    rw [l.at q0] at q; cases q
    exact ⟨a0, e, q0⟩
  | .kl ns, _, _, h0, h => h
theorem Reps.narrow (l : WLe W0 W1) : ∀ (ds : List D) (vs0 vs : List V), Reps g W0 ds vs0 → Reps g W1 ds vs → Reps g ⟨W1.F, W0.as⟩ ds vs
  | [], _, _, _, h => h
  | d :: ds, _, _, h0, h => by
    obtain ⟨v0, r0, e0, p0, q0⟩ := h0
    obtain ⟨v, r, e, p, q⟩ := h
    exact ⟨v, r, e, Rep.narrow l d v0 v p0 p, Reps.narrow l ds r0 r q0 q⟩
end
mutual
theorem Rep.closed {n : Nat} : ∀ (d : D) (v : V), closed n d = true → Rep g W1 d v → Rep g ⟨W1.F, W1.as.take n⟩ d v
  | .non, _, _, h => h
  | .bl _, _, _, h => h
  | .int _, _, _, h => h
  | .str _, _, _, h => h
  | .tup ds, _, c, h => by
    obtain ⟨a, vs, e, q, r⟩ := h
    exact ⟨a, vs, e, q, Reps.closed ds vs c r⟩
  | .lst ds, _, c, h => by
    obtain ⟨a, vs, e, q, r⟩ := h
    exact ⟨a, vs, e, q, Reps.closed ds vs c r⟩
  | .dct ks ds, _, c, h => by
    obtain ⟨a, vs, e, q, r⟩ := h
    exact ⟨a, vs, e, q, Reps.closed ds vs c r⟩
  | .obj C ns ds, _, c, h => by
    obtain ⟨a, dx, vs, e, q, q2, hl, r⟩ := h
    exact ⟨a, dx, vs, e, q, q2, hl, Reps.closed ds vs c r⟩
  | .cell k, _, c, h => by
    obtain ⟨a, e, q⟩ := h
    have hk : k < n := of_decide_eq_true c
    exact ⟨a, e, by show (W1.as.take n)[k]? = some a; rw [List.getElem?_take_of_lt hk]; exact q⟩
  | .kl ns, _, c, h => h
theorem Reps.closed {n : Nat} : ∀ (ds : List D) (vs : List V), closeds n ds = true → Reps g W1 ds vs → Reps g ⟨W1.F, W1.as.take n⟩ ds vs
  | [], _, _, h => h
  | d :: ds, _, c, h => by
    obtain ⟨v, r, e, p, q⟩ := h
    have c : (RL.closed n d && closeds n ds) = true := c
    rw [Bool.and_eq_true] at c
    exact ⟨v, r, e, Rep.closed d v c.1 p, Reps.closed ds r c.2 q⟩
end
theorem CRep.closed {n : Nat} {c : Cell} {a : Addr} (hc : closedC n c = true) (h : CRep g W1 H1 a c) : CRep g ⟨W1.F, W1.as.take n⟩ H1 a c := by
  cases c with
  | lst ds => obtain ⟨vs, q, r⟩ := h; exact ⟨vs, q, Reps.closed ds vs hc r⟩
  | dct ks ds => obtain ⟨vs, q, r⟩ := h; exact ⟨vs, q, Reps.closed ds vs hc r⟩
  | inst C ns ds => obtain ⟨dx, vs, q, q2, hl, r⟩ := h; exact ⟨dx, vs, q, q2, hl, Reps.closed ds vs hc r⟩
theorem CRep.narrow (l : WLe W0 W1) {c : Cell} {a a0 : Addr} (h0 : CRep g W0 H0 a0 c) (h : CRep g W1 H1 a c) : CRep g ⟨W1.F, W0.as⟩ H1 a c := by
  cases c with
  | lst ds => obtain ⟨vs0, q0, r0⟩ := h0; obtain ⟨vs, q, r⟩ := h; exact ⟨vs, q, Reps.narrow l ds vs0 vs r0 r⟩
  | dct ks ds => obtain ⟨vs0, q0, r0⟩ := h0; obtain ⟨vs, q, r⟩ := h; exact ⟨vs, q, Reps.narrow l ds vs0 vs r0 r⟩
  | inst C ns ds => obtain ⟨dx0, vs0, q0, q20, l0, r0⟩ := h0; obtain ⟨dx, vs, q, q2, hl, r⟩ := h; exact ⟨dx, vs, q, q2, hl, Reps.narrow l ds vs0 vs r0 r⟩
variable {μ0 μ1 : List Cell}
theorem as_take (s0 : Sim g W0 μ0 H0) (st : Step W0 H0 W1 H1) : W1.as.take μ0.length = W0.as := by
  obtain ⟨r, e⟩ := st.le.as
  rw [e, ← s0.cln, List.take_left']
  rfl
theorem pop_ok (s0 : Sim g W0 μ0 H0) (st : Step W0 H0 W1 H1) (s1 : Sim g W1 μ1 H1) (hu : okUp μ0.length μ0 μ1 = true) :
    Step W0 H0 ⟨W1.F, W0.as⟩ H1 ∧ Sim g ⟨W1.F, W0.as⟩ (μ1.take μ0.length) H1 := by
  have ht := as_take s0 st
  refine ⟨⟨⟨st.le.F, [], by simp⟩, st.keep, st.alive, st.newF, fun b o hb hc => hc⟩, ?_⟩
  rw [← ht]
  refine s1.pop μ0.length fun c hc a hcr => ?_
  obtain ⟨i, hi, ei⟩ := List.getElem_of_mem hc
  have hi2 : i < μ0.length := by rw [List.length_take] at hi; omega
  have e1 : μ1[i]? = some c := by
    have : (μ1.take μ0.length)[i]? = some c := by rw [List.getElem?_eq_getElem hi, ei]
    rwa [List.getElem?_take_of_lt hi2] at this
  unfold okUp at hu
  rw [List.all_eq_true] at hu
  have hu := hu i (List.mem_range.mpr hi2)
  rw [e1, Bool.or_eq_true, decide_eq_true_eq] at hu
  rcases hu with hu | hu
  · obtain ⟨a0, _, h0⟩ := s0.cl i c hu.symm
    rw [ht]
    exact CRep.narrow st.le h0 hcr
  · exact CRep.closed hu hcr
theorem finish_ok {r : ER} {v : V} {Q : VK} {E : XK} (s0 : Sim g W0 μ0 H0) (st : Step W0 H0 W1 H1) (s1 : Sim g W1 μ1 H1) (rr : RepR g H0 W1 H1 r v) (h : PostC g W0 H0 (finish μ0 r μ1) Q E) : Q v H1 := by
  have stay : PostC g W0 H0 (.ok r μ1) Q E → Q v H1 := fun h => h W1 v H1 st s1 rr
  have ht := as_take s0 st
  have hnew : ∀ k a, W1.as[k]? = some a → μ0.length ≤ k → a ∉ W0.as ∧ H0 a = none := fun k a hk hn => by
    have hna : a ∉ W0.as := fun hm => by
      rw [← ht] at hm
      obtain ⟨j, hj, ej⟩ := List.getElem_of_mem hm
      have hj2 : j < μ0.length := by rw [List.length_take] at hj; omega
      have : (W1.as.take μ0.length)[j]? = some a := by rw [List.getElem?_eq_getElem hj, ej]
      rw [List.getElem?_take_of_lt hj2] at this
      have := nodup_at s1.nd hk this
      omega
    refine ⟨hna, ?_⟩
    cases e : H0 a with
    | none => rfl
    | some o => exact absurd (st.newc a o e (List.mem_of_getElem? hk)) hna
  unfold finish at h
  dsimp only at h
  split at h
  · exact stay h
  · split at h
    · rename_i k
      obtain ⟨a, ev, ha⟩ := id rr
      split at h
      · rename_i xs hk
        split at h
        · rename_i hc
          obtain ⟨st', s'⟩ := pop_ok s0 st s1 hc.2.2
          obtain ⟨a', ha', vs, hv, rx⟩ := s1.cl k _ hk
          rw [ha] at ha'; cases ha'
          obtain ⟨na, n0⟩ := hnew k a ha hc.1
          refine h _ v H1 st' s' ⟨a, vs, ev, hv, n0, s1.nf a (List.mem_of_getElem? ha), na, ?_⟩
          have := Reps.closed xs vs hc.2.1 rx
          rw [ht] at this
          exact this
        · exact stay h
      · rename_i ks xs hk
        split at h
        · rename_i hc
          obtain ⟨st', s'⟩ := pop_ok s0 st s1 hc.2.2
          obtain ⟨a', ha', vs, hv, rx⟩ := s1.cl k _ hk
          rw [ha] at ha'; cases ha'
          obtain ⟨na, n0⟩ := hnew k a ha hc.1
          refine h _ v H1 st' s' ⟨a, vs, ev, hv, n0, s1.nf a (List.mem_of_getElem? ha), na, ?_⟩
          have := Reps.closed xs vs hc.2.1 rx
          rw [ht] at this
          exact this
        · exact stay h
      · exact stay h
    · split at h
      · rename_i hc
        obtain ⟨st', s'⟩ := pop_ok s0 st s1 hc.2
        refine h _ v H1 st' s' ?_
        have ncl : ∀ a, a ∉ W1.as → a ∉ W0.as := fun a ha hm => ha (st.le.mem hm)
        cases r with
        | v d =>
          have := Rep.closed d v hc.1 rr
          rw [ht] at this
          exact this
        | fl xs =>
          obtain ⟨a, vs, e, q, n, nF, nA, rx⟩ := rr
          have := Reps.closed xs vs hc.1 rx
          rw [ht] at this
          exact ⟨a, vs, e, q, n, nF, ncl a nA, this⟩
        | fd ks xs =>
          obtain ⟨a, vs, e, q, n, nF, nA, rx⟩ := rr
          have := Reps.closed xs vs hc.1 rx
          rw [ht] at this
          exact ⟨a, vs, e, q, n, nF, ncl a nA, this⟩
        | fo C ns xs =>
          obtain ⟨a, dx, vs, e, q, q2, hl, n, n2, nF, nF2, nA, nA2, rx⟩ := rr
          have := Reps.closed xs vs hc.1 rx
          rw [ht] at this
          exact ⟨a, dx, vs, e, q, q2, hl, n, n2, nF, nF2, ncl a nA, ncl dx nA2, this⟩
      · exact stay h
end
end RL

set_option Elab.async false
set_option linter.all false
set_option maxRecDepth 100000
set_option autoImplicit false
set_option maxHeartbeats 1000000
namespace RL
open PySem PySem.Spec PyProof.Rows L2

/-! ### from the text to the mini syntax -/
inductive GN where
  | fn (f : Nat) | cls (C : Nat) | const (d : D) | none | other
structure Nm where
  gn : Str → GN
  kw : Nat → List Str → Option (List Nat) := fun _ _ => none
/-- what a name is: a slot, or a module's constant -/
def erName (nm : Nm) (N : List Str) (sc : Scope) (x : Str) : Option ME :=
  if x = ("__debug__" : Str) ∨ x = ("__classdict__" : Str) then none else
  match sc.names.lookup x with
  | some .local => (N.idxOf? x).map .v
  | some .cell => (N.idxOf? x).map .v
  | some .free => (N.idxOf? x).map .v
  | some .globalImplicit => match nm.gn x with | .const d => some (.k d) | _ => none
  | _ => none
/-- a built-in by its name -/
def isBi (nm : Nm) (sc : Scope) (x : Str) : Bool := (sc.names.lookup x == some .globalImplicit) && (match nm.gn x with | .none => true | _ => false)
def tyOfName (nm : Nm) (sc : Scope) : Expr → Option TyN
  | .Name x _ =>
    if sc.names.lookup x == some .globalImplicit then
      match nm.gn x with
      | .cls C => some (.cls C)
      | .none => if x = ("int" : Str) then some .int else if x = ("str" : Str) then some .str else if x = ("bool" : Str) then some .bool else if x = ("list" : Str) then some .list else if x = ("tuple" : Str) then some .tuple else if x = ("dict" : Str) then some .dict else none
      | _ => none
    else none
  | _ => none
def tysOf (nm : Nm) (sc : Scope) : List Expr → Option (List TyN)
  | [] => some []
  | e :: es => do
    let t ← tyOfName nm sc e
    let ts ← tysOf nm sc es
    pure (t :: ts)
def tysOf1 (nm : Nm) (sc : Scope) : Expr → Option (List TyN)
  | .Tuple es _ _ => tysOf nm sc es
  | e => (tyOfName nm sc e).map fun t => [t]
def biName (x : Str) (n : Nat) : Option BI :=
  if x = ("len" : Str) then some .len else if x = ("all" : Str) then some .all else if x = ("any" : Str) then some .any else if x = ("sum" : Str) then some .sum
  else if x = ("max" : Str) then (if n = 1 then some .max1 else if n = 2 then some .max2 else none)
  else if x = ("min" : Str) then (if n = 1 then some .min1 else if n = 2 then some .min2 else none)
  else if x = ("abs" : Str) then some .abs else if x = ("int" : Str) then some .int else if x = ("tuple" : Str) then some .tuple else if x = ("list" : Str) then some .list
  else if x = ("sorted" : Str) then some .sorted else if x = ("repr" : Str) then some .repr else none
def isStar : Expr → Bool
  | .Starred _ _ => true
  | _ => false
def isSlice : Expr → Bool
  | .Slice _ _ _ _ => true
  | _ => false
def isSetE : Expr → Bool
  | .Set _ _ _ => true
  | _ => false
def noSuper : Expr → Bool
  | .Call (.Name _ _) [] [] _ => false
  | _ => true
section
variable (nm : Nm) (N : List Str)
def erT1 (sc : Scope) : Expr → Option (Str × Nat)
  | .Name x _ => match sc.names.lookup x with
    | some .local => (N.idxOf? x).map fun i => (x, i)
    | some .cell => (N.idxOf? x).map fun i => (x, i)
    | _ => none
  | _ => none
def erTs (sc : Scope) : List Expr → Option (List (Str × Nat))
  | [] => some []
  | e :: es => (erT1 N sc e).bind fun p => (erTs sc es).bind fun ps => some (p :: ps)
/-- a target, and its names with their slots -/
def erTg (sc : Scope) : Expr → Option (MT × List (Str × Nat))
  | .Name x p => (erT1 N sc (.Name x p)).map fun q => (.name q.2, [q])
  | .Tuple es _ _ => (erTs N sc es).map fun qs => (.tup (qs.map (·.2)), qs)
  | _ => none
def bmName (x : Str) (n : Nat) : Option BM :=
  if x = ("append" : Str) then (if n = 1 then some .append else none) else if x = ("join" : Str) then (if n = 1 then some .join else none)
  else if x = ("pop" : Str) then (if n = 1 then some .popAt else none) else none
def kwNames : List Keyword → Option (List Str)
  | [] => some []
  | ⟨some k, e, _⟩ :: r => if isStar e then none else (kwNames r).bind fun ks => some (k :: ks)
  | _ => none
def kwVal : Keyword → Expr
  | ⟨_, e, _⟩ => e
theorem isBi_ok {nm : Nm} {sc : Scope} {y : Str} (h : isBi nm sc y = true) : sc.names.lookup y = some .globalImplicit ∧ nm.gn y = .none := by
  unfold isBi at h
  rw [Bool.and_eq_true] at h
  refine ⟨eq_of_beq h.1, ?_⟩
  have := h.2
  split at this
  · assumption
  · cases this
def tyStr : TyN → String
  | .int => "int" | .str => "str" | .bool => "bool" | .list => "list" | .tuple => "tuple" | .dict => "dict" | .cls _ => "?"
/-- a built-in type by its name -/
def tyOfB (nm : Nm) (sc : Scope) (y : Str) : Option TyN :=
  if isBi nm sc y then
    (if y = Str.ofString "int" then some .int else if y = Str.ofString "str" then some .str else if y = Str.ofString "bool" then some .bool else if y = Str.ofString "list" then some .list else if y = Str.ofString "tuple" then some .tuple else if y = Str.ofString "dict" then some .dict else none)
  else none
theorem tyOfB_ok {nm : Nm} {sc : Scope} {y : Str} {t : TyN} (h : tyOfB nm sc y = some t) : y = Str.ofString (tyStr t) ∧ isB t = true ∧ sc.names.lookup y = some .globalImplicit ∧ nm.gn y = .none := by
  unfold tyOfB at h
  split at h
  · rename_i hb
    obtain ⟨h1, hg⟩ := isBi_ok hb
    refine ⟨?_, ?_, h1, hg⟩ <;> (repeat (first | (split at h; · (cases h; first | assumption | rfl)) | cases h))
  · cases h
def noStar : ME → Bool
  | .star _ => false
  | _ => true
/-- a block's own name -/
def ownIn (scope : Scope) (x : Str) : Bool := match scope.names.lookup x with
  | some .local => true
  | some .cell => true
  | _ => false
def isTupE : Expr → Bool
  | .Tuple _ _ _ => true
  | _ => false
def itOk (it : ME) (tg : Expr) : Bool := match it with
  | .izip _ _ => isTupE tg
  | .ienum _ => isTupE tg
  | _ => true
mutual
def er : Nat → Scope → Expr → Option ME
  | 0, _, _ => none
  | n + 1, sc, e => match e with
    | .Constant .none _ _ => some (.k .non)
    | .Constant (.bool b) _ _ => some (.k (.bl b))
    | .Constant (.int i) _ _ => some (.k (.int i))
    | .Constant (.str s) _ _ => some (.k (.str s))
    | .Name x _ => erName nm N sc x
    | .BinOp a op b _ => (er n sc a).bind fun a' => (er n sc b).bind fun b' => some (.bin op a' b')
    | .UnaryOp .Not a _ => (er n sc a).bind fun a' => some (.not a')
    | .UnaryOp .USub a _ => (er n sc a).bind fun a' => some (.neg a')
    | .BoolOp op [a] _ => er n sc a
    | .BoolOp .And (a :: b :: r) p => (er n sc a).bind fun a' => (er n sc (.BoolOp .And (b :: r) p)).bind fun b' => some (.and a' b')
    | .BoolOp .Or (a :: b :: r) p => (er n sc a).bind fun a' => (er n sc (.BoolOp .Or (b :: r) p)).bind fun b' => some (.or a' b')
    | .Compare a [op] [b] _ => if isSetE b then none else (er n sc a).bind fun a' => (er n sc b).bind fun b' => some (.cmp op a' b')
    | .Compare a [o1, o2] [b, d] _ => if isSetE b || isSetE d then none else (er n sc a).bind fun a' => (er n sc b).bind fun b' => (er n sc d).bind fun d' => some (.chain o1 o2 a' b' d')
    | .IfExp t a b _ => (er n sc t).bind fun t' => (er n sc a).bind fun a' => (er n sc b).bind fun b' => some (.ite t' a' b')
    | .Tuple es _ _ => (ers n sc es).bind fun es' => some (.tup es')
    | .List es _ => (ers n sc es).bind fun es' => some (.lst es')
    | .Subscript a (.Slice lo hi none _) _ => (er n sc a).bind fun a' => (erO n sc lo).bind fun l => (erO n sc hi).bind fun h => some (.slice a' l h)
    | .Subscript a i _ => if isSlice i then none else (er n sc a).bind fun a' => (er n sc i).bind fun i' => some (.sub a' i')
    | .Dict keys values _ => (erD n sc keys values).bind fun ms => if keys.length ≤ 15 then some (.dct ms) else none
    | .Call (.Attribute o m apos) (e :: es) [] cpos =>
      if noSuper o && apos.endLine == cpos.line && (e :: es).all (fun e => !isStar e) && decide (es.length ≤ 3) then
        (er n sc o).bind fun o' => (ers n sc (e :: es)).bind fun es' => (bmName m (es.length + 1)).bind fun b => some (.bm b o' es')
      else none
    | .Call (.Name x _) [] (kw :: kws) _ =>
      if sc.names.lookup x == some .globalImplicit && x != ("__debug__" : Str) then
        match nm.gn x with
        | .fn f => (kwNames (kw :: kws)).bind fun ks => (nm.kw f ks).bind fun perm => (ers n sc ((kw :: kws).map kwVal)).bind fun es' => if es'.length = (kw :: kws).length then some (.callK f perm es') else none
        | _ => none
      else none
    | .Attribute o f _ => none
    | .Call (.Name x _) es [] _ =>
      if sc.names.lookup x == some .globalImplicit && x != ("__debug__" : Str) && x != ("__name__" : Str) && es.all (fun e => !isStar e) then
        match nm.gn x with
        | .fn f => (ers n sc es).bind fun es' => some (.callF f es')
        | .cls C => none
        | .const _ => none
        | .other => none
        | .none => match es with
          | [a, t] => if x = ("isinstance" : Str) then (if isStar a then none else (er n sc a).bind fun a' => match t with
              | .Name y _ => (tyOfB nm sc y).bind fun ty => some (.isinst a' [ty])
              | _ => none)
            else (biName x 2).bind fun b => (ers n sc [a, t]).bind fun es' => some (.callB b es')
          | [a] => (biName x 1).bind fun b => (ers n sc [a]).bind fun es' => some (.callB b es')
          | _ => none
      else none
    | .ListComp elt [⟨tg, iter, ifs, 0⟩] scope _ =>
      if ifs.length ≤ 1 && !isSetE iter then
      (erI n sc iter).bind fun it => (erTg N (relS scope sc) tg).bind fun tg' =>
        if blkC N sc scope tg'.2 && tg'.2.all (fun q => ownIn scope q.1) && itOk it tg then
          (match ifs with | [] => some [] | [t] => (er n (relS scope sc) t).bind fun t' => some [t'] | _ => none).bind fun ifs' => (er n (relS scope sc) elt).bind fun elt' => some (.lc elt' tg'.1 it ifs')
        else none
      else none
    | _ => none
def erD : Nat → Scope → List (Option Expr) → List Expr → Option (List ME)
  | 0, _, _, _ => none
  | n + 1, sc, ks, vs => match ks, vs with
    | [], [] => some []
    | some k :: ks, v :: vs => (er n sc k).bind fun k' => (er n sc v).bind fun v' => (erD n sc ks vs).bind fun r => if noStar k' && noStar v' then some (k' :: v' :: r) else none
    | _, _ => none
def ers : Nat → Scope → List Expr → Option (List ME)
  | 0, _, _ => none
  | n + 1, sc, es => match es with
    | [] => some []
    | .Starred e _ :: r => (er n sc e).bind fun e' => (ers n sc r).bind fun r' => some (.star e' :: r')
    | e :: r => (er n sc e).bind fun e' => (ers n sc r).bind fun r' => if noStar e' && !isStar e then some (e' :: r') else none
def erO : Nat → Scope → Option Expr → Option ME
  | 0, _, _ => none
  | n + 1, sc, e => match e with
    | none => some .absent
    | some e => (er n sc e).bind fun e' => some (.star e')
def erI : Nat → Scope → Expr → Option ME
  | 0, _, _ => none
  | n + 1, sc, e => match e with
    | .Call (.Name x p) [a] [] q =>
      if isBi nm sc x && x = ("range" : Str) then (if isStar a then none else (er n sc a).bind fun a' => some (.irange1 a'))
      else if isBi nm sc x && x = ("enumerate" : Str) then (if isStar a then none else (er n sc a).bind fun a' => some (.ienum a'))
      else (er n sc (.Call (.Name x p) [a] [] q)).bind fun e' => some (.iter e')
    | .Call (.Name x p) [a, b] [] q =>
      if isBi nm sc x && x = ("range" : Str) then (if isStar a || isStar b then none else (er n sc a).bind fun a' => (er n sc b).bind fun b' => some (.irange2 a' b'))
      else if isBi nm sc x && x = ("zip" : Str) then (if isStar a || isStar b then none else (er n sc a).bind fun a' => (er n sc b).bind fun b' => some (.izip a' b'))
      else (er n sc (.Call (.Name x p) [a, b] [] q)).bind fun e' => some (.iter e')
    | e => (er n sc e).bind fun e' => some (.iter e')
end
end
end RL

set_option Elab.async false
set_option linter.all false
set_option maxRecDepth 100000
set_option autoImplicit false
set_option maxHeartbeats 1000000
namespace RL
open PySem PySem.Spec PyProof.Rows L2

/-- a call by names alone -/
structure KB (K : PySem.W.Frag) (fd : FuncData) (ps ks : List Str) (perm : List Nat) : Prop where
  to : ∀ (s : Shared) (ws us : List Value), K.In s.heap → permL ws perm = some us → ws.length = ks.length → BindsTo s fd ⟨[], ks.zip ws⟩ (ps.zip us)
  len : perm.length = ps.length
  lenk : ks.length = ps.length
/-- what is known around a piece of text -/
structure Ctx (g : G0) (nm : Nm) (c : Cfg) (X : Cx) (wx : WX) : Prop where
  hK : X.K = g.K
  nd : X.N.Nodup
  calm : X.calm = true
  tk : Takes X wx
  room : X.A.units + 200 < cLine
  gd : X.A.guards = some []
  cst : ∀ x d, nm.gn x = .const d → ∃ u v, X.mg x = some u ∧ RelV v u ∧ ∀ W, Rep g W d v
  bi : ∀ x, nm.gn x = .none → X.mg x = none
  call : ∀ x f, nm.gn x = .fn f → ∃ a fd ps k F, X.mg x = some (.ref a) ∧ PySem.W.keepIn X.K (.ref a) = true ∧ FnG X.prog X.w X.K X.mg X.base k a fd ps (spD g F) ∧ Room k X.A ∧
    ∀ n : Nat, (∀ xs : List D, xs.length = n → ∀ μ, c.call f xs μ = .stuck) ∨ ∃ ds dvs dd, Binds X.K fd ps ds ∧ n + ds.length = ps.length ∧ Vals dvs ds ∧ (∀ W, Reps g W dd dvs) ∧ ∀ xs : List D, xs.length = n → c.call f xs = F (xs ++ dd)
  callK : ∀ x f ks perm, nm.gn x = .fn f → nm.kw f ks = some perm → ∃ a fd ps k F, X.mg x = some (.ref a) ∧ PySem.W.keepIn X.K (.ref a) = true ∧ FnG X.prog X.w X.K X.mg X.base k a fd ps (spD g F) ∧ Room k X.A ∧ KB X.K fd ps ks perm ∧ ∀ xs : List D, xs.length = ps.length → c.call f xs = F xs
def wx0 : WX := fun _ _ _ _ => False
section
variable {X : Cx} {g : G0} {nm : Nm} {c : Cfg} {wx : WX}
theorem takes0 : Takes X wx0 := fun _ _ ⟨_, _, _, _, _, _, _, _, _, _, _, _, _, _, _, _, w⟩ => w.elim
theorem Ctx.blk (h : Ctx g nm c X wx) {s : Shared} {H : Hp} {scope : Scope} {cenv : Env} {fp : List Addr} : Ctx g nm c (X.blk s H scope cenv fp) wx0 :=
  ⟨h.hK, h.nd, h.calm, takes0, h.room, h.gd, h.cst, h.bi, h.call, h.callK⟩

/-! ### truth -/
theorem truV_D {W : Wd} {μ : List Cell} {H : Hp} {d : D} {x : V} {b : Bool} (sm : Sim g W μ H) (rd : Rep g W d x) (e : truthD μ d = some b) : TruV g.K x H b := by
  have seqs : ∀ ds : List D, (∃ a vs, x = .ref a ∧ (SqL g.K H a vs ∨ SqT g.K H a vs) ∧ Reps g W ds vs) → b = !ds.isEmpty → TruV g.K x H b := fun ds hq hn => by
    obtain ⟨a, vs, ev, hs, rr⟩ := hq
    subst ev
    have hl := rr.len
    have he : b = !vs.isEmpty := by
      rw [hn]
      cases ds <;> cases vs <;> first | rfl | simp at hl
    rcases hs with hs | hs
    · exact .inl ⟨vs, hs, he⟩
    · exact .inr (.inl ⟨vs, hs, he⟩)
  cases d with
  | non => cases rd; exact (Option.some.inj e).symm
  | bl k => cases rd; exact (Option.some.inj e).symm
  | int i => cases rd; exact (Option.some.inj e).symm
  | str z =>
    cases rd
    have e : (if z.length ≤ sizeLine then some (z.length != 0) else none) = some b := e
    split at e
    · rename_i hz
      cases e
      refine ⟨hz, ?_⟩
      cases hl : z.length with
      | zero => rfl
      | succ n => simp; omega
    · cases e
  | tup xs => exact seqs xs (seqOf_ok (d := .tup xs) sm rd rfl) (Option.some.inj e).symm
  | lst xs => exact seqs xs (seqOf_ok (d := .lst xs) sm rd rfl) (Option.some.inj e).symm
  | dct _ _ => cases e
  | obj _ _ _ => cases e
  | kl _ => cases e
  | cell m =>
    have e : (match μ[m]? with | some (.lst xs) => some (!xs.isEmpty) | _ => none) = some b := e
    cases hc : μ[m]? with
    | none => rw [hc] at e; cases e
    | some k =>
      rw [hc] at e
      cases k with
      | lst xs => exact seqs xs (seqOf_ok (d := .cell m) sm rd (by simp only [seqOf, hc])) (Option.some.inj e).symm
      | _ => cases e
theorem tru_D (hK : X.K = g.K) : TruR X (fun x H Q => ∃ W μ d b, Sim g W μ H ∧ Rep g W d x ∧ truthD μ d = some b ∧ Q b H) := by
  intro pins s σ H x v Q I rx h
  obtain ⟨W, μ, d, b, sm, rd, e, q⟩ := h
  exact tru_ok pins s σ H x v Q I rx ⟨b, hK ▸ truV_D sm rd e, q⟩
/-- an expression whose test is its value's truth -/
theorem pt_of_pe {e : Expr} {f : EnvD → M ER} (hK : X.K = g.K) (h : PE X e (tE g wx f)) (he : ∀ whole, isTrue e X.env whole = (do let v ← whole; standAt e.pos; holding [v] (truthy v))) :
    PT X e (tT g wx fun ρ => do let x ← f ρ; getM fun μ => truthD μ x.d) := by
  refine ⟨fun pins s σ H Q I hw => ?_⟩
  obtain ⟨W, ρ, μ, sm, en, hp⟩ := hw
  refine isTrue_plain (thn ((PE.val h).run pins s σ H (fun x H1 => ∃ W1 μ1 d b, Sim g W1 μ1 H1 ∧ Rep g W1 d x ∧ truthD μ1 d = some b ∧ Q b H1) I (tV_bind sm en (.refl W H) hp fun W1 x H1 r μ1 st st0 s1 e1 rep hp1 => ?_)) fun v s1 ⟨x, H1, I1, r1, q1⟩ => tru_D hK pins s1 σ H1 x v Q I1 r1 q1) (he _)
  exact post_get hp1 fun b eb k => ⟨W1, μ1, r.d, b, s1, rep, eb, k W1 b H1 st0 s1 rfl⟩

theorem post_getB {α β γ : Type} {W0 : Wd} {H0 : Hp} {μ : List Cell} {σ : L2.St} {Rl : Wd → Hp → α → β → Prop} {Q : β → Hp → Prop} {f : List Cell → Option γ} {k : γ → M α}
    (hp : Post g wx W0 σ H0 Rl ((getM f >>= k) μ) Q) : ∃ p, f μ = some p ∧ Post g wx W0 σ H0 Rl (k p μ) Q := by
  cases h : f μ with
  | none =>
    have e : (getM f >>= k) μ = .stuck := by show M.bind (getM f) k μ = _; simp only [M.bind, getM, h]
    rw [e] at hp; exact hp.elim
  | some p =>
    have e : (getM f >>= k) μ = k p μ := by show M.bind (getM f) k μ = _; simp only [M.bind, getM, h]
    rw [e] at hp; exact ⟨p, rfl, hp⟩
/-! ### the pieces -/
theorem e_k {e : Expr} {d : D} {v : V} (h : PE X e (tC v)) (hr : ∀ W, Rep g W d v) : PE X e (tE g wx (ev c (.k d))) := by
  refine PE.mono h fun σ H Q hw => ?_
  obtain ⟨W, ρ, μ, sm, en, hp⟩ := hw
  exact hp W v H (.refl W H) sm (hr W)
theorem e_var {x : Str} {i : Nat} {pos : Pos} (h : PE X (.Name x pos) (tVar i)) : PE X (.Name x pos) (tE g wx (ev c (.v i))) := by
  refine PE.mono h fun σ H Q hw => ?_
  obtain ⟨W, ρ, μ, sm, en, hp⟩ := hw
  have hp : Post g wx W σ H (RepR g H) (ofO ((ρ[i]?).join.map ER.v) μ) Q := hp
  cases hi : ρ[i]? with
  | none => rw [hi] at hp; exact hp.elim
  | some o =>
    cases o with
    | none => rw [hi] at hp; exact hp.elim
    | some d =>
      rw [hi] at hp
      obtain ⟨v, hv, rv⟩ := en.at_ i d hi
      exact ⟨v, hv, hp W v H (.refl W H) sm rv⟩
theorem e_bin {a b : Expr} {ma mb : ME} {op : Operator} {pos : Pos} (hK : X.K = g.K) (ha : PE X a (tE g wx (ev c ma))) (hb : PE X b (tE g wx (ev c mb))) : PE X (.BinOp a op b pos) (tE g wx (ev c (.bin op ma mb))) := by
  refine PE.mono (pe_op (opBin hK op) (PE.val ha) (PE.val hb)) fun σ H Q hw => ?_
  obtain ⟨W, ρ, μ, sm, en, hp⟩ := hw
  refine tV_bind sm en (.refl W H) hp fun W1 x H1 r1 μ1 st1 st01 s1 e1 rep1 hp1 => ?_
  refine tV_bind s1 e1 st01 hp1 fun W2 y H2 r2 μ2 st2 st02 s2 e2 rep2 hp2 => ?_
  exact post_get hp2 fun r er k => ⟨W2, μ2, _, _, r, s2, rep1.leW st2.le, rep2, er, fun W' v H' st s' rr => k W' v H' (st02.trans st) s' (rr.back st02)⟩
theorem e_neg {a : Expr} {ma : ME} {pos : Pos} (ha : PE X a (tE g wx (ev c ma))) : PE X (.UnaryOp .USub a pos) (tE g wx (ev c (.neg ma))) := by
  refine PE.mono (pe_un un_neg (PE.val ha)) fun σ H Q hw => ?_
  obtain ⟨W, ρ, μ, sm, en, hp⟩ := hw
  refine tV_bind sm en (.refl W H) hp fun W1 x H1 r1 μ1 st1 st01 s1 e1 rep1 hp1 => ?_
  cases hd : r1.d with
  | int i =>
    rw [hd] at hp1 rep1
    cases rep1
    exact ⟨i, rfl, hp1 W1 _ H1 st01 s1 rfl⟩
  | _ => rw [hd] at hp1; exact hp1.elim
/-- a test whose value is a bool -/
theorem evB_bl {me : ME} {ρ : EnvD} {f : M Bool} (h : ev c me ρ = (f >>= fun b => (pure (.v (.bl b)) : M ER))) : evB c me ρ = f := by
  unfold evB
  rw [h]
  funext μ
  show M.bind (M.bind f _) _ μ = f μ
  unfold M.bind
  cases f μ <;> rfl
theorem getM_map {α β : Type} (f : List Cell → Option α) (k : α → β) : (getM fun μ => (f μ).map k) = ((getM f : M α) >>= fun b => (pure (k b) : M β)) := by
  funext μ
  show _ = M.bind (getM f) _ μ
  unfold M.bind getM
  dsimp only
  cases f μ <;> rfl
instance : LawfulMonad M := LawfulMonad.mk' M
  (fun x => by funext μ; show M.bind x _ μ = _; unfold M.bind; cases h : x μ <;> simp only [] <;> rfl)
  (fun x f => rfl)
  (fun x f g => by funext μ; show M.bind (M.bind x f) g μ = M.bind x (fun a => M.bind (f a) g) μ; unfold M.bind; cases x μ <;> rfl)
theorem e_cmp {a b : Expr} {ma mb : ME} {op : CmpOp} {pos : Pos} (hK : X.K = g.K) (hu : X.A.units + 65 < cLine) (hm : behindInMarks op b = false) (ha : PE X a (tE g wx (ev c ma))) (hb : PE X b (tE g wx (ev c mb))) :
    PE X (.Compare a [op] [b] pos) (tE g wx (ev c (.cmp op ma mb))) ∧ PT X (.Compare a [op] [b] pos) (tT g wx (evB c (.cmp op ma mb))) := by
  refine ⟨PE.mono (pe_cmpR (opCmp hK hu op) (PE.val ha) (PE.val hb) hm) fun σ H Q hw => ?_, PT.mono (pt_cmpR (opCmp hK hu op) (PE.val ha) (PE.val hb) hm) fun σ H Q hw => ?_⟩
  · obtain ⟨W, ρ, μ, sm, en, hp⟩ := hw
    refine tV_bind sm en (.refl W H) hp fun W1 x H1 r1 μ1 st1 st01 s1 e1 rep1 hp1 => ?_
    refine tV_bind s1 e1 st01 hp1 fun W2 y H2 r2 μ2 st2 st02 s2 e2 rep2 hp2 => ?_
    refine post_get hp2 fun r er k => ?_
    obtain ⟨b, eb, er⟩ := Option.map_eq_some_iff.mp er
    subst er
    exact ⟨W2, μ2, _, _, b, s2, rep1.leW st2.le, rep2, eb, k W2 _ H2 st02 s2 rfl⟩
  · obtain ⟨W, ρ, μ, sm, en, hp⟩ := hw
    rw [evB_bl (f := (ev c ma ρ) >>= fun x => (ev c mb ρ) >>= fun y => getM fun μ => cmpD μ op x.d y.d) (by
      simp only [bind_assoc, ← getM_map]; rfl)] at hp
    refine tV_bind sm en (.refl W H) hp fun W1 x H1 r1 μ1 st1 st01 s1 e1 rep1 hp1 => ?_
    refine tV_bind s1 e1 st01 hp1 fun W2 y H2 r2 μ2 st2 st02 s2 e2 rep2 hp2 => ?_
    refine post_get hp2 fun r er k => ?_
    exact ⟨W2, μ2, _, _, r, s2, rep1.leW st2.le, rep2, er, r, rfl, k W2 _ H2 st02 s2 rfl⟩

theorem e_chain {a b d : Expr} {ma mb md : ME} {o1 o2 : CmpOp} {pos : Pos} (hK : X.K = g.K) (hu : X.A.units + 65 < cLine) (hm : lastMarks [o1, o2] [b, d] = false) (ha : PE X a (tE g wx (ev c ma))) (hb : PE X b (tE g wx (ev c mb))) (hd : PE X d (tE g wx (ev c md))) :
    PE X (.Compare a [o1, o2] [b, d] pos) (tE g wx (ev c (.chain o1 o2 ma mb md))) ∧ PT X (.Compare a [o1, o2] [b, d] pos) (tT g wx (evB c (.chain o1 o2 ma mb md))) := by
  refine ⟨PE.mono (pe_chain (opCmp hK hu o1) (opCmp hK hu o2) (PE.val ha) (PE.val hb) (PE.val hd) hm) fun σ H Q hw => ?_, PT.mono (pt_chain (opCmp hK hu o1) (opCmp hK hu o2) (PE.val ha) (PE.val hb) (PE.val hd) hm) fun σ H Q hw => ?_⟩
  · obtain ⟨W, ρ, μ, sm, en, hp⟩ := hw
    refine tV_bind sm en (.refl W H) hp fun W1 x H1 r1 μ1 st1 st01 s1 e1 rep1 hp1 => ?_
    refine tV_bind s1 e1 st01 hp1 fun W2 y H2 r2 μ2 st2 st02 s2 e2 rep2 hp2 => ?_
    obtain ⟨p, ep, hp2⟩ := post_getB hp2
    refine ⟨W2, μ2, _, _, p, s2, rep1.leW st2.le, rep2, ep, p, rfl, ?_⟩
    cases p with
    | false => exact hp2 W2 _ H2 st02 s2 rfl
    | true =>
      refine tV_bind s2 e2 st02 hp2 fun W3 z H3 r3 μ3 st3 st03 s3 e3 rep3 hp3 => ?_
      refine post_get hp3 fun r er k => ?_
      obtain ⟨b, eb, er⟩ := Option.map_eq_some_iff.mp er
      subst er
      exact ⟨W3, μ3, _, _, b, s3, rep2.leW st3.le, rep3, eb, k W3 _ H3 st03 s3 rfl⟩
  · obtain ⟨W, ρ, μ, sm, en, hp⟩ := hw
    rw [evB_bl (f := (ev c ma ρ) >>= fun x => (ev c mb ρ) >>= fun y => (getM fun μ => cmpD μ o1 x.d y.d) >>= fun p => if p then (ev c md ρ) >>= fun z => (getM fun μ => cmpD μ o2 y.d z.d) else pure false) (by
      show ev c (.chain o1 o2 ma mb md) ρ = _
      simp only [bind_assoc]
      conv => lhs; unfold ev
      refine bind_congr fun x => bind_congr fun y => bind_congr fun p => ?_
      cases p with
      | false => rfl
      | true =>
        simp only [if_true, bind_assoc]
        refine bind_congr fun z => getM_map _ _)] at hp
    refine tV_bind sm en (.refl W H) hp fun W1 x H1 r1 μ1 st1 st01 s1 e1 rep1 hp1 => ?_
    refine tV_bind s1 e1 st01 hp1 fun W2 y H2 r2 μ2 st2 st02 s2 e2 rep2 hp2 => ?_
    obtain ⟨p, ep, hp2⟩ := post_getB hp2
    refine ⟨W2, μ2, _, _, p, s2, rep1.leW st2.le, rep2, ep, p, rfl, ?_⟩
    cases p with
    | false => exact ⟨false, rfl, hp2 W2 _ H2 st02 s2 rfl⟩
    | true =>
      refine tV_bind s2 e2 st02 hp2 fun W3 z H3 r3 μ3 st3 st03 s3 e3 rep3 hp3 => ?_
      refine post_get hp3 fun r er k => ?_
      exact ⟨W3, μ3, _, _, r, s3, rep2.leW st3.le, rep3, er, r, rfl, k W3 _ H3 st03 s3 rfl⟩
theorem evB_and {ma mb : ME} {ρ : EnvD} : evB c (.and ma mb) ρ = (evB c ma ρ >>= fun p => if p then evB c mb ρ else pure false) := by
  unfold evB
  conv => lhs; unfold ev
  simp only [bind_assoc]
  refine bind_congr fun x => ?_
  funext μ
  show M.bind (getM _) _ μ = M.bind (getM _) _ μ
  unfold M.bind getM
  dsimp only
  cases h : truthD μ x.d with
  | none => rfl
  | some p =>
    cases p with
    | true => rfl
    | false =>
      show M.bind (pure _) _ μ = _
      unfold M.bind
      dsimp only [pure]
      have h2 : truthD μ (ER.v x.d).d = some false := h
      rw [h2]; rfl
theorem evB_or {ma mb : ME} {ρ : EnvD} : evB c (.or ma mb) ρ = (evB c ma ρ >>= fun p => if p then pure true else evB c mb ρ) := by
  unfold evB
  conv => lhs; unfold ev
  simp only [bind_assoc]
  refine bind_congr fun x => ?_
  funext μ
  show M.bind (getM _) _ μ = M.bind (getM _) _ μ
  unfold M.bind getM
  dsimp only
  cases h : truthD μ x.d with
  | none => rfl
  | some p =>
    cases p with
    | false => rfl
    | true =>
      show M.bind (pure _) _ μ = _
      unfold M.bind
      dsimp only [pure]
      have h2 : truthD μ (ER.v x.d).d = some true := h
      rw [h2]; rfl
theorem evB_not {ma : ME} {ρ : EnvD} : evB c (.not ma) ρ = (evB c ma ρ >>= fun p => pure (!p)) := by
  refine evB_bl ?_
  unfold evB
  conv => lhs; unfold ev
  simp only [bind_assoc]
  rfl
theorem evB_ite {mt ma mb : ME} {ρ : EnvD} : evB c (.ite mt ma mb) ρ = (evB c mt ρ >>= fun p => if p then evB c ma ρ else evB c mb ρ) := by
  unfold evB
  conv => lhs; unfold ev
  simp only [bind_assoc]
  refine bind_congr fun x => bind_congr fun p => ?_
  cases p <;> rfl
theorem tT_tail {W W0 : Wd} {H H0 : Hp} {μ : List Cell} {ρ : EnvD} {σ : L2.St} {f : EnvD → M Bool} {Q : Bool → Hp → Prop} (s : Sim g W μ H) (en : EnvR g W ρ σ) (st0 : Step W0 H0 W H) (hp : Post g wx W0 σ H0 (fun _ _ a b => a = b) (f ρ μ) Q) : tT g wx f σ H Q := by
  refine ⟨W, ρ, μ, s, en, ?_⟩
  cases hr : f ρ μ with
  | stuck => rw [hr] at hp; exact hp
  | exc C vs μ' => rw [hr] at hp; exact post_exc st0 hp
  | ok r μ' => rw [hr] at hp; exact fun W' b H' st s rl => hp W' b H' (st0.trans st) s rl
theorem tE_tail {W W0 : Wd} {H H0 : Hp} {μ : List Cell} {ρ : EnvD} {σ : L2.St} {f : EnvD → M ER} {Q : V → Hp → Prop} (s : Sim g W μ H) (en : EnvR g W ρ σ) (st0 : Step W0 H0 W H) (hp : Post g wx W0 σ H0 (RepR g H0) (f ρ μ) Q) : tE g wx f σ H Q := by
  refine ⟨W, ρ, μ, s, en, ?_⟩
  cases hr : f ρ μ with
  | stuck => rw [hr] at hp; exact hp
  | exc C vs μ' => rw [hr] at hp; exact post_exc st0 hp
  | ok r μ' => rw [hr] at hp; exact fun W' b H' st s rl => hp W' b H' (st0.trans st) s (rl.back st0)
theorem tV_tail {W W0 : Wd} {H H0 : Hp} {μ : List Cell} {ρ : EnvD} {σ : L2.St} {f : EnvD → M ER} {Q : V → Hp → Prop} (s : Sim g W μ H) (en : EnvR g W ρ σ) (st0 : Step W0 H0 W H) (hp : Post g wx W0 σ H0 (fun W' _ r v => Rep g W' r.d v) (f ρ μ) Q) : tV g wx f σ H Q := by
  refine ⟨W, ρ, μ, s, en, ?_⟩
  cases hr : f ρ μ with
  | stuck => rw [hr] at hp; exact hp
  | exc C vs μ' => rw [hr] at hp; exact post_exc st0 hp
  | ok r μ' => rw [hr] at hp; exact fun W' b H' st s rl => hp W' b H' (st0.trans st) s rl
theorem e_and {a b : Expr} {ma mb : ME} {rest : List Expr} {pos : Pos} (hK : X.K = g.K) (ha : PE X a (tE g wx (ev c ma))) (hb : PE X (.BoolOp .And (b :: rest) pos) (tE g wx (ev c mb)))
    (ta : PT X a (tT g wx (evB c ma))) (tb : PW X (.BoolOp .And (b :: rest) pos) (tT g wx (evB c mb))) :
    PE X (.BoolOp .And (a :: b :: rest) pos) (tE g wx (ev c (.and ma mb))) ∧ PW X (.BoolOp .And (a :: b :: rest) pos) (tT g wx (evB c (.and ma mb))) := by
  refine ⟨PE.mono (pe_andT (PE.val ha) hb) fun σ H Q hw => ?_, PW.mono (pw_and ta tb) fun σ H Q hw => ?_⟩
  · obtain ⟨W, ρ, μ, sm, en, hp⟩ := hw
    refine tV_bind sm en (.refl W H) hp fun W1 x H1 r1 μ1 st1 st01 s1 e1 rep1 hp1 => ?_
    obtain ⟨p, ep, hp1⟩ := post_getB hp1
    refine ⟨p, hK ▸ truV_D s1 rep1 ep, ?_⟩
    cases p with
    | false => exact hp1 W1 x H1 st01 s1 rep1
    | true => exact tE_tail (f := ev c mb) s1 e1 st01 hp1
  · obtain ⟨W, ρ, μ, sm, en, hp⟩ := hw
    rw [evB_and] at hp
    refine tT_bind sm en (.refl W H) hp fun W1 H1 r1 μ1 st1 st01 s1 e1 hp1 => ?_
    cases r1 with
    | false => exact hp1 W1 _ H1 st01 s1 rfl
    | true => exact tT_tail (f := evB c mb) s1 e1 st01 hp1
theorem e_or {a b : Expr} {ma mb : ME} {rest : List Expr} {pos : Pos} (hK : X.K = g.K) (ha : PE X a (tE g wx (ev c ma))) (hb : PE X (.BoolOp .Or (b :: rest) pos) (tE g wx (ev c mb)))
    (ta : PT X a (tT g wx (evB c ma))) (tb : PW X (.BoolOp .Or (b :: rest) pos) (tT g wx (evB c mb))) :
    PE X (.BoolOp .Or (a :: b :: rest) pos) (tE g wx (ev c (.or ma mb))) ∧ PW X (.BoolOp .Or (a :: b :: rest) pos) (tT g wx (evB c (.or ma mb))) := by
  refine ⟨PE.mono (pe_orT (PE.val ha) hb) fun σ H Q hw => ?_, PW.mono (pw_or ta tb) fun σ H Q hw => ?_⟩
  · obtain ⟨W, ρ, μ, sm, en, hp⟩ := hw
    refine tV_bind sm en (.refl W H) hp fun W1 x H1 r1 μ1 st1 st01 s1 e1 rep1 hp1 => ?_
    obtain ⟨p, ep, hp1⟩ := post_getB hp1
    refine ⟨p, hK ▸ truV_D s1 rep1 ep, ?_⟩
    cases p with
    | true => exact hp1 W1 x H1 st01 s1 rep1
    | false => exact tE_tail (f := ev c mb) s1 e1 st01 hp1
  · obtain ⟨W, ρ, μ, sm, en, hp⟩ := hw
    rw [evB_or] at hp
    refine tT_bind sm en (.refl W H) hp fun W1 H1 r1 μ1 st1 st01 s1 e1 hp1 => ?_
    cases r1 with
    | true => exact hp1 W1 _ H1 st01 s1 rfl
    | false => exact tT_tail (f := evB c mb) s1 e1 st01 hp1
theorem e_not {a : Expr} {ma : ME} {pos : Pos} (hK : X.K = g.K) (ha : PE X a (tE g wx (ev c ma))) (ta : PT X a (tT g wx (evB c ma))) :
    PE X (.UnaryOp .Not a pos) (tE g wx (ev c (.not ma))) ∧ PT X (.UnaryOp .Not a pos) (tT g wx (evB c (.not ma))) := by
  refine ⟨PE.mono (pe_notT (PE.val ha)) fun σ H Q hw => ?_, PT.mono (pt_not ta) fun σ H Q hw => ?_⟩
  · obtain ⟨W, ρ, μ, sm, en, hp⟩ := hw
    refine tV_bind sm en (.refl W H) hp fun W1 x H1 r1 μ1 st1 st01 s1 e1 rep1 hp1 => ?_
    obtain ⟨p, ep, hp1⟩ := post_getB hp1
    exact ⟨p, hK ▸ truV_D s1 rep1 ep, hp1 W1 _ H1 st01 s1 rfl⟩
  · obtain ⟨W, ρ, μ, sm, en, hp⟩ := hw
    rw [evB_not] at hp
    refine tT_bind sm en (.refl W H) hp fun W1 H1 r1 μ1 st1 st01 s1 e1 hp1 => ?_
    exact hp1 W1 _ H1 st01 s1 rfl
/-- a test in both ways -/
theorem e_ite {t a b : Expr} {mt ma mb : ME} {pos : Pos} (tt : PT X t (tT g wx (evB c mt))) (ha : PE X a (tE g wx (ev c ma))) (hb : PE X b (tE g wx (ev c mb))) (ta : PT X a (tT g wx (evB c ma))) (tb : PT X b (tT g wx (evB c mb))) :
    PE X (.IfExp t a b pos) (tE g wx (ev c (.ite mt ma mb))) ∧ PT X (.IfExp t a b pos) (tT g wx (evB c (.ite mt ma mb))) := by
  refine ⟨PE.mono (pe_ifExp tt ha hb) fun σ H Q hw => ?_, ⟨fun pins s σ H Q I hw => ?_⟩⟩
  · obtain ⟨W, ρ, μ, sm, en, hp⟩ := hw
    have e : ev c (.ite mt ma mb) ρ = (evB c mt ρ >>= fun p => if p then ev c ma ρ else ev c mb ρ) := by
      unfold evB
      conv => lhs; unfold ev
      simp only [bind_assoc]
    rw [e] at hp
    refine tT_bind sm en (.refl W H) hp fun W1 H1 r1 μ1 st1 st01 s1 e1 hp1 => ?_
    cases r1 with
    | true => exact tE_tail (f := ev c ma) s1 e1 st01 hp1
    | false => exact tE_tail (f := ev c mb) s1 e1 st01 hp1
  · have hw : tT g wx (evB c mt) σ H (fun p H1 => if p = true then tT g wx (evB c ma) σ H1 Q else tT g wx (evB c mb) σ H1 Q) := by
      obtain ⟨W, ρ, μ, sm, en, hp⟩ := hw
      rw [evB_ite] at hp
      refine tT_bind sm en (.refl W H) hp fun W1 H1 r1 μ1 st1 st01 s1 e1 hp1 => ?_
      cases r1 with
      | true => exact tT_tail (f := evB c ma) s1 e1 st01 hp1
      | false => exact tT_tail (f := evB c mb) s1 e1 st01 hp1
    show wpAny (model X.prog X.w) X.A (do if ← isTrue t X.env (eval t X.env) then isTrue a X.env (eval a X.env) else isTrue b X.env (eval b X.env)) _ _ s
    refine wpAny_bind (thn (tt.run pins s σ H _ I hw) fun p s1 ⟨H1, I1, q1⟩ => ?_)
    cases p with
    | true => exact ta.run pins s1 σ H1 Q I1 q1
    | false => exact tb.run pins s1 σ H1 Q I1 q1
end
end RL

set_option Elab.async false
set_option linter.all false
set_option maxRecDepth 100000
set_option autoImplicit false
set_option maxHeartbeats 1000000
namespace RL
open PySem PySem.Spec PyProof.Rows L2
section
variable {X : Cx} {g : G0} {nm : Nm} {c : Cfg} {wx : WX}
/-! ### lists of expressions -/
theorem tAs_tail {W W0 : Wd} {H H0 : Hp} {μ : List Cell} {ρ : EnvD} {σ : L2.St} {f : EnvD → M (List D)} {Q : List V → Hp → Prop} (s : Sim g W μ H) (en : EnvR g W ρ σ) (st0 : Step W0 H0 W H)
    (hp : Post g wx W0 σ H0 (fun W' _ r vs => Reps g W' r vs) (f ρ μ) Q) : tAs g wx f σ H Q := by
  refine ⟨W, ρ, μ, s, en, ?_⟩
  cases hr : f ρ μ with
  | stuck => rw [hr] at hp; exact hp
  | exc C vs μ' => rw [hr] at hp; exact post_exc st0 hp
  | ok r μ' => rw [hr] at hp; exact fun W' b H' st s rl => hp W' b H' (st0.trans st) s rl
theorem tAs_map {W W0 : Wd} {H H0 : Hp} {μ : List Cell} {ρ : EnvD} {σ : L2.St} {f : EnvD → M (List D)} {k : List D → List D} {Q : List V → Hp → Prop} {K : List V → Hp → Prop} (s : Sim g W μ H) (en : EnvR g W ρ σ) (st0 : Step W0 H0 W H)
    (hp : Post g wx W0 σ H0 (fun W' _ r vs => Reps g W' r vs) ((f ρ >>= fun xs => (pure (k xs) : M (List D))) μ) Q)
    (h : ∀ W1 H1 r vs, Step W H W1 H1 → Reps g W1 r vs → (∀ ws, Reps g W1 (k r) ws → Q ws H1) → K vs H1) : tAs g wx f σ H K := by
  refine tAs_bind s en st0 hp fun W1 xs H1 r μ1 st1 st01 s1 e1 rr hp1 => ?_
  exact h W1 H1 r xs st1 rr fun ws rw' => hp1 W1 ws H1 st01 s1 rw'
theorem a_nil : PA X [] (tAs g wx (evs c [])) := by
  refine PA.mono pa_nil fun σ H Q hw => ?_
  obtain ⟨W, ρ, μ, sm, en, hp⟩ := hw
  exact hp W [] H (.refl W H) sm rfl
theorem a_cons {e : Expr} {es : List Expr} {m : ME} {ms : List ME} (hm : ∀ m', m ≠ .star m') (he : PE X e (tE g wx (ev c m))) (hr : PA X es (tAs g wx (evs c ms))) (hs : starEach (e :: es) X.env = (false, eval e X.env) :: starEach es X.env) :
    PA X (e :: es) (tAs g wx (evs c (m :: ms))) := by
  refine PA.mono (pa_cons (PE.val he) hr hs) fun σ H Q hw => ?_
  obtain ⟨W, ρ, μ, sm, en, hp⟩ := hw
  have e : evs c (m :: ms) ρ = (ev c m ρ >>= fun x => evs c ms ρ >>= fun xs => (pure (x.d :: xs) : M (List D))) := by
    cases m <;> first | rfl | exact absurd rfl (hm _)
  rw [e] at hp
  refine tV_bind sm en (.refl W H) hp fun W1 x H1 r1 μ1 st1 st01 s1 e1 rep1 hp1 => ?_
  exact tAs_map (f := evs c ms) (k := fun xs => r1.d :: xs) s1 e1 st01 hp1 fun W2 H2 r vs st2 rr q => q _ (Reps.cons (rep1.leW st2.le) rr)
theorem a_star {e : Expr} {es : List Expr} {m : ME} {ms : List ME} {p : Pos} (hK : X.K = g.K) (he : PE X e (tE g wx (ev c m))) (hr : PA X es (tAs g wx (evs c ms))) (hs : starEach (.Starred e p :: es) X.env = (true, eval e X.env) :: starEach es X.env) :
    PA X (.Starred e p :: es) (tAs g wx (evs c (.star m :: ms))) := by
  refine PA.mono (StX.pa_star (PE.val he) hr hs) fun σ H Q hw => ?_
  obtain ⟨W, ρ, μ, sm, en, hp⟩ := hw
  refine tV_bind sm en (.refl W H) (k := fun x => (getM fun μ => seqOf μ x.d) >>= fun xs => evs c ms ρ >>= fun ys => (pure (xs ++ ys) : M (List D))) hp fun W1 x H1 r1 μ1 st1 st01 s1 e1 rep1 hp1 => ?_
  obtain ⟨xs, ex, hp1⟩ := post_getB hp1
  obtain ⟨a, vs, ev', hq, rr⟩ := seqOf_ok s1 rep1 ex
  refine ⟨a, vs, ev', ?_, ?_⟩
  · rw [hK]; exact hq.symm
  · exact tAs_map (f := evs c ms) (k := fun ys => xs ++ ys) s1 e1 st01 hp1 fun W2 H2 r ws st2 rr2 q => q _ ((rr.leW st2.le).append rr2)
theorem e_tup {es : List Expr} {ms : List ME} {x1 : Nat} {pos : Pos} (h : PA X es (tAs g wx (evs c ms))) : PE X (.Tuple es x1 pos) (tE g wx (ev c (.tup ms))) := by
  refine PE.mono (pe_tup h) fun σ H Q hw => ?_
  obtain ⟨W, ρ, μ, sm, en, hp⟩ := hw
  refine tAs_bind sm en (.refl W H) (k := fun xs => if xs.length ≤ lineN then (pure (.v (.tup xs)) : M ER) else stuck) hp fun W1 vs H1 r μ1 st1 st01 s1 e1 rr hp1 => ?_
  split at hp1
  · rename_i hl
    refine ⟨by rw [← rr.len, ← lineN_eq]; exact hl, new_tup s1 rr fun W' v H' st s' r' => hp1 W' v H' (st01.trans st) s' (RepR.back st01 r')⟩
  · exact hp1.elim
theorem e_lst {es : List Expr} {ms : List ME} {pos : Pos} (h : PA X es (tAs g wx (evs c ms))) : PE X (.List es pos) (tE g wx (ev c (.lst ms))) := by
  refine PE.mono (pe_lst h) fun σ H Q hw => ?_
  obtain ⟨W, ρ, μ, sm, en, hp⟩ := hw
  refine tAs_bind sm en (.refl W H) (k := fun xs => if xs.length ≤ lineN then (pure (.fl xs) : M ER) else stuck) hp fun W1 vs H1 r μ1 st1 st01 s1 e1 rr hp1 => ?_
  split at hp1
  · rename_i hl
    refine ⟨by rw [← rr.len, ← lineN_eq]; exact hl, new_lst s1 rr fun W' v H' st s' r' => hp1 W' v H' (st01.trans st) s' (RepR.back st01 r')⟩
  · exact hp1.elim

/-! ### subscripts -/
theorem rep_atI {W : Wd} {ds : List D} {vs : List V} {j : Int} {d : D} (r : Reps g W ds vs) (e : atI ds j = some d) : ∃ v, atI vs j = some v ∧ Rep g W d v := by
  unfold atI at e ⊢
  rw [r.len] at e
  cases h : ixN vs.length j with
  | none => rw [h] at e; cases e
  | some k => rw [h] at e; exact r.get e
theorem ix_D (hK : X.K = g.K) (hu : X.A.units + 200 < cLine) : IxR X (fun x y H Q => ∃ W μ a i d, Sim g W μ H ∧ Rep g W a x ∧ Rep g W i y ∧ subD μ a i = some d ∧ ∀ v, Rep g W d v → Q v H) := by
  intro value slice pins s σ H x y v u Q I rx ry h hs
  obtain ⟨W, μ, a, i, d, sm, ra, ri, e, q⟩ := h
  have dic : (match dctOf μ a with | some (ks, vs) => if alikeKeys i ks then look i ks vs else none | none => none) = some d → wpAny (model X.prog X.w) X.A (subscriptTail value slice v u) (EP X pins σ Q) X.xe s := fun e => by
    cases hd : dctOf μ a with
    | none => rw [hd] at e; cases e
    | some kv =>
      obtain ⟨ks, xs⟩ := kv
      rw [hd] at e
      have e : (if alikeKeys i ks then look i ks xs else none) = some d := e
      split at e
      · rename_i ha
        obtain ⟨p, vs, ex, dr, rr⟩ := dctOf_ok sm ra hd
        obtain ⟨o, dg, h1, _, _⟩ := dget_ok sm ri dr rr ha
        obtain ⟨w, ew, rw'⟩ := h1 d e
        subst ew ex
        cases rx
        exact tail_any (dict_typeIs I dg) PySem.F.slot_dict_getitem.lookup (d_getItem (by omega) I dg ry fun w' s3 I3 r3 => ⟨w, H, I3, r3, q w rw'⟩) hs
      · cases e
  have seq : ∀ xs j, i = .int j → seqOf μ a = some xs → atI xs j = some d → wpAny (model X.prog X.w) X.A (subscriptTail value slice v u) (EP X pins σ Q) X.xe s := fun xs j ei es e1 => by
    subst ei
    obtain ⟨p, vs, ex, hq, rr⟩ := seqOf_ok sm ra es
    obtain ⟨w, ew, rw'⟩ := rep_atI rr e1
    cases ri
    refine ix_seq value slice pins s σ H x (.int j) v u Q I rx ry ?_ hs
    rcases hq with hq | hq
    · exact .inl ⟨p, vs, j, w, ex, rfl, hK ▸ hq, ew, q w rw'⟩
    · exact .inr (.inl ⟨p, vs, j, w, ex, rfl, hK ▸ hq, ew, q w rw'⟩)
  cases i with
  | int j =>
    have gen : (match seqOf μ a with
        | some xs => atI xs j
        | none => match dctOf μ a with | some (ks, vs) => if alikeKeys (.int j) ks then look (.int j) ks vs else none | none => none) = some d → wpAny (model X.prog X.w) X.A (subscriptTail value slice v u) (EP X pins σ Q) X.xe s := fun e => by
      cases hq : seqOf μ a with
      | some xs => rw [hq] at e; exact seq xs j rfl hq e
      | none => rw [hq] at e; exact dic e
    clear dic seq
    cases a with
    | str z =>
      have e : (if z.length ≤ sizeLine then (atI z.cps.toList j).map fun c => D.str ⟨#[c]⟩ else none) = some d := e
      split at e
      · rename_i hz
        obtain ⟨ch, ec, ed⟩ := Option.map_eq_some_iff.mp e
        subst ed
        cases ra
        cases ri
        exact ix_seq value slice pins s σ H _ _ v u Q I rx ry (.inr (.inr ⟨z, j, ch, rfl, rfl, hz, ec, q _ rfl⟩)) hs
      · cases e
    | _ => exact gen e
  | _ => exact dic e
theorem e_sub {a i : Expr} {ma mi : ME} {pos : Pos} (hK : X.K = g.K) (hu : X.A.units + 200 < cLine) (hs : PlainIx i) (ha : PE X a (tE g wx (ev c ma))) (hi : PE X i (tE g wx (ev c mi))) : PE X (.Subscript a i pos) (tE g wx (ev c (.sub ma mi))) := by
  refine PE.mono (pe_ix (ix_D hK hu) (PE.val ha) (PE.val hi) hs) fun σ H Q hw => ?_
  obtain ⟨W, ρ, μ, sm, en, hp⟩ := hw
  refine tV_bind sm en (.refl W H) hp fun W1 x H1 r1 μ1 st1 st01 s1 e1 rep1 hp1 => ?_
  refine tV_bind s1 e1 st01 hp1 fun W2 y H2 r2 μ2 st2 st02 s2 e2 rep2 hp2 => ?_
  refine post_get hp2 fun r er k => ?_
  obtain ⟨d, ed, er⟩ := Option.map_eq_some_iff.mp er
  subst er
  exact ⟨W2, μ2, _, _, d, s2, rep1.leW st2.le, rep2, ed, fun v rv => k W2 v H2 st02 s2 rv⟩

/-! ### slices -/
def tP (g : G0) (wx : WX) (f : EnvD → M (Option Int)) : TO := fun σ H Q => ∃ W ρ μ, Sim g W μ H ∧ EnvR g W ρ σ ∧ Post g wx W σ H (fun _ _ a b => a = b) (f ρ μ) Q
theorem PO.mono {e : Option Expr} {t t' : TO} (h : PO X e t) (m : ∀ σ H Q, t' σ H Q → t σ H Q) : PO X e t' := ⟨fun pins s σ H Q I hw => h.run pins s σ H Q I (m _ _ _ hw)⟩
theorem o_none : PO X none (tP g wx (evp c .absent)) := by
  refine PO.mono po_none fun σ H Q hw => ?_
  obtain ⟨W, ρ, μ, sm, en, hp⟩ := hw
  exact hp W none H (.refl W H) sm rfl
theorem o_some {e : Expr} {m : ME} (h : PE X e (tE g wx (ev c m))) : PO X (some e) (tP g wx (evp c (.star m))) := by
  refine PO.mono (po_some (PE.val h)) fun σ H Q hw => ?_
  obtain ⟨W, ρ, μ, sm, en, hp⟩ := hw
  refine tV_bind sm en (.refl W H) (k := fun x => match x.d with | .int i => (pure (some i) : M (Option Int)) | _ => stuck) hp fun W1 x H1 r1 μ1 st1 st01 s1 e1 rep1 hp1 => ?_
  cases hd : r1.d with
  | int i =>
    rw [hd] at hp1 rep1
    cases rep1
    exact ⟨i, rfl, hp1 W1 _ H1 st01 s1 rfl⟩
  | _ => rw [hd] at hp1; exact hp1.elim
theorem tP_bind {α β : Type} {Rl : Wd → Hp → α → β → Prop} {Q : β → Hp → Prop} {W W0 : Wd} {H H0 : Hp} {μ : List Cell} {ρ : EnvD} {σ : L2.St} {f : EnvD → M (Option Int)} {k : Option Int → M α} {K : Option Int → Hp → Prop} (s : Sim g W μ H) (en : EnvR g W ρ σ) (st0 : Step W0 H0 W H)
    (hp : Post g wx W0 σ H0 Rl ((f ρ >>= k) μ) Q)
    (h : ∀ W1 H1 r μ1, Step W H W1 H1 → Step W0 H0 W1 H1 → Sim g W1 μ1 H1 → EnvR g W1 ρ σ → Post g wx W0 σ H0 Rl (k r μ1) Q → K r H1) : tP g wx f σ H K := by
  refine ⟨W, ρ, μ, s, en, ?_⟩
  have hp : Post g wx W0 σ H0 Rl (M.bind (f ρ) k μ) Q := hp
  unfold M.bind at hp
  cases hr : f ρ μ with
  | stuck => rw [hr] at hp; exact hp
  | exc C vs μ' => rw [hr] at hp; exact post_exc st0 hp
  | ok r μ' =>
    rw [hr] at hp
    intro W1 x H1 st1 s1 rep
    subst rep
    exact h W1 H1 r μ' st1 (st0.trans st1) s1 (en.le st1.le) hp
theorem cut_len {α β : Type} {xs : List α} {ys : List β} (h : xs.length = ys.length) (lo hi : Option Int) : (cutD xs lo hi) = (xs.drop (HT.sIx ys.length 0 lo)).take (HT.sIx ys.length ys.length hi - HT.sIx ys.length 0 lo) := by unfold cutD; rw [h]
theorem sl_D (hK : X.K = g.K) : SlR X (fun x lo hi H Q => ∃ W μ a r, Sim g W μ H ∧ Rep g W a x ∧ sliceD μ a lo hi = some r ∧ ∀ W' v H', Step W H W' H' → Sim g W' μ H' → RepR g H W' H' r v → Q v H') := by
  intro pins s σ H x v vl vu lo hi sl Q I rx hs pl pu h
  obtain ⟨W, μ, a, r, sm, ra, e, q⟩ := h
  have cutR : ∀ {ds : List D} {vs : List V}, Reps g W ds vs → Reps g W (cutD ds lo hi) (cutV vs lo hi) := fun {ds vs} rr => by
    rw [cut_len rr.len]
    exact (rr.drop _).take _
  have gen : ∀ xs, seqOf μ a = some xs → (∀ ys, a ≠ .tup ys) → r = .fl (cutD xs lo hi) → ∃ T id, typeLookup (.type T) "__getitem__" = pure (some (.builtin id)) ∧ s.TypeIs v T ∧ wpAny (model X.prog X.w) X.A (getItem v (.ref sl)) (EP X pins σ Q) X.xe s := fun xs es nt er => by
    subst er
    have es' : ∃ p vs, x = .ref p ∧ SqL X.K H p vs ∧ Reps g W xs vs := by
      have lists : listOf μ a = some xs → ∃ p vs, x = .ref p ∧ SqL X.K H p vs ∧ Reps g W xs vs := fun e => by
        obtain ⟨p, vs, ex, hq, rr⟩ := listOf_ok sm ra e
        exact ⟨p, vs, ex, .inl hq, rr⟩
      cases a with
      | tup ys => exact absurd rfl (nt ys)
      | kl ns =>
        obtain rfl : ns.map D.int = xs := Option.some.inj es
        obtain ⟨p, ex, hp⟩ := ra
        exact ⟨p, _, ex, by rw [hK]; exact sm.sqL hp, ints_reps ns⟩
      | _ => exact lists es
    obtain ⟨p, vs, ex, hq, rr⟩ := es'
    subst ex
    exact sl_list pins s σ H (.ref p) v vl vu lo hi sl Q I rx hs pl pu ⟨p, vs, rfl, hq, new_lst sm (cutR rr) q⟩
  cases a with
  | str z =>
    have e : (if z.length ≤ sizeLine then some (ER.v (.str ⟨(cutD z.cps.toList lo hi).toArray⟩)) else none) = some r := e
    split at e
    · rename_i hz
      cases e
      cases ra
      refine sl_str pins s σ H (.str z) v vl vu lo hi sl Q I rx hs pl pu ⟨z, rfl, hz, ?_⟩
      have el : z.cps.toList.length = z.length := by simp [Str.length]
      have : cutS z lo hi = ⟨(cutD z.cps.toList lo hi).toArray⟩ := by unfold cutS cutD; rw [el]
      rw [this]
      exact fin_str sm q
    · cases e
  | tup xs =>
    cases (show some (ER.v (.tup (cutD xs lo hi))) = some r from e)
    obtain ⟨p, vs, ex, ha, rr⟩ := ra
    subst ex
    refine sl_tupA pins s σ H (.ref p) v vl vu lo hi sl Q I rx hs pl pu ⟨p, vs, rfl, hK ▸ sm.sqT ha, fun hw => ?_, fun _ => new_tup sm (cutR rr) q⟩
    have : cutD xs lo hi = xs := by
      rw [cut_len rr.len, hw.1, hw.2, List.drop_zero, Nat.sub_zero, ← rr.len, List.take_length]
    rw [this] at q
    exact q W _ H (.refl W H) sm ⟨p, vs, rfl, ha, rr⟩
  | kl ns => exact gen (ns.map .int) rfl (fun _ => nofun) (Option.some.inj (show some (ER.fl (cutD (ns.map D.int) lo hi)) = some r from e)).symm
  | lst xs => exact gen xs rfl (fun _ => nofun) (Option.some.inj (show some (ER.fl (cutD xs lo hi)) = some r from e)).symm
  | cell n =>
    have e : (seqOf μ (.cell n)).map (fun xs => ER.fl (cutD xs lo hi)) = some r := e
    obtain ⟨xs, ex, er⟩ := Option.map_eq_some_iff.mp e
    exact gen xs ex (fun _ => nofun) er.symm
  | _ => cases e
theorem e_slice {a : Expr} {lo hi : Option Expr} {ma ml mh : ME} {pos p2 : Pos} (hK : X.K = g.K) (ha : PE X a (tE g wx (ev c ma))) (hl : PO X lo (tP g wx (evp c ml))) (hh : PO X hi (tP g wx (evp c mh))) :
    PE X (.Subscript a (.Slice lo hi none p2) pos) (tE g wx (ev c (.slice ma ml mh))) := by
  refine PE.mono (pe_slice (sl_D hK) (PE.val ha) hl hh) fun σ H Q hw => ?_
  obtain ⟨W, ρ, μ, sm, en, hp⟩ := hw
  refine tV_bind sm en (.refl W H) hp fun W1 x H1 r1 μ1 st1 st01 s1 e1 rep1 hp1 => ?_
  refine tP_bind s1 e1 st01 hp1 fun W2 H2 r2 μ2 st2 st02 s2 e2 hp2 => ?_
  refine tP_bind s2 e2 st02 hp2 fun W3 H3 r3 μ3 st3 st03 s3 e3 hp3 => ?_
  exact post_get hp3 fun r er k => ⟨W3, μ3, _, r, s3, rep1.leW (st2.le.trans st3.le), er, fun W' v H' st s' rr => k W' v H' (st03.trans st) s' (RepR.back st03 rr)⟩

/-! ### calls -/
theorem e_callB {b : BI} {x : Str} {e : Expr} {es : List Expr} {ms : List ME} {f : Value} {p pos : Pos} (hf : ∀ t r, CallR X f r → PA X (e :: es) t → PE X (.Call (.Name x p) (e :: es) [] pos) (tCB r t))
    (hc : CallR X f (rPn g fun μ xs => biD μ b xs)) (ha : PA X (e :: es) (tAs g wx (evs c ms))) : PE X (.Call (.Name x p) (e :: es) [] pos) (tE g wx (ev c (.callB b ms))) := by
  refine PE.mono (hf _ _ hc ha) fun σ H Q hw => ?_
  obtain ⟨W, ρ, μ, sm, en, hp⟩ := hw
  refine tAs_bind sm en (.refl W H) (k := fun xs => getM fun μ => biD μ b xs) hp fun W1 vs H1 r1 μ1 st1 st01 s1 e1 rep1 hp1 => ?_
  exact post_get hp1 fun r er k => ⟨W1, μ1, _, r, s1, rep1, er, fun W' v H' st s' rr => k W' v H' (st01.trans st) s' (RepR.back st01 rr)⟩
theorem pe_callF {k : Nat} {f : Addr} {fd : FuncData} {ps : List Str} {sp : Sp} {t : TA} {x : Str} {e : Expr} {r : List Expr} {p pos : Pos} {T : TE} (F : FnG X.prog X.w X.K X.mg X.base k f fd ps sp) (hr : Room k X.A) (hgd : X.A.guards = some []) (hg : Gl X x) (hm : X.mg x = some (.ref f)) (hk : PySem.W.keepIn X.K (.ref f) = true)
    (tk : Takes X wx) (ha : PA X (e :: r) t) (hdb : (x == ("__debug__" : Str)) = false)
    (he : starEach (e :: r) X.env = (false, eval e X.env) :: starEach r X.env) (hpl : (backTo pos (starEach r X.env)).any (·.1) = false)
    (h : ∀ σ H Q, T σ H Q → t σ H fun vs H1 => ∃ ds dvs, Binds X.K fd ps ds ∧ (∀ us, Vals vs us → (us ++ ds).length = ps.length) ∧ Vals dvs ds ∧ sp (vs ++ dvs) H1 Q (WE wx σ)) :
    PE X (.Call (.Name x p) (e :: r) [] pos) T := by
  refine ⟨fun pins s σ H Q I hw => ?_⟩
  refine wpAny_Call_Name_kw (ld_glob I hg hm ?_ hdb)
  have hw := h σ H Q hw
  refine PySem.W.callWith_K (h₀ := X.base) I.ok.mod.kin hk (thn (ha.run pos pins s σ H _ I hw) fun us s1 ⟨vs, H1, I1, r, ds, dvs, hb, hl, hd, q⟩ => ⟨I1.kIn, ?_⟩) he hpl
  exact run_fnG F hr hgd hb (hl us r) hd tk I1 r q
theorem pe_callF0 {k : Nat} {f : Addr} {fd : FuncData} {ps : List Str} {sp : Sp} {x : Str} {p pos : Pos} {T : TE} (F : FnG X.prog X.w X.K X.mg X.base k f fd ps sp) (hr : Room k X.A) (hgd : X.A.guards = some []) (hg : Gl X x) (hm : X.mg x = some (.ref f)) (hk : PySem.W.keepIn X.K (.ref f) = true)
    (tk : Takes X wx) (hdb : (x == ("__debug__" : Str)) = false)
    (h : ∀ σ H Q, T σ H Q → ∃ ds dvs, Binds X.K fd ps ds ∧ ds.length = ps.length ∧ Vals dvs ds ∧ sp dvs H Q (WE wx σ)) :
    PE X (.Call (.Name x p) [] [] pos) T := by
  refine ⟨fun pins s σ H Q I hw => ?_⟩
  refine wpAny_Call_Name_kw (ld_glob I hg hm ?_ hdb)
  obtain ⟨ds, dvs, hb, hl, hd, q⟩ := h σ H Q hw
  exact PySem.W.callWith_K0 I.kIn hk (run_fnG (us := []) (vs := []) F hr hgd hb hl hd tk I .nil q)
theorem e_callF (hc : Ctx g nm c X wx) {f : Nat} {x : Str} {es : List Expr} {ms : List ME} {p pos : Pos} (hn : nm.gn x = .fn f) (hg : Gl X x) (hdb : (x == ("__debug__" : Str)) = false)
    (he : ∀ e r, es = e :: r → starEach (e :: r) X.env = (false, eval e X.env) :: starEach r X.env) (hpl : ∀ e r, es = e :: r → (backTo pos (starEach r X.env)).any (·.1) = false)
    (hms : es = [] → ms = []) (ha : PA X es (tAs g wx (evs c ms))) : PE X (.Call (.Name x p) es [] pos) (tE g wx (ev c (.callF f ms))) := by
  obtain ⟨a, fd, ps, k, F, hm, hk, FG, hr, hd⟩ := hc.call x f hn
  have fin : ∀ {σ : L2.St} {H H1 : Hp} {W W1 : Wd} {μ1 : List Cell} {Q : VK} {r1 : List D} {vs : List V}, Step W H W1 H1 → Sim g W1 μ1 H1 → Reps g W1 r1 vs → Post g wx W σ H (RepR g H) (c.call f r1 μ1) Q →
      ∃ ds dvs, Binds X.K fd ps ds ∧ (∀ us : List Value, Vals vs us → (us ++ ds).length = ps.length) ∧ Vals dvs ds ∧ spD g F (vs ++ dvs) H1 Q (WE wx σ) := fun {σ H H1 W W1 μ1 Q r1 vs} st01 s1 rep1 hp1 => by
    rcases hd r1.length with hd | ⟨ds, dvs, dd, hb, hl, hv, hrd, hcl⟩
    · rw [hd r1 rfl] at hp1; exact hp1.elim
    · refine ⟨ds, dvs, hb, fun us rv => ?_, hv, W1, μ1, r1 ++ dd, s1, rep1.append (hrd W1), ?_⟩
      · rw [List.length_append, ← rv.length, ← rep1.len]; exact hl
      · rw [hcl r1 rfl] at hp1
        cases hr : F (r1 ++ dd) μ1 with
        | stuck => rw [hr] at hp1; exact hp1
        | ok r μ' => rw [hr] at hp1; exact fun W' v H' st s' rr => hp1 W' v H' (st01.trans st) s' (RepR.back st01 rr)
        | exc C vs μ' => rw [hr] at hp1; exact fun W' H' dd st s' x => hp1 W' H' dd (st01.trans st) s' x
  cases es with
  | nil =>
    rw [hms rfl]
    refine pe_callF0 FG hr hc.gd hg hm hk hc.tk hdb fun σ H Q hw => ?_
    obtain ⟨W, ρ, μ, sm, en, hp⟩ := hw
    have hp : Post g wx W σ H (RepR g H) (c.call f [] μ) Q := hp
    obtain ⟨ds, dvs, h1, h2, h3, h4⟩ := fin (r1 := []) (vs := []) (.refl W H) sm Reps.nil hp
    exact ⟨ds, dvs, h1, h2 [] .nil, h3, h4⟩
  | cons e r =>
    refine pe_callF FG hr hc.gd hg hm hk hc.tk ha hdb (he e r rfl) (hpl e r rfl) fun σ H Q hw => ?_
    obtain ⟨W, ρ, μ, sm, en, hp⟩ := hw
    refine tAs_bind sm en (.refl W H) (k := fun xs => c.call f xs) hp fun W1 vs H1 r1 μ1 st1 st01 s1 e1 rep1 hp1 => ?_
    exact fin st01 s1 rep1 hp1
end
end RL

set_option Elab.async false
set_option linter.all false
set_option maxRecDepth 100000
set_option autoImplicit false
set_option maxHeartbeats 1000000
namespace RL
open PySem PySem.Spec PyProof.Rows L2

/-! ### what is walked -/
structure ItR (g : G0) (W0 : Wd) (H0 : Hp) (i : Itm) (J : It) : Prop where
  go : ∀ W μ H k, Step W0 H0 W H → Sim g W μ H → still i.w μ = true → k < i.xs.length → J.go k H
  stop : ∀ W μ H, Step W0 H0 W H → Sim g W μ H → still i.w μ = true → J.stop i.xs.length H
  yld : ∀ W μ H k x H' d, Step W0 H0 W H → Sim g W μ H → still i.w μ = true → i.xs[k]? = some d → J.yld k H x H' → ∃ W', Step W H W' H' ∧ Sim g W' μ H' ∧ Rep g W' d x
def tI (g : G0) (wx : WX) (f : EnvD → M Itm) : TI := fun σ H R => ∃ W ρ μ, Sim g W μ H ∧ EnvR g W ρ σ ∧ Post g wx W σ H (fun W' H' i J => ItR g W' H' i J) (f ρ μ) R
theorem still_app {w w' : List (Nat × Cell)} {μ : List Cell} (h : still (w ++ w') μ = true) : still w μ = true ∧ still w' μ = true := by
  unfold still at h ⊢
  rw [List.all_append, Bool.and_eq_true] at h
  exact h
section
variable {g : G0} {W0 : Wd} {H0 : Hp} {μ0 : List Cell}
/-- a list, as it stands while the watch holds -/
theorem list_at {d : D} {x : V} {xs : List D} (s0 : Sim g W0 μ0 H0) (r : Rep g W0 d x) (e : listOf μ0 d = some xs) : ∃ a, x = .ref a ∧ ∀ W μ H, Step W0 H0 W H → Sim g W μ H → still (watchOf μ0 d) μ = true → ∃ vs, SqL g.K H a vs ∧ Reps g W xs vs := by
  cases d with
  | lst ys =>
    obtain rfl : ys = xs := Option.some.inj e
    obtain ⟨a, vs, ex, ha, rr⟩ := r
    exact ⟨a, ex, fun W μ H st s _ => ⟨vs, .inl (s.fz _ _ (st.le.F _ _ ha)), rr.leW st.le⟩⟩
  | cell n =>
    have e : (match μ0[n]? with | some (.lst xs) => some xs | _ => none) = some xs := e
    cases hc : μ0[n]? with
    | none => rw [hc] at e; cases e
    | some c =>
      rw [hc] at e
      cases c with
      | lst ys =>
        obtain rfl : ys = xs := Option.some.inj e
        obtain ⟨a, ex, ha⟩ := r
        refine ⟨a, ex, fun W μ H st s hs => ?_⟩
        have hw : watchOf μ0 (.cell n) = [(n, .lst ys)] := by simp only [watchOf, hc]
        rw [hw] at hs
        have hs : decide (μ[n]? = some (.lst ys)) = true := by simpa [still] using hs
        obtain ⟨a', ha', vs, hv, rr⟩ := s.cl n _ (of_decide_eq_true hs)
        rw [st.le.at ha] at ha'; cases ha'
        exact ⟨vs, .inl (.inl hv), rr⟩
      | _ => cases e
  | _ => cases e
theorem itr_list {d : D} {x : V} {xs : List D} (s0 : Sim g W0 μ0 H0) (r : Rep g W0 d x) (e : listOf μ0 d = some xs) : ∃ a, x = .ref a ∧ (∃ vs, SqL g.K H0 a vs) ∧ ItR g W0 H0 ⟨xs, watchOf μ0 d⟩ (Itl g.K a) := by
  obtain ⟨a, ex, h⟩ := list_at s0 r e
  refine ⟨a, ex, ?_, fun W μ H k st s hs hk => ?_, fun W μ H st s hs => ?_, fun W μ H k x H' d' st s hs hk hy => ?_⟩
  · obtain ⟨b, vs, ex', hq, _⟩ := listOf_ok s0 r e
    rw [ex] at ex'; cases ex'
    exact ⟨vs, .inl hq⟩
  · obtain ⟨vs, hq, rr⟩ := h W μ H st s hs
    have hk : k < vs.length := by rw [← rr.len]; exact hk
    exact ⟨vs, vs[k], hq, by simp [hk]⟩
  · obtain ⟨vs, hq, rr⟩ := h W μ H st s hs
    exact ⟨vs, hq, by rw [← rr.len]; exact Nat.le_refl _⟩
  · obtain ⟨vs, hq, rr⟩ := h W μ H st s hs
    obtain ⟨eh, hy⟩ := hy
    subst eh
    obtain ⟨v, hv, rv⟩ := rr.get hk
    rw [hy vs hq] at hv; cases hv
    exact ⟨W, .refl W H', s, rv⟩
theorem itr_kl {x : V} {ns : List Int} (s0 : Sim g W0 μ0 H0) (r : Rep g W0 (.kl ns) x) : ∃ a, x = .ref a ∧ (∃ vs, SqL g.K H0 a vs) ∧ ItR g W0 H0 ⟨ns.map .int, []⟩ (Itl g.K a) := by
  obtain ⟨a, ex, ha⟩ := r
  have h : ∀ W μ H, Step W0 H0 W H → Sim g W μ H → SqL g.K H a (ns.map V.int) := fun W μ H st s => s.sqL (ha.le st.le)
  refine ⟨a, ex, ⟨_, s0.sqL ha⟩, fun W μ H k st s hs hk => ?_, fun W μ H st s hs => ?_, fun W μ H k x H' d' st s hs hk hy => ?_⟩
  · have hk : k < (ns.map V.int).length := by simpa using hk
    exact ⟨_, (ns.map V.int)[k], h W μ H st s, by simp [hk]⟩
  · exact ⟨_, h W μ H st s, by simp⟩
  · obtain ⟨eh, hy⟩ := hy
    subst eh
    obtain ⟨v, hv, rv⟩ := (ints_reps (g := g) (W := W) ns).get hk
    rw [hy _ (h W μ H' st s)] at hv; cases hv
    exact ⟨W, .refl W H', s, rv⟩
theorem itr_tup {x : V} {xs : List D} (r : Rep g W0 (.tup xs) x) : ∃ a, x = .ref a ∧ (∀ W μ H, Step W0 H0 W H → Sim g W μ H → ∃ vs, SqT g.K H a vs ∧ Reps g W xs vs) ∧ ItR g W0 H0 ⟨xs, []⟩ (Itt g.K a) := by
  obtain ⟨a, vs, ex, ha, rr⟩ := r
  have h : ∀ W μ H, Step W0 H0 W H → Sim g W μ H → SqT g.K H a vs := fun W μ H st s => s.sqT (ha.le st.le)
  refine ⟨a, ex, fun W μ H st s => ⟨vs, h W μ H st s, rr.leW st.le⟩, fun W μ H k st s hs hk => ?_, fun W μ H st s hs => ?_, fun W μ H k x H' d' st s hs hk hy => ?_⟩
  · have hk : k < vs.length := by rw [← rr.len]; exact hk
    exact ⟨vs, vs[k], h W μ H st s, by simp [hk]⟩
  · exact ⟨vs, h W μ H st s, by rw [← rr.len]; exact Nat.le_refl _⟩
  · obtain ⟨eh, hy⟩ := hy
    subst eh
    obtain ⟨v, hv, rv⟩ := (rr.leW st.le).get hk
    rw [hy vs (h W μ H' st s)] at hv; cases hv
    exact ⟨W, .refl W H', s, rv⟩
theorem itr_str {z : Str} : ItR g W0 H0 ⟨chars z, []⟩ (Its z) := by
  have hl : (chars z).length = z.cps.size := by simp [chars]
  refine ⟨fun W μ H k st s hs hk => ?_, fun W μ H st s hs => ?_, fun W μ H k x H' d' st s hs hk hy => ?_⟩
  · show k < z.cps.size
    rw [← hl]; exact hk
  · show z.cps.size ≤ _
    rw [← hl]; exact Nat.le_refl _
  · obtain ⟨eh, ch, hc, ex⟩ := hy
    subst eh ex
    have : (chars z)[k]? = some (.str ⟨#[ch]⟩) := by
      unfold chars
      rw [List.getElem?_map, Array.getElem?_toList, hc]; rfl
    have hk : (chars z)[k]? = some d' := hk
    rw [this] at hk; cases hk
    exact ⟨W, .refl W H', s, rfl⟩
theorem itr_range {lo : Int} {n : Nat} {xs : List D} (hl : xs.length = n) (hx : ∀ (k : Nat) (d : D), xs[k]? = some d → d = D.int (lo + (k : Nat))) : ItR g W0 H0 ⟨xs, []⟩ (Itr lo n) := by
  refine ⟨fun W μ H k st s hs hk => ?_, fun W μ H st s hs => ?_, fun W μ H k x H' d' st s hs hk hy => ?_⟩
  · show k < n
    rw [← hl]; exact hk
  · show n ≤ _
    rw [← hl]; exact Nat.le_refl _
  · obtain ⟨eh, ex⟩ := hy
    subst eh ex
    rw [hx k d' hk]
    exact ⟨W, .refl W H', s, rfl⟩
/-- a new pair, frozen -/
theorem new_pair {W : Wd} {μ : List Cell} {H : Hp} {T : Addr} {a b : D} {x y : V} (s : Sim g W μ H) (n : H T = none) (ra : Rep g W a x) (rb : Rep g W b y) : ∃ W', Step W H W' (upd H T (.tup [x, y])) ∧ Sim g W' μ (upd H T (.tup [x, y])) ∧ Rep g W' (.tup [a, b]) (.ref T) := by
  obtain ⟨st1, s1⟩ := s.garb n (.tup [x, y])
  obtain ⟨le, st2, s2⟩ := s1.freeze (a := T) (u := .tup [x, y]) st1 n (.inl ⟨rfl, upd_same⟩) (s.fzN n) (s.asN n)
  exact ⟨_, st2, s2, T, [x, y], rfl, .inl upd_same, Reps.cons (ra.leW le) (Reps.cons (rb.leW le) .nil)⟩
theorem itr_enum {d : D} {x : V} {xs : List D} (s0 : Sim g W0 μ0 H0) (r : Rep g W0 d x) (e : listOf μ0 d = some xs) : ∃ a vs, x = .ref a ∧ SqL g.K H0 a vs ∧ ItR g W0 H0 ⟨xs.zipIdx.map fun p => .tup [.int (p.2 : Nat), p.1], watchOf μ0 d⟩ (Ite g.K a) := by
  obtain ⟨a, ex, h⟩ := list_at s0 r e
  have q0 : ∃ vs, SqL g.K H0 a vs := by
    obtain ⟨b, vs, ex', hq, _⟩ := listOf_ok s0 r e
    rw [ex] at ex'; cases ex'
    exact ⟨vs, .inl hq⟩
  obtain ⟨vs0, q0⟩ := q0
  refine ⟨a, vs0, ex, q0, fun W μ H k st s hs hk => ?_, fun W μ H st s hs => ?_, fun W μ H k x H' d' st s hs hk hy => ?_⟩
  · obtain ⟨vs, hq, rr⟩ := h W μ H st s hs
    have hk : k < vs.length := by rw [← rr.len]; simpa using hk
    exact ⟨vs, vs[k], hq, by simp [hk]⟩
  · obtain ⟨vs, hq, rr⟩ := h W μ H st s hs
    exact ⟨vs, hq, by rw [← rr.len]; simp⟩
  · obtain ⟨vs, hq, rr⟩ := h W μ H st s hs
    obtain ⟨T, y, ev', hn, eH, hy⟩ := hy
    subst ev' eH
    have hk : (xs.zipIdx.map fun p => D.tup [.int (p.2 : Nat), p.1])[k]? = some d' := hk
    rw [List.getElem?_map, List.getElem?_zipIdx] at hk
    cases hx : xs[k]? with
    | none => rw [hx] at hk; cases hk
    | some a0 =>
      rw [hx] at hk
      have hk : D.tup [.int ((0 + k : Nat) : Int), a0] = d' := Option.some.inj hk
      rw [Nat.zero_add] at hk
      subst hk
      obtain ⟨v, hv, rv⟩ := rr.get hx
      rw [hy vs hq] at hv; cases hv
      exact new_pair s hn rfl rv
theorem itr_zip {d d2 : D} {x x2 : V} {xs ys : List D} (s0 : Sim g W0 μ0 H0) (r : Rep g W0 d x) (r2 : Rep g W0 d2 x2) (e : zipOf μ0 d d2 = some (xs, ys)) : ∃ a b vs ws, x = .ref a ∧ x2 = .ref b ∧
    ((SqL g.K H0 a vs ∧ SqL g.K H0 b ws ∧ ItR g W0 H0 ⟨(xs.zip ys).map fun p => .tup [p.1, p.2], watchOf μ0 d ++ watchOf μ0 d2⟩ (Itz g.K a b)) ∨
     (SqT g.K H0 a vs ∧ SqT g.K H0 b ws ∧ ItR g W0 H0 ⟨(xs.zip ys).map fun p => .tup [p.1, p.2], watchOf μ0 d ++ watchOf μ0 d2⟩ (RZ.ItzT g.K a b))) := by
  have zget : ∀ (k : Nat) (d' : D), ((xs.zip ys).map fun p => D.tup [p.1, p.2])[k]? = some d' → ∃ a b, xs[k]? = some a ∧ ys[k]? = some b ∧ d' = .tup [a, b] := fun k d' hk => by
    rw [List.getElem?_map] at hk
    obtain ⟨p, hp, e⟩ := Option.map_eq_some_iff.mp hk
    obtain ⟨h1, h2⟩ := List.getElem?_zip_eq_some.mp hp
    exact ⟨_, _, h1, h2, e.symm⟩
  have lists : (listOf μ0 d).bind (fun xs => (listOf μ0 d2).bind fun ys => some (xs, ys)) = some (xs, ys) → ∃ a b vs ws, x = .ref a ∧ x2 = .ref b ∧
    ((SqL g.K H0 a vs ∧ SqL g.K H0 b ws ∧ ItR g W0 H0 ⟨(xs.zip ys).map fun p => .tup [p.1, p.2], watchOf μ0 d ++ watchOf μ0 d2⟩ (Itz g.K a b)) ∨
     (SqT g.K H0 a vs ∧ SqT g.K H0 b ws ∧ ItR g W0 H0 ⟨(xs.zip ys).map fun p => .tup [p.1, p.2], watchOf μ0 d ++ watchOf μ0 d2⟩ (RZ.ItzT g.K a b))) := fun e => by
    obtain ⟨xs', e1, e⟩ := Option.bind_eq_some_iff.mp e
    obtain ⟨ys', e2, e⟩ := Option.bind_eq_some_iff.mp e
    cases e
    obtain ⟨a, ex, h⟩ := list_at s0 r e1
    obtain ⟨b, ex2, h2⟩ := list_at s0 r2 e2
    obtain ⟨a', vs, ex', hq, _⟩ := listOf_ok s0 r e1
    rw [ex] at ex'; cases ex'
    obtain ⟨b', ws, ex', hq2, _⟩ := listOf_ok s0 r2 e2
    rw [ex2] at ex'; cases ex'
    refine ⟨a, b, vs, ws, ex, ex2, .inl ⟨.inl hq, .inl hq2, fun W μ H k st s hs hk => ?_, fun W μ H st s hs => ?_, fun W μ H k x H' d' st s hs hk hy => ?_⟩⟩
    · obtain ⟨hs1, hs2⟩ := still_app hs
      obtain ⟨vs, hq, rr⟩ := h W μ H st s hs1
      obtain ⟨ws, hq2, rr2⟩ := h2 W μ H st s hs2
      have hk : k < min xs.length ys.length := by simpa using hk
      have h1 : k < vs.length := by rw [← rr.len]; omega
      have h2 : k < ws.length := by rw [← rr2.len]; omega
      exact ⟨vs, ws, vs[k], ws[k], hq, hq2, by simp [h1], by simp [h2]⟩
    · obtain ⟨hs1, hs2⟩ := still_app hs
      obtain ⟨vs, hq, rr⟩ := h W μ H st s hs1
      obtain ⟨ws, hq2, rr2⟩ := h2 W μ H st s hs2
      refine ⟨vs, ws, hq, hq2, ?_⟩
      have : ((xs.zip ys).map fun p => D.tup [p.1, p.2]).length = min xs.length ys.length := by simp
      rw [← rr.len, ← rr2.len]
      show xs.length ≤ ((xs.zip ys).map fun p => D.tup [p.1, p.2]).length ∨ ys.length ≤ ((xs.zip ys).map fun p => D.tup [p.1, p.2]).length
      omega
    · obtain ⟨hs1, hs2⟩ := still_app hs
      obtain ⟨vs, hq, rr⟩ := h W μ H st s hs1
      obtain ⟨ws, hq2, rr2⟩ := h2 W μ H st s hs2
      obtain ⟨T, y, z, ev', hn, eH, hy, hz⟩ := hy
      subst ev' eH
      obtain ⟨a0, b0, h3, h4, ed⟩ := zget k d' hk
      subst ed
      obtain ⟨v, hv, rv⟩ := rr.get h3
      rw [hy vs hq] at hv; cases hv
      obtain ⟨w, hw, rw'⟩ := rr2.get h4
      rw [hz ws hq2] at hw; cases hw
      exact new_pair s hn rv rw'
  unfold zipOf at e
  split at e
  · rename_i xs' ys'
    cases e
    obtain ⟨a, ex, h, _⟩ := itr_tup (H0 := H0) r
    obtain ⟨b, ex2, h2, _⟩ := itr_tup (H0 := H0) r2
    obtain ⟨vs, hq, _⟩ := h W0 μ0 H0 (.refl W0 H0) s0
    obtain ⟨ws, hq2, _⟩ := h2 W0 μ0 H0 (.refl W0 H0) s0
    refine ⟨a, b, vs, ws, ex, ex2, .inr ⟨hq, hq2, fun W μ H k st s hs hk => ?_, fun W μ H st s hs => ?_, fun W μ H k x H' d' st s hs hk hy => ?_⟩⟩
    · obtain ⟨vs, hq, rr⟩ := h W μ H st s
      obtain ⟨ws, hq2, rr2⟩ := h2 W μ H st s
      have hk : k < min xs.length ys.length := by simpa using hk
      have h1 : k < vs.length := by rw [← rr.len]; omega
      have h2 : k < ws.length := by rw [← rr2.len]; omega
      exact ⟨vs, ws, vs[k], ws[k], hq, hq2, by simp [h1], by simp [h2]⟩
    · obtain ⟨vs, hq, rr⟩ := h W μ H st s
      obtain ⟨ws, hq2, rr2⟩ := h2 W μ H st s
      refine ⟨vs, ws, hq, hq2, ?_⟩
      have : ((xs.zip ys).map fun p => D.tup [p.1, p.2]).length = min xs.length ys.length := by simp
      rw [← rr.len, ← rr2.len]
      show xs.length ≤ ((xs.zip ys).map fun p => D.tup [p.1, p.2]).length ∨ ys.length ≤ ((xs.zip ys).map fun p => D.tup [p.1, p.2]).length
      omega
    · obtain ⟨vs, hq, rr⟩ := h W μ H st s
      obtain ⟨ws, hq2, rr2⟩ := h2 W μ H st s
      obtain ⟨T, y, z, ev', hn, eH, hy, hz⟩ := hy
      subst ev' eH
      obtain ⟨a0, b0, h3, h4, ed⟩ := zget k d' hk
      subst ed
      obtain ⟨v, hv, rv⟩ := rr.get h3
      rw [hy vs hq] at hv; cases hv
      obtain ⟨w, hw, rw'⟩ := rr2.get h4
      rw [hz ws hq2] at hw; cases hw
      exact new_pair s hn rv rw'
  · exact lists e
theorem itr_keys {ks ds : List D} {x : V} (s0 : Sim g W0 μ0 H0) (r : Rep g W0 (.dct ks ds) x) (ha : ks.all (fun d => (asKey d).isSome) = true) : ∃ d o kvs, x = .ref d ∧ H0 d = some (.frz o (.dK kvs)) ∧ ItR g W0 H0 ⟨ks, []⟩ (Itk d o kvs) := by
  obtain ⟨a, vs, ex, hd, rr⟩ := r
  rcases hd with ⟨keys, e, l, q⟩ | ⟨keys, n, e, l, q⟩
  · obtain ⟨o, ho⟩ := s0.fd _ _ q rfl
    have hlen : (keys.zip vs).length = ks.length := by rw [List.length_zip, e, List.length_map]; omega
    have hm : ∀ W μ H, Step W0 H0 W H → Sim g W μ H → H a = some (.frz o (.dK (keys.zip vs))) := fun W μ H st s => st.keep a _ ho fun z => by
      have := s0.nf a z
      rw [q] at this; cases this
    refine ⟨a, o, keys.zip vs, ex, ho, fun W μ H k st s hs hk => ⟨hm W μ H st s, by rw [hlen]; exact hk⟩, fun W μ H st s hs => ⟨hm W μ H st s, by rw [hlen]; exact Nat.le_refl _⟩, fun W μ H k x H' d' st s hs hk hy => ?_⟩
    obtain ⟨eh, k', v, hz, ex'⟩ := hy
    subst eh ex'
    obtain ⟨h1, h2⟩ := List.getElem?_zip_eq_some.mp hz
    have hk : ks[k]? = some d' := hk
    rw [e, List.getElem?_map, h1] at hk
    have hk : keyD k' = d' := Option.some.inj hk
    subst hk
    refine ⟨W, .refl W H', s, ?_⟩
    cases k' <;> rfl
  · exfalso
    cases keys with
    | nil => exact n rfl
    | cons k kk =>
      rw [e] at ha
      simp [keysD, asKey] at ha
end

/-! ### the rules -/
section
variable {X : Cx} {g : G0} {nm : Nm} {c : Cfg} {wx : WX} {tg : Expr}
theorem PI.mono {e : Expr} {t t' : TI} (h : PI X tg e t) (m : ∀ σ H Q, t' σ H Q → t σ H Q) : PI X tg e t' := ⟨fun pins s σ H Q I hw => h.run pins s σ H Q I (m _ _ _ hw)⟩
theorem PI.or {e : Expr} {t t' : TI} (h : PI X tg e t) (h' : PI X tg e t') : PI X tg e (fun σ H R => t σ H R ∨ t' σ H R) := ⟨fun pins s σ H Q I hw => hw.elim (h.run pins s σ H Q I) (h'.run pins s σ H Q I)⟩
theorem tV_out {W : Wd} {H : Hp} {μ : List Cell} {ρ : EnvD} {σ : L2.St} {m : ME} {k : ER → M Itm} {R : It → Hp → Prop} (sm : Sim g W μ H) (en : EnvR g W ρ σ) (hp : Post g wx W σ H (fun W' H' i J => ItR g W' H' i J) ((ev c m ρ >>= k) μ) R) :
    (∃ r μ', ev c m ρ μ = .ok r μ' ∧ ∀ K : V → Hp → Prop, (∀ W1 x H1, Step W H W1 H1 → Sim g W1 μ' H1 → Rep g W1 r.d x → Post g wx W σ H (fun W' H' i J => ItR g W' H' i J) (k r μ') R → K x H1) → tV g wx (ev c m) σ H K) ∨ ∀ K : V → Hp → Prop, tV g wx (ev c m) σ H K := by
  have hp : Post g wx W σ H (fun W' H' i J => ItR g W' H' i J) (M.bind (ev c m ρ) k μ) R := hp
  unfold M.bind at hp
  cases hr : ev c m ρ μ with
  | stuck => rw [hr] at hp; exact hp.elim
  | exc C vs μ' =>
    rw [hr] at hp
    exact .inr fun K => ⟨W, ρ, μ, sm, en, by rw [hr]; exact hp⟩
  | ok r μ' =>
    rw [hr] at hp
    exact .inl ⟨r, μ', rfl, fun K hK => ⟨W, ρ, μ, sm, en, by rw [hr]; exact fun W1 x H1 st1 s1 rep => hK W1 x H1 st1 s1 rep hp⟩⟩
theorem i_iter {e : Expr} {m : ME} (hK : X.K = g.K) (he : PE X e (tE g wx (ev c m))) : PI X tg e (tI g wx (evI c (.iter m))) := by
  refine PI.mono (PI.or (PI.or (pi_list (PE.val he)) (pi_tup (PE.val he))) (PI.or (pi_str (PE.val he)) (pi_keys (PE.val he)))) fun σ H R hw => ?_
  obtain ⟨W, ρ, μ, sm, en, hp⟩ := hw
  rw [hK]
  rcases tV_out (k := fun x => getM fun μ => (itemsOf μ x.d).bind fun xs => some ⟨xs, watchOf μ x.d⟩) sm en hp with ⟨r, μ', hr, q⟩ | q
  · have q : ∀ K : V → Hp → Prop, (∀ W1 x H1 i, Step W H W1 H1 → Sim g W1 μ' H1 → Rep g W1 r.d x → ((itemsOf μ' r.d).bind fun xs => some (⟨xs, watchOf μ' r.d⟩ : Itm)) = some i → (∀ J, ItR g W1 H1 i J → R J H1) → K x H1) → tV g wx (ev c m) σ H K := fun K hK => q K fun W1 x H1 st1 s1 rep hp1 =>
      post_get hp1 fun i ei k => hK W1 x H1 i st1 s1 rep ei fun J hJ => k W1 J H1 st1 s1 hJ
    have lists : ∀ ys, listOf μ' r.d = some ys → itemsOf μ' r.d = some ys → tV g wx (ev c m) σ H fun x H1 => ∃ a, x = .ref a ∧ (∃ xs, SqL g.K H1 a xs) ∧ R (Itl g.K a) H1 := fun ys e1 e2 => q _ fun W1 x H1 i st1 s1 rep ei k => by
      rw [e2] at ei
      cases ei
      obtain ⟨a, ex, hq, hit⟩ := itr_list s1 rep e1
      exact ⟨a, ex, hq, k _ hit⟩
    cases hd : r.d with
    | tup ys =>
      refine .inl (.inr (q _ fun W1 x H1 i st1 s1 rep ei k => ?_))
      rw [hd] at ei rep
      cases ei
      obtain ⟨a, ex, h, hit⟩ := itr_tup (H0 := H1) rep
      obtain ⟨vs, hq, _⟩ := h W1 μ' H1 (.refl W1 H1) s1
      exact ⟨a, ex, ⟨vs, hq⟩, k _ hit⟩
    | kl ns =>
      refine .inl (.inl (q _ fun W1 x H1 i st1 s1 rep ei k => ?_))
      rw [hd] at ei rep
      cases ei
      obtain ⟨a, ex, hq, hit⟩ := itr_kl s1 rep
      exact ⟨a, ex, hq, k _ hit⟩
    | lst ys => exact .inl (.inl (lists ys (by rw [hd]; rfl) (by rw [hd]; rfl)))
    | str z =>
      refine .inr (.inl (q _ fun W1 x H1 i st1 s1 rep ei k => ?_))
      rw [hd] at ei rep
      cases ei
      cases rep
      exact ⟨z, rfl, k _ itr_str⟩
    | dct ks ds =>
      refine .inr (.inr (q _ fun W1 x H1 i st1 s1 rep ei k => ?_))
      rw [hd] at ei rep
      have ei : ((if ks.all (fun d => (asKey d).isSome) then some ks else none).bind fun xs => some (⟨xs, []⟩ : Itm)) = some i := ei
      split at ei
      · rename_i ha
        cases ei
        obtain ⟨d, o, kvs, ex, ho, hit⟩ := itr_keys s1 rep ha
        exact ⟨d, o, ex, .inl ⟨kvs, ho, k _ hit⟩⟩
      · cases ei
    | cell n =>
      refine .inl (.inl ?_)
      cases hc : listOf μ' r.d with
      | some ys => exact lists ys hc (by rw [hd] at hc ⊢; exact hc)
      | none =>
        refine q _ fun W1 x H1 i st1 s1 rep ei k => ?_
        have : itemsOf μ' r.d = none := by rw [hd] at hc ⊢; exact hc
        rw [this] at ei; cases ei
    | _ =>
      refine .inl (.inl (q _ fun W1 x H1 i st1 s1 rep ei k => ?_))
      rw [hd] at ei; cases ei
  · exact .inl (.inl (q _))
end
end RL

set_option Elab.async false
set_option linter.all false
set_option maxRecDepth 100000
set_option autoImplicit false
set_option maxHeartbeats 1000000
namespace RL
open PySem PySem.Spec PyProof.Rows L2
section
variable {X : Cx} {g : G0} {nm : Nm} {c : Cfg} {wx : WX} {tg : Expr}
/-- a value evaluated, or the exception handed on -/
theorem tV_bind' {α β : Type} {Rl : Wd → Hp → α → β → Prop} {Q : β → Hp → Prop} {W : Wd} {H : Hp} {μ : List Cell} {ρ : EnvD} {σ : L2.St} {f : EnvD → M ER} {k : ER → M α} {K : V → Hp → Prop} (s : Sim g W μ H) (en : EnvR g W ρ σ)
    (hp : Post g wx W σ H Rl ((f ρ >>= k) μ) Q)
    (h : ∀ W1 x H1 r μ1, Step W H W1 H1 → Sim g W1 μ1 H1 → EnvR g W1 ρ σ → Rep g W1 r.d x → Post g wx W σ H Rl (k r μ1) Q → K x H1) : tV g wx f σ H K :=
  tV_bind s en (.refl W H) hp fun W1 x H1 r μ1 st _ s1 e1 rep hp => h W1 x H1 r μ1 st s1 e1 rep hp
theorem i_range1 {e : Expr} {m : ME} {p pos : Pos} (hg : Gl X "range") (hm : X.mg "range" = none) (hs : starEach [e] X.env = [(false, eval e X.env)]) (he : PE X e (tE g wx (ev c m))) :
    PI X tg (.Call (.Name "range" p) [e] [] pos) (tI g wx (evI c (.irange1 m))) := by
  refine PI.mono (pi_range1 hg hm (pa_cons (PE.val he) pa_nil hs) hs) fun σ H R hw => ?_
  obtain ⟨W, ρ, μ, sm, en, hp⟩ := hw
  refine tV_bind' (k := fun x => match x.d with
    | .int n => if -(2 ^ 62) ≤ n ∧ n ≤ lineN then (pure ⟨(List.range n.toNat).map fun i => .int (i : Nat), []⟩ : M Itm) else stuck
    | _ => stuck) sm en hp fun W1 x H1 r μ1 st1 s1 e1 rep hp1 => ?_
  cases hd : r.d with
  | int n =>
    rw [hd] at rep hp1
    cases rep
    have hp1 : Post g wx W σ H (fun W' H' i J => ItR g W' H' i J) ((if -(2 ^ 62) ≤ n ∧ n ≤ lineN then (pure ⟨(List.range n.toNat).map fun i => .int (i : Nat), []⟩ : M Itm) else stuck) μ1) R := hp1
    split at hp1
    · rename_i hb
      refine ⟨n, rfl, hb.1, by have : (lineN : Int) < 2 ^ 62 := by decide
                               omega, hp1 W1 _ H1 st1 s1 (itr_range (by simp) fun k d hk => ?_)⟩
      rw [List.getElem?_map] at hk
      obtain ⟨j, hj, e⟩ := Option.map_eq_some_iff.mp hk
      obtain ⟨_, hj⟩ := List.getElem?_eq_some_iff.mp hj
      rw [List.getElem_range] at hj
      subst hj
      rw [← e, Int.zero_add]
    · exact hp1.elim
  | _ => rw [hd] at hp1; exact hp1.elim
theorem i_range2 {e e2 : Expr} {m m2 : ME} {p pos : Pos} (hg : Gl X "range") (hm : X.mg "range" = none) (hs : starEach [e, e2] X.env = [(false, eval e X.env), (false, eval e2 X.env)]) (hs2 : starEach [e2] X.env = [(false, eval e2 X.env)])
    (he : PE X e (tE g wx (ev c m))) (he2 : PE X e2 (tE g wx (ev c m2))) :
    PI X tg (.Call (.Name "range" p) [e, e2] [] pos) (tI g wx (evI c (.irange2 m m2))) := by
  refine PI.mono (pi_range2 hg hm (pa_cons (PE.val he) (pa_cons (PE.val he2) pa_nil hs2) (by rw [hs, hs2])) hs hs2) fun σ H R hw => ?_
  obtain ⟨W, ρ, μ, sm, en, hp⟩ := hw
  refine tV_bind' sm en (k := fun x => ev c m2 ρ >>= fun y => match x.d, y.d with
    | .int m, .int n => if -(2 ^ 62) ≤ m ∧ m < 2 ^ 62 ∧ -(2 ^ 62) ≤ n ∧ n < 2 ^ 62 ∧ n - m ≤ lineN then (pure ⟨(List.range (n - m).toNat).map fun i => .int (m + (i : Nat)), []⟩ : M Itm) else stuck
    | _, _ => stuck) hp fun W1 x H1 r μ1 st1 s1 e1 rep hp1 => ?_
  refine tV_bind s1 e1 st1 hp1 fun W2 y H2 r2 μ2 st2 st02 s2 e2 rep2 hp2 => ?_
  have rep := rep.leW st2.le
  cases hd : r.d with
  | int lo =>
    cases hd2 : r2.d with
    | int n =>
      rw [hd] at rep hp2
      rw [hd2] at rep2 hp2
      cases rep
      cases rep2
      have hp2 : Post g wx W σ H (fun W' H' i J => ItR g W' H' i J) ((if -(2 ^ 62) ≤ lo ∧ lo < 2 ^ 62 ∧ -(2 ^ 62) ≤ n ∧ n < 2 ^ 62 ∧ n - lo ≤ lineN then (pure ⟨(List.range (n - lo).toNat).map fun i => .int (lo + (i : Nat)), []⟩ : M Itm) else stuck) μ2) R := hp2
      split at hp2
      · rename_i hb
        refine ⟨lo, n, rfl, ⟨hb.1, hb.2.1, hb.2.2.1, hb.2.2.2.1⟩, hp2 W2 _ H2 st02 s2 (itr_range (by simp) fun k d hk => ?_)⟩
        rw [List.getElem?_map] at hk
        obtain ⟨j, hj, e⟩ := Option.map_eq_some_iff.mp hk
        obtain ⟨_, hj⟩ := List.getElem?_eq_some_iff.mp hj
        rw [List.getElem_range] at hj
        subst hj
        exact e.symm
      · exact hp2.elim
    | _ => rw [hd, hd2] at hp2; exact hp2.elim
  | _ => rw [hd] at hp2; exact hp2.elim
theorem i_enum {e : Expr} {m : ME} {p pos tpos : Pos} {elts : List Expr} {kk : Nat} (hK : X.K = g.K) (hg : Gl X "enumerate") (hm : X.mg "enumerate" = none) (hs : starEach [e] X.env = [(false, eval e X.env)]) (he : PE X e (tE g wx (ev c m))) :
    PI X (.Tuple elts kk tpos) (.Call (.Name "enumerate" p) [e] [] pos) (tI g wx (evI c (.ienum m))) := by
  refine PI.mono (pi_enum hg hm (pa_cons (PE.val he) pa_nil hs) hs) fun σ H R hw => ?_
  obtain ⟨W, ρ, μ, sm, en, hp⟩ := hw
  refine tV_bind' (k := fun x => getM fun μ => (listOf μ x.d).bind fun xs => some (⟨xs.zipIdx.map fun p => .tup [.int (p.2 : Nat), p.1], watchOf μ x.d⟩ : Itm)) sm en hp fun W1 x H1 r μ1 st1 s1 e1 rep hp1 => ?_
  refine post_get hp1 fun i ei k => ?_
  obtain ⟨xs, e1', e2'⟩ := Option.bind_eq_some_iff.mp ei
  cases e2'
  obtain ⟨a, vs, ex, hq, hit⟩ := itr_enum s1 rep e1'
  exact ⟨a, vs, by rw [ex], hK ▸ hq, hK ▸ k W1 _ H1 st1 s1 hit⟩
theorem i_zip {e e2 : Expr} {m m2 : ME} {p pos tpos : Pos} {elts : List Expr} {kk : Nat} (hK : X.K = g.K) (hg : Gl X "zip") (hm : X.mg "zip" = none) (hs : starEach [e, e2] X.env = (false, eval e X.env) :: starEach [e2] X.env) (hs2 : starEach [e2] X.env = [(false, eval e2 X.env)])
    (hpl : (backTo pos (starEach [e2] X.env)).any (·.1) = false) (he : PE X e (tE g wx (ev c m))) (he2 : PE X e2 (tE g wx (ev c m2))) :
    PI X (.Tuple elts kk tpos) (.Call (.Name "zip" p) [e, e2] [] pos) (tI g wx (evI c (.izip m m2))) := by
  refine PI.mono (RZ.pi_zipA hg hm (pa_cons (PE.val he) (pa_cons (PE.val he2) pa_nil hs2) hs) hs hpl) fun σ H R hw => ?_
  obtain ⟨W, ρ, μ, sm, en, hp⟩ := hw
  refine tV_bind' sm en (k := fun x => ev c m2 ρ >>= fun y => getM fun μ => (zipOf μ x.d y.d).bind fun p => some (⟨(p.1.zip p.2).map fun p => .tup [p.1, p.2], watchOf μ x.d ++ watchOf μ y.d⟩ : Itm)) hp fun W1 x H1 r μ1 st1 s1 e1 rep hp1 => ?_
  refine tV_bind s1 e1 st1 hp1 fun W2 y H2 r2 μ2 st2 st02 s2 e2 rep2 hp2 => ?_
  refine post_get hp2 fun i ei k => ?_
  obtain ⟨ps, e1', e2'⟩ := Option.bind_eq_some_iff.mp ei
  cases e2'
  obtain ⟨a, b, vs, ws, ex, ex2, h⟩ := itr_zip s2 (rep.leW st2.le) rep2 e1'
  refine ⟨a, b, vs, ws, by rw [ex, ex2], ?_⟩
  rw [hK]
  rcases h with ⟨h1, h2, hit⟩ | ⟨h1, h2, hit⟩
  · exact .inl ⟨h1, h2, k W2 _ H2 st02 s2 hit⟩
  · exact .inr ⟨h1, h2, k W2 _ H2 st02 s2 hit⟩

/-! ### targets -/
/-- the slots at is may differ -/
def Sd (is : List Nat) (σ σ' : L2.St) : Prop := σ'.length = σ.length ∧ ∀ j, j ∉ is → σ'[j]? = σ[j]?
theorem Sd.refl {is : List Nat} {σ : L2.St} : Sd is σ σ := ⟨rfl, fun _ _ => rfl⟩
theorem Sd.trans {is : List Nat} {σ σ' σ'' : L2.St} (h : Sd is σ σ') (h' : Sd is σ' σ'') : Sd is σ σ'' := ⟨h'.1.trans h.1, fun j hj => (h'.2 j hj).trans (h.2 j hj)⟩
theorem Sd.set {is : List Nat} {σ : L2.St} {i : Nat} {x : Option V} (hi : i ∈ is) : Sd is σ (σ.set i x) := ⟨List.length_set, fun j hj => List.getElem?_set_ne (fun e : i = j => hj (e ▸ hi))⟩
theorem wipe_get (σ : L2.St) : ∀ (vs : List Nat) (j : Nat), (wipe σ vs)[j]? = if j ∈ vs ∧ j < σ.length then some none else σ[j]?
  | [], j => by simp [wipe]
  | v :: vs, j => by
    unfold wipe
    by_cases hj : v = j
    · subst hj
      by_cases hl : v < σ.length
      · rw [List.getElem?_set_self (by rw [wipe_length]; exact hl), if_pos ⟨by simp, hl⟩]
      · rw [if_neg (fun z => hl z.2), List.getElem?_eq_none (by rw [List.length_set, wipe_length]; omega), List.getElem?_eq_none (by omega)]
    · rw [List.getElem?_set_ne hj, wipe_get σ vs j]
      have : (j ∈ v :: vs) ↔ j ∈ vs := by simp [Ne.symm hj]
      simp only [this]
theorem Sd.wipe {is vs : List Nat} {σ σ' : L2.St} (h : Sd is σ σ') (hv : ∀ i ∈ is, i ∈ vs) : wipe σ' vs = wipe σ vs := by
  apply List.ext_getElem?
  intro j
  rw [wipe_get, wipe_get, h.1]
  by_cases hj : j ∈ vs
  · by_cases hl : j < σ.length
    · rw [if_pos ⟨hj, hl⟩, if_pos ⟨hj, hl⟩]
    · rw [if_neg (fun z => hl z.2), if_neg (fun z => hl z.2), List.getElem?_eq_none (by rw [h.1]; omega), List.getElem?_eq_none (by omega)]
  · rw [if_neg (fun z => hj z.1), if_neg (fun z => hj z.1), h.2 j fun z => hj (hv j z)]
theorem wipe_wipe (σ : L2.St) (vs : List Nat) : wipe (wipe σ vs) vs = wipe σ vs := by
  refine Sd.wipe (is := vs) ⟨wipe_length _ _, fun j hj => ?_⟩ fun _ h => h
  rw [wipe_get, if_neg (fun z => hj z.1)]
theorem wipeD_length (ρ : EnvD) : ∀ vs, (wipeD ρ vs).length = ρ.length
  | [] => rfl
  | v :: vs => by unfold wipeD; rw [List.length_set, wipeD_length ρ vs]
theorem wipeD_get (ρ : EnvD) : ∀ (vs : List Nat) (j : Nat), (wipeD ρ vs)[j]? = if j ∈ vs ∧ j < ρ.length then some none else ρ[j]?
  | [], j => by simp [wipeD]
  | v :: vs, j => by
    unfold wipeD
    by_cases hj : v = j
    · subst hj
      by_cases hl : v < ρ.length
      · rw [List.getElem?_set_self (by rw [wipeD_length]; exact hl), if_pos ⟨by simp, hl⟩]
      · rw [if_neg (fun z => hl z.2), List.getElem?_eq_none (by rw [List.length_set, wipeD_length]; omega), List.getElem?_eq_none (by omega)]
    · rw [List.getElem?_set_ne hj, wipeD_get ρ vs j]
      have : (j ∈ v :: vs) ↔ j ∈ vs := by simp [Ne.symm hj]
      simp only [this]
theorem EnvR.wipe {W : Wd} {ρ : EnvD} {σ : L2.St} (h : EnvR g W ρ σ) (vs : List Nat) : EnvR g W (wipeD ρ vs) (L2.wipe σ vs) := by
  refine ⟨by rw [wipeD_length, wipe_length]; exact h.len, fun i d e => ?_⟩
  rw [wipeD_get] at e
  split at e
  · cases e
  · rename_i hn
    rw [wipe_get, if_neg (by rw [← h.len]; exact hn)]
    exact h.at_ i d e
theorem EnvR.set {W : Wd} {ρ : EnvD} {σ : L2.St} (h : EnvR g W ρ σ) {i : Nat} {d : D} {v : V} (r : Rep g W d v) : EnvR g W (ρ.set i (some d)) (σ.set i (some v)) := by
  refine ⟨by rw [List.length_set, List.length_set]; exact h.len, fun j e hj => ?_⟩
  by_cases hi : i = j
  · subst hi
    have hl : i < ρ.length := by
      have := (List.getElem?_eq_some_iff.mp hj).1
      rwa [List.length_set] at this
    rw [List.getElem?_set_self hl] at hj
    cases hj
    exact ⟨v, List.getElem?_set_self (by rw [← h.len]; exact hl), r⟩
  · rw [List.getElem?_set_ne hi] at hj ⊢
    exact h.at_ j e hj
/-- a target and what it does -/
def gsG : List Nat → TGs
  | [] => gNil
  | i :: is => gCons (gName i) (gsG is)
def tgG (K : PySem.W.Frag) : MT → TG
  | .name i => gName i
  | .tup is => gTup K is.length (gsG is)
theorem gsG_ok : ∀ (is : List Nat) (js : List Nat), (∀ i ∈ is, i ∈ js) → ∀ (W : Wd) (ρ : EnvD) (σ : L2.St) (H : Hp) (vs : List V) (ds : List D) (Q : L2.St → Hp → Prop), EnvR g W ρ σ → Reps g W ds vs → is.length = ds.length →
      (∀ σ', EnvR g W ((is.zip ds).foldl (fun r p => r.set p.1 (some p.2)) ρ) σ' → Sd js σ σ' → Q σ' H) → gsG is vs σ H Q
  | [], js, _, W, ρ, σ, H, vs, ds, Q, en, r, hl, q => by
      cases ds with
      | nil => cases r; exact ⟨rfl, q σ en .refl⟩
      | cons _ _ => cases hl
  | i :: is, js, his, W, ρ, σ, H, vs, ds, Q, en, r, hld, fin => by
    cases ds with
    | nil => cases hld
    | cons d ds =>
      obtain ⟨v, rv, ev', r1, r2⟩ := r
      subst ev'
      refine ⟨v, rv, rfl, gsG_ok is js (fun q' hq' => his q' (List.mem_cons_of_mem _ hq')) W _ _ H rv ds Q (en.set r1) r2 (by simpa using hld) fun σ' e' sd => ?_⟩
      exact fin σ' e' (Sd.trans (Sd.set (his i List.mem_cons_self)) sd)
theorem tgG_ok (t : MT) (W : Wd) (ρ : EnvD) (μ : List Cell) (σ : L2.St) (H : Hp) (v : V) (d : D) (ρ' : EnvD) (Q : L2.St → Hp → Prop) (sm : Sim g W μ H) (en : EnvR g W ρ σ) (r : Rep g W d v) (e : assignT ρ t d = some ρ')
    (q : ∀ σ', EnvR g W ρ' σ' → Sd (ownT t) σ σ' → Q σ' H) : tgG g.K t v σ H Q := by
  cases t with
  | name i =>
    have e : (if i < ρ.length then some (ρ.set i (some d)) else none) = some ρ' := e
    split at e
    · cases e
      exact q _ (en.set r) (Sd.set (by simp [ownT]))
    · cases e
  | tup is =>
    cases d with
    | tup ds =>
      have e : (if is.length = ds.length ∧ ∀ i ∈ is, i < ρ.length then some ((is.zip ds).foldl (fun r p => r.set p.1 (some p.2)) ρ) else none) = some ρ' := e
      split at e
      · rename_i hc
        cases e
        obtain ⟨a, vs, ex, ha, rr⟩ := r
        exact ⟨a, vs, ex, sm.sqT ha, by rw [← rr.len, hc.1], gsG_ok is is (fun _ h => h) W ρ σ H vs ds Q en rr hc.1 q⟩
      · cases e
    | _ => cases e
/-- the names of a target may be stored -/
def TgNames (X : Cx) (es : List Expr) (qs : List (Str × Nat)) : Prop := es.length = qs.length ∧ ∀ (k : Nat) (e : Expr) (q : Str × Nat), es[k]? = some e → qs[k]? = some q → ∃ p, e = .Name q.1 p ∧ X.N[q.2]? = some q.1 ∧ Loc X.env.scope q.1 ∧ (X.fn q.1 = true ∨ X.env.scope.names.lookup q.1 = some .local)
theorem pgs_ok : ∀ (es : List Expr) (qs : List (Str × Nat)), TgNames X es qs → X.N.Nodup → PGs X es (gsG (qs.map (·.2)))
  | [], [], _, _ => pgs_nil
  | [], _ :: _, h, _ => nomatch h.1
  | _ :: _, [], h, _ => nomatch h.1
  | e :: es, q :: qs, h, hN => by
    obtain ⟨p, ee, h1, h2, h3⟩ := h.2 0 e q rfl rfl
    subst ee
    exact pgs_cons (pg_name hN h1 h2 h3) (pgs_ok es qs ⟨by simpa using h.1, fun k e' q' he hq => h.2 (k + 1) e' q' he hq⟩ hN)
theorem names_each : ∀ (es : List Expr) (qs : List (Str × Nat)), TgNames X es qs → (assignEach es X.env).findIdx? (·.1) = none ∧ (assignEach es X.env).length = es.length
  | [], [], _ => ⟨rfl, rfl⟩
  | [], _ :: _, h => nomatch h.1
  | _ :: _, [], h => nomatch h.1
  | e :: es, q :: qs, h => by
    obtain ⟨p, ee, h1, h2, h3⟩ := h.2 0 e q rfl rfl
    subst ee
    obtain ⟨ih1, ih2⟩ := names_each es qs ⟨by simpa using h.1, fun k e' q' he hq => h.2 (k + 1) e' q' he hq⟩
    have e : assignEach (.Name q.1 p :: es) X.env = (false, assign (.Name q.1 p) X.env) :: assignEach es X.env := rfl
    rw [e]
    exact ⟨by rw [List.findIdx?_cons]; simp [ih1], by simp [ih2]⟩
theorem pg_ok1 {q : Str × Nat} {p : Pos} (h : TgNames X [.Name q.1 p] [q]) (hN : X.N.Nodup) : PG X (.Name q.1 p) (tgG X.K (.name q.2)) := by
  obtain ⟨p', ee, h1, h2, h3⟩ := h.2 0 _ q rfl rfl
  exact pg_name hN h1 h2 h3
theorem pg_okT {es : List Expr} {qs : List (Str × Nat)} {kk : Nat} {pos : Pos} (hc : X.calm = true) (h : TgNames X es qs) (hN : X.N.Nodup) : PG X (.Tuple es kk pos) (tgG X.K (.tup (qs.map (·.2)))) := by
  have := names_each es qs h
  exact pg_tup hc (pgs_ok es qs h hN) (by rw [this.2, h.1]; simp) this.1
end
end RL

set_option Elab.async false
set_option linter.all false
set_option maxRecDepth 100000
set_option autoImplicit false
set_option maxHeartbeats 1000000
namespace RL
open PySem PySem.Spec PyProof.Rows L2
section
variable {X : Cx} {g : G0} {nm : Nm} {c : Cfg} {wx : WX} {tg : Expr}
theorem PTs.mono {ifs : List Expr} {t t' : TT} (h : PTs X ifs t) (m : ∀ σ H Q, t' σ H Q → t σ H Q) : PTs X ifs t' := ⟨fun pins s σ H Q I hw => h.run pins s σ H Q I (m _ _ _ hw)⟩
theorem t_nil : PTs X [] (tT g wx (evT c [])) := by
  refine PTs.mono pts_nil fun σ H Q hw => ?_
  obtain ⟨W, ρ, μ, sm, en, hp⟩ := hw
  exact hp W true H (.refl W H) sm rfl
theorem t_one {e : Expr} {m : ME} (h : PT X e (tT g wx (evB c m))) : PTs X [e] (tT g wx (evT c [m])) := by
  refine PTs.mono (pts_one h) fun σ H Q hw => ?_
  obtain ⟨W, ρ, μ, sm, en, hp⟩ := hw
  have e : evT c [m] ρ = evB c m ρ := by
    unfold evT evB
    refine bind_congr fun x => ?_
    exact bind_pure _
  rw [e] at hp
  exact ⟨W, ρ, μ, sm, en, hp⟩
/-- one turn's block -/
def blkM (c : Cfg) (elt : ME) (t : MT) (ifs : List ME) (ρ : EnvD) (x : D) : M (Option D) := do
  let ρ' ← ofO (assignT (wipeD ρ (ownT t)) t x)
  let p ← evT c ifs ρ'
  if p then do
    let y ← ev c elt ρ'
    pure (some y.d)
  else pure none
theorem post_noX {α β γ : Type} {W0 : Wd} {H0 : Hp} {μ : List Cell} {σ : L2.St} {Rl : Wd → Hp → α → β → Prop} {Q : β → Hp → Prop} {f : M γ} {k : γ → M α} (hp : Post g wx W0 σ H0 Rl ((noX f >>= k) μ) Q) : ∃ y μ', f μ = .ok y μ' ∧ Post g wx W0 σ H0 Rl (k y μ') Q := by
  have hp : Post g wx W0 σ H0 Rl (M.bind (noX f) k μ) Q := hp
  unfold M.bind noX at hp
  cases h : f μ with
  | stuck => rw [h] at hp; exact hp.elim
  | exc C vs μ' => rw [h] at hp; exact hp.elim
  | ok y μ' => rw [h] at hp; exact ⟨y, μ', rfl, hp⟩
theorem bind_ok_inv {α β : Type} {f : M α} {k : α → M β} {μ μ' : List Cell} {b : β} (h : (f >>= k) μ = .ok b μ') : ∃ a μ1, f μ = .ok a μ1 ∧ k a μ1 = .ok b μ' := by
  have h : M.bind f k μ = .ok b μ' := h
  unfold M.bind at h
  cases hf : f μ with
  | stuck => rw [hf] at h; cases h
  | exc C vs μ' => rw [hf] at h; cases h
  | ok y μ1 => rw [hf] at h; exact ⟨y, μ1, rfl, h⟩
theorem ofO_ok_inv {α : Type} {o : Option α} {μ μ' : List Cell} {a : α} (h : ofO o μ = .ok a μ') : o = some a ∧ μ' = μ := by
  unfold ofO at h
  cases o with
  | none => cases h
  | some b => cases h; exact ⟨rfl, rfl⟩
theorem mapIt_cons {w : List (Nat × Cell)} {f : D → M (Option D)} {x : D} {xs : List D} {μ : List Cell} {α β : Type} {W0 : Wd} {H0 : Hp} {σ : L2.St} {Rl : Wd → Hp → α → β → Prop} {Q : β → Hp → Prop} {k : List D → M α} (hp : Post g wx W0 σ H0 Rl ((mapIt w f (x :: xs) >>= k) μ) Q) :
    still w μ = true ∧ ∃ y μ', f x μ = .ok y μ' ∧ Post g wx W0 σ H0 Rl ((mapIt w f xs >>= fun ys => k (match y with | some y => y :: ys | none => ys)) μ') Q := by
  by_cases hs : still w μ = true
  · refine ⟨hs, ?_⟩
    have e : (mapIt w f (x :: xs) >>= k) μ = (noX (f x) >>= fun y => mapIt w f xs >>= fun ys => k (match y with | some y => y :: ys | none => ys)) μ := by
      have e1 : mapIt w f (x :: xs) μ = ((noX (f x) >>= fun y => mapIt w f xs >>= fun ys => (pure (match y with | some y => y :: ys | none => ys) : M (List D))) μ) := by
        show (if still w μ = true then _ else _) = _
        rw [if_pos hs] <;> rfl
      show M.bind (mapIt w f (x :: xs)) k μ = _
      unfold M.bind
      rw [e1]
      show M.bind (noX (f x) >>= fun y => mapIt w f xs >>= fun ys => (pure (match y with | some y => y :: ys | none => ys) : M (List D))) k μ = _
      have : (M.bind (noX (f x) >>= fun y => mapIt w f xs >>= fun ys => (pure (match y with | some y => y :: ys | none => ys) : M (List D))) k) = ((noX (f x) >>= fun y => mapIt w f xs >>= fun ys => (pure (match y with | some y => y :: ys | none => ys) : M (List D))) >>= k) := rfl
      rw [this]
      simp only [bind_assoc, pure_bind]
    rw [e] at hp
    exact post_noX hp
  · exfalso
    have e1 : mapIt w f (x :: xs) μ = .stuck := by
      show (if still w μ = true then _ else _) = _
      rw [if_neg hs]
    have hp : Post g wx W0 σ H0 Rl (M.bind (mapIt w f (x :: xs)) k μ) Q := hp
    unfold M.bind at hp
    rw [e1] at hp
    exact hp
theorem mapIt_nil {w : List (Nat × Cell)} {f : D → M (Option D)} {μ : List Cell} {α β : Type} {W0 : Wd} {H0 : Hp} {σ : L2.St} {Rl : Wd → Hp → α → β → Prop} {Q : β → Hp → Prop} {k : List D → M α} (hp : Post g wx W0 σ H0 Rl ((mapIt w f [] >>= k) μ) Q) :
    still w μ = true ∧ Post g wx W0 σ H0 Rl (k [] μ) Q := by
  have hp : Post g wx W0 σ H0 Rl (M.bind (mapIt w f []) k μ) Q := hp
  unfold M.bind at hp
  by_cases hs : still w μ = true
  · have e1 : mapIt w f [] μ = .ok [] μ := by
      show (if still w μ = true then _ else _) = _
      rw [if_pos hs]
    rw [e1] at hp
    exact ⟨hs, hp⟩
  · have e1 : mapIt w f [] μ = .stuck := by
      show (if still w μ = true then _ else _) = _
      rw [if_neg hs]
    rw [e1] at hp
    exact hp.elim
/-- the turns of a list's comprehension, over any walk -/
structure LcSt (g : G0) (W0 : Wd) (H0 : Hp) (D0 : Addr) (acc : List D) (W : Wd) (μ : List Cell) (H : Hp) : Prop where
  st : Step W0 H0 W H
  sm : Sim g W μ H
  at_ : ∃ vs, H D0 = some (.lst vs) ∧ Reps g W acc vs
  nF : W.F D0 = none
  nA : D0 ∉ W.as
theorem tI_bind {α β : Type} {Rl : Wd → Hp → α → β → Prop} {Q : β → Hp → Prop} {W : Wd} {H : Hp} {μ : List Cell} {ρ : EnvD} {σ : L2.St} {f : EnvD → M Itm} {k : Itm → M α} {K : It → Hp → Prop} (s : Sim g W μ H) (en : EnvR g W ρ σ)
    (hp : Post g wx W σ H Rl ((f ρ >>= k) μ) Q)
    (h : ∀ W1 J H1 i μ1, Step W H W1 H1 → Sim g W1 μ1 H1 → EnvR g W1 ρ σ → ItR g W1 H1 i J → Post g wx W σ H Rl (k i μ1) Q → K J H1) : tI g wx f σ H K := by
  refine ⟨W, ρ, μ, s, en, ?_⟩
  have hp : Post g wx W σ H Rl (M.bind (f ρ) k μ) Q := hp
  unfold M.bind at hp
  cases hr : f ρ μ with
  | stuck => rw [hr] at hp; exact hp
  | exc C vs μ' => rw [hr] at hp; exact post_exc (.refl W H) hp
  | ok r μ' =>
    rw [hr] at hp
    intro W1 J H1 st1 s1 it
    exact h W1 J H1 r μ' st1 s1 (en.le st1.le) it hp
theorem lc_turns {elt : ME} {t : MT} {ifs : List ME} {vs : List Nat} {W0 : Wd} {H0 : Hp} {ρ : EnvD} {σ : L2.St} {J : It} {i : Itm} {Qd : Hp → Prop} {D0 : Addr} {μ1 : List Cell} {α : Type} {W00 : Wd} {H00 : Hp} {Rl : Wd → Hp → α → V → Prop} {Q : V → Hp → Prop} {k : List D → M α} (hvs : vs = ownT t)
    (hit : ItR g W0 H0 i J) (sm : Sim g W0 μ1 H0) (en : EnvR g W0 ρ σ) (hn : H0 D0 = none) (hlen : i.xs.length ≤ sizeLine)
    (hp : Post g wx W00 σ H00 Rl ((mapIt i.w (blkM c elt t ifs ρ) i.xs >>= k) μ1) Q)
    (hd : ∀ W μ H acc, LcSt g W0 H0 D0 acc W μ H → Post g wx W00 σ H00 Rl (k acc μ) Q → Qd H) :
    ∃ Wt : Nat → Nat → Hp → Prop, (∃ m, Wt 0 m (upd H0 D0 (.lst []))) ∧ ∀ j m H, Wt j m H →
      (J.stop j H ∧ Qd H) ∨ (J.go j H ∧ ∃ Nx : Hp → Prop, (∀ H', Nx H' → ∃ m', m' < m ∧ Wt (j + 1) m' H') ∧ ∀ x H', J.yld j H x H' → tgG g.K t x (wipe σ vs) H' fun σ2 H2 => wipe σ2 vs = wipe σ vs ∧ tT g wx0 (evT c ifs) σ2 H2 fun b H3 =>
        if b = true then tV g wx0 (ev c elt) σ2 H3 fun y H4 => ∃ acc, H4 D0 = some (.lst acc) ∧ acc.length < sizeLine ∧ Nx (upd H4 D0 (.lst (acc ++ [y]))) else Nx H3) := by
  subst hvs
  let Pv : Nat → Hp → Prop := fun j H => ∃ W μ acc, LcSt g W0 H0 D0 acc W μ H ∧ acc.length ≤ j ∧ Post g wx W00 σ H00 Rl ((mapIt i.w (blkM c elt t ifs ρ) (i.xs.drop j) >>= fun ys => k (acc ++ ys)) μ) Q
  refine ⟨fun j m H => m = i.xs.length - j ∧ j ≤ i.xs.length ∧ Pv j H, ⟨i.xs.length, by simp, Nat.zero_le _, ?_⟩, ?_⟩
  · obtain ⟨st1, s1⟩ := sm.garb hn (.lst [])
    exact ⟨W0, μ1, [], ⟨st1, s1, ⟨[], upd_same, Reps.nil⟩, sm.fzN hn, sm.asN hn⟩, Nat.le_refl _, hp⟩
  · rintro j m H ⟨rfl, hj, W, μ, acc, L, hacc, hp⟩
    by_cases hlt : j < i.xs.length
    · rw [List.drop_eq_getElem_cons hlt] at hp
      obtain ⟨hs, y, μ', hy0, hp⟩ := mapIt_cons hp
      obtain ⟨ρ', μa, h10, hy1⟩ := bind_ok_inv hy0
      obtain ⟨h1, e⟩ := ofO_ok_inv h10
      subst e
      obtain ⟨p, μb, h2, hy⟩ := bind_ok_inv hy1
      refine .inr ⟨hit.go W μa H j L.st L.sm hs hlt, Pv (j + 1), fun H' p' => ⟨i.xs.length - (j + 1), by omega, rfl, hlt, p'⟩, fun x H' hy' => ?_⟩
      obtain ⟨W', st', s', rx⟩ := hit.yld W μa H j x H' i.xs[j] L.st L.sm hs (by simp [hlt]) hy'
      have en' : EnvR g W' (wipeD ρ (ownT t)) (wipe σ (ownT t)) := (en.le (L.st.le.trans st'.le)).wipe _
      refine tgG_ok t W' _ μa _ H' x i.xs[j] ρ' _ s' en' rx h1 fun σ2 en2 sd => ⟨?_, W', ρ', μa, s', en2, ?_⟩
      · rw [Sd.wipe sd (fun _ h => h), wipe_wipe]
      · rw [h2]
        intro W3 b H3 st3 s3 eb
        subst eb
        -- the state of the new list
        have keepL : ∀ {W' : Wd} {H' : Hp} {μ' : List Cell}, Step W H W' H' → Sim g W' μ' H' → LcSt g W0 H0 D0 acc W' μ' H' := fun {W' H' μ'} st s => by
          obtain ⟨vs, hv, rv⟩ := L.at_
          refine ⟨L.st.trans st, s, ⟨vs, st.keep _ _ hv L.nA, rv.leW st.le⟩, ?_, fun z => L.nA (st.newc _ _ hv z)⟩
          cases e : W'.F D0 with
          | none => rfl
          | some u =>
            obtain ⟨u', e'⟩ := st.newF _ _ _ hv e
            rw [L.nF] at e'; cases e'
        cases p with
        | false =>
          have hy : (pure none : M (Option D)) μb = .ok y μ' := hy
          cases hy
          exact ⟨W3, _, acc, keepL (st'.trans st3) s3, by omega, hp⟩
        | true =>
          have hy : ((ev c elt ρ' >>= fun y => (pure (some y.d) : M (Option D))) μb) = .ok y μ' := hy
          obtain ⟨r, μc, h3, hy⟩ := bind_ok_inv hy
          cases hy
          refine ⟨W3, ρ', μb, s3, en2.le st3.le, ?_⟩
          rw [h3]
          intro W4 v H4 st4 s4 rep
          have L4 := keepL ((st'.trans st3).trans st4) s4
          obtain ⟨vs, hv, rv⟩ := L4.at_
          obtain ⟨st5, s5⟩ := s4.lock (a := D0) (o' := .lst (vs ++ [v])) L4.st hn hv (fun _ => nofun) L4.nF L4.nA
          refine ⟨vs, hv, by rw [← rv.len]; omega, W4, μ', acc ++ [r.d], ⟨st5, s5, ⟨_, upd_same, rv.append (Reps.cons rep .nil)⟩, L4.nF, L4.nA⟩, by simp; omega, ?_⟩
          simpa using hp
    · have e : j = i.xs.length := by omega
      subst e
      rw [List.drop_length] at hp
      obtain ⟨hs, hp⟩ := mapIt_nil hp
      exact .inl ⟨hit.stop W μ H L.st L.sm hs, hd W μ H acc L (by simpa using hp)⟩
theorem ev_lc {elt : ME} {t : MT} {it : ME} {ifs : List ME} {ρ : EnvD} : ev c (.lc elt t it ifs) ρ = (evI c it ρ >>= fun i => if i.xs.length ≤ lineN then mapIt i.w (blkM c elt t ifs ρ) i.xs >>= fun ys => (pure (.fl ys) : M ER) else stuck) := by
  conv => lhs; unfold ev
  rfl
theorem tLc_ok {elt : ME} {t : MT} {it : ME} {ifs : List ME} {σ : L2.St} {H : Hp} {Q : VK} (h : tE g wx (ev c (.lc elt t it ifs)) σ H Q) : tLc (tI g wx (evI c it)) (tgG g.K t) (tT g wx0 (evT c ifs)) (tV g wx0 (ev c elt)) (ownT t) σ H Q := by
  obtain ⟨W, ρ, μ, sm, en, hp⟩ := h
  rw [ev_lc] at hp
  refine tI_bind sm en hp fun W1 J H1 i μ1 st1 s1 e1 hit hp1 => ?_
  split at hp1
  · rename_i hl
    intro D0 hn
    refine lc_turns (k := fun ys => (pure (.fl ys) : M ER)) (α := ER) rfl hit s1 e1 hn (by rw [← lineN_eq]; exact hl) hp1 fun W2 μ2 H2 acc L hp2 => ?_
    obtain ⟨vs, hv, rv⟩ := L.at_
    exact hp2 W2 (.ref D0) H2 (st1.trans L.st) L.sm ⟨D0, vs, rfl, hv, st1.back hn, L.nF, L.nA, rv⟩
  · exact hp1.elim
end
end RL

set_option Elab.async false
set_option linter.all false
set_option maxRecDepth 100000
set_option autoImplicit false
set_option maxHeartbeats 4000000
namespace RL
open PySem PySem.Spec PyProof.Rows L2
/-! ### methods of the built-in types -/
section
variable {X : Cx} {g : G0} {nm : Nm} {c : Cfg} {wx : WX}
theorem post_mod {W0 : Wd} {H0 : Hp} {μ : List Cell} {σ : L2.St} {α β : Type} {Rl : Wd → Hp → α → β → Prop} {Q : β → Hp → Prop} {f : List Cell → Option (α × List Cell)} {K : Prop} (hp : Post g wx W0 σ H0 Rl (modM f μ) Q)
    (h : ∀ a μ', f μ = some (a, μ') → (∀ W' b H', Step W0 H0 W' H' → Sim g W' μ' H' → Rl W' H' a b → Q b H') → K) : K := by
  unfold modM at hp
  cases e : f μ with
  | none => rw [e] at hp; exact hp.elim
  | some p => obtain ⟨a, μ'⟩ := p; rw [e] at hp; exact h a μ' e hp
/-- by values: what the method is to do -/
def BmR (g : G0) (m : BM) (r : V → List V → Hp → VK → Prop) : Prop := ∀ (W : Wd) (μ : List Cell) (H : Hp) (d : D) (x : V) (ds : List D) (vs : List V) (e : ER) (μ' : List Cell) (Q : VK), Sim g W μ H → Rep g W d x → Reps g W ds vs → bmD μ m d ds = some (e, μ') →
  (∀ W' v H', Step W H W' H' → Sim g W' μ' H' → RepR g H W' H' e v → Q v H') → r x vs H Q
theorem e_bm {m : BM} {T id : String} {r : V → List V → Hp → VK → Prop} {name : Str} {o e : Expr} {es : List Expr} {mo : ME} {ms : List ME} {apos cpos : Pos} (pa : PlainAttrs T) (slot : Slot T name id) (hty : typeOf (.builtin id) = pure (.type "method_descriptor")) (hm : MtR X id r)
    (hT : ∀ (W : Wd) (μ : List Cell) (H : Hp) (d : D) (x : V), Sim g W μ H → Rep g W d x → bmTy μ m d = some () → tyV X.K T x H) (hr : BmR g m r)
    (hbase : attributeBase o name X.env (eval o X.env) = eval o X.env)
    (hfew : ((backTo cpos (starEach (e :: es) X.env)).all (fun x => !x.1) && (backToKw cpos (keywordEach [] X.env)).all (fun x => x.1.isSome)
      && decide ((e :: es).length + ([] : List Keyword).length + (if ([] : List Keyword).isEmpty then 0 else 1) < 30)) = true)
    (hline : (apos.endLine == cpos.line) = true) (hs : starEach (e :: es) X.env = (false, eval e X.env) :: starEach es X.env) (hplain : (backTo cpos (starEach es X.env)).any (·.1) = false)
    (ho : PE X o (tE g wx (ev c mo))) (ha : PA X (e :: es) (tAs g wx (evs c ms))) : PE X (.Call (.Attribute o name apos) (e :: es) [] cpos) (tE g wx (ev c (.bm m mo ms))) := by
  refine PE.mono (pe_bm pa slot hty hm (PE.val ho) ha hbase hfew hline hs hplain) fun σ H Q hw => ?_
  obtain ⟨W, ρ, μ, sm, en, hp⟩ := hw
  have e : ev c (.bm m mo ms) ρ = (ev c mo ρ >>= fun x => (getM fun μ => bmTy μ m x.d) >>= fun _ => evs c ms ρ >>= fun xs => modM fun μ => bmD μ m x.d xs) := by
    conv => lhs; unfold ev
  rw [e] at hp
  refine tV_bind sm en (.refl W H) hp fun W1 x H1 r1 μ1 st1 st01 s1 e1 rep1 hp1 => ?_
  obtain ⟨u, hu, hp1⟩ := post_getB hp1
  refine ⟨hT W1 μ1 H1 _ x s1 rep1 hu, ?_⟩
  refine tAs_bind s1 e1 st01 hp1 fun W2 vs H2 ds μ2 st2 st02 s2 e2 rep2 hp2 => ?_
  exact post_mod hp2 fun a μ' ea k => hr W2 μ2 H2 _ x ds vs a μ' Q s2 (rep1.leW st2.le) rep2 ea fun W' v H' st s' rr => k W' v H' (st02.trans st) s' (RepR.back st02 rr)
theorem list_ty (hK : X.K = g.K) {W : Wd} {μ : List Cell} {H : Hp} {d : D} {x : V} (s : Sim g W μ H) (r : Rep g W d x) (e : (listOf μ d).map (fun _ => ()) = some ()) : tyV X.K "list" x H := by
  obtain ⟨xs, hx, _⟩ := Option.map_eq_some_iff.mp e
  obtain ⟨a, vs, ex, ha, _⟩ := listOf_ok s r hx
  subst ex
  exact .inl ⟨rfl, vs, .inl ha⟩
/-- a list's cell is written -/
theorem cell_write {W : Wd} {μ : List Cell} {H : Hp} {n : Nat} {xs ys : List D} {x : V} (s : Sim g W μ H) (r : Rep g W (.cell n) x) (hc : μ[n]? = some (.lst xs)) : ∃ a vs, x = .ref a ∧ H a = some (.lst vs) ∧ Reps g W xs vs ∧
    ∀ ws, Reps g W ys ws → Step W H W (upd H a (.lst ws)) ∧ Sim g W (μ.set n (.lst ys)) (upd H a (.lst ws)) := by
  obtain ⟨a, ex, ha, vs, hv, rr⟩ := cell_rep s r hc
  exact ⟨a, vs, ex, hv, rr, fun ws rw' => s.write hc ha (fun y z => by rw [hv] at z; cases z) ⟨ws, upd_same, rw'⟩⟩
theorem cellL_inv {μ : List Cell} {o : D} {n : Nat} {ys : List D} (h : cellL μ o = some (n, ys)) : o = .cell n ∧ μ[n]? = some (.lst ys) := by
  cases o with
  | cell m =>
    have h : (match μ[m]? with | some (.lst ys) => some (m, ys) | _ => none) = some (n, ys) := h
    cases hc : μ[m]? with
    | none => rw [hc] at h; cases h
    | some c =>
      rw [hc] at h
      cases c with
      | lst zs => cases h; exact ⟨rfl, hc⟩
      | _ => cases h
  | _ => cases h
theorem one1_inv {xs : List D} {x : D} (h : one1 xs = some x) : xs = [x] := by
  unfold one1 at h
  split at h
  · cases h; rfl
  · cases h
theorem asInt_inv {d : D} {i : Int} (h : asInt d = some i) : d = .int i := by
  cases d <;> cases h; rfl
theorem asStr_inv {d : D} {i : Str} (h : asStr d = some i) : d = .str i := by
  cases d <;> cases h; rfl
theorem bm_append : BmR g .append rAppend := by
  intro W μ H d x ds vs e μ' Q s r rs h q
  obtain ⟨⟨n, ys⟩, hc0, h1⟩ := Option.bind_eq_some_iff.mp (show appendD μ d ds = _ from h)
  obtain ⟨y, hy, h2⟩ := Option.bind_eq_some_iff.mp h1
  clear h h1
  have hd := one1_inv hy
  subst hd
  obtain ⟨ed, hc⟩ := cellL_inv hc0
  subst ed
  split at h2
  · rename_i hl
    cases h2
    obtain ⟨v, ev', rv⟩ := reps1 rs
    subst ev'
    obtain ⟨a, ws, ex, ha, rr, k⟩ := cell_write (ys := ys ++ [y]) s r hc
    obtain ⟨st, s'⟩ := k _ (rr.append (Reps.cons rv .nil))
    exact ⟨a, ws, v, ex, rfl, ha, by rw [← rr.len, ← lineN_eq]; exact hl, q W _ _ st s' rfl⟩
  · cases h2
theorem Reps.eraseIdx {W : Wd} : ∀ {ds : List D} {vs : List V} (i : Nat), Reps g W ds vs → Reps g W (ds.eraseIdx i) (vs.eraseIdx i)
  | [], _, _, h => by cases h; exact Reps.nil
  | d :: ds, _, 0, h => by obtain ⟨v, r, e, p, q⟩ := h; subst e; exact q
  | d :: ds, _, i + 1, h => by obtain ⟨v, r, e, p, q⟩ := h; subst e; exact Reps.cons p (Reps.eraseIdx i q)
theorem bm_popAt : BmR g .popAt rPopAt := by
  intro W μ H d x ds vs e μ' Q s r rs h q
  obtain ⟨⟨n, ys⟩, hc0, h1⟩ := Option.bind_eq_some_iff.mp (show popAtD μ d ds = _ from h)
  obtain ⟨i, hi0, h2⟩ := Option.bind_eq_some_iff.mp h1
  obtain ⟨y0, hy0, hi⟩ := Option.bind_eq_some_iff.mp hi0
  obtain ⟨j, hj, h3⟩ := Option.bind_eq_some_iff.mp h2
  obtain ⟨y, hy, h4⟩ := Option.bind_eq_some_iff.mp h3
  clear h h1 h2 h3
  have hd := one1_inv hy0
  have hi := asInt_inv hi
  subst hd
  subst hi
  obtain ⟨ed, hc⟩ := cellL_inv hc0
  subst ed
  split at h4
  · rename_i hz
    cases h4
    obtain ⟨v, ev', rv⟩ := reps1 rs
    subst ev'
    cases rv
    obtain ⟨a, ws, ex, ha, rr, k⟩ := cell_write (ys := ys.eraseIdx j) s r hc
    obtain ⟨st, s'⟩ := k _ (Reps.eraseIdx j rr)
    obtain ⟨w, hw, rw'⟩ := rr.get hy
    have hj' : ixN ws.length i = some j := by rw [← rr.len]; exact hj
    obtain ⟨h1, h2, h3, h4⟩ := ixN_seq hj'
    have hl := rr.len
    have hz : ys.length ≤ 16777216 := hz
    exact ⟨a, ws, i, j, w, ex, rfl, ha, by omega, by omega, h1, hw, q W w _ st s' (rw'.leW st.le)⟩
  · cases h4
theorem bm_join {K : PySem.W.Frag} (hK : K = g.K) : BmR g .join (fun x xs H Q => ∃ a p, ∃ ys : List Str, x = .str a ∧ xs = [.ref p] ∧ (SqL K H p (ys.map V.str) ∨ SqT K H p (ys.map V.str)) ∧
    (ys.map (·.length)).sum + ys.length * a.length ≤ 16777216 ∧ Q (.str (Txt.join a ys)) H) := by
  intro W μ H d x ds vs e μ' Q s r rs h q
  obtain ⟨sep, hsep, h1⟩ := Option.bind_eq_some_iff.mp (show joinD μ d ds = _ from h)
  obtain ⟨ss, hss0, h2⟩ := Option.bind_eq_some_iff.mp h1
  obtain ⟨zs, hzs0, hss⟩ := Option.bind_eq_some_iff.mp hss0
  obtain ⟨y, hy, hzs⟩ := Option.bind_eq_some_iff.mp hzs0
  clear h h1
  have hd := one1_inv hy
  subst hd
  have := asStr_inv hsep
  subst this
  obtain ⟨v, ev', rv⟩ := reps1 rs
  subst ev'
  cases r
  split at h2
  · rename_i hl
    cases h2
    obtain ⟨a, ws, ex, hq, rr⟩ := seqOf_ok s rv hzs
    subst ex
    have := asStrs_ok hss
    subst this
    have := reps_strs rr
    subst this
    exact ⟨sep, a, ss, rfl, rfl, hK ▸ hq, hl, fin_str s q⟩
  · cases h2
end
end RL

set_option Elab.async false
set_option linter.all false
set_option maxRecDepth 100000
set_option autoImplicit false
set_option maxHeartbeats 4000000
namespace RL
open PySem PySem.Spec PyProof.Rows L2
/-! ### isinstance, by the built-in types -/
def tgStr : Tg → String
  | .non => "NoneType" | .bl => "bool" | .int => "int" | .str => "str" | .tup => "tuple" | .lst => "list" | .dct => "dict"
theorem kit_tab : ∀ (a : Tg) (t : TyN), (∀ C, t ≠ .cls C) → kitB (tgStr a) (tyStr t) = some (isaT a t) := by
  intro a t h
  cases t with
  | cls C => exact absurd rfl (h C)
  | _ => cases a <;> decide +kernel
section
variable {X : Cx} {g : G0} {nm : Nm} {c : Cfg} {wx : WX}
theorem tg_ok {W : Wd} {μ : List Cell} {H : Hp} {d : D} {x : V} {t : Tg} (s : Sim g W μ H) (r : Rep g W d x) (e : tgOf μ d = some t) : TyX g.K H x (.type (tgStr t)) := by
  cases d with
  | non => cases e; cases r; exact .base .non
  | bl b => cases e; cases r; exact .base (.bl b)
  | int i => cases e; cases r; exact .base (.int i)
  | str i => cases e; cases r; exact .base (.str i)
  | tup ds =>
    cases e
    obtain ⟨a, vs, ex, ha, _⟩ := r
    subst ex
    rcases ha with ha | ⟨_, o, its, n, hk, hc, _⟩
    · exact .base (.tup (s.fx _ _ ha rfl))
    · exact .kTuple hk hc
  | lst ds =>
    cases e
    obtain ⟨a, vs, ex, ha, _⟩ := r
    subst ex
    rcases s.fz _ _ ha with h | ⟨o, h⟩
    · exact .base (.lst h)
    · exact .base (.frz h)
  | dct ks ds =>
    have e : (if ks.all (fun d => (asKey d).isSome) then some Tg.dct else none) = some t := e
    split at e
    · rename_i hk
      cases e
      obtain ⟨a, vs, ex, ha, _⟩ := r
      subst ex
      rcases ha with ⟨keys, e1, l, q⟩ | ⟨keys, n, e1, l, q⟩
      · obtain ⟨o, ho⟩ := s.fd _ _ q rfl
        exact .fDict ho
      · exfalso
        cases keys with
        | nil => exact n rfl
        | cons k kk => rw [e1] at hk; simp [keysD, asKey] at hk
    · cases e
  | obj _ _ _ => cases e
  | kl _ => cases e
  | cell n =>
    have e : (match μ[n]? with | some (.lst _) => some Tg.lst | some (.dct _ _) => some .dct | _ => none) = some t := e
    cases hc : μ[n]? with
    | none => rw [hc] at e; cases e
    | some k =>
      rw [hc] at e
      cases k with
      | lst xs =>
        cases e
        obtain ⟨a, ex, _, vs, hv, _⟩ := cell_rep s r hc
        subst ex
        exact .base (.lst hv)
      | dct ks xs =>
        cases e
        obtain ⟨a, ex, _, vs, hv, _⟩ := cell_rep s r hc
        subst ex
        rcases hv with ⟨_, _, _, q⟩ | ⟨_, _, _, _, q⟩
        · exact .base (.dK q)
        · exact .base (.dT q)
      | inst _ _ _ => cases e
theorem kit_any : ∀ (ts : List TyN) (a : Tg), ts.all isB = true → PySem.W.kitAny g.K (.type (tgStr a)) (ts.map fun t => Value.type (tyStr t)) = some (isaTs a ts)
  | [], _, _ => kitAny_nil
  | t :: ts, a, h => by
    rw [List.all_cons, Bool.and_eq_true] at h
    have hc : ∀ C, t ≠ .cls C := fun C z => by subst z; cases h.1
    rw [List.map_cons]
    refine kitAny_cons (kit_ty (kit_tab a t hc)) (fun e => ?_) fun e => ?_
    · rw [kit_any ts a h.2]
      unfold isaTs
      rw [List.any_cons, e, Bool.false_or]
    · unfold isaTs
      rw [List.any_cons, e, Bool.true_or]
theorem isi_boot : bootBuiltins "isinstance" = some (.builtin "isinstance") := by decide +kernel
theorem tN_boot : ∀ (t : TyN), isB t = true → bootBuiltins (Str.ofString (tyStr t)) = some (.type (tyStr t)) := by
  intro t h
  cases t with
  | cls C => cases h
  | _ => decide +kernel
/-- the name of a type -/
theorem e_tyName {t : TyN} {p : Pos} (hb : isB t = true) (hg : Gl X (Str.ofString (tyStr t))) (hm : X.mg (Str.ofString (tyStr t)) = none) : PE X (.Name (Str.ofString (tyStr t)) p) (tC (.ty (tyStr t))) := by
  refine pe_bltn hg hm (tN_boot t hb) rfl ?_ ?_ <;> (cases t <;> first | decide +kernel | (exfalso; cases hb; done))
theorem e_isi1 {a : Expr} {m : ME} {t : TyN} {p p2 pos : Pos} (hK : X.K = g.K) (hb : isB t = true) (hgi : Gl X "isinstance") (hmi : X.mg "isinstance" = none) (hg : Gl X (Str.ofString (tyStr t))) (hm : X.mg (Str.ofString (tyStr t)) = none) (hs : isStar a = false) (ha : PE X a (tE g wx (ev c m))) :
    PE X (.Call (.Name "isinstance" p) [a, .Name (Str.ofString (tyStr t)) p2] [] pos) (tE g wx (ev c (.isinst m [t]))) := by
  have h1 : starEach [a, .Name (Str.ofString (tyStr t)) p2] X.env = (false, eval a X.env) :: starEach [.Name (Str.ofString (tyStr t)) p2] X.env := by
    cases a <;> first | rfl | cases hs
  refine PE.mono (pe_callB call_isi hgi hmi isi_boot (pa_cons (PE.val ha) (pa_cons (e_tyName hb hg hm) pa_nil rfl) h1) (by decide) (by decide) h1 rfl) fun σ H Q hw => ?_
  obtain ⟨W, ρ, μ, sm, en, hp⟩ := hw
  refine tV_bind sm en (.refl W H) hp fun W1 x H1 r1 μ1 st1 st01 s1 e1 rep1 hp1 => ?_
  refine post_get hp1 fun r er k => ?_
  obtain ⟨b, eb, er⟩ := Option.map_eq_some_iff.mp er
  subst er
  obtain ⟨tt, ht, eb⟩ := Option.bind_eq_some_iff.mp (show ((tgOf μ1 r1.d).bind fun tt => if [t].all isB then some (isaTs tt [t]) else none) = some b from eb)
  rw [if_pos (by simp [hb])] at eb
  cases eb
  have hK2 : PySem.W.kitOne X.K (.type (tgStr tt)) (.type (tyStr t)) = some (isaTs tt [t]) := by
    have := kit_ty (K := X.K) (kit_tab tt t fun C z => by subst z; cases hb)
    rw [this]; simp [isaTs]
  exact ⟨x, .ty (tyStr t), .type (tgStr tt), .type (tyStr t), _, rfl, .ty _, hK ▸ tg_ok s1 rep1 ht, hK2, k W1 _ H1 st01 s1 rfl⟩
end
end RL

set_option Elab.async false
set_option linter.all false
set_option maxRecDepth 100000
set_option autoImplicit false
set_option maxHeartbeats 4000000
namespace RL
open PySem PySem.Spec PyProof.Rows L2
section
variable {X : Cx} {g : G0} {nm : Nm} {c : Cfg} {wx : WX}
theorem asKey_inv {d : D} (h : (asKey d).isSome = true) : ∃ k : Key, d = keyD k := by
  cases d with
  | int i => exact ⟨.inl i, rfl⟩
  | str s => exact ⟨.inr s, rfl⟩
  | _ => cases h
theorem dK_of {H : Hp} {a : Addr} {ks : List D} {vs : List V} (h : DRep H a ks vs) (ha : ks.all (fun d => (asKey d).isSome) = true) : ∃ keys : List Key, ks = keys.map keyD ∧ keys.length = vs.length ∧ H a = some (.dK (keys.zip vs)) := by
  rcases h with h | ⟨keys, n, e, l, q⟩
  · exact h
  · exfalso
    cases keys with
    | nil => exact n rfl
    | cons k kk => rw [e] at ha; simp [keysD, asKey] at ha
theorem cellDct_inv {μ : List Cell} {o : D} {n : Nat} {ks ys : List D} (h : cellDct μ o = some (n, ks, ys)) : o = .cell n ∧ μ[n]? = some (.dct ks ys) := by
  cases o with
  | cell m =>
    have h : (match μ[m]? with | some (.dct ks ys) => some (m, ks, ys) | _ => none) = some (n, ks, ys) := h
    cases hc : μ[m]? with
    | none => rw [hc] at h; cases h
    | some c =>
      rw [hc] at h
      cases c with
      | dct zs ws => cases h; exact ⟨rfl, hc⟩
      | _ => cases h
  | _ => cases h
theorem reps_zw {W : Wd} {k x : D} {v : V} (rx : Rep g W x v) : ∀ (ks xs : List D) (vs : List V), Reps g W xs vs → ∀ keys : List Key, ks = keys.map keyD → ∀ kk, k = keyD kk →
    Reps g W (List.zipWith (fun k' v' => if k' = k then x else v') ks xs) (List.zipWith (fun k' v' => if k' = kk then v else v') keys vs)
  | [], _, _, _, keys, e, _, _ => by
    cases keys with
    | nil => simp [Reps.nil]
    | cons _ _ => cases e
  | k0 :: ks, [], vs, r, keys, e, _, _ => by
    cases r
    simp [Reps.nil]
  | k0 :: ks, x0 :: xs, vs, r, keys, e, kk, ek => by
    obtain ⟨v0, rv, ev', r1, r2⟩ := r
    subst ev'
    cases keys with
    | nil => cases e
    | cons k1 keys =>
      injection e with e1 e2
      rw [List.zipWith_cons_cons, List.zipWith_cons_cons]
      refine Reps.cons ?_ (reps_zw rx ks xs rv r2 keys e2 kk ek)
      rw [e1, ek]
      by_cases h : k1 = kk
      · rw [if_pos (by rw [h]), if_pos h]; exact rx
      · rw [if_neg (fun z => h (keyD_inj z)), if_neg h]; exact r1
theorem put_zip (v : V) (kk : Key) : ∀ (keys : List Key) (vs : List V), keys.length = vs.length → (keys.zip vs).map (fun kv => if kv.1 = kk then (kv.1, v) else kv) = keys.zip (List.zipWith (fun k' v' => if k' = kk then v else v') keys vs)
  | [], _, _ => by simp
  | k :: ks, [], h => by cases h
  | k :: ks, v0 :: vs, h => by
    rw [List.zip_cons_cons, List.map_cons, List.zipWith_cons_cons, List.zip_cons_cons, put_zip v kk ks vs (by simpa using h)]
    congr 1
    dsimp only
    split <;> rfl
theorem putD_ok {W : Wd} {k x : D} {ks xs : List D} {v : V} {vs : List V} {keys : List Key} {kk : Key} (rx : Rep g W x v) (rr : Reps g W xs vs) (ek : k = keyD kk) (e : ks = keys.map keyD) (l : keys.length = vs.length) :
    ∃ (keys' : List Key) (vs' : List V), (putD k x ks xs).1 = keys'.map keyD ∧ keys'.length = vs'.length ∧ putK (keys.zip vs) kk v = keys'.zip vs' ∧ Reps g W (putD k x ks xs).2 vs' := by
  have hany : ((keys.zip vs).any fun kv => decide (kv.1 = kk)) = ks.contains k := by
    rw [e, ek]
    clear e ek rr
    induction keys generalizing vs with
    | nil => simp
    | cons k0 keys ih =>
      cases vs with
      | nil => cases l
      | cons v0 vs =>
        rw [List.zip_cons_cons, List.any_cons, List.map_cons, List.contains_cons, ih (by simpa using l)]
        congr 1
        by_cases h : k0 = kk
        · subst h; simp
        · have : keyD kk ≠ keyD k0 := fun z => h (keyD_inj z).symm
          simp [h, this]
  unfold putD putK
  rw [hany]
  by_cases hc : ks.contains k = true
  · rw [if_pos hc, if_pos hc]
    refine ⟨keys, List.zipWith (fun k' v' => if k' = kk then v else v') keys vs, e, by simp [l], put_zip v kk keys vs l, reps_zw rx ks xs vs rr keys e kk ek⟩
  · rw [if_neg hc, if_neg hc]
    refine ⟨keys ++ [kk], vs ++ [v], by simp [e, ek], by simp [l], ?_, rr.append (Reps.cons rx .nil)⟩
    rw [List.zip_append l]; rfl
def rSetD (g : G0) : TSet := fun o i v H Q => ∃ W μ d di dv μ', Sim g W μ H ∧ Rep g W d o ∧ Rep g W di i ∧ Rep g W dv v ∧ setixD μ d di dv = some ((), μ') ∧ ∀ H', Step W H W H' → Sim g W μ' H' → Q H'
theorem set_D (hu : X.A.units + 200 < cLine) : PSet X (rSetD g) := by
  intro pins s σ H o i v ov iv u Q I ro ri rv h
  obtain ⟨W, μ, d, di, dv, μ', sm, rd, rdi, rdv, e, q⟩ := h
  unfold setixD at e
  cases hc : cellL μ d with
  | some p =>
    obtain ⟨n, xs⟩ := p
    rw [hc] at e
    obtain ⟨j, hj, e⟩ := Option.bind_eq_some_iff.mp e
    obtain ⟨k, hk, e⟩ := Option.bind_eq_some_iff.mp e
    cases e
    obtain ⟨ed, hc1⟩ := cellL_inv hc
    subst ed
    have := asInt_inv hj
    subst this
    obtain ⟨a, vs, ex, ha, rr, kk⟩ := cell_write (ys := xs.set k dv) sm rd hc1
    obtain ⟨st, s'⟩ := kk _ (rr.set rdv k)
    subst ex
    cases rdi
    exact set_list pins s σ H (.ref a) (.int j) v ov iv u Q I ro ri rv ⟨a, vs, j, k, rfl, rfl, ha, by rw [← rr.len]; exact hk, q _ st s'⟩
  | none =>
    rw [hc] at e
    obtain ⟨⟨n, ks, xs⟩, hd, e⟩ := Option.bind_eq_some_iff.mp e
    dsimp only at e
    split at e
    · rename_i hb
      cases e
      simp only [Bool.and_eq_true, decide_eq_true_eq] at hb
      obtain ⟨⟨hk, hall⟩, hlen⟩ := hb
      obtain ⟨ed, hcell⟩ := cellDct_inv hd
      subst ed
      obtain ⟨a, ex, ha, vs, hdr, rr⟩ := cell_rep sm rd hcell
      obtain ⟨keys, e1, l, hH⟩ := dK_of hdr hall
      obtain ⟨kk, ek⟩ := asKey_inv hk
      obtain ⟨keys', vs', h1, h2, h3, h4⟩ := putD_ok rdv rr ek e1 l
      obtain ⟨st, s'⟩ := sm.write (u := .dK (putK (keys.zip vs) kk v)) (c' := .dct (putD di dv ks xs).1 (putD di dv ks xs).2) hcell ha (fun y z => by rw [hH] at z; cases z) ⟨vs', .inl ⟨keys', h1, h2, by rw [upd_same, h3]⟩, h4⟩
      subst ex
      have ri' : i = kV kk := by rw [ek] at rdi; exact rep_key rdi
      obtain rfl : ov = Value.ref a := ro
      have hlk : (keys.zip vs).length < sizeLine := by
        have : ks.length = keys.length := by rw [e1]; simp
        rw [List.length_zip, ← lineN_eq]; omega
      exact d_setItem (by omega) I (.inl ⟨_, kk, hH, ri', hlk, rfl⟩) ri rv fun s4 I4 => ⟨_, I4, q _ st s'⟩
    · cases e
end
end RL

set_option Elab.async false
set_option linter.all false
set_option maxRecDepth 100000
set_option autoImplicit false
set_option maxHeartbeats 4000000
namespace RL
open PySem PySem.Spec PyProof.Rows L2
section
variable {X : Cx} {g : G0} {nm : Nm} {c : Cfg} {wx : WX}
/-! ### dict displays -/
/-- the pairs of a display and their readings -/
inductive DPairs (X : Cx) (g : G0) (c : Cfg) (wx : WX) (pos : Pos) : List (Option Expr) → List Expr → List (TE × TE) → List ME → Prop where
  | nil : DPairs X g c wx pos [] [] [] []
  | cons {k v : Expr} {ks : List (Option Expr)} {vs : List Expr} {trs : List (TE × TE)} {mk mv : ME} {ms : List ME} (h1 : PE X k (tE g wx (ev c mk))) (h2 : PE X v (tE g wx (ev c mv))) (n1 : ∀ m', mk ≠ .star m') (n2 : ∀ m', mv ≠ .star m') (t : DPairs X g c wx pos ks vs trs ms) :
      DPairs X g c wx pos (some k :: ks) (v :: vs) ((tV g wx (ev c mk), tV g wx (ev c mv)) :: trs) (mk :: mv :: ms)
theorem DPairs.pps {pos : Pos} : ∀ {keys : List (Option Expr)} {values : List Expr} {trs : List (TE × TE)} {ms : List ME}, DPairs X g c wx pos keys values trs ms → PPs X pos keys values trs
  | _, _, _, _, .nil => pps_nil
  | _, _, _, _, .cons h1 h2 _ _ t => pps_cons (PE.val h1) (PE.val h2) t.pps
theorem DPairs.all {pos : Pos} : ∀ {keys : List (Option Expr)} {values : List Expr} {trs : List (TE × TE)} {ms : List ME}, DPairs X g c wx pos keys values trs ms → keys.all (·.isSome) = true ∧ keys.length = values.length ∧ ms.length = 2 * keys.length
  | _, _, _, _, .nil => ⟨rfl, rfl, rfl⟩
  | _, _, _, _, .cons h1 h2 _ _ t => by
    obtain ⟨a, b, d⟩ := t.all
    exact ⟨by simp [a], by simp [b], by simp [d]; omega⟩
theorem evs_cons_eq {m : ME} {ms : List ME} {ρ : EnvD} (hm : ∀ m', m ≠ .star m') : evs c (m :: ms) ρ = (ev c m ρ >>= fun x => evs c ms ρ >>= fun xs => (pure (x.d :: xs) : M (List D))) := by
  cases m <;> first | rfl | exact absurd rfl (hm _)
/-- the pairs, by values -/
def PV (g : G0) (W : Wd) (ds : List D) (ps : List (V × V)) : Prop := Reps g W ds (ps.flatMap fun p => [p.1, p.2])
theorem pairs_ok {pos : Pos} : ∀ {keys : List (Option Expr)} {values : List Expr} {trs : List (TE × TE)} {ms : List ME}, DPairs X g c wx pos keys values trs ms →
    ∀ {α β : Type} {Rl : Wd → Hp → α → β → Prop} {Q : β → Hp → Prop} {W W0 : Wd} {H H0 : Hp} {μ : List Cell} {ρ : EnvD} {σ : L2.St} {k : List D → M α} {K : List (V × V) → Hp → Prop}, Sim g W μ H → EnvR g W ρ σ → Step W0 H0 W H →
      Post g wx W0 σ H0 Rl ((evs c ms ρ >>= k) μ) Q → (∀ W1 ps H1 ds μ1, Step W H W1 H1 → Step W0 H0 W1 H1 → Sim g W1 μ1 H1 → PV g W1 ds ps → Post g wx W0 σ H0 Rl (k ds μ1) Q → K ps H1) → tPairs trs σ H K
  | _, _, _, _, .nil, α, β, Rl, Q, W, W0, H, H0, μ, ρ, σ, k, K, sm, en, st0, hp, h => h W [] H [] μ (.refl W H) st0 sm Reps.nil hp
  | _, _, _, _, .cons (mk := mk) (mv := mv) (ms := ms) h1 h2 n1 n2 t, α, β, Rl, Q, W, W0, H, H0, μ, ρ, σ, k, K, sm, en, st0, hp, h => by
    rw [evs_cons_eq n1] at hp
    simp only [bind_assoc, evs_cons_eq n2, pure_bind] at hp
    refine tV_bind sm en st0 hp fun W1 x H1 r1 μ1 st1 st01 s1 e1 rep1 hp1 => ?_
    refine tV_bind s1 e1 st01 hp1 fun W2 y H2 r2 μ2 st2 st02 s2 e2 rep2 hp2 => ?_
    refine pairs_ok t s2 e2 st02 (k := fun ds => k (r1.d :: r2.d :: ds)) hp2 fun W3 ps H3 ds μ3 st3 st03 s3 pv hp3 => ?_
    exact h W3 ((x, y) :: ps) H3 (r1.d :: r2.d :: ds) μ3 ((st1.trans st2).trans st3) st03 s3 (Reps.cons (rep1.leW (st2.le.trans st3.le)) (Reps.cons (rep2.leW st3.le) pv)) hp3
/-- distinct keys merge to themselves -/
theorem merge_nodup : ∀ (kvs acc : List (Key × V)), (∀ p ∈ kvs, ∀ q ∈ acc, q.1 ≠ p.1) → (kvs.map (·.1)).Nodup → mergeK acc kvs = acc ++ kvs
  | [], acc, _, _ => by simp [mergeK]
  | p :: kvs, acc, h, hn => by
    have e : putK acc p.1 p.2 = acc ++ [p] := by
      unfold putK
      rw [if_neg]
      intro z
      obtain ⟨q, hq, e⟩ := List.any_eq_true.mp z
      exact h p List.mem_cons_self q hq (of_decide_eq_true e)
    have : mergeK acc (p :: kvs) = mergeK (putK acc p.1 p.2) kvs := rfl
    rw [this, e]
    rw [List.map_cons, List.nodup_cons] at hn
    rw [merge_nodup kvs (acc ++ [p]) (fun q hq r hr => ?_) hn.2, List.append_assoc]; rfl
    rcases List.mem_append.mp hr with hr | hr
    · exact h q (List.mem_cons_of_mem _ hq) r hr
    · have : r = p := by simpa using hr
      subst this
      intro z
      exact hn.1 (z ▸ List.mem_map_of_mem (f := (·.1)) hq)
theorem pairsD_ok {W : Wd} : ∀ (n : Nat) (ds : List D) (ps : List (V × V)) (ks xs : List D), ds.length ≤ n → PV g W ds ps → pairsD ds = some (ks, xs) → ∃ kvs : List (Key × V), ps = kvs.map (fun kv => (kV kv.1, kv.2)) ∧ ks = (kvs.map (·.1)).map keyD ∧ Reps g W xs (kvs.map (·.2)) ∧ (kvs.map (·.1)).Nodup
  | 0, ds, ps, ks, xs, hn, pv, h => by
    have : ds = [] := List.length_eq_zero_iff.mp (Nat.le_zero.mp hn)
    subst this
    cases h
    cases ps with
    | nil => exact ⟨[], rfl, rfl, Reps.nil, List.nodup_nil⟩
    | cons p ps => exact absurd (show (p.1 :: p.2 :: _) = [] from pv) nofun
  | n + 1, [], ps, ks, xs, hn, pv, h => by
    cases h
    cases ps with
    | nil => exact ⟨[], rfl, rfl, Reps.nil, List.nodup_nil⟩
    | cons p ps => exact absurd (show (p.1 :: p.2 :: _) = [] from pv) nofun
  | n + 1, [_], ps, ks, xs, hn, pv, h => by cases h
  | n + 1, k :: v :: r, ps, ks, xs, hn, pv, h => by
    obtain ⟨⟨ks', xs'⟩, h1, h2⟩ := Option.bind_eq_some_iff.mp (show ((pairsD r).bind fun p => if (asKey k).isSome && !(p.1.contains k) then some (k :: p.1, v :: p.2) else none) = some (ks, xs) from h)
    dsimp only at h2
    split at h2
    · rename_i hb
      cases h2
      rw [Bool.and_eq_true] at hb
      cases ps with
      | nil => obtain ⟨_, _, e, _⟩ := pv; cases e
      | cons p ps =>
        obtain ⟨v1, r1, e1, p1, q1⟩ := pv
        obtain ⟨v2, r2, e2, p2, q2⟩ := q1
        cases e1
        cases e2
        obtain ⟨kvs, a1, a2, a3, a4⟩ := pairsD_ok n r ps ks' xs' (by simp at hn; omega) q2 h1
        obtain ⟨kk, ek⟩ := asKey_inv hb.1
        rw [ek] at p1
        have := rep_key p1
        refine ⟨(kk, p.2) :: kvs, ?_, ?_, Reps.cons p2 a3, ?_⟩
        · rw [List.map_cons, ← a1]
          obtain ⟨x, y⟩ := p
          cases this
          rfl
        · rw [ek, a2]; rfl
        · rw [List.map_cons, List.nodup_cons]
          refine ⟨fun z => ?_, a4⟩
          have hc : ks'.contains k = true := by
            rw [a2, ek, List.contains_iff_mem]
            exact List.mem_map_of_mem (f := keyD) z
          rw [hc] at hb
          simp at hb
    · cases h2
theorem e_dct0 {pos : Pos} : PE X (.Dict [] [] pos) (tE g wx (ev c (.dct []))) := by
  refine PE.mono pe_dnewK fun σ H Q hw => ?_
  obtain ⟨W, ρ, μ, sm, en, hp⟩ := hw
  intro p hn
  obtain ⟨st1, s1⟩ := sm.garb hn (.dK [])
  exact hp W (.ref p) _ st1 s1 ⟨p, [], rfl, .inl ⟨[], rfl, rfl, upd_same⟩, hn, sm.fzN hn, sm.asN hn, Reps.nil⟩
theorem e_dct {pos : Pos} {keys : List (Option Expr)} {values : List Expr} {trs : List (TE × TE)} {ms : List ME} (h : DPairs X g c wx pos keys values trs ms) (h0 : keys ≠ []) (h15 : keys.length ≤ 15) : PE X (.Dict keys values pos) (tE g wx (ev c (.dct ms))) := by
  obtain ⟨a1, a2, a3⟩ := h.all
  refine PE.mono (pe_disp h.pps a1 a2 h0 h15) fun σ H Q hw => ?_
  obtain ⟨W, ρ, μ, sm, en, hp⟩ := hw
  intro p hn
  obtain ⟨st1, s1⟩ := sm.garb hn (.dK [])
  have e : ev c (.dct ms) ρ = (evs c ms ρ >>= fun xs => ofO ((pairsD xs).bind fun p => if p.1.length ≤ 15 then some (.fd p.1 p.2) else none)) := by
    conv => lhs; unfold ev
  rw [e] at hp
  refine pairs_ok h s1 en st1 hp fun W1 ps H1 ds μ1 st2 st02 s2 pv hp1 => ?_
  have hH : H1 p = some (.dK []) := st2.keep _ _ upd_same (sm.asN hn)
  refine ⟨hH, ?_⟩
  cases hpd : pairsD ds with
  | none => rw [hpd] at hp1; exact hp1.elim
  | some kx =>
    obtain ⟨ks, xs⟩ := kx
    rw [hpd] at hp1
    have hp1 : Post g wx W σ H (RepR g H) (ofO (if ks.length ≤ 15 then some (ER.fd ks xs) else none) μ1) Q := hp1
    split at hp1
    · rename_i hl
      obtain ⟨kvs, b1, b2, b3, b4⟩ := pairsD_ok ds.length ds ps ks xs (Nat.le_refl _) pv hpd
      have nF : W1.F p = none := by
        cases e : W1.F p with
        | none => rfl
        | some u =>
          obtain ⟨u', e'⟩ := st2.newF _ _ _ upd_same e
          rw [sm.fzN hn] at e'; cases e'
      have nA : p ∉ W1.as := fun z => sm.asN hn (st2.newc _ _ upd_same z)
      obtain ⟨st3, s3⟩ := s2.lock (a := p) (o' := .dK (mergeK [] kvs)) st02 hn hH (fun _ => nofun) nF nA
      refine ⟨kvs, b1, by rw [b2] at hl; simpa using hl, ?_⟩
      refine hp1 W1 (.ref p) _ st3 s3 ⟨p, kvs.map (·.2), rfl, .inl ⟨kvs.map (·.1), b2, by simp, ?_⟩, hn, nF, nA, b3⟩
      rw [upd_same, merge_nodup kvs [] (fun _ _ _ h => nomatch h) b4, List.nil_append]
      have : (kvs.map (·.1)).zip (kvs.map (·.2)) = kvs := by
        rw [List.zip_map', List.map_id']
      rw [this]
    · exact hp1.elim
end
end RL

set_option Elab.async false
set_option linter.all false
set_option maxRecDepth 100000
set_option autoImplicit false
set_option maxHeartbeats 4000000
namespace RL
open PySem PySem.Spec PyProof.Rows L2
section
variable {X : Cx} {g : G0} {nm : Nm} {c : Cfg} {wx : WX}
theorem permL_map {α β : Type} {R : α → β → Prop} {xs : List α} {ys : List β} (hl : xs.length = ys.length) (h : ∀ (i : Nat) x y, xs[i]? = some x → ys[i]? = some y → R x y) : ∀ {perm : List Nat} {as : List α}, permL xs perm = some as → ∃ bs, permL ys perm = some bs ∧ as.length = bs.length ∧ ∀ (i : Nat) x y, as[i]? = some x → bs[i]? = some y → R x y
  | [], as, e => by cases e; exact ⟨[], rfl, rfl, fun i x y h => by simp at h⟩
  | i :: is, as, e => by
    obtain ⟨d, hd, e⟩ := Option.bind_eq_some_iff.mp e
    obtain ⟨r, hr, e⟩ := Option.bind_eq_some_iff.mp e
    cases e
    obtain ⟨bs, h1, h2, h3⟩ := permL_map hl h hr
    have hlt : i < ys.length := by rw [← hl]; exact (List.getElem?_eq_some_iff.mp hd).1
    refine ⟨ys[i] :: bs, ?_, by simp [h2], fun j x y hx hy => ?_⟩
    · show ((ys[i]?).bind fun d => (permL ys is).bind fun r => some (d :: r)) = _
      rw [List.getElem?_eq_getElem hlt, h1]; rfl
    · cases j with
      | zero => cases hx; cases hy; exact h i _ _ hd (List.getElem?_eq_getElem hlt)
      | succ j => exact h3 j x y hx hy
theorem permL_len {α : Type} {xs : List α} : ∀ {perm : List Nat} {as : List α}, permL xs perm = some as → as.length = perm.length
  | [], as, e => by cases e; rfl
  | i :: is, as, e => by
    obtain ⟨d, hd, e⟩ := Option.bind_eq_some_iff.mp e
    obtain ⟨r, hr, e⟩ := Option.bind_eq_some_iff.mp e
    cases e
    simp [permL_len hr]
theorem permL_reps {W : Wd} {xs : List D} {vs : List V} (r : Reps g W xs vs) : ∀ {perm : List Nat} {ys : List D}, permL xs perm = some ys → ∃ ws, permL vs perm = some ws ∧ Reps g W ys ws
  | [], ys, e => by cases e; exact ⟨[], rfl, Reps.nil⟩
  | i :: is, ys, e => by
    obtain ⟨d, hd, e⟩ := Option.bind_eq_some_iff.mp e
    obtain ⟨q, hq, e⟩ := Option.bind_eq_some_iff.mp e
    cases e
    obtain ⟨ws, h1, h2⟩ := permL_reps r hq
    obtain ⟨v, hv, rv⟩ := r.get hd
    refine ⟨v :: ws, ?_, Reps.cons rv h2⟩
    show ((vs[i]?).bind fun d => (permL vs is).bind fun r => some (d :: r)) = _
    rw [hv, h1]; rfl
theorem permL_vals {vs : List V} {us : List Value} (r : Vals vs us) : ∀ {perm : List Nat} {ws : List V}, permL vs perm = some ws → ∃ zs, permL us perm = some zs ∧ Vals ws zs
  | [], ws, e => by cases e; exact ⟨[], rfl, .nil⟩
  | i :: is, ws, e => by
    obtain ⟨d, hd, e⟩ := Option.bind_eq_some_iff.mp e
    obtain ⟨q, hq, e⟩ := Option.bind_eq_some_iff.mp e
    cases e
    obtain ⟨zs, h1, h2⟩ := permL_vals r hq
    obtain ⟨u, hu, ru⟩ := r.get hd
    refine ⟨u :: zs, ?_, .cons ru h2⟩
    show ((us[i]?).bind fun d => (permL us is).bind fun r => some (d :: r)) = _
    rw [hu, h1]; rfl
inductive KwPK (X : Cx) (g : G0) (c : Cfg) (wx : WX) : List Keyword → List ME → Prop where
  | nil : KwPK X g c wx [] []
  | cons {k : Str} {e : Expr} {p : Pos} {kws : List Keyword} {m : ME} {ms : List ME} (h : PE X e (tE g wx (ev c m))) (n : ∀ m', m ≠ .star m') (t : KwPK X g c wx kws ms) : KwPK X g c wx (⟨some k, e, p⟩ :: kws) (m :: ms)
theorem PK.mono {kws : List Keyword} {t t' : TA} (h : PK X kws t) (m : ∀ σ H Q, t' σ H Q → t σ H Q) : PK X kws t' := ⟨fun p pins s σ H Q I hw => h.run p pins s σ H Q I (m _ _ _ hw)⟩
theorem KwPK.pk : ∀ {kws : List Keyword} {ms : List ME}, KwPK X g c wx kws ms → PK X kws (tAs g wx (evs c ms))
  | _, _, .nil => PK.mono pk_nil fun σ H Q hw => by
    obtain ⟨W, ρ, μ, sm, en, hp⟩ := hw
    exact hp W [] H (.refl W H) sm rfl
  | _, _, .cons (m := m) (ms := ms) h n t => PK.mono (pk_cons (PE.val h) t.pk) fun σ H Q hw => by
    obtain ⟨W, ρ, μ, sm, en, hp⟩ := hw
    rw [evs_cons_eq n] at hp
    refine tV_bind sm en (.refl W H) hp fun W1 x H1 r1 μ1 st1 st01 s1 e1 rep1 hp1 => ?_
    exact tAs_map (f := evs c ms) (k := fun xs => r1.d :: xs) s1 e1 st01 hp1 fun W2 H2 r vs st2 rr q => q _ (Reps.cons (rep1.leW st2.le) rr)
theorem kwNames_cons {k : Str} {e : Expr} {p : Pos} {r : List Keyword} {ks : List Str} (h : kwNames (⟨some k, e, p⟩ :: r) = some ks) : isStar e = false ∧ ∃ ks', kwNames r = some ks' ∧ some (k :: ks') = some ks := by
  have h : (if isStar e then none else (kwNames r).bind fun ks => some (k :: ks)) = some ks := h
  split at h
  · cases h
  · rename_i hs
    obtain ⟨ks', h1, h2⟩ := Option.bind_eq_some_iff.mp h
    exact ⟨by simpa using hs, ks', h1, h2⟩
theorem kw_some : ∀ {kws : List Keyword} {ks : List Str} {pos : Pos}, kwNames kws = some ks → (backToKw pos (keywordEach kws X.env)).all (·.1.isSome) = true ∧ (backToKw pos (keywordEach kws X.env)).filterMap (·.1) = ks ∧ (backToKw pos (keywordEach kws X.env)).any (·.1.isNone) = false ∧ ks.length = kws.length
  | [], ks, pos, h => by cases h; exact ⟨rfl, rfl, rfl, rfl⟩
  | ⟨some k, e, p⟩ :: r, ks, pos, h => by
    obtain ⟨_, ks', h1, h2⟩ := kwNames_cons h
    cases h2
    obtain ⟨a1, a2, a3, a4⟩ := kw_some (pos := pos) h1
    refine ⟨?_, ?_, ?_, by simp [a4]⟩
    · show (true && (backToKw pos (keywordEach r X.env)).all (·.1.isSome)) = true
      rw [a1]; rfl
    · show k :: (backToKw pos (keywordEach r X.env)).filterMap (·.1) = _
      rw [a2]
    · show (false || (backToKw pos (keywordEach r X.env)).any (·.1.isNone)) = false
      rw [a3]; rfl
  | ⟨none, e, p⟩ :: r, ks, pos, h => by cases h
theorem e_callK (hc : Ctx g nm c X wx) {f : Nat} {x : Str} {kws : List Keyword} {ks : List Str} {perm : List Nat} {ms : List ME} {p pos : Pos} (hn : nm.gn x = .fn f) (hkw : nm.kw f ks = some perm) (hg : Gl X x) (hdb : (x == ("__debug__" : Str)) = false) (hks : kwNames kws = some ks) (ha : KwPK X g c wx kws ms) (hml : ms.length = kws.length) :
    PE X (.Call (.Name x p) [] kws pos) (tE g wx (ev c (.callK f perm ms))) := by
  obtain ⟨a, fd, ps, k, F, hm, hk, FG, hr, hb, hcl⟩ := hc.callK x f ks perm hn hkw
  obtain ⟨k1, k2, k3, k4⟩ := kw_some (X := X) (pos := pos) hks
  refine ⟨fun pins s σ H Q I hw => ?_⟩
  refine wpAny_Call_Name_kw (ld_glob I hg hm ?_ hdb)
  refine PySem.W.callWith_KW0 (h₀ := X.base) I.ok.mod.kin hk k1 ?_ (by show (false || _) = false; rw [k3]; rfl)
  obtain ⟨W, ρ, μ, sm, en, hp⟩ := hw
  have e : ev c (.callK f perm ms) ρ = (evs c ms ρ >>= fun xs => ofO (if xs.length = perm.length then permL xs perm else none) >>= fun ys => c.call f ys) := by
    conv => lhs; unfold ev
  rw [e] at hp
  have hw : tAs g wx (evs c ms) σ H (fun vs H1 => ∃ ws, vs.length = ps.length ∧ permL vs perm = some ws ∧ ws.length = ps.length ∧ spD g F ws H1 Q (WE wx σ)) := by
    refine tAs_bind sm en (.refl W H) hp fun W1 vs H1 r1 μ1 st1 st01 s1 e1 rep1 hp1 => ?_
    cases hpm0 : (if r1.length = perm.length then permL r1 perm else none) with
    | none => rw [hpm0] at hp1; exact hp1.elim
    | some ys =>
      rw [hpm0] at hp1
      have hrl : r1.length = perm.length := by
        by_cases h : r1.length = perm.length
        · exact h
        · rw [if_neg h] at hpm0; cases hpm0
      have hpm : permL r1 perm = some ys := by rw [if_pos hrl] at hpm0; exact hpm0
      obtain ⟨ws, h1, h2⟩ := permL_reps rep1 hpm
      have hyl : ys.length = ps.length := by rw [permL_len hpm, hb.len]
      refine ⟨ws, by rw [← rep1.len, hrl, hb.len], h1, by rw [← h2.len, hyl], W1, μ1, ys, s1, h2, ?_⟩
      have hp1 : Post g wx W σ H (RepR g H) (c.call f ys μ1) Q := hp1
      rw [hcl ys hyl] at hp1
      cases hr : F ys μ1 with
      | stuck => rw [hr] at hp1; exact hp1
      | ok r μ' => rw [hr] at hp1; exact fun W' v H' st s' rr => hp1 W' v H' (st01.trans st) s' (RepR.back st01 rr)
      | exc C vs μ' => rw [hr] at hp1; exact fun W' H' dd st s' x => hp1 W' H' dd (st01.trans st) s' x
  refine thn (ha.pk.run pos pins s σ H _ I hw) fun us s1 ⟨vs, H1, I1, rz, ws, hvl, h1, h2, q⟩ => ⟨I1.kIn, ?_⟩
  rw [k2]
  obtain ⟨zs, hz, rv⟩ := permL_vals rz h1
  have hul : us.length = ks.length := by rw [← rz.length, hvl, hb.lenk]
  refine wpAny_call (codeAny_mono (FG.run X.A X.stack s1 H1 ⟨[], ks.zip us⟩ zs ws Q (WE wx σ) hr hc.gd I1.env0 (by rw [← rv.length]; exact h2) (hb.to s1 us zs I1.kIn hz hul) rv q) fun r s' hq => ?_)
  cases r with
  | error e => exact passAt hc.tk σ pins H1 s1 e s' I1 hq
  | ok fl =>
    cases fl with
    | ret u => exact I1.after hq
    | next => exact False.elim hq
    | brk => exact False.elim hq
    | cont => exact False.elim hq
end
end RL

set_option Elab.async false
set_option linter.all false
set_option maxRecDepth 100000
set_option autoImplicit false
set_option maxHeartbeats 1000000
namespace RL
open PySem PySem.Spec PyProof.Rows L2
section
variable {X : Cx} {g : G0} {nm : Nm} {c : Cfg} {wx : WX} {tg : Expr}
theorem star_no {e : Expr} {es : List Expr} {env : Env} (h : isStar e = false) : starEach (e :: es) env = (false, eval e env) :: starEach es env := by
  cases e <;> first | rfl | cases h
theorem stars_no : ∀ {es : List Expr} {env : Env} {pos : Pos}, (es.all fun e => !isStar e) = true → (backTo pos (starEach es env)).any (·.1) = false
  | [], _, _, _ => rfl
  | e :: es, env, pos, h => by
    rw [List.all_cons, Bool.and_eq_true] at h
    rw [star_no (by simpa using h.1)]
    show (false || (backTo pos (starEach es env)).any (·.1)) = false
    rw [stars_no h.2]; rfl
theorem set_no {e : Expr} (h : isSetE e = false) {op : CmpOp} : behindInMarks op e = false := by
  cases e <;> first | rfl | cases h
theorem set_fold {e : Expr} (h : isSetE e = false) {env : Env} : ∀ x, foldedSetIterable e env x = pure x := by
  cases e <;> first | (intro x; rfl) | cases h
theorem slice_no {e : Expr} (h : isSlice e = false) : PlainIx e := by
  intro o i
  cases e <;> first | rfl | cases h
theorem e_bi (hc : Ctx g nm c X wx) {x : Str} {e : Expr} {es : List Expr} {ms : List ME} {b : BI} {n : Nat} {p pos : Pos} (hb : biName x n = some b) (hn : nm.gn x = .none) (hg : Gl X x)
    (he : starEach (e :: es) X.env = (false, eval e X.env) :: starEach es X.env) (hpl : (backTo pos (starEach es X.env)).any (·.1) = false) (ha : PA X (e :: es) (tAs g wx (evs c ms))) :
    PE X (.Call (.Name x p) (e :: es) [] pos) (tE g wx (ev c (.callB b ms))) := by
  have hm := hc.bi x hn
  have hu := hc.room
  unfold biName at hb
  split at hb
  · rename_i e; subst e; cases hb
    exact e_callB (fun t r hr ha => pe_callB hr hg hm (by decide +kernel) ha (by decide +kernel) (by decide +kernel) he hpl) (bLen hc.hK) ha
  split at hb
  · rename_i e; subst e; cases hb
    exact e_callB (fun t r hr ha => pe_callB hr hg hm (by decide +kernel) ha (by decide +kernel) (by decide +kernel) he hpl) (bAll hc.hK hc.calm) ha
  split at hb
  · rename_i e; subst e; cases hb
    exact e_callB (fun t r hr ha => pe_callB hr hg hm (by decide +kernel) ha (by decide +kernel) (by decide +kernel) he hpl) (bAny hc.hK hc.calm) ha
  split at hb
  · rename_i e; subst e; cases hb
    exact e_callB (fun t r hr ha => pe_callB hr hg hm (by decide +kernel) ha (by decide +kernel) (by decide +kernel) he hpl) (bSum hc.hK hc.calm) ha
  split at hb
  · rename_i e; subst e
    split at hb
    · cases hb
      exact e_callB (fun t r hr ha => pe_callB hr hg hm (by decide +kernel) ha (by decide +kernel) (by decide +kernel) he hpl) (bMax1 hc.hK hc.calm) ha
    split at hb
    · cases hb
      exact e_callB (fun t r hr ha => pe_callB hr hg hm (by decide +kernel) ha (by decide +kernel) (by decide +kernel) he hpl) (bMax2 hc.calm) ha
    · cases hb
  split at hb
  · rename_i e; subst e
    split at hb
    · cases hb
      exact e_callB (fun t r hr ha => pe_callB hr hg hm (by decide +kernel) ha (by decide +kernel) (by decide +kernel) he hpl) (bMin1 hc.hK hc.calm) ha
    split at hb
    · cases hb
      exact e_callB (fun t r hr ha => pe_callB hr hg hm (by decide +kernel) ha (by decide +kernel) (by decide +kernel) he hpl) (bMin2 hc.calm) ha
    · cases hb
  split at hb
  · rename_i e; subst e; cases hb
    exact e_callB (fun t r hr ha => pe_callB hr hg hm (by decide +kernel) ha (by decide +kernel) (by decide +kernel) he hpl) bAbs ha
  split at hb
  · rename_i e; subst e; cases hb
    exact e_callB (fun t r hr ha => pe_callTy hr hg hm (by decide +kernel) ha (by decide +kernel) (by decide +kernel) he hpl) bInt ha
  split at hb
  · rename_i e; subst e; cases hb
    exact e_callB (fun t r hr ha => pe_callTy hr hg hm (by decide +kernel) ha (by decide +kernel) (by decide +kernel) he hpl) (bTuple hc.hK) ha
  split at hb
  · rename_i e; subst e; cases hb
    exact e_callB (fun t r hr ha => pe_callTy hr hg hm (by decide +kernel) ha (by decide +kernel) (by decide +kernel) he hpl) (bList hc.hK) ha
  split at hb
  · rename_i e; subst e; cases hb
    exact e_callB (fun t r hr ha => pe_callB hr hg hm (by decide +kernel) ha (by decide +kernel) (by decide +kernel) he hpl) (bSorted hc.hK (by omega)) ha
  split at hb
  · rename_i e; subst e; cases hb
    exact e_callB (fun t r hr ha => pe_callB hr hg hm (by decide +kernel) ha (by decide +kernel) (by decide +kernel) he hpl) (bRepr hc.hK (by omega) hc.gd) ha
  · cases hb
end
end RL

set_option Elab.async false
set_option linter.all false
set_option maxRecDepth 100000
set_option autoImplicit false
set_option maxHeartbeats 4000000
namespace RL
open PySem PySem.Spec PyProof.Rows L2
section
variable {X : Cx} {g : G0} {nm : Nm} {c : Cfg} {wx : WX} {tg : Expr}
def isBoolE : Expr → Bool
  | .BoolOp _ _ _ => true
  | _ => false
/-- what is shown of an expression -/
structure EOk (g : G0) (c : Cfg) (X : Cx) (wx : WX) (e : Expr) (m : ME) : Prop where
  pe : PE X e (tE g wx (ev c m))
  pt : PT X e (tT g wx (evB c m))
  pw : isBoolE e = true → PW X e (tT g wx (evB c m))
theorem EOk.of2 {e : Expr} {m : ME} (h : PE X e (tE g wx (ev c m)) ∧ PT X e (tT g wx (evB c m))) (hb : isBoolE e = false) : EOk g c X wx e m := ⟨h.1, h.2, fun z => by rw [hb] at z; cases z⟩
theorem EOk.of1 (hK : X.K = g.K) {e : Expr} {m : ME} (h : PE X e (tE g wx (ev c m))) (hb : isBoolE e = false) (he : ∀ whole, isTrue e X.env whole = (do let v ← whole; standAt e.pos; holding [v] (truthy v))) : EOk g c X wx e m :=
  ⟨h, pt_of_pe hK h he, fun z => by rw [hb] at z; cases z⟩
theorem noStar_ne {m : ME} (h : noStar m = true) : ∀ m', m ≠ .star m' := fun m' z => by subst z; cases h
variable {N : List Str}
def EOkAll (g : G0) (nm : Nm) (c : Cfg) (N : List Str) (n : Nat) : Prop := ∀ (X : Cx) (wx : WX) (sc : Scope) (e : Expr) (m : ME), Ctx g nm c X wx → X.N = N → X.env.scope = sc → er nm N n sc e = some m → EOk g c X wx e m
def AOkAll (g : G0) (nm : Nm) (c : Cfg) (N : List Str) (n : Nat) : Prop := ∀ (X : Cx) (wx : WX) (sc : Scope) (es : List Expr) (ms : List ME), Ctx g nm c X wx → X.N = N → X.env.scope = sc → ers nm N n sc es = some ms → PA X es (tAs g wx (evs c ms)) ∧ (es = [] → ms = [])
def OOkAll (g : G0) (nm : Nm) (c : Cfg) (N : List Str) (n : Nat) : Prop := ∀ (X : Cx) (wx : WX) (sc : Scope) (e : Option Expr) (m : ME), Ctx g nm c X wx → X.N = N → X.env.scope = sc → erO nm N n sc e = some m → PO X e (tP g wx (evp c m))
def IOkAll (g : G0) (nm : Nm) (c : Cfg) (N : List Str) (n : Nat) : Prop := ∀ (X : Cx) (wx : WX) (sc : Scope) (e tg : Expr) (m : ME), Ctx g nm c X wx → X.N = N → X.env.scope = sc → erI nm N n sc e = some m → itOk m tg = true → PI X tg e (tI g wx (evI c m))
def DOkAll (g : G0) (nm : Nm) (c : Cfg) (N : List Str) (n : Nat) : Prop := ∀ (X : Cx) (wx : WX) (sc : Scope) (ks : List (Option Expr)) (vs : List Expr) (ms : List ME) (pos : Pos), Ctx g nm c X wx → X.N = N → X.env.scope = sc → erD nm N n sc ks vs = some ms → ∃ trs, DPairs X g c wx pos ks vs trs ms
def WOkAll (g : G0) (nm : Nm) (c : Cfg) (N : List Str) (n : Nat) : Prop := ∀ (X : Cx) (wx : WX) (sc : Scope) (kws : List Keyword) (ms : List ME), Ctx g nm c X wx → X.N = N → X.env.scope = sc → ∀ {ks : List Str}, kwNames kws = some ks → ers nm N n sc (kws.map kwVal) = some ms → KwPK X g c wx kws ms
theorem gl_of {x : Str} (h : (X.env.scope.names.lookup x == some .globalImplicit) = true) : Gl X x := by
  show X.env.scope.names.lookup x = _
  exact eq_of_beq h
theorem e_name (hc : Ctx g nm c X wx) (hN : X.N = N) {x : Str} {pos : Pos} {m : ME} (h : erName nm N X.env.scope x = some m) : PE X (.Name x pos) (tE g wx (ev c m)) := by
  unfold erName at h
  split at h
  · cases h
  · rename_i hx
    have h1 : (x == ("__debug__" : Str)) = false := by
      rw [beq_eq_false_iff_ne]; exact fun z => hx (.inl z)
    have h2 : (x == ("__classdict__" : Str)) = false := by
      rw [beq_eq_false_iff_ne]; exact fun z => hx (.inr z)
    have var : (Vis X.env.scope x) → (N.idxOf? x).map ME.v = some m → PE X (.Name x pos) (tE g wx (ev c m)) := fun hv h => by
      obtain ⟨i, hi, e⟩ := Option.map_eq_some_iff.mp h
      subst e
      have hi : X.N[i]? = some x := by
        rw [hN]
        obtain ⟨hl, hp, _⟩ := List.idxOf?_eq_some_iff.mp hi
        rw [List.getElem?_eq_getElem hl, hp]
      exact e_var (pe_var hi hv h1 h2)
    split at h
    · rename_i hk; exact var (.inl hk) h
    · rename_i hk; exact var (.inr (.inl hk)) h
    · rename_i hk; exact var (.inr (.inr hk)) h
    · rename_i hk
      split at h
      · rename_i d hd
        cases h
        obtain ⟨u, v, hm, rv, rd⟩ := hc.cst x d hd
        exact e_k (pe_glob hk hm rv h1) rd
      · cases h
    · cases h
theorem relS_lookup {scope sc : Scope} {x : Str} {k : NameKind} (h : scope.names.lookup x = some k) (hk : k ≠ .free) : (relS scope sc).names.lookup x = some k := by
  have : ∀ l : List (Str × NameKind), l.lookup x = some k → (l.map fun (n, k) => if (k == .free && sc.kind == .function && sc.names.lookup n == some .cell) then (n, NameKind.cell) else (n, k)).lookup x = some k := by
    intro l
    induction l with
    | nil => intro h; cases h
    | cons y r ih =>
      obtain ⟨n, k'⟩ := y
      intro h
      rw [List.map_cons]
      by_cases hx : x = n
      · subst hx
        rw [List.lookup_cons_self] at h
        cases h
        have : (k == NameKind.free) = false := by
          rw [beq_eq_false_iff_ne]; exact hk
        simp only [this, Bool.false_and, Bool.false_eq_true, if_false]
        rw [List.lookup_cons_self]
      · have hb : (x == n) = false := by rw [beq_eq_false_iff_ne]; exact hx
        rw [List.lookup_cons, hb] at h
        have : ∀ p : Str × NameKind, p.1 = n → List.lookup x (p :: r.map fun (n, k) => if (k == .free && sc.kind == .function && sc.names.lookup n == some .cell) then (n, NameKind.cell) else (n, k)) = List.lookup x (r.map fun (n, k) => if (k == .free && sc.kind == .function && sc.names.lookup n == some .cell) then (n, NameKind.cell) else (n, k)) := fun p hp => by
          obtain ⟨p1, p2⟩ := p
          subst hp
          rw [List.lookup_cons, hb]
        dsimp only
        rw [this _ (by split <;> rfl)]
        exact ih h
  exact this scope.names h
theorem erT1_ok {sc : Scope} {e : Expr} {q : Str × Nat} (h : erT1 N sc e = some q) : ∃ p, e = .Name q.1 p ∧ N[q.2]? = some q.1 ∧ Loc sc q.1 := by
  unfold erT1 at h
  split at h
  · rename_i x p
    have fin : Loc sc x → ((N.idxOf? x).map fun i => (x, i)) = some q → ∃ p', Expr.Name x p = .Name q.1 p' ∧ N[q.2]? = some q.1 ∧ Loc sc q.1 := fun hl h => by
      obtain ⟨i, hi, e⟩ := Option.map_eq_some_iff.mp h
      subst e
      refine ⟨p, rfl, ?_, hl⟩
      obtain ⟨hl, hp, _⟩ := List.idxOf?_eq_some_iff.mp hi
      show N[i]? = some x
      rw [List.getElem?_eq_getElem hl, hp]
    split at h
    · rename_i hk; exact fin (.inl hk) h
    · rename_i hk; exact fin (.inr hk) h
    · cases h
  · cases h
theorem erTs_ok {sc : Scope} : ∀ {es : List Expr} {qs : List (Str × Nat)}, erTs N sc es = some qs → es.length = qs.length ∧ ∀ (k : Nat) (e : Expr) (q : Str × Nat), es[k]? = some e → qs[k]? = some q → ∃ p, e = .Name q.1 p ∧ N[q.2]? = some q.1 ∧ Loc sc q.1
  | [], qs, h => by cases h; exact ⟨rfl, fun k e q h => by simp at h⟩
  | e :: es, qs, h => by
    unfold erTs at h
    obtain ⟨q, hq, h⟩ := Option.bind_eq_some_iff.mp h
    obtain ⟨qs', hqs, h⟩ := Option.bind_eq_some_iff.mp h
    cases h
    obtain ⟨hl, ih⟩ := erTs_ok hqs
    refine ⟨by simp [hl], fun k e' q' he hq' => ?_⟩
    cases k with
    | zero =>
      cases he
      cases hq'
      exact erT1_ok hq
    | succ k => exact ih k e' q' he hq'
theorem erTg_own {sc : Scope} {tg : Expr} {t : MT} {qs : List (Str × Nat)} (h : erTg N sc tg = some (t, qs)) : ownT t = qs.map (·.2) := by
  unfold erTg at h
  split at h
  · obtain ⟨q, hq, e⟩ := Option.map_eq_some_iff.mp h
    cases e; rfl
  · obtain ⟨q, hq, e⟩ := Option.map_eq_some_iff.mp h
    cases e; rfl
  · cases h
/-- a target of the text -/
theorem erTg_ok {sc : Scope} {tg : Expr} {t : MT} {qs : List (Str × Nat)} (h : erTg N sc tg = some (t, qs)) (hN : X.N = N) (hnd : X.N.Nodup) (hc : X.calm = true) (hsc : X.env.scope = sc) (hf : ∀ q ∈ qs, X.fn q.1 = true ∨ X.env.scope.names.lookup q.1 = some .local) :
    PG X tg (tgG X.K t) ∧ ownT t = qs.map (·.2) := by
  unfold erTg at h
  split at h
  · rename_i x p
    obtain ⟨q, hq, e⟩ := Option.map_eq_some_iff.mp h
    cases e
    obtain ⟨p', e, h1, h2⟩ := erT1_ok hq
    cases e
    refine ⟨pg_ok1 (p := p) ⟨rfl, fun k e q' he hq' => ?_⟩ hnd, rfl⟩
    cases k with
    | zero =>
      cases he
      cases hq'
      exact ⟨p, rfl, hN ▸ h1, hsc ▸ h2, hf _ (by simp)⟩
    | succ k => simp at he
  · rename_i es kk p
    obtain ⟨qs', hq, e⟩ := Option.map_eq_some_iff.mp h
    cases e
    obtain ⟨hl, h1⟩ := erTs_ok hq
    refine ⟨pg_okT hc ⟨hl, fun k e q' he hq' => ?_⟩ hnd, rfl⟩
    obtain ⟨p', ee, h2, h3⟩ := h1 k e q' he hq'
    exact ⟨p', ee, hN ▸ h2, hsc ▸ h3, hf q' (List.mem_of_getElem? hq')⟩
  · cases h
structure LcParts (g : G0) (c : Cfg) (X : Cx) (wx : WX) (elt tg iter : Expr) (ifs : List Expr) (scope : Scope) (elt' : ME) (t : MT) (it : ME) (ifs' : List ME) (own : List (Str × Nat)) : Prop where
  hi : PI X tg iter (tI g wx (evI c it))
  ok : BlkOk X.N X.env.scope scope own
  hg : ∀ (s : Shared) (H : Hp) (C : Addr) (cl : List (Str × Addr)) (fp : List Addr), PG (X.blk s H scope (compEnvC scope cl C X.env) fp) tg (tgG g.K t)
  ht : ∀ (s : Shared) (H : Hp) (C : Addr) (cl : List (Str × Addr)) (fp : List Addr), PTs (X.blk s H scope (compEnvC scope cl C X.env) fp) ifs (tT g wx0 (evT c ifs'))
  he : ∀ (s : Shared) (H : Hp) (C : Addr) (cl : List (Str × Addr)) (fp : List Addr), PE (X.blk s H scope (compEnvC scope cl C X.env) fp) elt (tV g wx0 (ev c elt'))
  hs : ∀ x, foldedSetIterable iter X.env x = pure x
  own_ : ownT t = own.map (·.2)
theorem lc_parts (n : Nat) (hE : EOkAll g nm c N n) (hI : IOkAll g nm c N n) {elt tg iter : Expr} {ifs : List Expr} {scope : Scope} {m : ME} (hc : Ctx g nm c X wx) (hN : X.N = N) (hsc : X.env.scope = X.env.scope)
    (h : (if decide (ifs.length ≤ 1) && !isSetE iter then
      (erI nm N n X.env.scope iter).bind fun it => (erTg N (relS scope X.env.scope) tg).bind fun tg' =>
        if blkC N X.env.scope scope tg'.2 && tg'.2.all (fun q => ownIn scope q.1) && itOk it tg then
          (match ifs with | [] => some [] | [t] => (er nm N n (relS scope X.env.scope) t).bind fun t' => some [t'] | _ => none).bind fun ifs' => (er nm N n (relS scope X.env.scope) elt).bind fun elt' => some (.lc elt' tg'.1 it ifs')
        else none
      else none) = some m) : ∃ elt' t it ifs' own, m = .lc elt' t it ifs' ∧ LcParts g c X wx elt tg iter ifs scope elt' t it ifs' own := by
  have hK := hc.hK
  split at h
  · rename_i hg0
    rw [Bool.and_eq_true] at hg0
    obtain ⟨it, hit, h⟩ := Option.bind_eq_some_iff.mp h
    obtain ⟨tq, htg, h⟩ := Option.bind_eq_some_iff.mp h
    obtain ⟨t, qs⟩ := tq
    split at h
    · rename_i hb
      simp only [Bool.and_eq_true] at hb
      obtain ⟨⟨hb, hown⟩, hok⟩ := hb
      obtain ⟨ifs', hifs, h⟩ := Option.bind_eq_some_iff.mp h
      obtain ⟨elt', helt, h⟩ := Option.bind_eq_some_iff.mp h
      cases h
      have own_ok : ∀ (Y : Cx), Y.fn = (fun x => scope.names.lookup x == some .cell) → Y.env.scope = relS scope X.env.scope → ∀ q ∈ qs, Y.fn q.1 = true ∨ Y.env.scope.names.lookup q.1 = some .local := fun Y hfn hsc q hq => by
        have := List.all_eq_true.mp hown q hq
        unfold ownIn at this
        split at this
        · rename_i hk
          right
          rw [hsc]
          exact relS_lookup hk nofun
        · rename_i hk
          left
          rw [hfn]
          show (scope.names.lookup q.1 == some .cell) = true
          rw [hk]; rfl
        · cases this
      have B : ∀ (s : Shared) (H : Hp) (C : Addr) (cl : List (Str × Addr)) (fp : List Addr), Ctx g nm c (X.blk s H scope (compEnvC scope cl C X.env) fp) wx0 := fun s H C cl fp => hc.blk
      have hown2 := erTg_own htg
      have hgt : ∀ (s : Shared) (H : Hp) (C : Addr) (cl : List (Str × Addr)) (fp : List Addr), PG (X.blk s H scope (compEnvC scope cl C X.env) fp) tg (tgG g.K t) := fun s H C cl fp => by
        have := (erTg_ok (X := X.blk s H scope (compEnvC scope cl C X.env) fp) htg hN hc.nd hc.calm rfl (own_ok _ rfl rfl)).1
        rw [← hK]; exact this
      have htt : ∀ (s : Shared) (H : Hp) (C : Addr) (cl : List (Str × Addr)) (fp : List Addr), PTs (X.blk s H scope (compEnvC scope cl C X.env) fp) ifs (tT g wx0 (evT c ifs')) := fun s H C cl fp => by
        split at hifs
        · cases hifs; exact t_nil
        · rename_i t0
          obtain ⟨t', ht, hifs⟩ := Option.bind_eq_some_iff.mp hifs
          cases hifs
          exact t_one (hE _ wx0 _ _ _ (B s H C cl fp) hN rfl ht).pt
        · cases hifs
      exact ⟨elt', t, it, ifs', qs, rfl, hI X wx _ _ tg _ hc hN rfl hit hok, hN ▸ blkOk_by hb, hgt, htt, fun s H C cl fp => PE.val (hE _ wx0 _ _ _ (B s H C cl fp) hN rfl helt).pe, set_fold (by simpa using hg0.2), hown2⟩
    · cases h
  · cases h
theorem super_no {o : Expr} (h : noSuper o = true) (f : Str) : attributeBase o f X.env (eval o X.env) = eval o X.env := by
  unfold attributeBase
  split
  · cases h
  · rfl
theorem few_ok {e : Expr} {es : List Expr} {env : Env} {cpos : Pos} (h : ((e :: es).all fun e => !isStar e) = true) (hl : es.length ≤ 3) : ((backTo cpos (starEach (e :: es) env)).all (fun x => !x.1) && (backToKw cpos (keywordEach [] env)).all (fun x => x.1.isSome)
      && decide ((e :: es).length + ([] : List Keyword).length + (if ([] : List Keyword).isEmpty then 0 else 1) < 30)) = true := by
  have h1 := stars_no (env := env) (pos := cpos) h
  have h2 : (backTo cpos (starEach (e :: es) env)).all (fun x => !x.1) = true := by
    rw [List.all_eq_true]
    intro x hx
    rw [List.any_eq_false] at h1
    have := h1 x hx
    simpa using this
  rw [h2]
  have h3 : (e :: es).length < 30 := by simp; omega
  simp only [Bool.true_and, Bool.and_eq_true, decide_eq_true_eq]
  exact ⟨rfl, by simpa using h3⟩
theorem er_step (n : Nat) (hE : EOkAll g nm c N n) (hA : AOkAll g nm c N n) (hO : OOkAll g nm c N n) (hI : IOkAll g nm c N n) (hD : DOkAll g nm c N n) (hW : WOkAll g nm c N n) : EOkAll g nm c N (n + 1) := by
  intro X wx sc e m hc hN hsc h
  have hu := hc.room
  have hK := hc.hK
  subst hsc
  unfold er at h
  split at h
  · cases h; exact EOk.of1 hK (e_k pe_non fun _ => rfl) rfl fun _ => rfl
  · cases h; exact EOk.of1 hK (e_k pe_bl fun _ => rfl) rfl fun _ => rfl
  · cases h; exact EOk.of1 hK (e_k pe_int fun _ => rfl) rfl fun _ => rfl
  · cases h; exact EOk.of1 hK (e_k pe_str fun _ => rfl) rfl fun _ => rfl
  · exact EOk.of1 hK (e_name hc hN h) rfl fun _ => rfl
  · obtain ⟨a', ha, h⟩ := Option.bind_eq_some_iff.mp h
    obtain ⟨b', hb, h⟩ := Option.bind_eq_some_iff.mp h
    cases h
    exact EOk.of1 hK (e_bin hK (hE X wx _ _ _ hc hN rfl ha).pe (hE X wx _ _ _ hc hN rfl hb).pe) rfl fun _ => rfl
  · obtain ⟨a', ha, h⟩ := Option.bind_eq_some_iff.mp h
    cases h
    have A := hE X wx _ _ _ hc hN rfl ha
    exact EOk.of2 (e_not hK A.pe A.pt) rfl
  · obtain ⟨a', ha, h⟩ := Option.bind_eq_some_iff.mp h
    cases h
    exact EOk.of1 hK (e_neg (hE X wx _ _ _ hc hN rfl ha).pe) rfl fun _ => rfl
  · rename_i op a p
    have A := hE X wx _ _ _ hc hN rfl h
    have W : PW X (.BoolOp op [a] p) (tT g wx (evB c m)) := by
      cases op with
      | And => exact pw_and1 A.pt
      | Or => exact pw_or1 A.pt
    exact ⟨pe_one A.pe, W.pt, fun _ => W⟩
  · obtain ⟨a', ha, h⟩ := Option.bind_eq_some_iff.mp h
    obtain ⟨b', hb, h⟩ := Option.bind_eq_some_iff.mp h
    cases h
    have A := hE X wx _ _ _ hc hN rfl ha
    have B := hE X wx _ _ _ hc hN rfl hb
    have R := e_and hK A.pe B.pe A.pt (B.pw rfl)
    exact ⟨R.1, R.2.pt, fun _ => R.2⟩
  · obtain ⟨a', ha, h⟩ := Option.bind_eq_some_iff.mp h
    obtain ⟨b', hb, h⟩ := Option.bind_eq_some_iff.mp h
    cases h
    have A := hE X wx _ _ _ hc hN rfl ha
    have B := hE X wx _ _ _ hc hN rfl hb
    have R := e_or hK A.pe B.pe A.pt (B.pw rfl)
    exact ⟨R.1, R.2.pt, fun _ => R.2⟩
  · split at h
    · cases h
    rename_i hs
    obtain ⟨a', ha, h⟩ := Option.bind_eq_some_iff.mp h
    obtain ⟨b', hb, h⟩ := Option.bind_eq_some_iff.mp h
    cases h
    exact EOk.of2 (e_cmp hK (by omega) (set_no (by simpa using hs)) (hE X wx _ _ _ hc hN rfl ha).pe (hE X wx _ _ _ hc hN rfl hb).pe) rfl
  · split at h
    · cases h
    rename_i hs
    obtain ⟨a', ha, h⟩ := Option.bind_eq_some_iff.mp h
    obtain ⟨b', hb, h⟩ := Option.bind_eq_some_iff.mp h
    obtain ⟨d', hd, h⟩ := Option.bind_eq_some_iff.mp h
    cases h
    rw [Bool.or_eq_true, not_or] at hs
    exact EOk.of2 (e_chain hK (by omega) (by show behindInMarks _ _ = false; exact set_no (by simpa using hs.2)) (hE X wx _ _ _ hc hN rfl ha).pe (hE X wx _ _ _ hc hN rfl hb).pe (hE X wx _ _ _ hc hN rfl hd).pe) rfl
  · obtain ⟨t', ht, h⟩ := Option.bind_eq_some_iff.mp h
    obtain ⟨a', ha, h⟩ := Option.bind_eq_some_iff.mp h
    obtain ⟨b', hb, h⟩ := Option.bind_eq_some_iff.mp h
    cases h
    have T := hE X wx _ _ _ hc hN rfl ht
    have A := hE X wx _ _ _ hc hN rfl ha
    have B := hE X wx _ _ _ hc hN rfl hb
    exact EOk.of2 (e_ite T.pt A.pe B.pe A.pt B.pt) rfl
  · obtain ⟨es', he, h⟩ := Option.bind_eq_some_iff.mp h
    cases h
    exact EOk.of1 hK (e_tup (hA X wx _ _ _ hc hN rfl he).1) rfl fun _ => rfl
  · obtain ⟨es', he, h⟩ := Option.bind_eq_some_iff.mp h
    cases h
    exact EOk.of1 hK (e_lst (hA X wx _ _ _ hc hN rfl he).1) rfl fun _ => rfl
  · obtain ⟨a', ha, h⟩ := Option.bind_eq_some_iff.mp h
    obtain ⟨l', hl, h⟩ := Option.bind_eq_some_iff.mp h
    obtain ⟨u', hh, h⟩ := Option.bind_eq_some_iff.mp h
    cases h
    exact EOk.of1 hK (e_slice hK (hE X wx _ _ _ hc hN rfl ha).pe (hO X wx _ _ _ hc hN rfl hl) (hO X wx _ _ _ hc hN rfl hh)) rfl fun _ => rfl
  · split at h
    · cases h
    rename_i hs
    obtain ⟨a', ha, h⟩ := Option.bind_eq_some_iff.mp h
    obtain ⟨i', hi, h⟩ := Option.bind_eq_some_iff.mp h
    cases h
    exact EOk.of1 hK (e_sub hK hu (slice_no (by simpa using hs)) (hE X wx _ _ _ hc hN rfl ha).pe (hE X wx _ _ _ hc hN rfl hi).pe) rfl fun _ => rfl
  · -- a dict display
    rename_i keys values pos
    obtain ⟨ms, hm, h⟩ := Option.bind_eq_some_iff.mp h
    split at h
    · rename_i hl
      cases h
      obtain ⟨trs, hd⟩ := hD X wx _ _ _ _ pos hc hN rfl hm
      cases keys with
      | nil =>
        cases hd
        exact EOk.of1 hK e_dct0 rfl fun _ => rfl
      | cons k ks => exact EOk.of1 hK (e_dct hd nofun hl) rfl fun _ => rfl
    · cases h
  · -- a method of a built-in type
    split at h
    · rename_i o m apos e es cpos hb
      simp only [Bool.and_eq_true, decide_eq_true_eq] at hb
      obtain ⟨⟨⟨h1, h2⟩, h3⟩, h4⟩ := hb
      obtain ⟨o', ho, h⟩ := Option.bind_eq_some_iff.mp h
      obtain ⟨es', he, h⟩ := Option.bind_eq_some_iff.mp h
      obtain ⟨b, hbm, h⟩ := Option.bind_eq_some_iff.mp h
      cases h
      have O := (hE X wx _ _ _ hc hN rfl ho).pe
      have A := (hA X wx _ _ _ hc hN rfl he).1
      have h3' := h3
      rw [List.all_cons, Bool.and_eq_true] at h3'
      have hs : starEach (e :: es) X.env = (false, eval e X.env) :: starEach es X.env := star_no (by simpa using h3'.1)
      refine EOk.of1 hK ?_ rfl fun _ => rfl
      unfold bmName at hbm
      split at hbm
      · rename_i em; subst em
        split at hbm
        · cases hbm
          exact e_bm PySem.F.plainAttrs_list PySem.F.slot_list_append PySem.F.type_list_append mt_append (fun W μ H d x s r e => list_ty hK s r e) bm_append (super_no h1 _) (few_ok h3 h4) h2 hs (stars_no h3'.2) O A
        · cases hbm
      split at hbm
      · rename_i em; subst em
        split at hbm
        · cases hbm
          refine e_bm PySem.F.plainAttrs_str PySem.F.slot_str_join PySem.F.type_str_join mt_join (fun W μ H d x s r e => ?_) (bm_join hK) (super_no h1 _) (few_ok h3 h4) h2 hs (stars_no h3'.2) O A
          cases d with
          | str z => cases r; rfl
          | _ => cases e
        · cases hbm
      split at hbm
      · rename_i em; subst em
        split at hbm
        · cases hbm
          exact e_bm PySem.F.plainAttrs_list PySem.F.slot_list_pop PySem.F.type_list_pop mt_popAt (fun W μ H d x s r e => list_ty hK s r e) bm_popAt (super_no h1 _) (few_ok h3 h4) h2 hs (stars_no h3'.2) O A
        · cases hbm
      · cases hbm
    · cases h
  · -- a call by names
    split at h
    · rename_i x p kw kws pos hg
      simp only [Bool.and_eq_true, bne_iff_ne, ne_eq] at hg
      obtain ⟨hg, hd⟩ := hg
      have hg := gl_of (X := X) hg
      have hd : (x == ("__debug__" : Str)) = false := by rw [beq_eq_false_iff_ne]; exact hd
      split at h
      · rename_i f hf
        obtain ⟨ks, hks, h⟩ := Option.bind_eq_some_iff.mp h
        obtain ⟨perm, hp, h⟩ := Option.bind_eq_some_iff.mp h
        obtain ⟨es', he, h⟩ := Option.bind_eq_some_iff.mp h
        split at h
        · rename_i hl
          cases h
          exact EOk.of1 hK (e_callK hc hf hp hg hd hks (hW X wx _ _ _ hc hN rfl hks he) hl) rfl fun _ => rfl
        · cases h
      · cases h
    · cases h
  · cases h
  · split at h
    · rename_i x p es pos hg
      simp only [Bool.and_eq_true, bne_iff_ne, ne_eq] at hg
      obtain ⟨⟨⟨hg, hd⟩, hn⟩, hst⟩ := hg
      have hg := gl_of (X := X) hg
      have hd : (x == ("__debug__" : Str)) = false := by rw [beq_eq_false_iff_ne]; exact hd
      split at h
      · rename_i f hf
        obtain ⟨es', he, h⟩ := Option.bind_eq_some_iff.mp h
        cases h
        have A := hA X wx _ _ _ hc hN rfl he
        exact EOk.of1 hK (e_callF hc hf hg hd (fun e r er => by
          subst er
          rw [List.all_cons, Bool.and_eq_true] at hst
          exact star_no (by simpa using hst.1)) (fun e r er => by
          subst er
          rw [List.all_cons, Bool.and_eq_true] at hst
          exact stars_no hst.2) A.2 A.1) rfl fun _ => rfl
      · cases h
      · cases h
      · cases h
      · rename_i hnone
        split at h
        · rename_i a t
          split at h
          · rename_i ex
            subst ex
            split at h
            · cases h
            rename_i hst2
            obtain ⟨a', ha, h⟩ := Option.bind_eq_some_iff.mp h
            split at h
            · rename_i y p2
              obtain ⟨ty, hty, h⟩ := Option.bind_eq_some_iff.mp h
              cases h
              obtain ⟨t1, t2, t3, t4⟩ := tyOfB_ok hty
              subst t1
              exact EOk.of1 hK (e_isi1 hK t2 hg (hc.bi _ hnone) t3 (hc.bi _ t4) (by simpa using hst2) (hE X wx _ _ _ hc hN rfl ha).pe) rfl fun _ => rfl
            · cases h
          obtain ⟨b, hb, h⟩ := Option.bind_eq_some_iff.mp h
          obtain ⟨es', he, h⟩ := Option.bind_eq_some_iff.mp h
          cases h
          have A := hA X wx _ _ _ hc hN rfl he
          rw [List.all_cons, Bool.and_eq_true] at hst
          exact EOk.of1 hK (e_bi hc hb hnone hg (star_no (by simpa using hst.1)) (stars_no hst.2) A.1) rfl fun _ => rfl
        · rename_i a
          obtain ⟨b, hb, h⟩ := Option.bind_eq_some_iff.mp h
          obtain ⟨es', he, h⟩ := Option.bind_eq_some_iff.mp h
          cases h
          have A := hA X wx _ _ _ hc hN rfl he
          rw [List.all_cons, Bool.and_eq_true] at hst
          exact EOk.of1 hK (e_bi hc hb hnone hg (star_no (by simpa using hst.1)) (stars_no hst.2) A.1) rfl fun _ => rfl
        · cases h
    · cases h
  · rename_i elt tg iter ifs scope pos
    obtain ⟨elt', t, it, ifs', own, em, P⟩ := lc_parts n hE hI hc hN rfl h
    subst em
    refine EOk.of1 hK (PE.mono (pe_lc hc.calm hc.nd P.hi P.ok P.hg P.ht P.he P.hs) fun σ H Q hw => ?_) rfl fun _ => rfl
    have := tLc_ok hw
    rw [P.own_] at this
    exact this
  · cases h
end
end RL

set_option Elab.async false
set_option linter.all false
set_option maxRecDepth 100000
set_option autoImplicit false
set_option maxHeartbeats 4000000
namespace RL
open PySem PySem.Spec PyProof.Rows L2
section
variable {X : Cx} {g : G0} {nm : Nm} {c : Cfg} {wx : WX} {tg : Expr} {N : List Str}
theorem ers_step (n : Nat) (hE : EOkAll g nm c N n) (hA : AOkAll g nm c N n) : AOkAll g nm c N (n + 1) := by
  intro X wx sc es ms hc hN hsc h
  subst hsc
  unfold ers at h
  split at h
  · cases h; exact ⟨a_nil, fun _ => rfl⟩
  · obtain ⟨e', he, h⟩ := Option.bind_eq_some_iff.mp h
    obtain ⟨r', hr, h⟩ := Option.bind_eq_some_iff.mp h
    cases h
    exact ⟨a_star hc.hK (hE X wx _ _ _ hc hN rfl he).pe (hA X wx _ _ _ hc hN rfl hr).1 rfl, nofun⟩
  · obtain ⟨e', he, h⟩ := Option.bind_eq_some_iff.mp h
    obtain ⟨r', hr, h⟩ := Option.bind_eq_some_iff.mp h
    split at h
    · rename_i hb
      rw [Bool.and_eq_true] at hb
      cases h
      exact ⟨a_cons (noStar_ne hb.1) (hE X wx _ _ _ hc hN rfl he).pe (hA X wx _ _ _ hc hN rfl hr).1 (star_no (by simpa using hb.2)), nofun⟩
    · cases h
theorem erD_step (n : Nat) (hE : EOkAll g nm c N n) (hD : DOkAll g nm c N n) : DOkAll g nm c N (n + 1) := by
  intro X wx sc ks vs ms pos hc hN hsc h
  subst hsc
  unfold erD at h
  split at h
  · cases h; exact ⟨[], .nil⟩
  · obtain ⟨k', hk, h⟩ := Option.bind_eq_some_iff.mp h
    obtain ⟨v', hv, h⟩ := Option.bind_eq_some_iff.mp h
    obtain ⟨r', hr, h⟩ := Option.bind_eq_some_iff.mp h
    split at h
    · rename_i hb
      rw [Bool.and_eq_true] at hb
      cases h
      obtain ⟨trs, t⟩ := hD X wx _ _ _ _ pos hc hN rfl hr
      exact ⟨_, .cons (hE X wx _ _ _ hc hN rfl hk).pe (hE X wx _ _ _ hc hN rfl hv).pe (noStar_ne hb.1) (noStar_ne hb.2) t⟩
    · cases h
  · cases h
theorem erW_step (n : Nat) (hE : EOkAll g nm c N n) (hW : WOkAll g nm c N n) : WOkAll g nm c N (n + 1) := by
  intro X wx sc kws ms hc hN hsc ks hks h
  subst hsc
  cases kws with
  | nil => unfold ers at h; cases h; exact .nil
  | cons kw r =>
    obtain ⟨ko, e, p⟩ := kw
    cases ko with
    | none => cases hks
    | some kn =>
      obtain ⟨hns, ks', h1, h2⟩ := kwNames_cons hks
      have h : ers nm N (n + 1) X.env.scope (e :: r.map kwVal) = some ms := h
      unfold ers at h
      split at h
      · rename_i heq; cases heq
      · rename_i e0 p0 r0 heq
        injection heq with q1 q2
        subst q1 q2
        cases hns
      · rename_i heq
        injection heq with q1 q2
        subst q1 q2
        obtain ⟨e', h3, h⟩ := Option.bind_eq_some_iff.mp h
        obtain ⟨r', h4, h⟩ := Option.bind_eq_some_iff.mp h
        split at h
        · rename_i hb
          rw [Bool.and_eq_true] at hb
          cases h
          exact .cons (hE X wx _ _ _ hc hN rfl h3).pe (noStar_ne hb.1) (hW X wx _ _ _ hc hN rfl h1 h4)
        · cases h
theorem erO_step (n : Nat) (hE : EOkAll g nm c N n) : OOkAll g nm c N (n + 1) := by
  intro X wx sc e m hc hN hsc h
  subst hsc
  unfold erO at h
  split at h
  · cases h; exact o_none
  · obtain ⟨e', he, h⟩ := Option.bind_eq_some_iff.mp h
    cases h
    exact o_some (hE X wx _ _ _ hc hN rfl he).pe
theorem erI_step (n : Nat) (hE : EOkAll g nm c N n) : IOkAll g nm c N (n + 1) := by
  intro X wx sc e tg m hc hN hsc h hok
  subst hsc
  have gen : ∀ (e : Expr), ((er nm N n X.env.scope e).bind fun e' => some (.iter e')) = some m → PI X tg e (tI g wx (evI c m)) := fun e h => by
    obtain ⟨e', he, h⟩ := Option.bind_eq_some_iff.mp h
    cases h
    exact i_iter hc.hK (hE X wx _ _ _ hc hN rfl he).pe
  have bi : ∀ {x : Str}, isBi nm X.env.scope x = true → Gl X x ∧ X.mg x = none := fun {x} hb => by
    unfold isBi at hb
    rw [Bool.and_eq_true] at hb
    refine ⟨gl_of hb.1, hc.bi x ?_⟩
    have := hb.2
    split at this
    · assumption
    · cases this
  unfold erI at h
  split at h
  · rename_i x p a q
    split at h
    · rename_i hb
      simp only [Bool.and_eq_true, decide_eq_true_eq] at hb
      obtain ⟨hb, ex⟩ := hb
      subst ex
      split at h
      · cases h
      rename_i hs
      obtain ⟨a', ha, h⟩ := Option.bind_eq_some_iff.mp h
      cases h
      exact i_range1 (bi hb).1 (bi hb).2 (star_no (by simpa using hs)) (hE X wx _ _ _ hc hN rfl ha).pe
    split at h
    · rename_i hb
      simp only [Bool.and_eq_true, decide_eq_true_eq] at hb
      obtain ⟨hb, ex⟩ := hb
      subst ex
      split at h
      · cases h
      rename_i hs
      obtain ⟨a', ha, h⟩ := Option.bind_eq_some_iff.mp h
      cases h
      cases tg with
      | Tuple elts kk tpos => exact i_enum hc.hK (bi hb).1 (bi hb).2 (star_no (by simpa using hs)) (hE X wx _ _ _ hc hN rfl ha).pe
      | _ => cases hok
    · exact gen _ h
  · rename_i x p a b q
    split at h
    · rename_i hb
      simp only [Bool.and_eq_true, decide_eq_true_eq] at hb
      obtain ⟨hb, ex⟩ := hb
      subst ex
      split at h
      · cases h
      rename_i hs
      rw [Bool.or_eq_true, not_or] at hs
      obtain ⟨a', ha, h⟩ := Option.bind_eq_some_iff.mp h
      obtain ⟨b', hb', h⟩ := Option.bind_eq_some_iff.mp h
      cases h
      have s2 : starEach [b] X.env = [(false, eval b X.env)] := star_no (by simpa using hs.2)
      exact i_range2 (bi hb).1 (bi hb).2 ((star_no (by simpa using hs.1)).trans (by rw [s2])) s2 (hE X wx _ _ _ hc hN rfl ha).pe (hE X wx _ _ _ hc hN rfl hb').pe
    split at h
    · rename_i hb
      simp only [Bool.and_eq_true, decide_eq_true_eq] at hb
      obtain ⟨hb, ex⟩ := hb
      subst ex
      split at h
      · cases h
      rename_i hs
      rw [Bool.or_eq_true, not_or] at hs
      obtain ⟨a', ha, h⟩ := Option.bind_eq_some_iff.mp h
      obtain ⟨b', hb', h⟩ := Option.bind_eq_some_iff.mp h
      cases h
      have s2 : starEach [b] X.env = [(false, eval b X.env)] := star_no (by simpa using hs.2)
      cases tg with
      | Tuple elts kk tpos => exact i_zip hc.hK (bi hb).1 (bi hb).2 (star_no (by simpa using hs.1)) s2 (by rw [s2]; rfl) (hE X wx _ _ _ hc hN rfl ha).pe (hE X wx _ _ _ hc hN rfl hb').pe
      | _ => cases hok
    · exact gen _ h
  · exact gen _ h
theorem er_all : ∀ n, EOkAll g nm c N n ∧ AOkAll g nm c N n ∧ OOkAll g nm c N n ∧ IOkAll g nm c N n ∧ DOkAll g nm c N n ∧ WOkAll g nm c N n
  | 0 => ⟨fun _ _ _ _ _ _ _ _ h => (by unfold er at h; cases h), fun _ _ _ _ _ _ _ _ h => (by unfold ers at h; cases h), fun _ _ _ _ _ _ _ _ h => (by unfold erO at h; cases h), fun _ _ _ _ _ _ _ _ _ h => (by unfold erI at h; cases h), fun _ _ _ _ _ _ _ _ _ _ h => (by unfold erD at h; cases h), fun _ _ _ _ _ _ _ _ _ _ h => (by unfold ers at h; cases h)⟩
  | n + 1 => by
    obtain ⟨h1, h2, h3, h4, h5, h6⟩ := er_all n
    exact ⟨er_step n h1 h2 h3 h4 h5 h6, ers_step n h1 h2, erO_step n h1, erI_step n h1, erD_step n h1 h5, erW_step n h1 h6⟩
end
end RL

set_option Elab.async false
set_option linter.all false
set_option maxRecDepth 100000
set_option autoImplicit false
set_option maxHeartbeats 4000000
namespace RL
open PySem PySem.Spec PyProof.Rows L2
abbrev FE := Flow × EnvD
def Old (HB H0 : Hp) : Prop := ∀ a, HB a = none → H0 a = none
theorem RepR.older {g : G0} {HB H0 H : Hp} {W : Wd} {r : ER} {v : V} (h : RepR g HB W H r v) (o : Old HB H0) : RepR g H0 W H r v := by
  cases r with
  | v d => exact h
  | fl xs => obtain ⟨a, vs, e, q, n, r⟩ := h; exact ⟨a, vs, e, q, o a n, r⟩
  | fd ks xs => obtain ⟨a, vs, e, q, n, r⟩ := h; exact ⟨a, vs, e, q, o a n, r⟩
  | fo C ns xs => obtain ⟨a, dx, vs, e, q, q2, l, n, n2, r⟩ := h; exact ⟨a, dx, vs, e, q, q2, l, o a n, o dx n2, r⟩
def PostS (g : G0) (wx : WX) (W0 : Wd) (H0 : Hp) (HE : Hp) (r : R FE) (Dn : Ends) : Prop := match r with
  | .stuck => False
  | .exc _ _ _ => False
  | .ok (.nx, ρ') μ' => ∀ W' σ' H', Step W0 H0 W' H' → Sim g W' μ' H' → EnvR g W' ρ' σ' → Dn.nx σ' H'
  | .ok (.brk, ρ') μ' => ∀ W' σ' H', Step W0 H0 W' H' → Sim g W' μ' H' → EnvR g W' ρ' σ' → Dn.bk σ' H'
  | .ok (.cont, ρ') μ' => ∀ W' σ' H', Step W0 H0 W' H' → Sim g W' μ' H' → EnvR g W' ρ' σ' → Dn.ct σ' H'
  | .ok (.ret r, _) μ' => ∀ W' v H', Step W0 H0 W' H' → Sim g W' μ' H' → RepR g HE W' H' r v → Dn.rt v H'
  | .ok (.exc C vs, ρ') μ' => ∀ W' σ' H' dd, Step W0 H0 W' H' → Sim g W' μ' H' → EnvR g W' ρ' σ' → XRep g W' H' C vs dd → wx (.ref (g.cls C)) dd σ' H'
def tSt (g : G0) (wx : WX) (f : EnvD → M FE) : TS := fun Dn σ H => ∃ W0 H0 HE W ρ μ, Old H0 HE ∧ Step W0 H0 W H ∧ Sim g W μ H ∧ EnvR g W ρ σ ∧ PostS g wx W0 H0 HE (f ρ μ) Dn
theorem PostS.rebase {g : G0} {wx : WX} {W0 W1 : Wd} {H0 H1 HE : Hp} {r : R FE} {Dn : Ends} (st : Step W0 H0 W1 H1) (h : PostS g wx W0 H0 HE r Dn) : PostS g wx W1 H1 HE r Dn := by
  cases r with
  | stuck => exact h
  | exc C vs μ => exact h
  | ok p μ =>
    obtain ⟨f, ρ'⟩ := p
    cases f with
    | nx => exact fun W' σ' H' s' => h W' σ' H' (st.trans s')
    | brk => exact fun W' σ' H' s' => h W' σ' H' (st.trans s')
    | cont => exact fun W' σ' H' s' => h W' σ' H' (st.trans s')
    | ret r => exact fun W' v H' s' => h W' v H' (st.trans s')
    | exc C vs => exact fun W' σ' H' dd s' => h W' σ' H' dd (st.trans s')
section
variable {X : Cx} {g : G0} {nm : Nm} {c : Cfg} {wx : WX} {tg : Expr} {N : List Str}
variable {W W0 : Wd} {H H0 HE : Hp} {μ : List Cell} {ρ : EnvD} {σ : L2.St} {Dn : Ends}
theorem postS_tryE {α : Type} {m : M α} {k : α → M FE} (h : PostS g wx W0 H0 HE (tryE ρ m k μ) Dn) :
    (∃ a μ', m μ = .ok a μ' ∧ PostS g wx W0 H0 HE (k a μ') Dn) ∨ ∃ C vs μ', m μ = .exc C vs μ' ∧ PostS g wx W0 H0 HE (.ok (.exc C vs, ρ) μ') Dn := by
  unfold tryE at h
  cases hm : m μ with
  | stuck => rw [hm] at h; exact h.elim
  | exc C vs μ' => rw [hm] at h; exact .inr ⟨C, vs, μ', rfl, h⟩
  | ok a μ' => rw [hm] at h; exact .inl ⟨a, μ', rfl, h⟩
theorem exc_out {α β : Type} {Rl : Wd → Hp → α → β → Prop} {Q : β → Hp → Prop} {C : Nat} {vs : List D} {μ' : List Cell} (en : EnvR g W ρ σ) (st0 : Step W0 H0 W H) (h : PostS g wx W0 H0 HE (.ok (.exc C vs, ρ) μ') Dn) : Post g wx W σ H Rl (.exc C vs μ' : R α) Q :=
  fun W' H' dd st s x => h W' σ H' dd (st0.trans st) s (en.le st.le) x
theorem tE_try {f : EnvD → M ER} {k : ER → M FE} {K : V → Hp → Prop} (s : Sim g W μ H) (en : EnvR g W ρ σ) (st0 : Step W0 H0 W H) (hp : PostS g wx W0 H0 HE (tryE ρ (f ρ) k μ) Dn)
    (h : ∀ W1 x H1 r μ1, Step W0 H0 W1 H1 → Sim g W1 μ1 H1 → EnvR g W1 ρ σ → RepR g H0 W1 H1 r x → PostS g wx W0 H0 HE (k r μ1) Dn → K x H1) : tE g wx f σ H K := by
  refine ⟨W, ρ, μ, s, en, ?_⟩
  rcases postS_tryE hp with ⟨a, μ', e, hp⟩ | ⟨C, vs, μ', e, hp⟩
  · rw [e]; exact fun W1 x H1 st1 s1 rep => h W1 x H1 a μ' (st0.trans st1) s1 (en.le st1.le) (RepR.back st0 rep) hp
  · rw [e]; exact exc_out en st0 hp
theorem tV_try {f : EnvD → M ER} {k : ER → M FE} {K : V → Hp → Prop} (s : Sim g W μ H) (en : EnvR g W ρ σ) (st0 : Step W0 H0 W H) (hp : PostS g wx W0 H0 HE (tryE ρ (f ρ) k μ) Dn)
    (h : ∀ W1 x H1 r μ1, Step W H W1 H1 → Step W0 H0 W1 H1 → Sim g W1 μ1 H1 → EnvR g W1 ρ σ → Rep g W1 r.d x → PostS g wx W0 H0 HE (k r μ1) Dn → K x H1) : tV g wx f σ H K := by
  refine ⟨W, ρ, μ, s, en, ?_⟩
  rcases postS_tryE hp with ⟨a, μ', e, hp⟩ | ⟨C, vs, μ', e, hp⟩
  · rw [e]; exact fun W1 x H1 st1 s1 rep => h W1 x H1 a μ' st1 (st0.trans st1) s1 (en.le st1.le) rep hp
  · rw [e]; exact exc_out en st0 hp
theorem tT_try {f : EnvD → M Bool} {k : Bool → M FE} {K : Bool → Hp → Prop} (s : Sim g W μ H) (en : EnvR g W ρ σ) (st0 : Step W0 H0 W H) (hp : PostS g wx W0 H0 HE (tryE ρ (f ρ) k μ) Dn)
    (h : ∀ W1 H1 b μ1, Step W0 H0 W1 H1 → Sim g W1 μ1 H1 → EnvR g W1 ρ σ → PostS g wx W0 H0 HE (k b μ1) Dn → K b H1) : tT g wx f σ H K := by
  refine ⟨W, ρ, μ, s, en, ?_⟩
  rcases postS_tryE hp with ⟨a, μ', e, hp⟩ | ⟨C, vs, μ', e, hp⟩
  · rw [e]; exact fun W1 b H1 st1 s1 eb => by subst eb; exact h W1 H1 a μ' (st0.trans st1) s1 (en.le st1.le) hp
  · rw [e]; exact exc_out en st0 hp
theorem tI_try {f : EnvD → M Itm} {k : Itm → M FE} {K : It → Hp → Prop} (s : Sim g W μ H) (en : EnvR g W ρ σ) (st0 : Step W0 H0 W H) (hp : PostS g wx W0 H0 HE (tryE ρ (f ρ) k μ) Dn)
    (h : ∀ W1 J H1 i μ1, Step W0 H0 W1 H1 → Sim g W1 μ1 H1 → EnvR g W1 ρ σ → ItR g W1 H1 i J → PostS g wx W0 H0 HE (k i μ1) Dn → K J H1) : tI g wx f σ H K := by
  refine ⟨W, ρ, μ, s, en, ?_⟩
  rcases postS_tryE hp with ⟨a, μ', e, hp⟩ | ⟨C, vs, μ', e, hp⟩
  · rw [e]; exact fun W1 J H1 st1 s1 it => h W1 J H1 a μ' (st0.trans st1) s1 (en.le st1.le) it hp
  · rw [e]; exact exc_out en st0 hp
theorem postS_bind {α : Type} {m : M α} {k : α → M FE} (h : PostS g wx W0 H0 HE ((m >>= k) μ) Dn) (hn : ∀ C vs μ', m μ ≠ .exc C vs μ') : ∃ a μ', m μ = .ok a μ' ∧ PostS g wx W0 H0 HE (k a μ') Dn := by
  have h : PostS g wx W0 H0 HE (M.bind m k μ) Dn := h
  unfold M.bind at h
  cases hm : m μ with
  | stuck => rw [hm] at h; exact h.elim
  | exc C vs μ' => exact absurd hm (hn C vs μ')
  | ok a μ' => rw [hm] at h; exact ⟨a, μ', rfl, h⟩
theorem postS_ofO {α : Type} {o : Option α} {k : α → M FE} (h : PostS g wx W0 H0 HE ((ofO o >>= k) μ) Dn) : ∃ a, o = some a ∧ PostS g wx W0 H0 HE (k a μ) Dn := by
  cases o with
  | none => exact h.elim
  | some a => exact ⟨a, rfl, h⟩
/-- what becomes a cell -/
theorem celled_ok {r : ER} {v : V} {d : D} {μ' : List Cell} (s : Sim g W μ H) (st0 : Step W0 H0 W H) (rr : RepR g H0 W H r v) (e : celled r true μ = .ok d μ') : ∃ W', WLe W W' ∧ Step W0 H0 W' H ∧ Sim g W' μ' H ∧ Rep g W' d v := by
  cases r with
  | v d' => cases e; exact ⟨W, .refl W, st0, s, rr⟩
  | fl xs =>
    cases e
    obtain ⟨a, vs, ev', ha, h0, hF, hA, rx⟩ := rr
    obtain ⟨le, st, s'⟩ := s.celled (c := .lst xs) st0 h0 ⟨vs, ha, rx⟩ hF hA
    exact ⟨_, le, st, s', a, ev', by show (W.as ++ [a])[μ.length]? = some a; rw [← s.cln, List.getElem?_append_right (Nat.le_refl _), Nat.sub_self]; rfl⟩
  | fd ks xs =>
    cases e
    obtain ⟨a, vs, ev', ha, h0, hF, hA, rx⟩ := rr
    obtain ⟨le, st, s'⟩ := s.celled (c := .dct ks xs) st0 h0 ⟨vs, ha, rx⟩ hF hA
    exact ⟨_, le, st, s', a, ev', by show (W.as ++ [a])[μ.length]? = some a; rw [← s.cln, List.getElem?_append_right (Nat.le_refl _), Nat.sub_self]; rfl⟩
  | fo C ns xs =>
    cases e
    obtain ⟨a, dx, vs, ev', ha, hdx, hl, h0, h0d, hF, hFd, hA, hAd, rx⟩ := rr
    obtain ⟨le, st, s'⟩ := s.celled (c := .inst C ns xs) st0 h0 ⟨dx, vs, ha, hdx, hl, rx⟩ hF hA
    exact ⟨_, le, st, s', a, ev', by show (W.as ++ [a])[μ.length]? = some a; rw [← s.cln, List.getElem?_append_right (Nat.le_refl _), Nat.sub_self]; rfl⟩
theorem celled_no {r : ER} {cl : Bool} : ∀ C vs μ', celled r cl μ ≠ .exc C vs μ' := by
  intro C vs μ'
  cases r <;> cases cl <;> nofun
theorem celled_false {r : ER} {d : D} {μ' : List Cell} (e : celled r false μ = .ok d μ') : d = r.d ∧ μ' = μ := by
  cases r <;> (cases e; exact ⟨rfl, rfl⟩)
/-- the value of an assignment goes to its target -/
theorem asg_end {t : MT} {d : D} {x : V} (s : Sim g W μ H) (st0 : Step W0 H0 W H) (en : EnvR g W ρ σ) (r : Rep g W d x) (hp : PostS g wx W0 H0 HE ((ofO (assignT ρ t d) >>= fun ρ' => (pure (.nx, ρ') : M FE)) μ) Dn) : tgG g.K t x σ H Dn.nx := by
  obtain ⟨ρ', e, hp⟩ := postS_ofO hp
  exact tgG_ok t W ρ μ σ H x d ρ' Dn.nx s en r e fun σ' e' _ => hp W σ' H st0 s e'
theorem tAsg_ok {e : ME} {t : MT} {cl : Bool} (hw : tSt g wx (ex c (.asg t e cl)) Dn σ H) : (if cl then tAsg (tE g wx (ev c e)) (tgG g.K t) Dn σ H else tAsg (tV g wx (ev c e)) (tgG g.K t) Dn σ H) := by
  obtain ⟨W0, H0, HE, W, ρ, μ, old, st0, sm, en, hp⟩ := hw
  have hp : PostS g wx W0 H0 HE (tryE ρ (ev c e ρ) (fun x => celled x cl >>= fun d => ofO (assignT ρ t d) >>= fun ρ' => (pure (.nx, ρ') : M FE)) μ) Dn := hp
  cases cl with
  | true =>
    refine tE_try (f := ev c e) sm en st0 hp fun W1 x H1 r μ1 st1 s1 e1 rr hp1 => ?_
    obtain ⟨d, μ2, ed, hp1⟩ := postS_bind hp1 celled_no
    obtain ⟨W2, le, st2, s2, rd⟩ := celled_ok s1 st1 rr ed
    exact asg_end s2 st2 (e1.le le) rd hp1
  | false =>
    refine tV_try (f := ev c e) sm en st0 hp fun W1 x H1 r μ1 st1 st01 s1 e1 rr hp1 => ?_
    obtain ⟨d, μ2, ed, hp2⟩ := postS_bind hp1 celled_no
    obtain ⟨e1', e2'⟩ := celled_false ed
    subst e1' e2'
    exact asg_end s1 st01 e1 rr hp2
theorem s_asg {tg e : Expr} {m : ME} {t : MT} {cl : Bool} {pos : Pos} (hK : X.K = g.K) (he : PE X e (tE g wx (ev c m))) (hg : PG X tg (tgG X.K t)) (hs : swapsWithSole [tg] e pos.line X.env = pure false) (hw : swappedStores [tg] e X.env = pure none)
    (h1 : (assignEach [tg] X.env).map (·.2) = [assign tg X.env]) : PS X (.Assign [tg] e pos) (tSt g wx (ex c (.asg t m cl))) := by
  cases cl with
  | true => exact PS.mono (ps_asg he hg hs hw h1) fun Dn σ H hw => by rw [hK]; exact tAsg_ok hw
  | false => exact PS.mono (ps_asg (PE.val he) hg hs hw h1) fun Dn σ H hw => by rw [hK]; exact tAsg_ok hw
theorem s_ret {e : Expr} {m : ME} {pos : Pos} (he : PE X e (tE g wx (ev c m))) : PS X (.Return (some e) pos) (tSt g wx (ex c (.ret m))) := by
  refine PS.mono (ps_ret he) fun Dn σ H hw => ?_
  obtain ⟨W0, H0, HE, W, ρ, μ, old, st0, sm, en, hp⟩ := hw
  have hp : PostS g wx W0 H0 HE (tryE ρ (ev c m ρ) (fun x => (pure (.ret x, ρ) : M FE)) μ) Dn := hp
  exact tE_try (f := ev c m) sm en st0 hp fun W1 x H1 r μ1 st1 s1 e1 rr hp1 => hp1 W1 x H1 st1 s1 (rr.older old)
theorem s_ret0 {pos : Pos} : PS X (.Return none pos) (tSt g wx (ex c .ret0)) := by
  refine PS.mono ps_retN fun Dn σ H hw => ?_
  obtain ⟨W0, H0, HE, W, ρ, μ, old, st0, sm, en, hp⟩ := hw
  exact hp W .non H st0 sm rfl
theorem s_pass {pos : Pos} : PS X (.Pass pos) (tSt g wx (ex c .pass)) := by
  refine PS.mono ps_pass fun Dn σ H hw => ?_
  obtain ⟨W0, H0, HE, W, ρ, μ, old, st0, sm, en, hp⟩ := hw
  exact hp W σ H st0 sm en
theorem s_doc {x : Str} {j : Nat} {pos pos' : Pos} : PS X (.Expr (.Constant (.str x) j pos) pos') (tSt g wx (ex c .pass)) := by
  refine PS.mono ps_doc fun Dn σ H hw => ?_
  obtain ⟨W0, H0, HE, W, ρ, μ, old, st0, sm, en, hp⟩ := hw
  exact hp W σ H st0 sm en
theorem s_brk {pos : Pos} : PS X (.Break pos) (tSt g wx (ex c .brk)) := by
  refine PS.mono ps_break fun Dn σ H hw => ?_
  obtain ⟨W0, H0, HE, W, ρ, μ, old, st0, sm, en, hp⟩ := hw
  exact hp W σ H st0 sm en
theorem s_cont {pos : Pos} : PS X (.Continue pos) (tSt g wx (ex c .cont)) := by
  refine PS.mono ps_continue fun Dn σ H hw => ?_
  obtain ⟨W0, H0, HE, W, ρ, μ, old, st0, sm, en, hp⟩ := hw
  exact hp W σ H st0 sm en
theorem s_expr {e : Expr} {m : ME} {pos : Pos} (he : PE X e (tE g wx (ev c m))) (hs : swapsWith e none pos.line X.env = pure false) : PS X (.Expr e pos) (tSt g wx (ex c (.expr m))) := by
  refine PS.mono (ps_expr (PE.val he) hs) fun Dn σ H hw => ?_
  obtain ⟨W0, H0, HE, W, ρ, μ, old, st0, sm, en, hp⟩ := hw
  have hp : PostS g wx W0 H0 HE (tryE ρ (ev c m ρ) (fun _ => (pure (.nx, ρ) : M FE)) μ) Dn := hp
  exact tV_try (f := ev c m) sm en st0 hp fun W1 x H1 r μ1 st1 st01 s1 e1 rr hp1 => hp1 W1 σ H1 st01 s1 e1
theorem s_if {t : Expr} {a b : List Stmt} {m : ME} {ma mb : List MS} {pos : Pos} (ht : PT X t (tT g wx (evB c m))) (ha : PSs X a (tSt g wx (exs c ma))) (hb : PSs X b (tSt g wx (exs c mb))) : PS X (.If t a b pos) (tSt g wx (ex c (.ite m ma mb))) := by
  refine PS.mono (ps_if ht ha hb) fun Dn σ H hw => ?_
  obtain ⟨W0, H0, HE, W, ρ, μ, old, st0, sm, en, hp⟩ := hw
  have hp : PostS g wx W0 H0 HE (tryE ρ (evB c m ρ) (fun p => if p then exs c ma ρ else exs c mb ρ) μ) Dn := hp
  refine tT_try (f := evB c m) sm en st0 hp fun W1 H1 p μ1 st1 s1 e1 hp1 => ?_
  cases p with
  | true => exact ⟨W0, H0, HE, W1, ρ, μ1, old, st1, s1, e1, hp1⟩
  | false => exact ⟨W0, H0, HE, W1, ρ, μ1, old, st1, s1, e1, hp1⟩
theorem ss_nil : PSs X [] (tSt g wx (exs c [])) := by
  refine PSs.mono pss_nil fun Dn σ H hw => ?_
  obtain ⟨W0, H0, HE, W, ρ, μ, old, st0, sm, en, hp⟩ := hw
  exact hp W σ H st0 sm en
theorem flow_seq {m : M FE} {k : EnvD → M FE} {Dn Dn' : Ends} (hp : PostS g wx W0 H0 HE ((m >>= nextF k) μ) Dn) (hr : Dn'.rt = Dn.rt) (hb : Dn'.bk = Dn.bk) (hc : Dn'.ct = Dn.ct)
    (hn : ∀ W' σ' H' ρ' μ', Step W0 H0 W' H' → Sim g W' μ' H' → EnvR g W' ρ' σ' → PostS g wx W0 H0 HE (k ρ' μ') Dn → Dn'.nx σ' H') : PostS g wx W0 H0 HE (m μ) Dn' := by
  have hp : PostS g wx W0 H0 HE (M.bind m (nextF k) μ) Dn := hp
  unfold M.bind at hp
  cases hm : m μ with
  | stuck => rw [hm] at hp; exact hp.elim
  | exc C vs μ' => rw [hm] at hp; exact hp.elim
  | ok a μ' =>
    rw [hm] at hp
    obtain ⟨f, ρ'⟩ := a
    cases f with
    | nx => exact fun W' σ' H' st s en => hn W' σ' H' ρ' μ' st s en hp
    | brk => exact fun W' σ' H' st s en => by rw [hb]; exact hp W' σ' H' st s en
    | cont => exact fun W' σ' H' st s en => by rw [hc]; exact hp W' σ' H' st s en
    | ret r => exact fun W' v H' st s rr => by rw [hr]; exact hp W' v H' st s rr
    | exc C vs => exact hp
theorem ss_cons {s : Stmt} {ss : List Stmt} {m : MS} {ms : List MS} (h1 : PS X s (tSt g wx (ex c m))) (h2 : PSs X ss (tSt g wx (exs c ms))) : PSs X (s :: ss) (tSt g wx (exs c (m :: ms))) := by
  refine PSs.mono (pss_cons h1 h2) fun Dn σ H hw => ?_
  obtain ⟨W0, H0, HE, W, ρ, μ, old, st0, sm, en, hp⟩ := hw
  have e : exs c (m :: ms) ρ = (ex c m ρ >>= nextF (fun ρ' => exs c ms ρ')) := by
    conv => lhs; unfold exs
  rw [e] at hp
  exact ⟨W0, H0, HE, W, ρ, μ, old, st0, sm, en, flow_seq (Dn' := { Dn with nx := (tSt g wx (exs c ms)) Dn }) hp rfl rfl rfl fun W' σ' H' ρ' μ' st s en hp => ⟨W0, H0, HE, W', ρ', μ', old, st, s, en, hp⟩⟩
theorem flow_turn {m : M FE} {k : EnvD → M FE} {Dn : Ends} {Nx : L2.St → Hp → Prop} (hp : PostS g wx W0 H0 HE ((m >>= turnF k) μ) Dn)
    (hn : ∀ W' σ' H' ρ' μ', Step W0 H0 W' H' → Sim g W' μ' H' → EnvR g W' ρ' σ' → PostS g wx W0 H0 HE (k ρ' μ') Dn → Nx σ' H') : PostS g wx W0 H0 HE (m μ) { Dn with nx := Nx, ct := Nx, bk := Dn.nx } := by
  have hp : PostS g wx W0 H0 HE (M.bind m (turnF k) μ) Dn := hp
  unfold M.bind at hp
  cases hm : m μ with
  | stuck => rw [hm] at hp; exact hp.elim
  | exc C vs μ' => rw [hm] at hp; exact hp.elim
  | ok a μ' =>
    rw [hm] at hp
    obtain ⟨f, ρ'⟩ := a
    cases f with
    | nx => exact fun W' σ' H' st s en => hn W' σ' H' ρ' μ' st s en hp
    | brk => exact hp
    | cont => exact fun W' σ' H' st s en => hn W' σ' H' ρ' μ' st s en hp
    | ret r => exact hp
    | exc C vs => exact hp
theorem s_while {t : Expr} {b : List Stmt} {m : ME} {mb : List MS} {pos : Pos} (hpo : PassesOwn (model X.prog X.w) X.A X.env X.xe) (ht : PT X t (tT g wx (evB c m))) (hb : PSs X b (tSt g wx (exs c mb))) : PS X (.While t b [] pos) (tSt g wx (ex c (.whil m mb))) := by
  refine PS.mono (ps_whileE hpo ht hb pss_nil) fun Dn σ H hw => ?_
  obtain ⟨W0, H0, HE, W, ρ, μ, old, st0, sm, en, hp⟩ := hw
  have hp : PostS g wx W0 H0 HE (whileIt (evB c m) (fun ρ => exs c mb ρ) c.fuel ρ μ) Dn := hp
  refine ⟨fun n σ H => ∃ W ρ μ, Step W0 H0 W H ∧ Sim g W μ H ∧ EnvR g W ρ σ ∧ PostS g wx W0 H0 HE (whileIt (evB c m) (fun ρ => exs c mb ρ) n ρ μ) Dn, ⟨c.fuel, W, ρ, μ, st0, sm, en, hp⟩, fun n σ H ⟨W, ρ, μ, st0, sm, en, hp⟩ => ?_⟩
  cases n with
  | zero => exact hp.elim
  | succ n =>
    have hp : PostS g wx W0 H0 HE (tryE ρ (evB c m ρ) (fun p => if p then (exs c mb ρ >>= turnF fun ρ' => whileIt (evB c m) (fun ρ => exs c mb ρ) n ρ') else (pure (.nx, ρ) : M FE)) μ) Dn := by
      exact hp
    refine tT_try (f := evB c m) sm en st0 hp fun W1 H1 p μ1 st1 s1 e1 hp1 => ?_
    cases p with
    | true =>
      refine ⟨fun σ' H' => ∃ W ρ μ, Step W0 H0 W H' ∧ Sim g W μ H' ∧ EnvR g W ρ σ' ∧ PostS g wx W0 H0 HE (whileIt (evB c m) (fun ρ => exs c mb ρ) n ρ μ) Dn, fun σ' H' h => ⟨n, Nat.lt_succ_self _, h⟩, ?_⟩
      exact ⟨W0, H0, HE, W1, ρ, μ1, old, st1, s1, e1, flow_turn hp1 fun W' σ' H' ρ' μ' st s en hp => ⟨W', ρ', μ', st, s, en, hp⟩⟩
    | false => exact hp1 W1 σ H1 st1 s1 e1
theorem s_for {it : Expr} {b : List Stmt} {m : ME} {t : MT} {mb : List MS} {pos : Pos} (hK : X.K = g.K) (hpo : PassesOwn (model X.prog X.w) X.A X.env X.xe) (hc : X.calm = true) (hi : PI X tg it (tI g wx (evI c m))) (hg : PG X tg (tgG X.K t)) (hb : PSs X b (tSt g wx (exs c mb)))
    (hs : ∀ x, foldedSetIterable it X.env x = pure x) : PS X (.For tg it b [] pos) (tSt g wx (ex c (.for_ t m mb))) := by
  refine PS.mono (ps_for hpo hc hi hg hb hs) fun Dn σ H hw => ?_
  obtain ⟨W0, H0, HE, W, ρ, μ, old, st0, sm, en, hp⟩ := hw
  have hp : PostS g wx W0 H0 HE (tryE ρ (evI c m ρ) (fun i => forIt i.w t (fun ρ => exs c mb ρ) i.xs ρ) μ) Dn := hp
  refine tI_try (f := evI c m) sm en st0 hp fun W1 J H1 i μ1 st1 s1 e1 hit hp1 => ?_
  refine ⟨fun j n σ H => n = i.xs.length - j ∧ j ≤ i.xs.length ∧ ∃ W ρ μ, Step W1 H1 W H ∧ Sim g W μ H ∧ EnvR g W ρ σ ∧ PostS g wx W1 H1 HE (forIt i.w t (fun ρ => exs c mb ρ) (i.xs.drop j) ρ μ) Dn, ⟨i.xs.length, by simp, Nat.zero_le _, W1, ρ, μ1, .refl W1 H1, s1, e1, PostS.rebase st1 hp1⟩, ?_⟩
  rintro j n σ H ⟨rfl, hj, W, ρ, μ, stJ, sm, en, hp⟩
  by_cases hlt : j < i.xs.length
  · rw [List.drop_eq_getElem_cons hlt] at hp
    have hst : still i.w μ = true := by
      cases hq : still i.w μ with
      | true => rfl
      | false =>
        exfalso
        have : forIt i.w t (fun ρ => exs c mb ρ) (i.xs[j] :: i.xs.drop (j + 1)) ρ μ = .stuck := by
          show (if still i.w μ = true then _ else _) = _
          rw [hq]; rfl
        rw [this] at hp; exact hp
    have e : forIt i.w t (fun ρ => exs c mb ρ) (i.xs[j] :: i.xs.drop (j + 1)) ρ μ = (ofO (assignT ρ t i.xs[j]) >>= fun ρ' => exs c mb ρ' >>= turnF fun ρ2 => forIt i.w t (fun ρ => exs c mb ρ) (i.xs.drop (j + 1)) ρ2) μ := by
      show (if still i.w μ = true then _ else _) = _
      rw [if_pos hst]
    rw [e] at hp
    obtain ⟨ρ', ea, hp⟩ := postS_ofO hp
    refine .inr ⟨hit.go W μ H j stJ sm hst hlt, fun σ' H' => ∃ W ρ μ, Step W1 H1 W H' ∧ Sim g W μ H' ∧ EnvR g W ρ σ' ∧ PostS g wx W1 H1 HE (forIt i.w t (fun ρ => exs c mb ρ) (i.xs.drop (j + 1)) ρ μ) Dn, fun σ' H' h => ⟨i.xs.length - (j + 1), by omega, rfl, hlt, h⟩, fun x H' hy => ?_⟩
    obtain ⟨W', st', s', rx⟩ := hit.yld W μ H j x H' i.xs[j] stJ sm hst (by simp [hlt]) hy
    rw [hK]
    refine tgG_ok t W' _ μ _ H' x i.xs[j] ρ' _ s' (en.le st'.le) rx ea fun σ2 en2 _ => ?_
    exact ⟨W1, H1, HE, W', ρ', μ, fun a ha => old a (st1.back ha), stJ.trans st', s', en2, flow_turn hp fun W' σ' H' ρ' μ' st s en hp => ⟨W', ρ', μ', st, s, en, hp⟩⟩
  · have e : j = i.xs.length := by omega
    subst e
    rw [List.drop_length] at hp
    have hst : still i.w μ = true := by
      cases hq : still i.w μ with
      | true => rfl
      | false =>
        exfalso
        have : forIt i.w t (fun ρ => exs c mb ρ) [] ρ μ = .stuck := by
          show (if still i.w μ = true then _ else _) = _
          rw [hq]; rfl
        rw [this] at hp; exact hp
    have e : forIt i.w t (fun ρ => exs c mb ρ) [] ρ μ = .ok (.nx, ρ) μ := by
      show (if still i.w μ = true then _ else _) = _
      rw [if_pos hst]
    rw [e] at hp
    exact .inl ⟨hit.stop W μ H stJ sm hst, hp W σ H stJ sm en⟩
end
end RL

set_option Elab.async false
set_option linter.all false
set_option maxRecDepth 100000
set_option autoImplicit false
set_option maxHeartbeats 4000000
namespace RL
open PySem PySem.Spec PyProof.Rows L2

/-! ### statements of the text -/
def isCompE : Expr → Bool
  | .ListComp _ _ _ _ => true
  | .SetComp _ _ _ _ => true
  | .DictComp _ _ _ _ _ => true
  | _ => false
def isTup (e : Expr) : Bool := match e with
  | .Tuple _ _ _ => true
  | _ => false
/-- is a new object that this target gets a cell? -/
def mutT (mu : List Str) : Expr → Bool
  | .Name x _ => mu.contains x
  | _ => false
section
variable (nm : Nm) (N mu : List Str)
mutual
def erS : Nat → Scope → Stmt → Option MS
  | 0, _, _ => none
  | n + 1, sc, s => match s with
    | .Assign [.Subscript o i _] e _ => if isSlice i then none else (er nm N n sc e).bind fun e' => (er nm N n sc o).bind fun o' => (er nm N n sc i).bind fun i' => some (.setix o' i' e')
    | .Assign [tg] e _ =>
      if isTup tg && isTup e then none else
      (er nm N n sc e).bind fun e' => (erTg N sc tg).bind fun t => some (.asg t.1 e' (mutT mu tg))
    | .AugAssign (.Name x p) op e _ => if op == .Add || op == .Sub then (erT1 N sc (.Name x p)).bind fun q => (er nm N n sc e).bind fun e' => some (.aug q.2 op e') else none
    | .Expr (.Constant (.str _) _ _) _ => some .pass
    | .Expr e _ => if isCompE e then none else (er nm N n sc e).bind fun e' => some (.expr e')
    | .Return none _ => some .ret0
    | .Return (some e) _ => (er nm N n sc e).bind fun e' => some (.ret e')
    | .If t a b _ => (er nm N n sc t).bind fun t' => (erSs n sc a).bind fun a' => (erSs n sc b).bind fun b' => some (.ite t' a' b')
    | .While t b [] _ => (er nm N n sc t).bind fun t' => (erSs n sc b).bind fun b' => some (.whil t' b')
    | .For tg it b [] _ => if isSetE it then none else (erTg N sc tg).bind fun t => (erI nm N n sc it).bind fun i => if itOk i tg then (erSs n sc b).bind fun b' => some (.for_ t.1 i b') else none
    | .Pass _ => some .pass
    | .Break _ => some .brk
    | .Continue _ => some .cont
    | _ => none
def erSs : Nat → Scope → List Stmt → Option (List MS)
  | 0, _, _ => none
  | _ + 1, _, [] => some []
  | n + 1, sc, s :: ss => (erS n sc s).bind fun s' => (erSs n sc ss).bind fun ss' => some (s' :: ss')
end
end

section
variable {X : Cx} {g : G0} {nm : Nm} {c : Cfg} {wx : WX} {tg : Expr} {N mu : List Str}
/-- what is known around a def's body -/
structure SCtx (g : G0) (nm : Nm) (c : Cfg) (X : Cx) (wx : WX) : Prop where
  cx : Ctx g nm c X wx
  fn : ∀ x, X.fn x = true
  kind : X.env.scope.kind = .function
  pass : PassesOwn (model X.prog X.w) X.A X.env X.xe
theorem comp_no {e : Expr} (h : isCompE e = false) {t : Option Expr} {l : Nat} {env : Env} : swapsWith e t l env = pure false := by
  cases e <;> first | rfl | cases h
theorem swapped_no {tg e : Expr} {env : Env} (h : (isTup tg && isTup e) = false) : (∀ ts p, tg ≠ .List ts p) → swappedStores [tg] e env = pure none := by
  intro hl
  cases tg with
  | Tuple ts k p =>
    cases e <;> first | rfl | cases h
  | List ts p => exact absurd rfl (hl ts p)
  | _ => rfl
theorem lcN_swaps {elt : Expr} {gs : List Comprehension} {scope : Scope} {pos py : Pos} {y : Str} {l : Nat} {env : Env} (hk : env.scope.kind = .function) :
    swapsWith (.ListComp elt gs scope pos) (some (.Name y py)) l env = pure (env.scope.names.lookup y == some .local && py.line == pos.line && !(scope.names.any fun (n, k) => n == y && (k == .local || k == .cell))) := by
  have hb : env.blockKind = .function := by unfold Env.blockKind; rw [hk]; rfl
  have ky : env.kindOf y = env.scope.names.lookup y := rfl
  unfold swapsWith
  simp only [hb, ky]
  rfl
theorem s_aug (hc : SCtx g nm c X wx) {x : Str} {i : Nat} {p pos : Pos} {op : Operator} {e : Expr} {m : ME} (hop : op = .Add ∨ op = .Sub) (hi : X.N[i]? = some x) (hx : Loc X.env.scope x) (he : PE X e (tE g wx (ev c m))) : PS X (.AugAssign (.Name x p) op e pos) (tSt g wx (ex c (.aug i op m))) := by
  have fin : ∀ (f : Int → Int → Int), PIp X op (ipI f) → (∀ x y d, augD op x y = some d → ∃ a b, x = .int a ∧ y = .int b ∧ d = .int (f a b)) → PS X (.AugAssign (.Name x p) op e pos) (tSt g wx (ex c (.aug i op m))) := fun f hf hr => by
    refine PS.mono (ps_aug hc.cx.nd hi hx (PE.val he) hf (.inl (hc.fn x))) fun Dn σ H hw => ?_
    obtain ⟨W0, H0, HE, W, ρ, μ, old, st0, sm, en, hp⟩ := hw
    have hp : PostS g wx W0 H0 HE ((ofO (ρ[i]?).join >>= fun x => tryE ρ (ev c m ρ) fun y => ofO (augD op x y.d) >>= fun d => (pure (.nx, ρ.set i (some d)) : M FE)) μ) Dn := hp
    obtain ⟨d, hd, hp⟩ := postS_ofO hp
    have hd : ρ[i]? = some (some d) := by
      cases hρ : ρ[i]? with
      | none => rw [hρ] at hd; cases hd
      | some o => rw [hρ] at hd; exact congrArg some hd
    obtain ⟨v, hv, rv⟩ := en.at_ i d hd
    refine ⟨v, hv, tV_try (f := ev c m) sm en st0 hp fun W1 y H1 r μ1 st1 st01 s1 e1 ry hp1 => ?_⟩
    obtain ⟨d', hd', hp1⟩ := postS_ofO hp1
    obtain ⟨a, b, ea, eb, ed⟩ := hr _ _ _ hd'
    subst ea ed
    rw [eb] at ry
    cases rv
    cases ry
    exact ⟨a, b, rfl, rfl, hp1 W1 _ H1 st01 s1 (e1.set rfl)⟩
  rcases hop with ho | ho <;> subst ho
  · exact fin _ ip_add fun x y d h => by
      unfold augD at h
      split at h
      · rename_i a b; cases h; exact ⟨a, b, rfl, rfl, rfl⟩
      · cases h
  · exact fin _ ip_sub fun x y d h => by
      unfold augD at h
      split at h
      · rename_i a b; cases h; exact ⟨a, b, rfl, rfl, rfl⟩
      · cases h
/-- name = [..] on one line -/
theorem s_setLc (hc : SCtx g nm c X wx) {y : Str} {i : Nat} {py pos spos : Pos} {elt tg iter : Expr} {ifs : List Expr} {scope : Scope} {elt' : ME} {t : MT} {it : ME} {ifs' : List ME} {own : List (Str × Nat)} {cl : Bool} (hi : X.N[i]? = some y) (hy : X.env.scope.names.lookup y = some .local)
    (hsw : swapsWith (.ListComp elt [⟨tg, iter, ifs, 0⟩] scope pos) (some (.Name y py)) spos.line X.env = pure true) (P : LcParts g c X wx elt tg iter ifs scope elt' t it ifs' own) :
    PS X (.Assign [.Name y py] (.ListComp elt [⟨tg, iter, ifs, 0⟩] scope pos) spos) (tSt g wx (ex c (.asg (.name i) (.lc elt' t it ifs') cl))) := by
  refine PS.mono (ps_setLc hc.cx.calm hc.cx.nd hi hy hsw P.hi P.ok P.hg P.ht P.he P.hs) fun Dn σ H hw => ?_
  show tLc _ _ _ _ _ σ H (fun x H1 => gName i x σ H1 Dn.nx)
  rw [← P.own_]
  refine tLc_ok ?_
  cases cl with
  | true => exact tAsg_ok (t := .name i) hw
  | false =>
    obtain ⟨W0, H0, HE, W, ρ, μ, old, st0, sm, en, hp⟩ := hw
    have hp : PostS g wx W0 H0 HE (tryE ρ (ev c (.lc elt' t it ifs') ρ) (fun x => celled x false >>= fun d => ofO (assignT ρ (.name i) d) >>= fun ρ' => (pure (.nx, ρ') : M FE)) μ) Dn := hp
    refine ⟨W, ρ, μ, sm, en, ?_⟩
    rcases postS_tryE hp with ⟨a, μ', e, hp⟩ | ⟨C, vs, μ', e, hp⟩
    · rw [e]
      have hfl : ∃ xs, a = .fl xs := by
        rw [ev_lc] at e
        obtain ⟨i, μ1, _, e⟩ := bind_ok_inv e
        split at e
        · obtain ⟨ys, μ2, _, e⟩ := bind_ok_inv e
          cases e
          exact ⟨ys, rfl⟩
        · cases e
      obtain ⟨xs, ea⟩ := hfl
      subst ea
      intro W1 x H1 st1 s1 rep
      have st01 := st0.trans st1
      obtain ⟨l, vs, ex, hl, h0, hF, hA, hr⟩ := RepR.back st0 rep
      obtain ⟨le, st', s'⟩ := s1.freeze st01 h0 (.inl ⟨rfl, hl⟩) hF hA
      obtain ⟨d, μ2, ed, hp2⟩ := postS_bind hp celled_no
      obtain ⟨e1', e2'⟩ := celled_false ed
      subst e1' e2'
      exact asg_end (t := .name i) (d := (ER.fl xs).d) s' st' ((en.le st1.le).le le) (show Rep g _ (D.lst xs) x from ⟨l, vs, ex, upd_same, hr.leW le⟩) hp2
    · rw [e]; exact exc_out en st0 hp
theorem postS_mod {f : List Cell → Option (Unit × List Cell)} {k : Unit → M FE} {W0 : Wd} {H0 HE : Hp} {μ : List Cell} {Dn : Ends} (h : PostS g wx W0 H0 HE ((modM f >>= k) μ) Dn) : ∃ μ', f μ = some ((), μ') ∧ PostS g wx W0 H0 HE (k () μ') Dn := by
  have h : PostS g wx W0 H0 HE (M.bind (modM f) k μ) Dn := h
  unfold M.bind modM at h
  cases e : f μ with
  | none => rw [e] at h; exact h.elim
  | some p => obtain ⟨⟨⟩, μ'⟩ := p; rw [e] at h; exact ⟨μ', rfl, h⟩
theorem hsub {o i : Expr} {p : Pos} {env : Env} (h : isSlice i = false) : ∀ v, assign (.Subscript o i p) env v = (do
      let ov ← holding [v] (eval o env)
      let iv ← holding [v, ov] (eval i env)
      standAt p
      holding [v, ov, iv] (setItem ov iv v)
      release [v, ov, iv] []) := by
  intro v
  cases i <;> first | rfl | cases h
theorem s_setix (hc : SCtx g nm c X wx) {o i e : Expr} {mo mi m : ME} {p pos : Pos} (hsl : isSlice i = false) (he : PE X e (tE g wx (ev c m))) (ho : PE X o (tE g wx (ev c mo))) (hi : PE X i (tE g wx (ev c mi))) : PS X (.Assign [.Subscript o i p] e pos) (tSt g wx (ex c (.setix mo mi m))) := by
  refine PS.mono (ps_asg (PE.val he) (pg_sub (PE.val ho) (PE.val hi) (set_D (g := g) hc.cx.room) (hsub hsl)) (by cases e <;> rfl) (by cases e <;> rfl) rfl) fun Dn σ H hw => ?_
  obtain ⟨W0, H0, HE, W, ρ, μ, old, st0, sm, en, hp⟩ := hw
  have hp : PostS g wx W0 H0 HE (tryE ρ (ev c m ρ) (fun x => tryE ρ (ev c mo ρ) fun a => tryE ρ (ev c mi ρ) fun b => modM (fun μ => setixD μ a.d b.d x.d) >>= fun _ => (pure (.nx, ρ) : M FE)) μ) Dn := hp
  refine tV_try (f := ev c m) sm en st0 hp fun W1 x H1 r1 μ1 st1 st01 s1 e1 rx hp1 => ?_
  refine tV_try (f := ev c mo) s1 e1 st01 hp1 fun W2 y H2 r2 μ2 st2 st02 s2 e2 ry hp2 => ?_
  refine tV_try (f := ev c mi) s2 e2 st02 hp2 fun W3 z H3 r3 μ3 st3 st03 s3 e3 rz hp3 => ?_
  obtain ⟨μ4, e4, hp4⟩ := postS_mod hp3
  exact ⟨W3, μ3, _, _, _, μ4, s3, ry.leW st3.le, rz, rx.leW (st2.le.trans st3.le), e4, fun H' st s' => hp4 W3 σ H' (st03.trans st) s' (e3.le st.le)⟩
def SOkAll (g : G0) (nm : Nm) (c : Cfg) (N mu : List Str) (n : Nat) : Prop := ∀ (X : Cx) (wx : WX) (sc : Scope) (s : Stmt) (m : MS), SCtx g nm c X wx → X.N = N → X.env.scope = sc → erS nm N mu n sc s = some m → PS X s (tSt g wx (ex c m))
def SsOkAll (g : G0) (nm : Nm) (c : Cfg) (N mu : List Str) (n : Nat) : Prop := ∀ (X : Cx) (wx : WX) (sc : Scope) (s : List Stmt) (m : List MS), SCtx g nm c X wx → X.N = N → X.env.scope = sc → erSs nm N mu n sc s = some m → PSs X s (tSt g wx (exs c m))
theorem er_lc_inv {n : Nat} {sc : Scope} {elt : Expr} {gs : List Comprehension} {scope : Scope} {p : Pos} {m : ME} (h : er nm N (n + 1) sc (.ListComp elt gs scope p) = some m) : ∃ tg iter ifs, gs = [⟨tg, iter, ifs, 0⟩] ∧ (if decide (ifs.length ≤ 1) && !isSetE iter then
      (erI nm N n sc iter).bind fun it => (erTg N (relS scope sc) tg).bind fun tg' =>
        if blkC N sc scope tg'.2 && tg'.2.all (fun q => ownIn scope q.1) && itOk it tg then
          (match ifs with | [] => some [] | [t] => (er nm N n (relS scope sc) t).bind fun t' => some [t'] | _ => none).bind fun ifs' => (er nm N n (relS scope sc) elt).bind fun elt' => some (.lc elt' tg'.1 it ifs')
        else none
      else none) = some m := by
  unfold er at h
  split at h
  all_goals first
    | (rename_i heq; injection heq; done)
    | (rename_i heq; injection heq with e1 e2 e3 e4; subst e1 e2 e3; exact ⟨_, _, _, rfl, h⟩)
    | cases h
theorem tg_notList {sc : Scope} {tg : Expr} {t : MT × List (Str × Nat)} (h : erTg N sc tg = some t) : ∀ ts p, tg ≠ .List ts p := by
  intro ts p z
  subst z
  cases h
theorem tg_each {sc : Scope} {tg : Expr} {t : MT × List (Str × Nat)} (h : erTg N sc tg = some t) (env : Env) : (assignEach [tg] env).map (·.2) = [assign tg env] := by
  unfold erTg at h
  split at h
  · rfl
  · rfl
  · cases h
theorem erS_step (n : Nat) (hS : SsOkAll g nm c N mu n) : SOkAll g nm c N mu (n + 1) := by
  intro X wx sc s m hc hN hsc h
  subst hsc
  have hK := hc.cx.hK
  have E := (er_all (g := g) (nm := nm) (c := c) (N := N) n).1
  have I := (er_all (g := g) (nm := nm) (c := c) (N := N) n).2.2.2.1
  unfold erS at h
  split at h
  · split at h
    · cases h
    rename_i hsl
    obtain ⟨e', he, h⟩ := Option.bind_eq_some_iff.mp h
    obtain ⟨o', ho, h⟩ := Option.bind_eq_some_iff.mp h
    obtain ⟨i', hi, h⟩ := Option.bind_eq_some_iff.mp h
    cases h
    exact s_setix hc (by simpa using hsl) (E X wx _ _ _ hc.cx hN rfl he).pe (E X wx _ _ _ hc.cx hN rfl ho).pe (E X wx _ _ _ hc.cx hN rfl hi).pe
  · rename_i tg e pos _
    split at h
    · cases h
    rename_i htt
    have htt : (isTup tg && isTup e) = false := by simpa using htt
    obtain ⟨e', he, h⟩ := Option.bind_eq_some_iff.mp h
    obtain ⟨t, ht, h⟩ := Option.bind_eq_some_iff.mp h
    obtain ⟨t, qs⟩ := t
    cases h
    have G := (erTg_ok ht hN hc.cx.nd hc.cx.calm rfl fun q _ => .inl (hc.fn _)).1
    have gen : swapsWithSole [tg] e pos.line X.env = pure false → PS X (.Assign [tg] e pos) (tSt g wx (ex c (.asg t e' (mutT mu tg)))) := fun hs =>
      s_asg hK (E X wx _ _ _ hc.cx hN rfl he).pe G hs (swapped_no htt (tg_notList ht)) (tg_each ht X.env)
    by_cases hcomp : isCompE e = true
    · cases e with
      | ListComp elt gs scope p =>
        cases tg with
        | Name y py =>
          have hsw := lcN_swaps (elt := elt) (gs := gs) (scope := scope) (pos := p) (py := py) (y := y) (l := pos.line) hc.kind
          cases hb : (X.env.scope.names.lookup y == some NameKind.local && py.line == p.line && !(scope.names.any fun (n, k) => n == y && (k == .local || k == .cell))) with
          | false => rw [hb] at hsw; exact gen hsw
          | true =>
            rw [hb] at hsw
            rw [Bool.and_eq_true, Bool.and_eq_true] at hb
            cases n with
            | zero => unfold er at he; cases he
            | succ n =>
              obtain ⟨tg, iter, ifs, eg, he⟩ := er_lc_inv he
              subst eg
              obtain ⟨elt', t2, it, ifs', own, em, P⟩ := lc_parts n (er_all n).1 (er_all n).2.2.2.1 hc.cx hN rfl he
              subst em
              obtain ⟨q, hq, eq⟩ := Option.map_eq_some_iff.mp (show (erT1 N X.env.scope (.Name y py)).map (fun q => (MT.name q.2, [q])) = some (t, qs) from ht)
              cases eq
              obtain ⟨p', e1, h1, h2⟩ := erT1_ok hq
              cases e1
              exact s_setLc hc (hN ▸ h1) (eq_of_beq hb.1.1) hsw P
        | _ => exact gen rfl
      | _ => cases n with
        | zero => unfold er at he; cases he
        | succ n =>
          unfold er at he
          first | cases he | cases hcomp
    · exact gen (comp_no (by simpa using hcomp))
  · rename_i x p op e pos
    split at h
    · rename_i hop
      obtain ⟨q, hq, h⟩ := Option.bind_eq_some_iff.mp h
      obtain ⟨e', he, h⟩ := Option.bind_eq_some_iff.mp h
      cases h
      obtain ⟨p', e1, h1, h2⟩ := erT1_ok hq
      cases e1
      refine s_aug hc ?_ (hN ▸ h1) h2 (E X wx _ _ _ hc.cx hN rfl he).pe
      rw [Bool.or_eq_true] at hop
      rcases hop with q | q
      · exact .inl (eq_of_beq q)
      · exact .inr (eq_of_beq q)
    · cases h
  · cases h; exact s_doc
  · split at h
    · cases h
    rename_i hcomp
    obtain ⟨e', he, h⟩ := Option.bind_eq_some_iff.mp h
    cases h
    exact s_expr (E X wx _ _ _ hc.cx hN rfl he).pe (comp_no (by simpa using hcomp))
  · cases h; exact s_ret0
  · obtain ⟨e', he, h⟩ := Option.bind_eq_some_iff.mp h
    cases h
    exact s_ret (E X wx _ _ _ hc.cx hN rfl he).pe
  · obtain ⟨t', ht, h⟩ := Option.bind_eq_some_iff.mp h
    obtain ⟨a', ha, h⟩ := Option.bind_eq_some_iff.mp h
    obtain ⟨b', hb, h⟩ := Option.bind_eq_some_iff.mp h
    cases h
    exact s_if (E X wx _ _ _ hc.cx hN rfl ht).pt (hS X wx _ _ _ hc hN rfl ha) (hS X wx _ _ _ hc hN rfl hb)
  · obtain ⟨t', ht, h⟩ := Option.bind_eq_some_iff.mp h
    obtain ⟨b', hb, h⟩ := Option.bind_eq_some_iff.mp h
    cases h
    exact s_while hc.pass (E X wx _ _ _ hc.cx hN rfl ht).pt (hS X wx _ _ _ hc hN rfl hb)
  · split at h
    · cases h
    rename_i hset
    obtain ⟨t, ht, h⟩ := Option.bind_eq_some_iff.mp h
    obtain ⟨i', hi, h⟩ := Option.bind_eq_some_iff.mp h
    split at h
    · rename_i hok
      obtain ⟨b', hb, h⟩ := Option.bind_eq_some_iff.mp h
      cases h
      obtain ⟨t, qs⟩ := t
      exact s_for hK hc.pass hc.cx.calm (I X wx _ _ _ _ hc.cx hN rfl hi hok) (erTg_ok ht hN hc.cx.nd hc.cx.calm rfl fun q _ => .inl (hc.fn _)).1 (hS X wx _ _ _ hc hN rfl hb) (set_fold (by simpa using hset))
    · cases h
  · cases h; exact s_pass
  · cases h; exact s_brk
  · cases h; exact s_cont
  · cases h
theorem erS_all : ∀ n, SOkAll g nm c N mu n ∧ SsOkAll g nm c N mu n
  | 0 => ⟨fun _ _ _ _ _ _ _ _ h => (by unfold erS at h; cases h), fun _ _ _ _ _ _ _ _ h => (by unfold erSs at h; cases h)⟩
  | n + 1 => by
    obtain ⟨h1, h2⟩ := erS_all n
    refine ⟨erS_step n h2, fun X wx sc s m hc hN hsc h => ?_⟩
    cases s with
    | nil => unfold erSs at h; cases h; exact ss_nil
    | cons s0 ss0 =>
      unfold erSs at h
      obtain ⟨s', hs, h⟩ := Option.bind_eq_some_iff.mp h
      obtain ⟨ss', hss, h⟩ := Option.bind_eq_some_iff.mp h
      cases h
      exact ss_cons (h1 X wx sc _ _ hc hN hsc hs) (h2 X wx sc _ _ hc hN hsc hss)
end
end RL

set_option Elab.async false
set_option linter.all false
set_option maxRecDepth 100000
set_option autoImplicit false
set_option maxHeartbeats 4000000
namespace RL
open PySem PySem.Spec PyProof.Rows L2

/-! ### the defs of a program -/
structure FnFact (K : PySem.W.Frag) (g : G0) (nm : Nm) (a : Addr) (fd : FuncData) (F : FD) : Prop where
  text : ∃ (name qual : Str) (params : Arguments) (body : List Stmt) (scope : Scope) (dV kV doc pm cdv ct oc : Value) (an od : Option Addr) (osl : Array (Option Value)) (mu : List Str) (n : Nat),
    K.lookup a = some ⟨oc, od, .func (PySem.W.fnOf name qual params body scope dV kV doc pm an cdv ct), osl⟩ ∧ fd = PySem.W.fnOf name qual params body scope dV kV doc pm an cdv ct ∧ PySem.W.codeIn K cdv qual = true ∧ FnScope F.ns F.ps scope ∧ erSs nm F.ns mu n scope body = some F.body
  le : F.ps.length ≤ F.ns.length
  bind : ∀ n, n ≤ F.ps.length → F.ps.length ≤ n + F.dflt.length → ∃ ds dvs, Binds K fd F.ps ds ∧ n + ds.length = F.ps.length ∧ Vals dvs ds ∧ ∀ W, Reps g W (F.dflt.drop (F.dflt.length - (F.ps.length - n))) dvs
structure Tab (P : Program) (w : World) (K : PySem.W.Frag) (mg : Str → Option Value) (base : Heap) (g : G0) (nm : Nm) (Pr : Pg) (ad : Nat → Addr × FuncData) : Prop where
  hK : K = g.K
  cst : ∀ x d, nm.gn x = .const d → ∃ u v, mg x = some u ∧ RelV v u ∧ ∀ W, Rep g W d v
  bi : ∀ x, nm.gn x = .none → mg x = none
  nms : ∀ x f, nm.gn x = .fn f → ∃ F, Pr.fn f = some F ∧ mg x = some (.ref (ad f).1) ∧ PySem.W.keepIn K (.ref (ad f).1) = true
  kws : ∀ f ks perm, nm.kw f ks = some perm → ∃ F, Pr.fn f = some F ∧ KB K (ad f).2 F.ps ks perm
  fns : ∀ f F, Pr.fn f = some F → FnFact K g nm (ad f).1 (ad f).2 F
def cfgOf (Pr : Pg) (n : Nat) : Cfg := ⟨Pr.fuel, runF Pr n, fun _ _ => stuck, Pr.meth, Pr.fld⟩
theorem runF_succ (Pr : Pg) (n f : Nat) (xs : List D) (μ : List Cell) (F : FD) (hF : Pr.fn f = some F) : runF Pr (n + 1) f xs μ = (if (xs ++ F.dflt.drop (F.dflt.length - (F.ps.length - xs.length))).length = F.ps.length then
    match exs (cfgOf Pr n) F.body (start0 F (xs ++ F.dflt.drop (F.dflt.length - (F.ps.length - xs.length)))) μ with
      | .ok (.ret r, _) μ1 => finish μ r μ1
      | .ok (.nx, _) μ1 => finish μ (.v .non) μ1
      | .ok (.exc C vs, _) μ1 => .exc C vs μ1
      | .ok _ _ => .stuck
      | .exc _ _ _ => .stuck
      | .stuck => .stuck
    else .stuck) := by
  conv => lhs; unfold runF
  simp only [hF]
  rfl
theorem env_start {g : G0} {W : Wd} {F : FD} {xs : List D} {vs : List V} (r : Reps g W xs vs) (hl : xs.length ≤ F.ns.length) : EnvR g W (start0 F xs) (L2.start F.ns vs) := by
  have h := r.len
  refine ⟨by unfold start0 L2.start; simp; omega, fun i d e => ?_⟩
  unfold start0 at e
  unfold L2.start
  by_cases hi : i < xs.length
  · rw [List.getElem?_append_left (by simpa using hi), List.getElem?_map] at e
    obtain ⟨d', hd, e⟩ := Option.map_eq_some_iff.mp e
    cases e
    obtain ⟨v, hv, rv⟩ := r.get hd
    exact ⟨v, by rw [List.getElem?_append_left (by simpa using (show i < vs.length by omega)), List.getElem?_map, hv]; rfl, rv⟩
  · rw [List.getElem?_append_right (by simpa using hi)] at e
    rw [List.getElem?_replicate] at e
    split at e <;> cases e
section
variable {P : Program} {w : World} {K : PySem.W.Frag} {mg : Str → Option Value} {base : Heap} {g : G0} {nm : Nm} {Pr : Pg} {ad : Nat → Addr × FuncData}
theorem ctx_of (T : Tab P w K mg base g nm Pr ad) {n : Nat} (ih : ∀ f F, Pr.fn f = some F → FnG P w K mg base n (ad f).1 (ad f).2 F.ps (spD g (runF Pr n f))) {X : Cx} {wx : WX} (h1 : X.prog = P) (h2 : X.w = w) (h3 : X.K = K) (h4 : X.mg = mg) (h5 : X.base = base)
    (nd : X.N.Nodup) (calm : X.calm = true) (tk : Takes X wx) (room : Room n X.A) (gd : X.A.guards = some []) : Ctx g nm (cfgOf Pr n) X wx := by
  subst h1 h2 h3 h4 h5
  refine ⟨T.hK, nd, calm, tk, by have := room.un; omega, gd, T.cst, T.bi, fun x f hx => ?_, fun x f ks perm hx hkw => ?_⟩
  rotate_left
  · obtain ⟨F, hF, hm, hk⟩ := T.nms x f hx
    obtain ⟨F', hF', hb⟩ := T.kws f ks perm hkw
    rw [hF] at hF'; cases hF'
    exact ⟨(ad f).1, (ad f).2, F.ps, n, runF Pr n f, hm, hk, ih f F hF, room, hb, fun xs _ => rfl⟩
  obtain ⟨F, hF, hm, hk⟩ := T.nms x f hx
  refine ⟨(ad f).1, (ad f).2, F.ps, n, runF Pr n f, hm, hk, ih f F hF, room, fun m => ?_⟩
  have stk : ∀ xs : List D, (xs ++ F.dflt.drop (F.dflt.length - (F.ps.length - xs.length))).length ≠ F.ps.length → ∀ μ, runF Pr n f xs μ = .stuck := fun xs hne μ => by
    cases n with
    | zero => rfl
    | succ n => rw [runF_succ Pr n f xs μ F hF, if_neg hne]
  by_cases hm1 : m ≤ F.ps.length
  · by_cases hm2 : F.ps.length ≤ m + F.dflt.length
    · right
      obtain ⟨ds, dvs, hb, hl, hv, hr⟩ := (T.fns f F hF).bind m hm1 hm2
      refine ⟨ds, dvs, _, hb, hl, hv, hr, fun xs hx => ?_⟩
      funext μ
      show runF Pr n f xs μ = runF Pr n f (xs ++ _) μ
      have hdl : (F.dflt.drop (F.dflt.length - (F.ps.length - m))).length = F.ps.length - m := by rw [List.length_drop]; omega
      cases n with
      | zero => rfl
      | succ n =>
        rw [runF_succ Pr n f xs μ F hF, runF_succ Pr n f (xs ++ _) μ F hF, hx]
        have e0 : (xs ++ F.dflt.drop (F.dflt.length - (F.ps.length - m))).length = F.ps.length := by rw [List.length_append, hdl, hx]; omega
        rw [e0, Nat.sub_self, Nat.sub_zero, List.drop_length, List.append_nil, e0]
    · left
      intro xs hx
      refine stk xs ?_
      rw [List.length_append, List.length_drop, hx]; omega
  · left
    intro xs hx
    refine stk xs ?_
    rw [List.length_append, List.length_drop, hx]; omega
theorem fn_all (T : Tab P w K mg base g nm Pr ad) : ∀ n f F, Pr.fn f = some F → FnG P w K mg base n (ad f).1 (ad f).2 F.ps (spD g (runF Pr n f))
  | 0, f, F, _ => ⟨fun A outer s H args us vs Q E _ _ _ _ _ _ hsp => by
      obtain ⟨W, μ, xs, _, _, h⟩ := hsp
      exact h.elim⟩
  | n + 1, f, F, hF => by
    have ih := fn_all T n
    obtain ⟨⟨name, qual, params, body, scope, dV, kV, doc, pm, cdv, ct, oc, an, od, osl, mu, k, lk, efd, hcd, S, he⟩, hle, _⟩ := T.fns f F hF
    rw [efd]
    refine fn_ofG (N := F.ns) lk hcd S fun A outer s H vs Q E hr hg hl hsp => ?_
    obtain ⟨W, μ, xs, sm, rr, hp⟩ := hsp
    have hx : xs.length = F.ps.length := by rw [rr.len]; exact hl
    have hxs : xs ++ F.dflt.drop (F.dflt.length - (F.ps.length - xs.length)) = xs := by
      rw [hx, Nat.sub_self, Nat.sub_zero, List.drop_length, List.append_nil]
    rw [runF_succ Pr n f xs μ F hF, hxs, if_pos hx] at hp
    refine ⟨tSt g (fun cls d _ H => E cls d H) (exs (cfgOf Pr n) F.body), ?_, W, H, H, W, start0 F xs, μ, fun _ h => h, .refl W H, sm, env_start rr (by omega), ?_⟩
    · refine (erS_all k).2 _ _ scope body F.body ⟨ctx_of T ih rfl rfl rfl rfl rfl S.nd rfl (takes_of rfl rfl rfl rfl) hr hg, fun _ => rfl, S.kind, passes_of rfl⟩ rfl rfl he
    · cases hb : exs (cfgOf Pr n) F.body (start0 F xs) μ with
      | stuck => rw [hb] at hp; exact hp.elim
      | exc C vs μ1 =>
        rw [hb] at hp; exact hp.elim
      | ok p μ1 =>
        rw [hb] at hp
        obtain ⟨fl, ρ'⟩ := p
        cases fl with
        | nx => exact fun W' σ' H' st s' en => finish_ok (E := E) sm st s' (show RepR g H W' H' (.v .non) .non from rfl) hp
        | ret r => exact fun W' v H' st s' rr => finish_ok (E := E) sm st s' rr hp
        | exc C vs => exact fun W' σ' H' dd st s' _ x => hp W' H' dd st s' x
        | brk => exact hp.elim
        | cont => exact hp.elim
end
end RL

set_option Elab.async false
set_option linter.all false
set_option maxRecDepth 100000
set_option autoImplicit false
set_option maxHeartbeats 4000000
namespace RL
open PySem PySem.Spec PyProof.Rows L2
/-! ### the law's end -/
/-- the world of the call: the script alone -/
theorem start_sim {g : G0} {H : Hp} {a : Addr} {ns : List Int} (hO : Only H) (hS : SqL g.K H a (ns.map V.int)) : ∃ W, Sim g W [] H ∧ Rep g W (.kl ns) (.ref a) := by
  rcases hS with h | h
  · refine ⟨⟨upd (fun _ => none) a (.lst (ns.map V.int)), []⟩, ⟨fun b u e => ?_, fun b u e hd => ?_, fun b u e hh => ?_, fun n c e => by simp at e, rfl, List.nodup_nil, fun b hb => by cases hb⟩, a, rfl, .inl (show upd (fun _ => none) a (HO.lst (ns.map V.int)) a = _ from upd_same)⟩
    all_goals
      have e : upd (fun _ => none) a (HO.lst (ns.map V.int)) b = some u := e
      by_cases hb : b = a
      · subst hb
        rw [upd_same] at e
        cases e
        first | exact h | cases hd | cases hh
      · rw [upd_ne hb] at e; cases e
  · have no : ∀ (b : Addr) (u : HO), (⟨fun _ => none, []⟩ : Wd).F b = some u → False := fun b u e => by cases e
    exact ⟨⟨fun _ => none, []⟩, ⟨fun b u e => (no b u e).elim, fun b u e => (no b u e).elim, fun b u e => (no b u e).elim, fun n c e => by simp at e, rfl, List.nodup_nil, fun b hb => by cases hb⟩, a, rfl, .inr h⟩
/-- what is told of the law's def in the program's table -/
structure LawFact (P : Program) (w : World) (K : PySem.W.Frag) (mg : Str → Option Value) (fa : Addr) (x : Str) (Pr : Pg) (n : Nat) (f : Nat) : Prop where
  ex : ∃ (g : G0) (nm : Nm) (ad : Nat → Addr × FuncData) (F : FD), g.K = K ∧ Pr.fn f = some F ∧ (ad f).1 = fa ∧ F.ps = [x] ∧ (∀ (s : Shared) (u : Value), BindsTo s (ad f).2 ⟨[u], []⟩ [(x, u)]) ∧ ∀ base : Heap, K.In base → base.Ns mainGlobals mg → Tab P w K mg base g nm Pr ad
/-- the law is True for every script -/
def LawTrue (Pr : Pg) (n f m : Nat) : Prop := ∀ ns : List Int, ns.length ≤ m → ∃ μ, runF Pr n f [.kl ns] [] = .ok (.v (.bl true)) μ
theorem law_callG {P : Program} {w : World} {K : PySem.W.Frag} {mg mb : Str → Option Value} {n f m : Nat} {fa a : Addr} {x : Str} {s₁ : Shared} {vs : List Value} {ns : List Int} {Pr : Pg}
    (KX : K.In s₁.heap) (hns : s₁.heap.Ns mainGlobals mg) (hb : s₁.heap.Ns builtinsNs mb) (hbb : ∀ x : Str, x ≠ "__name__" → mb x = bootBuiltins x) (hlim : s₁.heap.NoLimit) (hg : s₁.gens = #[])
    (ha : s₁.heap.get? a = some { cls := .type "list", data := .seq vs.toArray }) (hi : IntsAre vs ns) (hl : ns.length ≤ sizeLine) (hr : Room n callerA) (L : LawFact P w K mg fa x Pr n f) (hm : ns.length ≤ m) (ht : LawTrue Pr n f m) :
    codeAny (model P w) callerA (.call (.ref fa) ⟨[.ref a], []⟩) (fun r s' => r = .ok (.ret (.bool true)) ∧ OldK s₁.heap s'.heap ∧ s'.os = s₁.os ∧ AllBare s'.gens) s₁ := by
  obtain ⟨g, nm, ad, F, hgK, hF, had, hps, hbind, T⟩ := L.ex
  subst hgK
  have rv := vals_ints hi
  have lenV := hi.length
  -- the call over a heap in which the script alone may be tracked
  have main : ∀ (H : Hp) (base : Heap), Only H → SqL g.K H a (ns.map V.int) → g.K.In base → base.Ns mainGlobals mg → Env0 P w g.K mg base callerA [] s₁ H → HOk P w H s₁.heap →
      codeAny (model P w) callerA (.call (.ref fa) ⟨[.ref a], []⟩) (fun r s' => r = .ok (.ret (.bool true)) ∧ OldK s₁.heap s'.heap ∧ s'.os = s₁.os ∧ AllBare s'.gens) s₁ := fun H base hO hS hK hN e0 hok => by
    obtain ⟨W, sm, ra⟩ := start_sim hO hS
    obtain ⟨μ, hrun⟩ := ht ns hm
    have FG := fn_all (T base hK hN) n f F hF
    rw [had] at FG
    have sp : spD g (runF Pr n f) [.ref a] H (fun v _ => v = .bl true) (fun _ _ _ => False) := ⟨W, [], [.kl ns], sm, Reps.cons ra .nil, by rw [hrun]; exact fun W' v H' _ _ rr => rr⟩
    refine codeAny_mono (FG.run callerA [] s₁ H ⟨[.ref a], []⟩ [.ref a] [.ref a] _ _ hr rfl e0 (by rw [hps]; rfl) (by rw [hps]; exact hbind s₁ (.ref a)) (.cons rfl .nil) sp) fun r s' h => ?_
    cases r with
    | error e =>
      obtain ⟨_, _, _, _, _, _, _, _, _, _, _, _, z⟩ := (show L2.CX P w [] H s₁ (fun _ _ _ => False) e s' from h)
      exact z.elim
    | ok fl =>
      cases fl with
      | ret u =>
        obtain ⟨v, H', os, bare, un, hok', r', q⟩ := h
        have q : v = .bl true := q
        subst q
        have r' : u = Value.bool true := r'
        subst r'
        refine ⟨rfl, OldK.of_keep fun b o e => ?_, os, bare⟩
        rcases hO b with z | ⟨ob, xs, z⟩
        · exact un.keep b o e z (by simp [frs]) (by simp)
        · have z2 := un.frzs b ob _ z
          have e1 := (hok b _ z).1
          have e2 := (hok' b _ z2).1
          rw [e1] at e; cases e
          exact e2
      | next => exact h.elim
      | brk => exact h.elim
      | cont => exact h.elim
  have env : ∀ H : Hp, (∀ b, H b ≠ none → b = a ∧ g.K.lookup a = none) → HOk P w H s₁.heap → g.K.In (hidT s₁.heap H) ∧ (hidT s₁.heap H).Ns mainGlobals mg ∧ Env0 P w g.K mg (hidT s₁.heap H) callerA [] s₁ H := fun H hA hok => by
    have out : ∀ b, b ≠ a → H b = none := fun b hb => by
      cases q : H b with
      | none => rfl
      | some u => exact absurd (hA b (by rw [q]; exact nofun)).1 hb
    have dict : ∀ {b : Addr} {m : Str → Option Value}, s₁.heap.Ns b m → (hidT s₁.heap H).Ns b m := fun {b m} h => by
      obtain ⟨o, es, ep, e, d, r⟩ := h
      have hb : b ≠ a := fun z => by
        subst z
        rw [ha] at e
        cases e
        cases d
      exact ⟨o, es, ep, hidT_get e (out b hb), d, r⟩
    have kin : g.K.In (hidT s₁.heap H) := fun b o e => by
      refine hidT_get (KX b o e) ?_
      cases q : H b with
      | none => rfl
      | some u =>
        obtain ⟨h1, h2⟩ := hA b (by rw [q]; exact nofun)
        subst h1
        rw [h2] at e; cases e
    obtain ⟨mc, c1, c2⟩ := id hlim
    exact ⟨kin, dict hns, rfl, ⟨kin, dict hns, ⟨mb, dict hb, hbb⟩, ⟨mc, dict c1, c2⟩⟩, fun b o e => of_hidT e, Nat.le_of_eq (hidT_size _ _), trivial, fun b hb => by simp [frs] at hb, hok, .of_eq hg⟩
  cases hk : g.K.lookup a with
  | some o =>
    have e := KX a o hk
    rw [ha] at e
    cases e
    have hok : HOk P w (fun _ => none) s₁.heap := fun b u z => by cases z
    obtain ⟨k1, k2, k3⟩ := env (fun _ => none) (fun b z => absurd rfl z) hok
    exact main _ _ (fun _ => .inl rfl) (.inr ⟨_, vs.toArray, _, hk, rfl, rfl, rfl, by rw [List.size_toArray, lenV]; exact hl, by simpa using rv⟩) k1 k2 k3 hok
  | none =>
    let H : Hp := upd (fun _ => none) a (.frz { cls := .type "list", data := .seq vs.toArray } (.lst (ns.map V.int)))
    have at_ : ∀ b u, H b = some u → b = a ∧ u = .frz { cls := .type "list", data := .seq vs.toArray } (.lst (ns.map V.int)) := fun b u z => by
      have z : upd (fun _ => none) a _ b = some u := z
      by_cases hb : b = a
      · subst hb
        rw [upd_same] at z
        exact ⟨rfl, (Option.some.inj z).symm⟩
      · rw [upd_ne hb] at z; cases z
    have hok : HOk P w H s₁.heap := fun b u z => by
      obtain ⟨h1, h2⟩ := at_ b u z
      subst h1 h2
      exact ⟨ha, by rw [List.length_map]; exact hl, vs, _, rv, ha⟩
    have hO : Only H := fun b => by
      cases q : H b with
      | none => exact .inl rfl
      | some u => exact .inr ⟨_, _, by rw [(at_ b u q).2]⟩
    obtain ⟨k1, k2, k3⟩ := env H (fun b z => by
      cases q : H b with
      | none => exact absurd q z
      | some u => exact ⟨(at_ b u q).1, hk⟩) hok
    exact main H _ hO (.inl (.inr ⟨_, upd_same⟩)) k1 k2 k3 hok
theorem walk_ofG {l : PySem.W.OpenLaw} {n k f : Nat} {q : Program} {loose : List Str} {XP : (Str → Option Value) → Heap → Prop} {YP : World → Heap → Prop} {d : DefRec} {K : Params → PySem.W.Frag} {x : Str} {Pr : Pg}
    (hn : l.most = some n) (hn2 : n ≤ sizeLine) (hdf : d.params.defaults = []) (hr : Room k callerA) (hY : ∀ (w : World) (h : Heap), YP w h → (K w.params).In h)
    (F : ∀ (w : World) (mg : Str → Option Value) (fa : Addr) (h : Heap), (K w.params).In h → h.Ns mainGlobals mg → mg d.name = some (.ref fa) → LawFact l.prog w (K w.params) mg fa x Pr k f) (ht : LawTrue Pr k f n) :
    PySem.W.WalkO q loose XP YP l.row.toRowW d [] (fun f vs => PySem.call f vs) := by
  refine Att.attach_call hn hdf fun w s₀ s₁ mg mb fa o pm cd doc a vs ns G Y ho hd hcd hmg hobj hints hlen hg => ?_
  have KX := hY w _ Y
  exact law_callG KX G.T.g G.T.b G.T.builtins G.T.nolimit hg hobj hints (Nat.le_trans hlen hn2) hr (F w mg fa _ KX G.T.g hmg) hlen ht
theorem fact_mk {K : PySem.W.Frag} {g : G0} {nm : Nm} {a : Addr} {name qual : Str} {st : Stmt} {F : FD} {oc kV doc pm cd ct : Value} {od an : Option Addr} {sl : Array (Option Value)} {mu : List Str} {n : Nat} (hd : F.dflt = [])
    (l : K.lookup a = some ⟨oc, od, .func (PySem.W.fnOf name qual (defArgs st) (defBody st) (defScope st) .none kV doc pm an cd ct), sl⟩) (c : PySem.W.codeIn K cd qual = true) (S : FnScope F.ns F.ps (defScope st)) (e : erSs nm F.ns mu n (defScope st) (defBody st) = some F.body) (hle : F.ps.length ≤ F.ns.length)
    (hb : ∀ us : List Value, us.length = F.ps.length → bindArgs (PySem.W.fnOf name qual (defArgs st) (defBody st) (defScope st) .none kV doc pm an cd ct) ⟨us, []⟩ = pure (F.ps.zip us)) :
    FnFact K g nm a (PySem.W.fnOf name qual (defArgs st) (defBody st) (defScope st) .none kV doc pm an cd ct) F := by
  refine ⟨⟨name, qual, defArgs st, defBody st, defScope st, .none, kV, doc, pm, cd, ct, oc, an, od, sl, mu, n, l, rfl, c, S, e⟩, hle, fun m h1 h2 => ?_⟩
  rw [hd] at h2
  have hm : m = F.ps.length := by simp at h2; omega
  refine ⟨[], [], Binds.all hb, by simp [hm], .nil, fun W => ?_⟩
  rw [hd, List.drop_nil]
  exact Reps.nil
/-- names by a table -/
def gnT (tab : List (Str × GN)) (x : Str) : GN := (tab.lookup x).getD .other
theorem gnT_mem {tab : List (Str × GN)} {x : Str} {r : GN} (h : gnT tab x = r) (hr : r ≠ .other) : (x, r) ∈ tab := by
  unfold gnT at h
  induction tab with
  | nil => exact absurd h.symm hr
  | cons p t ih =>
    obtain ⟨y, q⟩ := p
    rw [List.lookup_cons] at h
    cases hb : (x == y) with
    | true =>
      rw [hb] at h
      have e : x = y := eq_of_beq hb
      subst e
      have h : q = r := h
      subst h
      exact List.mem_cons_self
    | false =>
      rw [hb] at h
      exact List.mem_cons_of_mem _ (ih h)
end RL

set_option Elab.async false
set_option linter.all false
set_option maxRecDepth 100000
set_option autoImplicit false
namespace RL
open PySem L2
abbrev EnvD' := List (Option D)
abbrev XE := Nat → List D → List Cell → Prop
def wpR {α : Type} (r : R α) (Q : α → List Cell → Prop) (E : XE) : Prop := match r with
  | .stuck => False
  | .ok a μ' => Q a μ'
  | .exc C vs μ' => E C vs μ'
def wp {α : Type} (m : M α) (μ : List Cell) (Q : α → List Cell → Prop) (E : XE) : Prop := wpR (m μ) Q E
abbrev NoE : XE := fun _ _ _ => False
section
variable {α β : Type} {μ : List Cell} {E : XE}
theorem wp_pure (a : α) (Q : α → List Cell → Prop) : wp (pure a) μ Q E = Q a μ := rfl
theorem wp_bind (m : M α) (f : α → M β) (Q : β → List Cell → Prop) : wp (m >>= f) μ Q E = wp m μ (fun a μ' => wp (f a) μ' Q E) E := by
  show wpR (M.bind m f μ) Q E = wpR (m μ) (fun a μ' => wp (f a) μ' Q E) E
  unfold M.bind
  cases m μ <;> rfl
theorem wp_stuck (Q : α → List Cell → Prop) : wp stuck μ Q E = False := rfl
theorem wp_ofO (a : α) (Q : α → List Cell → Prop) : wp (ofO (some a)) μ Q E = Q a μ := rfl
theorem wp_ofN (Q : α → List Cell → Prop) : wp (ofO none) μ Q E = False := rfl
def oQ {γ : Type} (o : Option γ) (Q : γ → Prop) : Prop := match o with | some a => Q a | none => False
theorem oQ_some {γ : Type} (a : γ) (Q : γ → Prop) : oQ (some a) Q = Q a := rfl
theorem oQ_none {γ : Type} (Q : γ → Prop) : oQ (none : Option γ) Q = False := rfl
theorem oQ_of {γ : Type} {o : Option γ} {a : γ} (h : o = some a) (Q : γ → Prop) : oQ o Q = Q a := by rw [h]; rfl
theorem wp_getM (f : List Cell → Option α) (Q : α → List Cell → Prop) : wp (getM f) μ Q E = oQ (f μ) fun a => Q a μ := by
  unfold wp getM
  cases f μ <;> rfl
theorem wp_modM (f : List Cell → Option (α × List Cell)) (Q : α → List Cell → Prop) : wp (modM f) μ Q E = oQ (f μ) fun p => Q p.1 p.2 := by
  unfold wp modM
  cases f μ <;> rfl
theorem wp_tryE (ρ : EnvD') (m : M α) (k : α → M (Flow × EnvD')) (Q : Flow × EnvD' → List Cell → Prop) : wp (tryE ρ m k) μ Q E = wp m μ (fun a μ' => wp (k a) μ' Q E) (fun C vs μ' => Q (.exc C vs, ρ) μ') := by
  unfold wp tryE
  cases m μ <;> rfl
theorem wp_iteB (b : Bool) (m m' : M α) (Q : α → List Cell → Prop) : wp (if b = true then m else m') μ Q E = (if b = true then wp m μ Q E else wp m' μ Q E) := by cases b <;> rfl
theorem wp_ite (p : Prop) [Decidable p] (m m' : M α) (Q : α → List Cell → Prop) : wp (if p then m else m') μ Q E = (if p then wp m μ Q E else wp m' μ Q E) := by split <;> rfl
theorem wp_mono {m : M α} {Q Q' : α → List Cell → Prop} {E' : XE} (h : wp m μ Q E) (hq : ∀ a μ', Q a μ' → Q' a μ') (he : ∀ C vs μ', E C vs μ' → E' C vs μ') : wp m μ Q' E' := by
  unfold wp at *
  cases e : m μ with
  | stuck => rw [e] at h; exact h
  | ok a μ' => rw [e] at h; exact hq a μ' h
  | exc C vs μ' => rw [e] at h; exact he C vs μ' h
theorem wp_call {m : M α} {Q Q' : α → List Cell → Prop} (h : wp m μ Q NoE) (hq : ∀ a μ', Q a μ' → Q' a μ') : wp m μ Q' E := wp_mono h hq fun _ _ _ z => z.elim
theorem wp_of_eq {m : M α} {a : α} {μ' : List Cell} (h : m μ = .ok a μ') (Q : α → List Cell → Prop) : wp m μ Q E = Q a μ' := by unfold wp; rw [h]; rfl
theorem eq_of_wp {m : M α} {a : α} {μ' : List Cell} (h : wp m μ (fun b μ1 => b = a ∧ μ1 = μ') NoE) : m μ = .ok a μ' := by
  unfold wp at h
  cases e : m μ with
  | stuck => rw [e] at h; exact h.elim
  | ok b μ1 => rw [e] at h; obtain ⟨h1, h2⟩ := h; subst h1 h2; rfl
  | exc C vs μ1 => rw [e] at h; exact h.elim
end
/-! ### statements, one after the other -/
section
variable {c : Cfg} {μ : List Cell} {E : XE} {ρ : EnvD'}
theorem wp_exs_nil (Q : Flow × EnvD' → List Cell → Prop) : wp (exs c [] ρ) μ Q E = Q (.nx, ρ) μ := rfl
def nxQ (Q : Flow × EnvD' → List Cell → Prop) (k : EnvD' → List Cell → Prop) : Flow × EnvD' → List Cell → Prop := fun p μ => match p.1 with
  | .nx => k p.2 μ
  | f => Q (f, p.2) μ
theorem nxQ_nx (Q : Flow × EnvD' → List Cell → Prop) (k : EnvD' → List Cell → Prop) : nxQ Q k (.nx, ρ) μ = k ρ μ := rfl
theorem nxQ_ret (Q : Flow × EnvD' → List Cell → Prop) (k : EnvD' → List Cell → Prop) (r : ER) : nxQ Q k (.ret r, ρ) μ = Q (.ret r, ρ) μ := rfl
theorem nxQ_brk (Q : Flow × EnvD' → List Cell → Prop) (k : EnvD' → List Cell → Prop) : nxQ Q k (.brk, ρ) μ = Q (.brk, ρ) μ := rfl
theorem nxQ_cont (Q : Flow × EnvD' → List Cell → Prop) (k : EnvD' → List Cell → Prop) : nxQ Q k (.cont, ρ) μ = Q (.cont, ρ) μ := rfl
theorem nxQ_exc (Q : Flow × EnvD' → List Cell → Prop) (k : EnvD' → List Cell → Prop) (C : Nat) (vs : List D) : nxQ Q k (.exc C vs, ρ) μ = Q (.exc C vs, ρ) μ := rfl
theorem wp_exs_cons (s : MS) (ss : List MS) (Q : Flow × EnvD' → List Cell → Prop) : wp (exs c (s :: ss) ρ) μ Q E = wp (ex c s ρ) μ (nxQ Q fun ρ' μ' => wp (exs c ss ρ') μ' Q E) E := by
  have e : exs c (s :: ss) ρ = (ex c s ρ >>= nextF (fun ρ' => exs c ss ρ')) := by
    conv => lhs; unfold exs
  rw [e, wp_bind]
  congr 1
  funext p μ'
  obtain ⟨f, ρ'⟩ := p
  cases f <;> rfl
def turnQ (Q : Flow × EnvD' → List Cell → Prop) (k : EnvD' → List Cell → Prop) : Flow × EnvD' → List Cell → Prop := fun p μ => match p.1 with
  | .nx => k p.2 μ
  | .cont => k p.2 μ
  | .brk => Q (.nx, p.2) μ
  | f => Q (f, p.2) μ
theorem turnQ_nx (Q : Flow × EnvD' → List Cell → Prop) (k : EnvD' → List Cell → Prop) : turnQ Q k (.nx, ρ) μ = k ρ μ := rfl
theorem turnQ_ret (Q : Flow × EnvD' → List Cell → Prop) (k : EnvD' → List Cell → Prop) (r : ER) : turnQ Q k (.ret r, ρ) μ = Q (.ret r, ρ) μ := rfl
theorem turnQ_brk (Q : Flow × EnvD' → List Cell → Prop) (k : EnvD' → List Cell → Prop) : turnQ Q k (.brk, ρ) μ = Q (.nx, ρ) μ := rfl
theorem turnQ_cont (Q : Flow × EnvD' → List Cell → Prop) (k : EnvD' → List Cell → Prop) : turnQ Q k (.cont, ρ) μ = k ρ μ := rfl
theorem turnQ_exc (Q : Flow × EnvD' → List Cell → Prop) (k : EnvD' → List Cell → Prop) (C : Nat) (vs : List D) : turnQ Q k (.exc C vs, ρ) μ = Q (.exc C vs, ρ) μ := rfl
theorem wp_turn {m : M (Flow × EnvD')} {k : EnvD' → M (Flow × EnvD')} (Q : Flow × EnvD' → List Cell → Prop) : wp (m >>= turnF k) μ Q E = wp m μ (turnQ Q fun ρ' μ' => wp (k ρ') μ' Q E) E := by
  rw [wp_bind]
  congr 1
  funext p μ'
  obtain ⟨f, ρ'⟩ := p
  cases f <;> rfl
/-- a walk: I done rest slots cells -/
theorem wp_for {α : Type} (e : α → D) {w : List (Nat × Cell)} {t : MT} {body : EnvD' → M (Flow × EnvD')} {Q : Flow × EnvD' → List Cell → Prop} (I : List α → List α → EnvD' → List Cell → Prop)
    (step : ∀ done x rest ρ μ, I done (x :: rest) ρ μ → still w μ = true ∧ ∃ ρ', assignT ρ t (e x) = some ρ' ∧ wp (body ρ') μ (turnQ Q (I (done ++ [x]) rest)) E)
    (fin : ∀ done ρ μ, I done [] ρ μ → still w μ = true ∧ Q (.nx, ρ) μ) :
    ∀ (done rest : List α) (ρ : EnvD') (μ : List Cell), I done rest ρ μ → wp (forIt w t body (rest.map e) ρ) μ Q E
  | done, [], ρ, μ, h => by
    obtain ⟨h1, h2⟩ := fin done ρ μ h
    show wpR (if still w μ then .ok (.nx, ρ) μ else .stuck) Q E
    rw [if_pos h1]; exact h2
  | done, x :: rest, ρ, μ, h => by
    obtain ⟨h1, ρ', ha, hb⟩ := step done x rest ρ μ h
    have e1 : wp (forIt w t body (e x :: rest.map e) ρ) μ Q E = wp (body ρ' >>= turnF fun ρ2 => forIt w t body (rest.map e) ρ2) μ Q E := by
      conv => lhs; unfold forIt
      show wpR (if still w μ then _ else _) Q E = _
      rw [if_pos h1, ha]; rfl
    rw [List.map_cons, e1, wp_turn]
    refine wp_mono hb (fun p μ' hp => ?_) fun _ _ _ z => z
    obtain ⟨f, ρ2⟩ := p
    cases f with
    | nx => exact wp_for e I step fin _ rest ρ2 μ' hp
    | cont => exact wp_for e I step fin _ rest ρ2 μ' hp
    | brk => exact hp
    | ret r => exact hp
    | exc C vs => exact hp
theorem wp_forL {w : List (Nat × Cell)} {t : MT} {body : EnvD' → M (Flow × EnvD')} {Q : Flow × EnvD' → List Cell → Prop} (I : List D → List D → EnvD' → List Cell → Prop)
    (step : ∀ done x rest ρ μ, I done (x :: rest) ρ μ → still w μ = true ∧ ∃ ρ', assignT ρ t x = some ρ' ∧ wp (body ρ') μ (turnQ Q (I (done ++ [x]) rest)) E)
    (fin : ∀ done ρ μ, I done [] ρ μ → still w μ = true ∧ Q (.nx, ρ) μ) (xs : List D) (h : I [] xs ρ μ) : wp (forIt w t body xs ρ) μ Q E := by
  have := wp_for id I step fin [] xs ρ μ h
  rwa [List.map_id] at this
/-- a comprehension: I done made rest cells -/
theorem wp_lc {α : Type} (e : α → D) {w : List (Nat × Cell)} {f : D → M (Option D)} {Q : List D → List Cell → Prop} (I : List α → List D → List α → List Cell → Prop)
    (step : ∀ done acc x rest μ, I done acc (x :: rest) μ → still w μ = true ∧ wp (f (e x)) μ (fun y μ' => I (done ++ [x]) (acc ++ y.toList) rest μ') NoE)
    (fin : ∀ done acc μ, I done acc [] μ → still w μ = true ∧ Q acc μ) :
    ∀ (done : List α) (acc : List D) (rest : List α) (μ : List Cell), I done acc rest μ → wp (mapIt w f (rest.map e)) μ (fun ys μ' => Q (acc ++ ys) μ') E
  | done, acc, [], μ, h => by
    obtain ⟨h1, h2⟩ := fin done acc μ h
    show wpR (if still w μ then .ok [] μ else .stuck) _ E
    rw [if_pos h1]
    show Q (acc ++ []) μ
    rw [List.append_nil]; exact h2
  | done, acc, x :: rest, μ, h => by
    obtain ⟨h1, hb⟩ := step done acc x rest μ h
    have e1 : ∀ Q : List D → List Cell → Prop, wp (mapIt w f (e x :: rest.map e)) μ Q E = wp (noX (f (e x))) μ (fun y μ1 => wp (mapIt w f (rest.map e)) μ1 (fun ys μ2 => Q (match y with | some y => y :: ys | none => ys) μ2) E) E := by
      intro Q
      conv => lhs; unfold mapIt
      show wpR (if still w μ then _ else _) Q E = _
      rw [if_pos h1]
      show wp (noX (f (e x)) >>= fun y => mapIt w f (rest.map e) >>= fun ys => (pure (match y with | some y => y :: ys | none => ys) : M (List D))) μ Q E = _
      simp only [wp_bind, wp_pure]
    rw [List.map_cons, e1]
    have hb' : wp (noX (f (e x))) μ (fun y μ' => I (done ++ [x]) (acc ++ y.toList) rest μ') E := by
      unfold wp at *
      unfold noX
      cases e2 : f (e x) μ with
      | stuck => rw [e2] at hb; exact hb
      | ok a μ' => rw [e2] at hb; exact hb
      | exc C vs μ' => rw [e2] at hb; exact hb.elim
    refine wp_mono hb' (fun y μ1 hi => ?_) fun _ _ _ z => z
    have ih := wp_lc e I step fin _ _ rest μ1 hi
    refine wp_mono ih (fun ys μ2 hq => ?_) fun _ _ _ z => z
    cases y with
    | none => simpa using hq
    | some y => simpa using hq
theorem wp_lc0 {α : Type} (e : α → D) {w : List (Nat × Cell)} {f : D → M (Option D)} {Q : List D → List Cell → Prop} (I : List α → List D → List α → List Cell → Prop)
    (step : ∀ done acc x rest μ, I done acc (x :: rest) μ → still w μ = true ∧ wp (f (e x)) μ (fun y μ' => I (done ++ [x]) (acc ++ y.toList) rest μ') NoE)
    (fin : ∀ done acc μ, I done acc [] μ → still w μ = true ∧ Q acc μ) (xs : List α) (h : I [] [] xs μ) : wp (mapIt w f (xs.map e)) μ Q E :=
  wp_lc e I step fin [] [] xs μ h
/-- a comprehension that changes nothing -/
theorem lc_pure {w : List (Nat × Cell)} {f : D → M (Option D)} {g : D → Option D} (hw : still w μ = true) : ∀ (xs : List D), (∀ x ∈ xs, f x μ = .ok (g x) μ) → mapIt w f xs μ = .ok (xs.filterMap g) μ
  | [], _ => by
    show (if still w μ then R.ok [] μ else .stuck) = _
    rw [if_pos hw]; rfl
  | x :: xs, h => by
    have ih := lc_pure hw xs fun y hy => h y (List.mem_cons_of_mem _ hy)
    conv => lhs; unfold mapIt
    show (if still w μ then _ else _) = _
    rw [if_pos hw]
    show M.bind (noX (f x)) _ μ = _
    unfold M.bind noX
    rw [h x List.mem_cons_self]
    show M.bind (mapIt w f xs) _ μ = _
    unfold M.bind
    rw [ih]
    rw [List.filterMap_cons]
    cases g x <;> rfl
theorem lc_map {α : Type} (e : α → D) {w : List (Nat × Cell)} {f : D → M (Option D)} {g : α → D} (hw : still w μ = true) (xs : List α) (h : ∀ x ∈ xs, f (e x) μ = .ok (some (g x)) μ) : mapIt w f (xs.map e) μ = .ok (xs.map g) μ := by
  induction xs with
  | nil =>
    show (if still w μ then R.ok [] μ else .stuck) = _
    rw [if_pos hw]; rfl
  | cons x xs ih =>
    have ih := ih fun y hy => h y (List.mem_cons_of_mem _ hy)
    rw [List.map_cons]
    conv => lhs; unfold mapIt
    show (if still w μ then _ else _) = _
    rw [if_pos hw]
    show M.bind (noX (f (e x))) _ μ = _
    unfold M.bind noX
    rw [h x List.mem_cons_self]
    show M.bind (mapIt w f _) _ μ = _
    unfold M.bind
    rw [ih]; rfl
theorem wp_lc_map {α : Type} (e : α → D) {w : List (Nat × Cell)} {f : D → M (Option D)} {Q : List D → List Cell → Prop} (xs : List α) (g : α → D) (hw : still w μ = true) (h : ∀ x ∈ xs, wp (f (e x)) μ (fun y μ' => y = some (g x) ∧ μ' = μ) NoE) (hq : Q (xs.map g) μ) : wp (mapIt w f (xs.map e)) μ Q E := by
  rw [wp_of_eq (lc_map e hw xs fun x hx => eq_of_wp (h x hx))]; exact hq
theorem wp_lc_pure {w : List (Nat × Cell)} {f : D → M (Option D)} {Q : List D → List Cell → Prop} (xs : List D) (g : D → Option D) (hw : still w μ = true) (h : ∀ x ∈ xs, wp (f x) μ (fun y μ' => y = g x ∧ μ' = μ) NoE) (hq : Q (xs.filterMap g) μ) : wp (mapIt w f xs) μ Q E := by
  rw [wp_of_eq (lc_pure hw xs fun x hx => eq_of_wp (h x hx))]; exact hq
theorem lc_opt {α : Type} (e : α → D) {w : List (Nat × Cell)} {f : D → M (Option D)} {g : α → Option D} (hw : still w μ = true) (xs : List α) (h : ∀ x ∈ xs, f (e x) μ = .ok (g x) μ) : mapIt w f (xs.map e) μ = .ok (xs.filterMap g) μ := by
  induction xs with
  | nil =>
    show (if still w μ then R.ok [] μ else .stuck) = _
    rw [if_pos hw]; rfl
  | cons x xs ih =>
    have ih := ih fun y hy => h y (List.mem_cons_of_mem _ hy)
    rw [List.map_cons]
    conv => lhs; unfold mapIt
    show (if still w μ then _ else _) = _
    rw [if_pos hw]
    show M.bind (noX (f (e x))) _ μ = _
    unfold M.bind noX
    rw [h x List.mem_cons_self]
    show M.bind (mapIt w f _) _ μ = _
    unfold M.bind
    rw [ih, List.filterMap_cons]
    cases g x <;> rfl
theorem wp_lc_opt {α : Type} (e : α → D) {w : List (Nat × Cell)} {f : D → M (Option D)} {Q : List D → List Cell → Prop} (xs : List α) (g : α → Option D) (hw : still w μ = true) (h : ∀ x ∈ xs, wp (f (e x)) μ (fun y μ' => y = g x ∧ μ' = μ) NoE) (hq : Q (xs.filterMap g) μ) : wp (mapIt w f (xs.map e)) μ Q E := by
  rw [wp_of_eq (lc_opt e hw xs fun x hx => eq_of_wp (h x hx))]; exact hq
/-- a while loop: I turnsLeft slots cells -/
theorem wp_while {test : EnvD' → M Bool} {body : EnvD' → M (Flow × EnvD')} {Q : Flow × EnvD' → List Cell → Prop} (I : Nat → EnvD' → List Cell → Prop)
    (step : ∀ n ρ μ, I n ρ μ → wp (test ρ) μ (fun b μ' => if b = true then wp (body ρ) μ' (turnQ Q fun ρ2 μ2 => ∃ m, m < n ∧ I m ρ2 μ2) E else Q (.nx, ρ) μ') (fun C vs μ' => Q (.exc C vs, ρ) μ')) :
    ∀ (k n : Nat) (ρ : EnvD') (μ : List Cell), n < k → I n ρ μ → wp (whileIt test body k ρ) μ Q E
  | 0, n, ρ, μ, hn, h => absurd hn (Nat.not_lt_zero _)
  | k + 1, n, ρ, μ, hn, h => by
    have e : whileIt test body (k + 1) ρ = tryE ρ (test ρ) fun p => if p then body ρ >>= turnF fun ρ2 => whileIt test body k ρ2 else pure (.nx, ρ) := by
      conv => lhs; unfold whileIt
    rw [e, wp_tryE]
    refine wp_mono (step n ρ μ h) (fun b μ' hb => ?_) fun _ _ _ z => z
    cases b with
    | false => exact hb
    | true =>
      show wp (body ρ >>= turnF fun ρ2 => whileIt test body k ρ2) μ' Q E
      rw [wp_turn]
      refine wp_mono (show wp (body ρ) μ' _ E from hb) (fun p μ2 hp => ?_) fun _ _ _ z => z
      obtain ⟨f, ρ2⟩ := p
      cases f with
      | nx => obtain ⟨m, hm, hi⟩ := hp; exact wp_while I step k m ρ2 μ2 (by omega) hi
      | cont => obtain ⟨m, hm, hi⟩ := hp; exact wp_while I step k m ρ2 μ2 (by omega) hi
      | brk => exact hp
      | ret r => exact hp
      | exc C vs => exact hp
end
/-! ### a call -/
def retQ (μ0 : List Cell) (Q : ER → List Cell → Prop) (E : XE) : Flow × EnvD' → List Cell → Prop := fun p μ1 => match p.1 with
  | .ret r => wpR (finish μ0 r μ1) Q E
  | .nx => wpR (finish μ0 (.v .non) μ1) Q E
  | .exc C vs => E C vs μ1
  | _ => False
section
variable {Pr : Pg} {n f : Nat} {F : FD} {xs : List D} {μ μ1 : List Cell} {Q : ER → List Cell → Prop} {E : XE} {ρ : EnvD'}
theorem retQ_ret (r : ER) : retQ μ Q E (.ret r, ρ) μ1 = wpR (finish μ r μ1) Q E := rfl
theorem retQ_nx : retQ μ Q E (.nx, ρ) μ1 = wpR (finish μ (.v .non) μ1) Q E := rfl
theorem retQ_exc (C : Nat) (vs : List D) : retQ μ Q E (.exc C vs, ρ) μ1 = E C vs μ1 := rfl
theorem wp_runD (ys : List D) (hF : Pr.fn f = some F) (hy : xs ++ F.dflt.drop (F.dflt.length - (F.ps.length - xs.length)) = ys) (hl : ys.length = F.ps.length)
    (h : wp (exs (cfgOf Pr n) F.body (start0 F ys)) μ (retQ μ Q E) NoE) : wp (runF Pr (n + 1) f xs) μ Q E := by
  unfold wp at *
  rw [runF_succ Pr n f xs μ F hF, hy, if_pos hl]
  cases e : exs (cfgOf Pr n) F.body (start0 F ys) μ with
  | stuck => rw [e] at h; exact h.elim
  | exc C vs μ' => rw [e] at h; exact h.elim
  | ok p μ' =>
    rw [e] at h
    obtain ⟨fl, ρ⟩ := p
    cases fl with
    | nx => exact h
    | brk => exact h
    | cont => exact h
    | ret r => exact h
    | exc C vs => exact h
theorem wp_run (hF : Pr.fn f = some F) (hl : xs.length = F.ps.length) (h : wp (exs (cfgOf Pr n) F.body (start0 F xs)) μ (retQ μ Q E) NoE) : wp (runF Pr (n + 1) f xs) μ Q E :=
  wp_runD xs hF (by rw [hl, Nat.sub_self, Nat.sub_zero, List.drop_length, List.append_nil]) hl h
theorem wpR_ok {α : Type} (a : α) (Q : α → List Cell → Prop) : wpR (.ok a μ) Q E = Q a μ := rfl
theorem fin_same {r : ER} (h : μ1.length = μ.length) : wpR (finish μ r μ1) Q E = Q r μ1 := by
  unfold finish
  simp only [h, if_true]
  rfl
theorem fin_self {r : ER} : wpR (finish μ r μ) Q E = Q r μ := fin_same rfl
end
end RL

set_option Elab.async false
set_option linter.all false
set_option maxRecDepth 100000
set_option autoImplicit false
namespace RL
open PySem L2
theorem cfg_call (Pr : Pg) (n : Nat) : (cfgOf Pr n).call = runF Pr n := rfl
theorem cfg_fuel (Pr : Pg) (n : Nat) : (cfgOf Pr n).fuel = Pr.fuel := rfl
theorem erd_v (d : D) : (ER.v d).d = d := rfl
theorem erd_fl (d : List D) : (ER.fl d).d = .lst d := rfl
theorem erd_fd (k d : List D) : (ER.fd k d).d = .dct k d := rfl
theorem erd_fo (C : Nat) (k : List Str) (d : List D) : (ER.fo C k d).d = .obj C k d := rfl
section
variable (c : Cfg) (ρ : EnvD') (μ : List Cell)
/-- one turn of a comprehension -/
def lcF (elt : ME) (tg : MT) (ifs : List ME) (ρ : EnvD') : D → M (Option D) := fun x => do
        let ρ' ← ofO (assignT (wipeD ρ (ownT tg)) tg x)
        let p ← evT c ifs ρ'
        if p then do
          let y ← ev c elt ρ'
          pure (some y.d)
        else pure none
theorem ev_k (d : D) : ev c (.k d) ρ = pure (.v d) := rfl
theorem ev_v (i : Nat) : ev c (.v i) ρ = ofO ((ρ[i]?).join.map .v) := rfl
theorem ev_bin (op : Operator) (a b : ME) : ev c (.bin op a b) ρ = (do let x ← ev c a ρ; let y ← ev c b ρ; getM fun μ => binD μ op x.d y.d) := rfl
theorem ev_cmp (op : CmpOp) (a b : ME) : ev c (.cmp op a b) ρ = (do let x ← ev c a ρ; let y ← ev c b ρ; getM fun μ => (cmpD μ op x.d y.d).map fun b => .v (.bl b)) := rfl
theorem ev_chain (o1 o2 : CmpOp) (a b d : ME) : ev c (.chain o1 o2 a b d) ρ = (do
    let x ← ev c a ρ
    let y ← ev c b ρ
    let p ← getM fun μ => cmpD μ o1 x.d y.d
    if p then do
      let z ← ev c d ρ
      getM fun μ => (cmpD μ o2 y.d z.d).map fun b => .v (.bl b)
    else pure (.v (.bl false))) := rfl
theorem ev_and (a b : ME) : ev c (.and a b) ρ = (do let x ← ev c a ρ; let p ← getM fun μ => truthD μ x.d; if p then ev c b ρ else pure (.v x.d)) := rfl
theorem ev_or (a b : ME) : ev c (.or a b) ρ = (do let x ← ev c a ρ; let p ← getM fun μ => truthD μ x.d; if p then pure (.v x.d) else ev c b ρ) := rfl
theorem ev_not (a : ME) : ev c (.not a) ρ = (do let x ← ev c a ρ; let p ← getM fun μ => truthD μ x.d; pure (.v (.bl (!p)))) := rfl
theorem ev_ite (t a b : ME) : ev c (.ite t a b) ρ = (do let x ← ev c t ρ; let p ← getM fun μ => truthD μ x.d; if p then ev c a ρ else ev c b ρ) := rfl
theorem ev_tup (es : List ME) : ev c (.tup es) ρ = (do let xs ← evs c es ρ; if xs.length ≤ lineN then pure (.v (.tup xs)) else stuck) := rfl
theorem ev_lst (es : List ME) : ev c (.lst es) ρ = (do let xs ← evs c es ρ; if xs.length ≤ lineN then pure (.fl xs) else stuck) := rfl
theorem ev_dct (es : List ME) : ev c (.dct es) ρ = (do let xs ← evs c es ρ; ofO ((pairsD xs).bind fun p => if p.1.length ≤ 15 then some (.fd p.1 p.2) else none)) := rfl
theorem ev_sub (a i : ME) : ev c (.sub a i) ρ = (do let x ← ev c a ρ; let y ← ev c i ρ; getM fun μ => (subD μ x.d y.d).map .v) := rfl
theorem ev_slice (a lo hi : ME) : ev c (.slice a lo hi) ρ = (do let x ← ev c a ρ; let l ← evp c lo ρ; let h ← evp c hi ρ; getM fun μ => sliceD μ x.d l h) := rfl
theorem ev_callF (f : Nat) (es : List ME) : ev c (.callF f es) ρ = (do let xs ← evs c es ρ; c.call f xs) := rfl
theorem ev_callK (f : Nat) (perm : List Nat) (es : List ME) : ev c (.callK f perm es) ρ = (do let xs ← evs c es ρ; let ys ← ofO (if xs.length = perm.length then permL xs perm else none); c.call f ys) := rfl
theorem ev_callB (b : BI) (es : List ME) : ev c (.callB b es) ρ = (do let xs ← evs c es ρ; getM fun μ => biD μ b xs) := rfl
theorem ev_isinst (e : ME) (ts : List TyN) : ev c (.isinst e ts) ρ = (do let x ← ev c e ρ; getM fun μ => (tysD μ x.d ts).map fun b => .v (.bl b)) := rfl
theorem ev_bm (m : BM) (o : ME) (es : List ME) : ev c (.bm m o es) ρ = (do let x ← ev c o ρ; let _ ← getM fun μ => bmTy μ m x.d; let xs ← evs c es ρ; modM fun μ => bmD μ m x.d xs) := rfl
theorem ev_lcF (elt : ME) (tg : MT) (it : ME) (ifs : List ME) : ev c (.lc elt tg it ifs) ρ = (do
    let i ← evI c it ρ
    if i.xs.length ≤ lineN then do
      let ys ← mapIt i.w (lcF c elt tg ifs ρ) i.xs
      pure (.fl ys)
    else stuck) := rfl
theorem evs_nil : evs c [] ρ = pure [] := rfl
theorem evs_star (e : ME) (es : List ME) : evs c (.star e :: es) ρ = (do let x ← ev c e ρ; let xs ← getM fun μ => seqOf μ x.d; let ys ← evs c es ρ; pure (xs ++ ys)) := rfl
/-- no star -/
def noStarM : ME → Bool
  | .star _ => false
  | _ => true
theorem evs_cons (e : ME) (es : List ME) (h : noStarM e = true) : evs c (e :: es) ρ = (do let x ← ev c e ρ; let xs ← evs c es ρ; pure (x.d :: xs)) := by
  cases e <;> first | rfl | cases h
theorem evp_absent : evp c .absent ρ = pure none := rfl
theorem evp_star (e : ME) : evp c (.star e) ρ = (do let x ← ev c e ρ; match x.d with | .int i => pure (some i) | _ => stuck) := rfl
theorem evT_nil : evT c [] ρ = pure true := rfl
theorem evT_one (e : ME) : evT c [e] ρ = (do let x ← ev c e ρ; getM fun μ => truthD μ x.d) := by
  show (ev c e ρ >>= fun x => (getM fun μ => truthD μ x.d) >>= fun p => (pure p : M Bool)) = _
  congr 1
  funext x
  funext μ
  show M.bind _ _ μ = _
  unfold M.bind
  cases getM (fun μ => truthD μ x.d) μ <;> rfl
def rg1 (d : D) : M Itm := match d with
    | .int n => if -(2 ^ 62) ≤ n ∧ n ≤ lineN then pure ⟨(List.range n.toNat).map fun i => .int (i : Nat), []⟩ else stuck
    | _ => stuck
def rg2 (d e : D) : M Itm := match d, e with
    | .int m, .int n => if -(2 ^ 62) ≤ m ∧ m < 2 ^ 62 ∧ -(2 ^ 62) ≤ n ∧ n < 2 ^ 62 ∧ n - m ≤ lineN then pure ⟨(List.range (n - m).toNat).map fun i => .int (m + (i : Nat)), []⟩ else stuck
    | _, _ => stuck
theorem evI_range1 (a : ME) : evI c (.irange1 a) ρ = (do let x ← ev c a ρ; rg1 x.d) := rfl
theorem evI_range2 (a b : ME) : evI c (.irange2 a b) ρ = (do let x ← ev c a ρ; let y ← ev c b ρ; rg2 x.d y.d) := rfl
theorem rg1_int (n : Int) (h : -1000 ≤ n) (h2 : n ≤ 16777216) : rg1 (.int n) = pure ⟨(List.range n.toNat).map fun i => .int (i : Nat), []⟩ := by
  show (if _ then _ else _) = _
  rw [if_pos ⟨by omega, h2⟩]
theorem rg1_nat (n : Nat) (h2 : n ≤ 16777216) : rg1 (.int (n : Int)) = pure ⟨(List.range n).map fun i => .int (i : Nat), []⟩ := by
  rw [rg1_int n (by omega) (by omega)]; rfl
theorem rg2_int (m n : Int) (h : -1000 ≤ m) (h1 : m ≤ 16777216) (h3 : -1000 ≤ n) (h2 : n ≤ 16777216) (h4 : n - m ≤ 16777216) : rg2 (.int m) (.int n) = pure ⟨(List.range (n - m).toNat).map fun i => .int (m + (i : Nat)), []⟩ := by
  show (if _ then _ else _) = _
  rw [if_pos ⟨by omega, by omega, by omega, by omega, h4⟩]
theorem evI_zip (a b : ME) : evI c (.izip a b) ρ = (do
    let x ← ev c a ρ
    let y ← ev c b ρ
    getM fun μ => (zipOf μ x.d y.d).bind fun p => some ⟨(p.1.zip p.2).map fun p => .tup [p.1, p.2], watchOf μ x.d ++ watchOf μ y.d⟩) := rfl
theorem evI_enum (a : ME) : evI c (.ienum a) ρ = (do
    let x ← ev c a ρ
    getM fun μ => (listOf μ x.d).bind fun xs => some ⟨xs.zipIdx.map fun p => .tup [.int (p.2 : Nat), p.1], watchOf μ x.d⟩) := rfl
theorem evI_iter (e : ME) : evI c (.iter e) ρ = (do let x ← ev c e ρ; getM fun μ => (itemsOf μ x.d).bind fun xs => some ⟨xs, watchOf μ x.d⟩) := rfl
theorem ex_asg (t : MT) (e : ME) (cl : Bool) : ex c (.asg t e cl) ρ = tryE ρ (ev c e ρ) fun x => (do let d ← celled x cl; let ρ' ← ofO (assignT ρ t d); pure (.nx, ρ')) := rfl
theorem ex_par (i j : Nat) (a b : ME) : ex c (.par i j a b) ρ = tryE ρ (evs c [a, b] ρ) fun xs => match xs with
    | [x, y] => if i < ρ.length ∧ j < ρ.length ∧ i ≠ j then pure (.nx, (ρ.set i (some x)).set j (some y)) else stuck
    | _ => stuck := rfl
theorem ex_setix (o i e : ME) : ex c (.setix o i e) ρ = tryE ρ (ev c e ρ) fun x => tryE ρ (ev c o ρ) fun a => tryE ρ (ev c i ρ) fun b => (do modM fun μ => setixD μ a.d b.d x.d; pure (.nx, ρ)) := rfl
theorem ex_setattr (o : ME) (f : Str) (e : ME) : ex c (.setattr o f e) ρ = tryE ρ (ev c e ρ) fun x => tryE ρ (ev c o ρ) fun a => (do modM fun μ => setattrD μ a.d f x.d; pure (.nx, ρ)) := rfl
theorem ex_aug (i : Nat) (op : Operator) (e : ME) : ex c (.aug i op e) ρ = (do let x ← ofO (ρ[i]?).join; tryE ρ (ev c e ρ) fun y => (do let d ← ofO (augD op x y.d); pure (.nx, ρ.set i (some d)))) := rfl
theorem ex_expr (e : ME) : ex c (.expr e) ρ = tryE ρ (ev c e ρ) fun _ => pure (.nx, ρ) := rfl
theorem ex_ret (e : ME) : ex c (.ret e) ρ = tryE ρ (ev c e ρ) fun x => pure (.ret x, ρ) := rfl
theorem ex_ret0 : ex c .ret0 ρ = pure (.ret (.v .non), ρ) := rfl
theorem ex_ite (t : ME) (a b : List MS) : ex c (.ite t a b) ρ = tryE ρ (RL.evB c t ρ) fun p => if p then exs c a ρ else exs c b ρ := rfl
theorem ex_whil (t : ME) (b : List MS) : ex c (.whil t b) ρ = whileIt (RL.evB c t) (exs c b) c.fuel ρ := rfl
theorem ex_for (t : MT) (it : ME) (b : List MS) : ex c (.for_ t it b) ρ = tryE ρ (evI c it ρ) fun i => forIt i.w t (exs c b) i.xs ρ := rfl
theorem ex_brk : ex c .brk ρ = pure (.brk, ρ) := rfl
theorem ex_cont : ex c .cont ρ = pure (.cont, ρ) := rfl
theorem ex_pass : ex c .pass ρ = pure (.nx, ρ) := rfl
theorem evB_eq (e : ME) : RL.evB c e ρ = (do let x ← ev c e ρ; getM fun μ => truthD μ x.d) := rfl
end
section
variable (μ : List Cell)
theorem addD_int (i j : Int) : addD μ (.int i) (.int j) = some (.v (.int (i + j))) := rfl
theorem addD_tup (xs ys : List D) : addD μ (.tup xs) (.tup ys) = if xs.length + ys.length ≤ lineN then some (.v (.tup (xs ++ ys))) else none := rfl
theorem addD_lst (xs ys : List D) : addD μ (.lst xs) (.lst ys) = if xs.length + ys.length ≤ lineN then some (.fl (xs ++ ys)) else none := rfl
theorem addD_str (i j : Str) : addD μ (.str i) (.str j) = if i.length + j.length ≤ lineN then some (.v (.str (i ++ j))) else none := rfl
theorem subtD_int (i j : Int) : subtD (.int i) (.int j) = some (.v (.int (i - j))) := rfl
theorem mulD_int (i j : Int) : mulD μ (.int i) (.int j) = if mulOk i j then some (.v (.int (i * j))) else none := rfl
theorem mulOkR (i : Int) (j : Int) (h : bigI j = true) : mulOk i j = true := by unfold mulOk; simp [h]
theorem mulOkL (i : Int) (j : Int) (h : bigI i = true) : mulOk i j = true := by unfold mulOk; simp [h]
theorem modD_int (i j : Int) : modD (.int i) (.int j) = if 0 < j then some (.v (.int (i % j))) else none := rfl
theorem fdivD_int (i j : Int) : fdivD (.int i) (.int j) = if 0 < j ∧ j.natAbs.log2 < 9000 then some (.v (.int (i / j))) else none := rfl
theorem powD_int (i j : Int) : powD (.int i) (.int j) = if 0 ≤ j ∧ j ≤ 1000000 ∧ i.natAbs < 2 ^ 64 then some (.v (.int (i ^ j.toNat))) else none := rfl
theorem bin_add (a b : D) : binD μ .Add a b = addD μ a b := rfl
theorem bin_sub (a b : D) : binD μ .Sub a b = subtD a b := rfl
theorem bin_mul (a b : D) : binD μ .Mult a b = mulD μ a b := rfl
theorem bin_fdiv (a b : D) : binD μ .FloorDiv a b = fdivD a b := rfl
theorem bin_mod (a b : D) : binD μ .Mod a b = modD a b := rfl
theorem bin_pow (a b : D) : binD μ .Pow a b = powD a b := rfl
theorem cmp_eq (a b : D) : cmpD μ .Eq a b = eqD μ a b := rfl
theorem cmp_ne (a b : D) : cmpD μ .NotEq a b = (eqD μ a b).map (!·) := rfl
theorem cmp_lt (a b : D) : cmpD μ .Lt a b = ltD a b := rfl
theorem cmp_le (a b : D) : cmpD μ .LtE a b = leD a b := rfl
theorem cmp_gt (a b : D) : cmpD μ .Gt a b = gtD a b := rfl
theorem cmp_ge (a b : D) : cmpD μ .GtE a b = geD a b := rfl
theorem cmp_is (a b : D) : cmpD μ .Is a b = isD a b := rfl
theorem cmp_isnot (a b : D) : cmpD μ .IsNot a b = (isD a b).map (!·) := rfl
theorem cmp_in (a b : D) : cmpD μ .In a b = inD μ a b := rfl
theorem cmp_notin (a b : D) : cmpD μ .NotIn a b = (inD μ a b).map (!·) := rfl
theorem ltD_int (i j : Int) : ltD (.int i) (.int j) = some (decide (i < j)) := rfl
theorem leD_int (i j : Int) : leD (.int i) (.int j) = some (decide (i ≤ j)) := rfl
theorem gtD_int (i j : Int) : gtD (.int i) (.int j) = some (decide (j < i)) := rfl
theorem geD_int (i j : Int) : geD (.int i) (.int j) = some (decide (j ≤ i)) := rfl
theorem isD_non (a : D) : isD a .non = some (decide (a = .non)) := rfl
theorem inD_str (x s : Str) : inD μ (.str x) (.str s) = some (strIn x s) := rfl
theorem inD_lst (x : D) (xs : List D) : inD μ x (.lst xs) = inSeq x xs := rfl
theorem inD_tup (x : D) (xs : List D) : inD μ x (.tup xs) = inSeq x xs := rfl
theorem inD_dct (x : D) (ks vs : List D) : inD μ x (.dct ks vs) = if alikeKeys x ks then some (ks.contains x) else none := rfl
theorem truth_bl (b : Bool) : truthD μ (.bl b) = some b := rfl
theorem truth_int (i : Int) : truthD μ (.int i) = some (i != 0) := rfl
theorem truth_lst (xs : List D) : truthD μ (.lst xs) = some (!xs.isEmpty) := rfl
theorem truth_tup (xs : List D) : truthD μ (.tup xs) = some (!xs.isEmpty) := rfl
theorem truth_non : truthD μ .non = some false := rfl
theorem seq_kl (ns : List Int) : seqOf μ (.kl ns) = some (ns.map .int) := rfl
theorem seq_tup (xs : List D) : seqOf μ (.tup xs) = some xs := rfl
theorem seq_lst (xs : List D) : seqOf μ (.lst xs) = some xs := rfl
theorem seq_cell {n : Nat} {xs : List D} (h : μ[n]? = some (.lst xs)) : seqOf μ (.cell n) = some xs := by unfold seqOf; simp only [h]
theorem dct_dct (ks vs : List D) : dctOf μ (.dct ks vs) = some (ks, vs) := rfl
theorem list_lst (xs : List D) : listOf μ (.lst xs) = some xs := rfl
theorem list_cell {n : Nat} {xs : List D} (h : μ[n]? = some (.lst xs)) : listOf μ (.cell n) = some xs := by unfold listOf; simp only [h]
theorem items_kl (ns : List Int) : itemsOf μ (.kl ns) = some (ns.map .int) := rfl
theorem items_str (s : Str) : itemsOf μ (.str s) = some (chars s) := rfl
theorem items_tup (xs : List D) : itemsOf μ (.tup xs) = some xs := rfl
theorem items_lst (xs : List D) : itemsOf μ (.lst xs) = some xs := rfl
theorem items_cell {n : Nat} {xs : List D} (h : μ[n]? = some (.lst xs)) : itemsOf μ (.cell n) = some xs := by unfold itemsOf; simp only [h]
theorem len_kl (ns : List Int) : lenD μ (.kl ns) = some ns.length := rfl
theorem len_str {s : Str} (h : s.length ≤ sizeLine) : lenD μ (.str s) = some s.length := by unfold lenD; simp only [h, if_true]
theorem len_tup (xs : List D) : lenD μ (.tup xs) = some xs.length := rfl
theorem len_lst (xs : List D) : lenD μ (.lst xs) = some xs.length := rfl
theorem len_dct (ks vs : List D) : lenD μ (.dct ks vs) = some ks.length := rfl
theorem len_cell {n : Nat} {xs : List D} (h : μ[n]? = some (.lst xs)) : lenD μ (.cell n) = some xs.length := by unfold lenD; simp only [h]
theorem bi_len (d : D) : biD μ .len [d] = (lenD μ d).map fun (n : Nat) => .v (.int (n : Int)) := rfl
theorem bi_all (d : D) : biD μ .all [d] = ((listOf μ d).bind asBools).map fun bs => .v (.bl (bs.all id)) := rfl
theorem bi_any (d : D) : biD μ .any [d] = ((listOf μ d).bind asBools).map fun bs => .v (.bl (bs.any id)) := rfl
theorem bi_sum (d : D) : biD μ .sum [d] = ((listOf μ d).bind asInts).map fun ns => .v (.int ns.sum) := rfl
theorem bi_max1 (d : D) : biD μ .max1 [d] = (((listOf μ d).bind asInts).bind lstMax).map fun n => .v (.int n) := rfl
theorem bi_min1 (d : D) : biD μ .min1 [d] = (((listOf μ d).bind asInts).bind lstMin).map fun n => .v (.int n) := rfl
theorem bi_max2 (i j : Int) : biD μ .max2 [.int i, .int j] = some (.v (.int (if j > i then j else i))) := rfl
theorem bi_min2 (i j : Int) : biD μ .min2 [.int i, .int j] = some (.v (.int (if j < i then j else i))) := rfl
theorem bi_int (i : Int) : biD μ .int [.int i] = some (.v (.int i)) := rfl
theorem bi_intB (b : Bool) : biD μ .int [.bl b] = some (.v (.int (if b then 1 else 0))) := rfl
theorem bi_tuple (d : D) : biD μ .tuple [d] = (seqOf μ d).map fun xs => .v (.tup xs) := rfl
theorem bi_list (d : D) : biD μ .list [d] = (seqOf μ d).map fun xs => .fl xs := rfl
theorem bi_sorted (d : D) : biD μ .sorted [d] = ((listOf μ d).bind sortD).map .fl := rfl
theorem bi_repr (d : D) : biD μ .repr [d] = reprD μ d := rfl
theorem sub_tup (xs : List D) (j : Int) : subD μ (.tup xs) (.int j) = atI xs j := rfl
theorem sub_lst (xs : List D) (j : Int) : subD μ (.lst xs) (.int j) = atI xs j := rfl
theorem sub_kl (ns : List Int) (j : Int) : subD μ (.kl ns) (.int j) = atI (ns.map .int) j := rfl
theorem sub_dctS (ks vs : List D) (s : Str) : subD μ (.dct ks vs) (.str s) = if alikeKeys (.str s) ks then look (.str s) ks vs else none := rfl
theorem part_int (i : Int) : partD (.int i) = some (some i) := rfl
theorem slice_tup (xs : List D) (lo hi : Option Int) : sliceD μ (.tup xs) lo hi = some (.v (.tup (cutD xs lo hi))) := rfl
theorem slice_lst (xs : List D) (lo hi : Option Int) : sliceD μ (.lst xs) lo hi = some (.fl (cutD xs lo hi)) := rfl
theorem slice_kl (ns : List Int) (lo hi : Option Int) : sliceD μ (.kl ns) lo hi = some (.fl (cutD (ns.map .int) lo hi)) := rfl
theorem pairsD_nil : pairsD [] = some ([], []) := rfl
theorem bmD_append (o : D) (xs : List D) : bmD μ .append o xs = appendD μ o xs := rfl
theorem bmD_popAt (o : D) (xs : List D) : bmD μ .popAt o xs = popAtD μ o xs := rfl
theorem bmD_join (o : D) (xs : List D) : bmD μ .join o xs = joinD μ o xs := rfl
theorem bt_join (s : Str) : bmTy μ .join (.str s) = some () := rfl
theorem bt_append {n : Nat} {xs : List D} (h : μ[n]? = some (.lst xs)) : bmTy μ .append (.cell n) = some () := by unfold bmTy listOf; simp only [h]; rfl
theorem bt_popAt {n : Nat} {xs : List D} (h : μ[n]? = some (.lst xs)) : bmTy μ .popAt (.cell n) = some () := by unfold bmTy listOf; simp only [h]; rfl
theorem append_cell {n : Nat} {xs : List D} {x : D} (h : μ[n]? = some (.lst xs)) (hl : xs.length < lineN) : appendD μ (.cell n) [x] = some (.v .non, μ.set n (.lst (xs ++ [x]))) := by
  unfold appendD cellL one1
  simp only [h, Option.bind, hl, if_true]
theorem watch_tup (xs : List D) : watchOf μ (.tup xs) = [] := rfl
theorem watch_lst (xs : List D) : watchOf μ (.lst xs) = [] := rfl
theorem watch_str (s : Str) : watchOf μ (.str s) = [] := rfl
theorem watch_kl (ns : List Int) : watchOf μ (.kl ns) = [] := rfl
theorem watch_dct (ks vs : List D) : watchOf μ (.dct ks vs) = [] := rfl
theorem watch_cell {n : Nat} {x : Cell} (h : μ[n]? = some x) : watchOf μ (.cell n) = [(n, x)] := by unfold watchOf; simp only [h]
theorem zip_lst (xs ys : List D) : zipOf μ (.lst xs) (.lst ys) = some (xs, ys) := rfl
theorem zip_tup (xs ys : List D) : zipOf μ (.tup xs) (.tup ys) = some (xs, ys) := rfl
theorem celled_v (d : D) (b : Bool) : celled (.v d) b = (pure d : M D) := by cases b <;> rfl
theorem celled_fl (xs : List D) : celled (.fl xs) false = (pure (.lst xs) : M D) := rfl
theorem celled_fd (ks xs : List D) : celled (.fd ks xs) false = (pure (.dct ks xs) : M D) := rfl
theorem celled_fo (C : Nat) (ns : List Str) (xs : List D) : celled (.fo C ns xs) false = (pure (.obj C ns xs) : M D) := rfl
theorem wp_celled_fl (xs : List D) (Q : D → List Cell → Prop) (E : XE) : wp (celled (.fl xs) true) μ Q E = Q (.cell μ.length) (μ ++ [.lst xs]) := rfl
theorem wp_celled_fd (ks vs : List D) (Q : D → List Cell → Prop) (E : XE) : wp (celled (.fd ks vs) true) μ Q E = Q (.cell μ.length) (μ ++ [.dct ks vs]) := rfl
theorem assign_name (ρ : EnvD') (i : Nat) (d : D) (h : i < ρ.length) : assignT ρ (.name i) d = some (ρ.set i (some d)) := by unfold assignT; simp only [h, if_true]
theorem wipe_name (ρ : EnvD') (i : Nat) : wipeD ρ (ownT (.name i)) = ρ.set i none := rfl
theorem wipe_tup2 (ρ : EnvD') (i j : Nat) : wipeD ρ (ownT (.tup [i, j])) = (ρ.set j none).set i none := rfl
theorem assign_tup2 (ρ : EnvD') (i j : Nat) (a b : D) (h : i < ρ.length) (h2 : j < ρ.length) : assignT ρ (.tup [i, j]) (.tup [a, b]) = some ((ρ.set i (some a)).set j (some b)) := by
  have this : ([i, j] : List Nat).length = ([a, b] : List D).length ∧ ∀ k ∈ ([i, j] : List Nat), k < ρ.length := ⟨rfl, by simp [h, h2]⟩
  show (if _ then _ else _) = _
  rw [if_pos this]
  rfl
theorem still_nil : still [] μ = true := rfl
theorem still_one {n : Nat} {x : Cell} (h : μ[n]? = some x) : still [(n, x)] μ = true := by unfold still; simp [h]
theorem ty_str (d : D) : tysD μ d [.str] = (tgOf μ d).map fun t => isaTs t [.str] := by
  unfold tysD
  cases tgOf μ d <;> rfl
theorem ty_of (d : D) (t : Tg) (ts : List TyN) (h : tgOf μ d = some t) (hb : ts.all isB = true) : tysD μ d ts = some (isaTs t ts) := by
  unfold tysD
  rw [h]
  show (if ts.all isB then some (isaTs t ts) else none) = _
  rw [if_pos hb]
theorem tg_non : tgOf μ .non = some .non := rfl
theorem tg_bl (b : Bool) : tgOf μ (.bl b) = some .bl := rfl
theorem tg_int (i : Int) : tgOf μ (.int i) = some .int := rfl
theorem tg_str (s : Str) : tgOf μ (.str s) = some .str := rfl
theorem tg_tup (s : List D) : tgOf μ (.tup s) = some .tup := rfl
theorem tg_lst (s : List D) : tgOf μ (.lst s) = some .lst := rfl
theorem ty_isstr (s : Str) : tysD μ (.str s) [.str] = some true := rfl
theorem ty_istup (s : List D) : tysD μ (.tup s) [.tuple] = some true := rfl
end
end RL

set_option Elab.async false
set_option linter.all false
set_option maxRecDepth 100000
set_option autoImplicit false
namespace RL
open PySem L2
/-! ### texts of data -/
abbrev sOk (x : Str) : Prop := PyData.strOk x = true
theorem sOk_iff (x : Str) : sOk x ↔ ∀ c ∈ x.cps.toList, c < 0x110000 := by
  unfold sOk PyData.strOk
  rw [← Array.all_toList, List.all_eq_true]
  simp only [decide_eq_true_eq]
theorem sOk_append {x y : Str} (h : sOk x) (h' : sOk y) : sOk (x ++ y) := by
  rw [sOk_iff] at *
  intro c hc
  have e : (x ++ y).cps.toList = x.cps.toList ++ y.cps.toList := by
    show (x.cps ++ y.cps).toList = _
    simp
  rw [e] at hc
  exact (List.mem_append.mp hc).elim (h c) (h' c)
theorem sOk_ofString (s : String) : sOk (Str.ofString s) := by
  rw [sOk_iff, Str.ofString_eq_toList]
  intro c hc
  have hc : c ∈ s.toList.map Char.toNat := by simpa using hc
  obtain ⟨a, _, e⟩ := List.mem_map.mp hc
  rw [← e]
  have h := a.valid
  show a.val.toNat < _
  rcases h with h | h
  · have : a.val.toNat < 0xd800 := h
    omega
  · exact h.2
theorem sOk_join {sep : Str} (hs : sOk sep) : ∀ ts : List Str, (∀ t ∈ ts, sOk t) → sOk (Str.join sep ts)
  | [], _ => (by decide +kernel : PyData.strOk Str.empty = true)
  | [x], h => h x List.mem_cons_self
  | x :: y :: r, h => sOk_append (sOk_append (h x List.mem_cons_self) hs) (sOk_join hs (y :: r) fun t ht => h t (List.mem_cons_of_mem _ ht))
theorem repr_char_ok {q c : Nat} (hq : q < 0x110000) (hc : c < 0x110000) : ∀ d ∈ Builtin.Str.reprChar q c, d < 0x110000 := by
  have hx : ∀ (w : Nat), ∀ d ∈ List.replicate w 48 ++ (Nat.toDigits 16 c).map Char.toNat, d < 0x110000 := fun w d hd => by
    rcases List.mem_append.mp hd with h | h
    · have := (List.mem_replicate.mp h).2
      omega
    · obtain ⟨a, _, e⟩ := List.mem_map.mp h
      rw [← e]
      have h := a.valid
      show a.val.toNat < _
      rcases h with h | h
      · have : a.val.toNat < 0xd800 := h
        omega
      · exact h.2
  unfold Builtin.Str.reprChar
  dsimp only
  repeat' split
  all_goals intro d hd
  all_goals first
    | (simp only [List.mem_cons, List.not_mem_nil, or_false] at hd; omega)
    | (rcases List.mem_append.mp hd with h | h
       · simp only [List.mem_cons, List.not_mem_nil, or_false] at h; omega
       · exact hx _ d h)
theorem repr_ok {x : Str} (h : sOk x) : sOk (reprText x) := by
  rw [sOk_iff] at *
  have hq : reprQuote x < 0x110000 := by unfold reprQuote; split <;> omega
  have f : ∀ (l : List Nat) (acc : Array Nat), (∀ c ∈ l, c < 0x110000) → (∀ d ∈ acc.toList, d < 0x110000) → ∀ d ∈ (l.foldl (fun out c => out ++ (Builtin.Str.reprChar (reprQuote x) c).toArray) acc).toList, d < 0x110000 := by
    intro l
    induction l with
    | nil => intro acc _ h; exact h
    | cons c l ih =>
      intro acc hl ha
      refine ih _ (fun d hd => hl d (List.mem_cons_of_mem _ hd)) fun d hd => ?_
      have hd : d ∈ acc.toList ++ Builtin.Str.reprChar (reprQuote x) c := by simpa using hd
      rcases List.mem_append.mp hd with z | z
      · exact ha d z
      · exact repr_char_ok hq (hl c List.mem_cons_self) d z
  unfold reprText
  intro d hd
  have hd : d ∈ (x.cps.toList.foldl (fun out c => out ++ (Builtin.Str.reprChar (reprQuote x) c).toArray) #[reprQuote x]).toList ++ [reprQuote x] := by
    rw [← Array.foldl_toList] at hd
    simpa using hd
  rcases List.mem_append.mp hd with z | z
  · exact f _ _ h (fun d hd => by simp at hd; omega) d z
  · simp at z; omega
/-- what repr shows, with its room -/
structure RpOk (k b : Nat) (d : D) : Prop where
  pl : plain d = true
  sh : (toPy d).showable = true
  lay : (toPy d).canLay0 = true
  dep : (toPy d).depth ≤ k
  len : (toPy d).shown.length ≤ b
  ok : sOk (toPy d).shown
theorem RpOk.mono {k b k' b' : Nat} {d : D} (h : RpOk k b d) (hk : k ≤ k') (hb : b ≤ b') : RpOk k' b' d := ⟨h.pl, h.sh, h.lay, Nat.le_trans h.dep hk, Nat.le_trans h.len hb, h.ok⟩
theorem RpOk.non (k : Nat) : RpOk k 5 .non := ⟨rfl, rfl, by decide, by simp [toPy, PyData.depth], by decide +kernel, by decide +kernel⟩
theorem RpOk.bl (k : Nat) (b : Bool) : RpOk k 5 (.bl b) := ⟨rfl, rfl, by cases b <;> decide, by simp [toPy, PyData.depth], by cases b <;> decide +kernel, by cases b <;> decide +kernel⟩
theorem RpOk.int {k : Nat} {i : Int} (h : i.natAbs.log2 < 1920) : RpOk k 1921 (.int i) :=
  ⟨rfl, by show PyData.showable (.int i) = true; simp only [PyData.showable, h, decide_true], by show PyData.canLay0 (.int i) = true; simp only [PyData.canLay0], by simp [toPy, PyData.depth],
   by show (PyData.int i).shown.length ≤ _; rw [PyData.shown_int]; exact PyProof.Rows.int_text_len_1921 h, by show sOk (PyData.int i).shown; rw [PyData.shown_int]; exact sOk_ofString _⟩
theorem log2_lt {i : Int} {m : Nat} (h : i.natAbs < 2 ^ m) (hm : 0 < m) : i.natAbs.log2 < m := by
  by_cases h0 : i.natAbs = 0
  · rw [h0]; exact hm
  · exact (Nat.log2_lt h0).mpr h
theorem RpOk.str {k b : Nat} {s : Str} (h : sOk s) (hl : 10 * s.length + 2 ≤ b) : RpOk k b (.str s) :=
  ⟨rfl, rfl, by show PyData.canLay0 (.str s) = true; simp only [PyData.canLay0]; exact h, by simp [toPy, PyData.depth],
   by
    show (PyData.str s).shown.length ≤ _
    rw [PyData.shown_str]
    exact Nat.le_trans (StrLaws.reprText_len s fun c hc => Nat.lt_trans ((sOk_iff s).mp h c hc) (by decide)) hl,
   by show sOk (PyData.str s).shown; rw [PyData.shown_str]; exact repr_ok h⟩
theorem plains_of {xs : List D} (h : ∀ x ∈ xs, plain x = true) : plains xs = true := by
  induction xs with
  | nil => rfl
  | cons x xs ih =>
    show (plain x && plains xs) = true
    rw [h x List.mem_cons_self, ih fun y hy => h y (List.mem_cons_of_mem _ hy)]; rfl
theorem shows_of {xs : List D} (h : ∀ x ∈ xs, (toPy x).showable = true) : PyData.showableAll (toPys xs) = true := by
  induction xs with
  | nil => simp only [toPys, PyData.showableAll]
  | cons x xs ih =>
    simp only [toPys, PyData.showableAll, h x List.mem_cons_self, ih fun y hy => h y (List.mem_cons_of_mem _ hy), Bool.and_self]
theorem lays_of {xs : List D} (h : ∀ x ∈ xs, (toPy x).canLay0 = true) : PyData.canLayAll0 (toPys xs) = true := by
  induction xs with
  | nil => simp only [toPys, PyData.canLayAll0]
  | cons x xs ih =>
    simp only [toPys, PyData.canLayAll0, h x List.mem_cons_self, ih fun y hy => h y (List.mem_cons_of_mem _ hy), Bool.and_self]
theorem deps_of {k : Nat} {xs : List D} (h : ∀ x ∈ xs, (toPy x).depth ≤ k) : PyData.depthAll (toPys xs) ≤ k := by
  induction xs with
  | nil => simp [toPys, PyData.depthAll]
  | cons x xs ih =>
    simp only [toPys, PyData.depthAll]
    exact Nat.max_le.mpr ⟨h x List.mem_cons_self, ih fun y hy => h y (List.mem_cons_of_mem _ hy)⟩
theorem mem_shown {t : Str} : ∀ {xs : List D}, t ∈ PyData.shownAll (toPys xs) → ∃ x ∈ xs, t = (toPy x).shown
  | [], h => by simp [toPys, PyData.shownAll] at h
  | x :: xs, h => by
    simp only [toPys, PyData.shownAll] at h
    rcases List.mem_cons.mp h with e | h
    · exact ⟨x, List.mem_cons_self, e⟩
    · obtain ⟨y, hy, e⟩ := mem_shown h
      exact ⟨y, List.mem_cons_of_mem _ hy, e⟩
theorem toPys_len : ∀ xs : List D, (toPys xs).length = xs.length
  | [] => rfl
  | x :: xs => by simp only [toPys, List.length_cons, toPys_len xs]
theorem str_len_append (x y : Str) : (x ++ y).length = x.length + y.length := strLen_append x y
theorem join_len {b : Nat} : ∀ ts : List Str, (∀ t ∈ ts, t.length ≤ b) → (Str.join ", " ts).length ≤ ts.length * (b + 2)
  | [], _ => Nat.zero_le _
  | [x], h => by
    have := h x List.mem_cons_self
    show x.length ≤ 1 * (b + 2)
    omega
  | x :: y :: r, h => by
    have h1 := h x List.mem_cons_self
    have h2 := join_len (y :: r) fun t ht => h t (List.mem_cons_of_mem _ ht)
    have e : (Str.join ", " (x :: y :: r)).length = x.length + 2 + (Str.join ", " (y :: r)).length := by
      show (x ++ ((", " : String) : Str) ++ Str.join ", " (y :: r)).length = _
      rw [str_len_append, str_len_append]; rfl
    rw [e, List.length_cons, Nat.succ_mul]
    omega
theorem RpOk.tup {k b m : Nat} {xs : List D} (h : ∀ x ∈ xs, RpOk k b x) (hm : xs.length ≤ m) : RpOk (k + 1) (m * (b + 2) + 3) (.tup xs) := by
  have hj : (Str.join ", " (PyData.shownAll (toPys xs))).length ≤ m * (b + 2) := by
    have h1 := join_len (b := b) (PyData.shownAll (toPys xs)) fun t ht => by
      obtain ⟨x, hx, e⟩ := mem_shown ht
      rw [e]; exact (h x hx).len
    rw [PyData.shownAll_length, toPys_len] at h1
    exact Nat.le_trans h1 (Nat.mul_le_mul_right _ hm)
  refine ⟨plains_of fun x hx => (h x hx).pl, ?_, ?_, ?_, ?_, ?_⟩
  · show PyData.showable (.tuple (toPys xs)) = true
    simp only [PyData.showable]
    exact shows_of fun x hx => (h x hx).sh
  · show PyData.canLay0 (.tuple (toPys xs)) = true
    simp only [PyData.canLay0]
    exact lays_of fun x hx => (h x hx).lay
  · show PyData.depth (.tuple (toPys xs)) ≤ _
    simp only [PyData.depth]
    exact Nat.succ_le_succ (deps_of fun x hx => (h x hx).dep)
  · show (PyData.tuple (toPys xs)).shown.length ≤ _
    rw [PyData.shown_tuple, str_len_append, str_len_append]
    have e1 : (("(" : String) : Str).length = 1 := rfl
    have e2 : ((if (toPys xs).length == 1 then ",)" else ")" : String) : Str).length ≤ 2 := by split <;> decide
    omega
  · show sOk (PyData.tuple (toPys xs)).shown
    rw [PyData.shown_tuple]
    refine sOk_append (sOk_append (sOk_ofString _) (sOk_join (sOk_ofString _) _ fun t ht => ?_)) (sOk_ofString _)
    obtain ⟨x, hx, e⟩ := mem_shown ht
    rw [e]; exact (h x hx).ok
theorem RpOk.lst {k b m : Nat} {xs : List D} (h : ∀ x ∈ xs, RpOk k b x) (hm : xs.length ≤ m) : RpOk (k + 1) (m * (b + 2) + 3) (.lst xs) := by
  have hj : (Str.join ", " (PyData.shownAll (toPys xs))).length ≤ m * (b + 2) := by
    have h1 := join_len (b := b) (PyData.shownAll (toPys xs)) fun t ht => by
      obtain ⟨x, hx, e⟩ := mem_shown ht
      rw [e]; exact (h x hx).len
    rw [PyData.shownAll_length, toPys_len] at h1
    exact Nat.le_trans h1 (Nat.mul_le_mul_right _ hm)
  refine ⟨plains_of fun x hx => (h x hx).pl, ?_, ?_, ?_, ?_, ?_⟩
  · show PyData.showable (.list (toPys xs)) = true
    simp only [PyData.showable]
    exact shows_of fun x hx => (h x hx).sh
  · show PyData.canLay0 (.list (toPys xs)) = true
    simp only [PyData.canLay0]
    exact lays_of fun x hx => (h x hx).lay
  · show PyData.depth (.list (toPys xs)) ≤ _
    simp only [PyData.depth]
    exact Nat.succ_le_succ (deps_of fun x hx => (h x hx).dep)
  · show (PyData.list (toPys xs)).shown.length ≤ _
    rw [PyData.shown_list, str_len_append, str_len_append]
    have e1 : (("[" : String) : Str).length = 1 := rfl
    have e2 : (("]" : String) : Str).length = 1 := rfl
    omega
  · show sOk (PyData.list (toPys xs)).shown
    rw [PyData.shown_list]
    refine sOk_append (sOk_append (sOk_ofString _) (sOk_join (sOk_ofString _) _ fun t ht => ?_)) (sOk_ofString _)
    obtain ⟨x, hx, e⟩ := mem_shown ht
    rw [e]; exact (h x hx).ok
theorem flat_plain (μ : List Cell) {d : D} (h : plain d = true) : flat μ d = d := by
  cases d <;> first | rfl | cases h
/-- repr of such data -/
theorem repr_of {μ : List Cell} {k b : Nat} {d : D} (h : RpOk k b d) (hk : k ≤ 64) (hb : b ≤ 16777216) : reprD μ d = some (.v (.str (toPy d).shown)) := by
  unfold reprD
  have hn : d ≠ .dct [] [] := by
    intro e
    have := h.pl
    rw [e] at this
    cases this
  rw [if_neg hn, flat_plain μ h.pl]
  have h1 : (toPy d).depth ≤ 64 := Nat.le_trans h.dep hk
  have h2 : (toPy d).shown.length ≤ lineN := Nat.le_trans h.len hb
  simp only [h.pl, h.sh, h1, h2, decide_true, Bool.and_self, if_true]
theorem repr_dct0 (μ : List Cell) : reprD μ (.dct [] []) = some (.v (.str (PyData.dict []).shown)) := by
  unfold reprD
  rw [if_pos rfl]
theorem eqD_str {μ : List Cell} {x y : Str} (hx : sOk x) (hy : sOk y) : eqD μ (.str x) (.str y) = some (decide (x = y)) := by
  have s1 : SeqAt.shaped (.str x) = true := by
    unfold SeqAt.shaped
    rw [Bool.and_eq_true]
    refine ⟨by simp only [PyData.canLay0]; exact hx, by simp [PyData.depth]⟩
  have s2 : SeqAt.shaped (.str y) = true := by
    unfold SeqAt.shaped
    rw [Bool.and_eq_true]
    refine ⟨by simp only [PyData.canLay0]; exact hy, by simp [PyData.depth]⟩
  have e : PyData.eqv (.str x) (.str y) = decide (x = y) := by
    by_cases h : x = y
    · subst h; simp [PyData.eqv]
    · simp [PyData.eqv, h]
  show (if plain (.str x) && plain (.str y) && SeqAt.shaped (.str x) && SeqAt.shaped (.str y) then some (PyData.eqv (.str x) (.str y)) else none) = _
  rw [s1, s2, e]; rfl
theorem eqD_shown {μ : List Cell} {k b : Nat} {d : D} (h : RpOk k b d) : eqD μ (.str (toPy d).shown) (.str (toPy d).shown) = some true := by
  rw [eqD_str h.ok h.ok, decide_eq_true rfl]
end RL

set_option Elab.async false
set_option linter.all false
set_option maxRecDepth 100000
set_option autoImplicit false
set_option maxHeartbeats 4000000
namespace RL.K02
open PySem PySem.Spec PyProof.Rows L2 RL
def topS (i : Nat) : Stmt := PySem.Challenge.pw_leastcrews_k02_names_judged.main.body.getD i (.Pass ⟨0, 0, 0, 0⟩)
def tab : List (Str × GN) := [(Str.ofString "is_name", .fn 0), (Str.ofString "_law_begin", .fn 1), (Str.ofString "_law_blend", .fn 2), (Str.ofString "_law_take", .fn 3), (Str.ofString "_law_pick", .fn 4), (Str.ofString "_law_name", .fn 5), (Str.ofString "_law_is_name", .fn 6), (Str.ofString "law", .fn 7), (Str.ofString "LETTERS", .const (.str (Str.ofString "abcdefghijklmnopqrstuvwxyz"))), (Str.ofString "LONGEST_NAME", .const (.int 8)), (Str.ofString "len", .none), (Str.ofString "repr", .none), (Str.ofString "isinstance", .none), (Str.ofString "str", .none), (Str.ofString "all", .none), (Str.ofString "int", .none), (Str.ofString "list", .none), (Str.ofString "range", .none), (Str.ofString "min", .none)]
def nm : Nm := { gn := gnT tab, kw := fun f ks => if f = 0 ∧ ks = [Str.ofString "value"] then some [0] else none }
def F0 : FD := { ps := [(Str.ofString "value")], ns := [(Str.ofString "value"), (Str.ofString "sign")], body := [(.ret (.and (.isinst (.v 0) [.str]) (.and (.chain .LtE .LtE (.k (.int 1)) (.callB .len [(.v 0)]) (.k (.int 8))) (.callB .all [(.lc (.cmp .In (.v 1) (.k (.str (Str.ofString "abcdefghijklmnopqrstuvwxyz")))) (.name 1) (.iter (.v 0)) [])]))))] }
def mu0 : List Str := []
abbrev s0 : Stmt := topS 3
def F1 : FD := { ps := [(Str.ofString "_law_script")], ns := [(Str.ofString "_law_script"), (Str.ofString "_law_wide"), (Str.ofString "_law_cell")], body := [(.asg (.name 1) (.lc (.bin .Sub (.v 2) (.bin .Pow (.k (.int 10)) (.k (.int 18)))) (.name 2) (.iter (.v 0)) [(.cmp .GtE (.v 2) (.bin .Pow (.k (.int 10)) (.k (.int 18))))]) true), (.ret (.dct [(.k (.str (Str.ofString "wide"))), (.v 1), (.k (.str (Str.ofString "cells"))), (.callB .list [(.v 0)]), (.k (.str (Str.ofString "rest"))), (.k (.int 0)), (.k (.str (Str.ofString "turn"))), (.k (.int 0))]))] }
def mu1 : List Str := [(Str.ofString "_law_wide")]
abbrev s1 : Stmt := topS 5
def F2 : FD := { ps := [(Str.ofString "_law_draw")], ns := [(Str.ofString "_law_draw"), (Str.ofString "_law_found"), (Str.ofString "_law_prime"), (Str.ofString "_law_blend_here"), (Str.ofString "_law_cell")], body := [(.setix (.v 0) (.k (.str (Str.ofString "turn"))) (.bin .Add (.sub (.v 0) (.k (.str (Str.ofString "turn")))) (.k (.int 1)))), (.asg (.name 1) (.k (.int 0)) false), (.for_ (.name 2) (.iter (.lst [(.k (.int 2147483629)), (.k (.int 2147483587)), (.k (.int 2147483579)), (.k (.int 2147483563)), (.k (.int 2147483549)), (.k (.int 2147483543))])) [(.asg (.name 3) (.bin .Add (.bin .Mult (.k (.int 77003)) (.sub (.v 0) (.k (.str (Str.ofString "turn"))))) (.bin .FloorDiv (.v 2) (.k (.int 11)))) false), (.for_ (.name 4) (.iter (.sub (.v 0) (.k (.str (Str.ofString "cells"))))) [(.asg (.name 3) (.bin .Mod (.callB .int [(.bin .Add (.bin .Mult (.v 3) (.k (.int 48271))) (.v 4))]) (.v 2)) false)]), (.asg (.name 1) (.bin .Add (.bin .Mult (.v 1) (.k (.int 2147483647))) (.bin .Mod (.callB .int [(.bin .Pow (.v 3) (.k (.int 5)))]) (.v 2))) false)]), (.ret (.v 1))] }
def mu2 : List Str := []
abbrev s2 : Stmt := topS 6
def F3 : FD := { ps := [(Str.ofString "_law_draw"), (Str.ofString "_law_size")], ns := [(Str.ofString "_law_draw"), (Str.ofString "_law_size"), (Str.ofString "_law_found")], body := [(.ite (.cmp .Eq (.sub (.v 0) (.k (.str (Str.ofString "rest")))) (.k (.int 0))) [(.setix (.v 0) (.k (.str (Str.ofString "rest"))) (.ite (.cmp .NotEq (.sub (.v 0) (.k (.str (Str.ofString "wide")))) (.lst [])) (.bm .popAt (.sub (.v 0) (.k (.str (Str.ofString "wide")))) [(.k (.int 0))]) (.callF 2 [(.v 0)])))] []), (.asg (.name 2) (.bin .Mod (.callB .int [(.sub (.v 0) (.k (.str (Str.ofString "rest"))))]) (.v 1)) false), (.setix (.v 0) (.k (.str (Str.ofString "rest"))) (.bin .FloorDiv (.sub (.v 0) (.k (.str (Str.ofString "rest")))) (.v 1))), (.ret (.v 2))] }
def mu3 : List Str := []
abbrev s3 : Stmt := topS 7
def F4 : FD := { ps := [(Str.ofString "_law_draw"), (Str.ofString "_law_some")], ns := [(Str.ofString "_law_draw"), (Str.ofString "_law_some")], body := [(.ret (.sub (.v 1) (.callF 3 [(.v 0), (.callB .len [(.v 1)])])))] }
def mu4 : List Str := []
abbrev s4 : Stmt := topS 8
def F5 : FD := { ps := [(Str.ofString "_law_draw")], ns := [(Str.ofString "_law_draw"), (Str.ofString "_law_words"), (Str.ofString "_law_letters"), (Str.ofString "_law_k")], body := [(.asg (.name 1) (.lst [(.k (.str (Str.ofString "go"))), (.k (.str (Str.ofString "meet"))), (.k (.str (Str.ofString "call"))), (.k (.str (Str.ofString "signs"))), (.k (.str (Str.ofString "begin"))), (.k (.str (Str.ofString "posts"))), (.k (.str (Str.ofString "kind"))), (.k (.str (Str.ofString "none"))), (.k (.str (Str.ofString "any"))), (.k (.str (Str.ofString "free"))), (.k (.str (Str.ofString "held"))), (.k (.str (Str.ofString "a"))), (.k (.str (Str.ofString "b"))), (.k (.str (Str.ofString "ab")))]) false), (.ite (.cmp .Gt (.callF 3 [(.v 0), (.k (.int 3))]) (.k (.int 0))) [(.ret (.callF 4 [(.v 0), (.bin .Add (.v 1) (.lst [(.k (.str (Str.ofString "zzzzzzzz")))]))]))] []), (.asg (.name 2) (.k (.str (Str.ofString "abcdefghijklmnopqrstuvwxyz"))) false), (.ret (.bm .join (.k (.str (Str.ofString ""))) [(.lc (.callF 4 [(.v 0), (.v 2)]) (.name 3) (.irange1 (.bin .Add (.k (.int 1)) (.callF 3 [(.v 0), (.k (.int 8))]))) [])]))] }
def mu5 : List Str := []
abbrev s5 : Stmt := topS 9
def F6 : FD := { ps := [(Str.ofString "_law_thing")], ns := [(Str.ofString "_law_thing"), (Str.ofString "_law_letters"), (Str.ofString "_law_sign")], body := [(.asg (.name 1) (.k (.str (Str.ofString "abcdefghijklmnopqrstuvwxyz"))) false), (.ret (.and (.isinst (.v 0) [.str]) (.and (.chain .Lt .Lt (.k (.int 0)) (.callB .len [(.v 0)]) (.k (.int 9))) (.cmp .Eq (.lc (.v 2) (.name 2) (.iter (.v 0)) [(.cmp .NotIn (.v 2) (.v 1))]) (.lst [])))))] }
def mu6 : List Str := []
abbrev s6 : Stmt := topS 10
def F7 : FD := { ps := [(Str.ofString "_law_script")], ns := [(Str.ofString "_law_script"), (Str.ofString "_law_draw"), (Str.ofString "_law_turn"), (Str.ofString "_law_signs"), (Str.ofString "_law_some"), (Str.ofString "_law_k"), (Str.ofString "_law_thing"), (Str.ofString "_law_seen")], body := [(.asg (.name 1) (.callF 1 [(.v 0)]) true), (.for_ (.name 2) (.irange1 (.bin .Add (.k (.int 8)) (.callB .min2 [(.k (.int 24)), (.callB .len [(.v 0)])]))) [(.asg (.name 3) (.k (.str (Str.ofString "abcxyzABZ09 _-!>:\n"))) false), (.asg (.name 4) (.lst [(.k .non), (.k (.int 5)), (.k (.bl true)), (.tup []), (.lst []), (.dct []), (.lst [(.k (.str (Str.ofString "a")))]), (.tup [(.k (.str (Str.ofString "a")))]), (.k (.str (Str.ofString ""))), (.bin .Pow (.k (.int 10)) (.k (.int 40))), (.callF 5 [(.v 1)]), (.bin .Add (.callF 5 [(.v 1)]) (.k (.str (Str.ofString "x"))))]) true), (.expr (.bm .append (.v 4) [(.bm .join (.k (.str (Str.ofString ""))) [(.lc (.callF 4 [(.v 1), (.v 3)]) (.name 5) (.irange1 (.callF 3 [(.v 1), (.k (.int 13))])) [])])])), (.expr (.bm .append (.v 4) [(.bm .join (.k (.str (Str.ofString ""))) [(.lc (.callF 4 [(.v 1), (.k (.str (Str.ofString "abcxyz")))]) (.name 5) (.irange1 (.callF 3 [(.v 1), (.k (.int 13))])) [])])])), (.for_ (.name 6) (.iter (.v 4)) [(.asg (.name 7) (.callB .repr [(.v 6)]) false), (.ite (.or (.cmp .NotEq (.callB .repr [(.lst [(.callF 0 [(.v 6)]), (.callK 0 [0] [(.v 6)])])]) (.callB .repr [(.bin .Mult (.lst [(.callF 6 [(.v 6)])]) (.k (.int 2)))])) (.cmp .NotEq (.callB .repr [(.v 6)]) (.v 7))) [(.ret (.k (.bl false)))] [])])]), (.ret (.k (.bl true)))] }
def mu7 : List Str := [(Str.ofString "_law_draw"), (Str.ofString "_law_some")]
abbrev s7 : Stmt := topS 11
theorem er0 : erSs nm F0.ns mu0 60 (defScope s0) (defBody s0) = some F0.body := by kernel_rfl
theorem er1 : erSs nm F1.ns mu1 60 (defScope s1) (defBody s1) = some F1.body := by kernel_rfl
theorem er2 : erSs nm F2.ns mu2 60 (defScope s2) (defBody s2) = some F2.body := by kernel_rfl
theorem er3 : erSs nm F3.ns mu3 60 (defScope s3) (defBody s3) = some F3.body := by kernel_rfl
theorem er4 : erSs nm F4.ns mu4 60 (defScope s4) (defBody s4) = some F4.body := by kernel_rfl
theorem er5 : erSs nm F5.ns mu5 60 (defScope s5) (defBody s5) = some F5.body := by kernel_rfl
theorem er6 : erSs nm F6.ns mu6 60 (defScope s6) (defBody s6) = some F6.body := by kernel_rfl
theorem er7 : erSs nm F7.ns mu7 60 (defScope s7) (defBody s7) = some F7.body := by kernel_rfl
theorem sc0 : FnScope F0.ns F0.ps (defScope s0) := ⟨rfl, rfl, rfl, by decide +kernel, by decide +kernel, by decide +kernel, by decide +kernel⟩
theorem sc1 : FnScope F1.ns F1.ps (defScope s1) := ⟨rfl, rfl, rfl, by decide +kernel, by decide +kernel, by decide +kernel, by decide +kernel⟩
theorem sc2 : FnScope F2.ns F2.ps (defScope s2) := ⟨rfl, rfl, rfl, by decide +kernel, by decide +kernel, by decide +kernel, by decide +kernel⟩
theorem sc3 : FnScope F3.ns F3.ps (defScope s3) := ⟨rfl, rfl, rfl, by decide +kernel, by decide +kernel, by decide +kernel, by decide +kernel⟩
theorem sc4 : FnScope F4.ns F4.ps (defScope s4) := ⟨rfl, rfl, rfl, by decide +kernel, by decide +kernel, by decide +kernel, by decide +kernel⟩
theorem sc5 : FnScope F5.ns F5.ps (defScope s5) := ⟨rfl, rfl, rfl, by decide +kernel, by decide +kernel, by decide +kernel, by decide +kernel⟩
theorem sc6 : FnScope F6.ns F6.ps (defScope s6) := ⟨rfl, rfl, rfl, by decide +kernel, by decide +kernel, by decide +kernel, by decide +kernel⟩
theorem sc7 : FnScope F7.ns F7.ps (defScope s7) := ⟨rfl, rfl, rfl, by decide +kernel, by decide +kernel, by decide +kernel, by decide +kernel⟩
def pg : Pg := { fuel := 1000, meth := fun _ _ => none, fld := fun _ _ => none, fn := fun f => match f with
  | 0 => some F0
  | 1 => some F1
  | 2 => some F2
  | 3 => some F3
  | 4 => some F4
  | 5 => some F5
  | 6 => some F6
  | 7 => some F7
  | _ => none }
theorem bind1 {name qual : Str} {kV dc pm cd ct : Value} {an : Option Addr} {st : Stmt} : True := trivial
theorem all_mk {l : PySem.W.OpenLaw} {w : World} {K : PySem.W.Frag} {h : Heap} {mg : Str → Option Value} {fa : Addr} (X : K.In h) (G : h.Ns mainGlobals mg) (hfa : mg (Str.ofString "law") = some (.ref fa))
    {f0 f1 f2 f3 f4 f5 f6 f7 : Addr} {od0 an0 od1 an1 od2 an2 od3 an3 od4 an4 od5 an5 od6 an6 od7 an7 : Option Addr} {sl0 sl1 sl2 sl3 sl4 sl5 sl6 sl7 : Array (Option Value)} {oc0 kV0 dc0 pm0 cd0 ct0 oc1 kV1 dc1 pm1 cd1 ct1 oc2 kV2 dc2 pm2 cd2 ct2 oc3 kV3 dc3 pm3 cd3 ct3 oc4 kV4 dc4 pm4 cd4 ct4 oc5 kV5 dc5 pm5 cd5 ct5 oc6 kV6 dc6 pm6 cd6 ct6 oc7 kV7 dc7 pm7 cd7 ct7 : Value} {tk1 tk2 : Tok}
    (a0 : PySem.W.nsIn K mainGlobals (Str.ofString "is_name") = some (some (.ref f0))) (l0 : K.lookup f0 = some ⟨oc0, od0, .func (PySem.W.fnOf (Str.ofString "is_name") (Str.ofString "is_name") (defArgs s0) (defBody s0) (defScope s0) .none kV0 dc0 pm0 an0 cd0 ct0), sl0⟩) (c0 : PySem.W.codeIn K cd0 (Str.ofString "is_name") = true) (k0 : PySem.W.keepIn K (.ref f0) = true)
    (a1 : PySem.W.nsIn K mainGlobals (Str.ofString "_law_begin") = some (some (.ref f1))) (l1 : K.lookup f1 = some ⟨oc1, od1, .func (PySem.W.fnOf (Str.ofString "_law_begin") (Str.ofString "_law_begin") (defArgs s1) (defBody s1) (defScope s1) .none kV1 dc1 pm1 an1 cd1 ct1), sl1⟩) (c1 : PySem.W.codeIn K cd1 (Str.ofString "_law_begin") = true) (k1 : PySem.W.keepIn K (.ref f1) = true)
    (a2 : PySem.W.nsIn K mainGlobals (Str.ofString "_law_blend") = some (some (.ref f2))) (l2 : K.lookup f2 = some ⟨oc2, od2, .func (PySem.W.fnOf (Str.ofString "_law_blend") (Str.ofString "_law_blend") (defArgs s2) (defBody s2) (defScope s2) .none kV2 dc2 pm2 an2 cd2 ct2), sl2⟩) (c2 : PySem.W.codeIn K cd2 (Str.ofString "_law_blend") = true) (k2 : PySem.W.keepIn K (.ref f2) = true)
    (a3 : PySem.W.nsIn K mainGlobals (Str.ofString "_law_take") = some (some (.ref f3))) (l3 : K.lookup f3 = some ⟨oc3, od3, .func (PySem.W.fnOf (Str.ofString "_law_take") (Str.ofString "_law_take") (defArgs s3) (defBody s3) (defScope s3) .none kV3 dc3 pm3 an3 cd3 ct3), sl3⟩) (c3 : PySem.W.codeIn K cd3 (Str.ofString "_law_take") = true) (k3 : PySem.W.keepIn K (.ref f3) = true)
    (a4 : PySem.W.nsIn K mainGlobals (Str.ofString "_law_pick") = some (some (.ref f4))) (l4 : K.lookup f4 = some ⟨oc4, od4, .func (PySem.W.fnOf (Str.ofString "_law_pick") (Str.ofString "_law_pick") (defArgs s4) (defBody s4) (defScope s4) .none kV4 dc4 pm4 an4 cd4 ct4), sl4⟩) (c4 : PySem.W.codeIn K cd4 (Str.ofString "_law_pick") = true) (k4 : PySem.W.keepIn K (.ref f4) = true)
    (a5 : PySem.W.nsIn K mainGlobals (Str.ofString "_law_name") = some (some (.ref f5))) (l5 : K.lookup f5 = some ⟨oc5, od5, .func (PySem.W.fnOf (Str.ofString "_law_name") (Str.ofString "_law_name") (defArgs s5) (defBody s5) (defScope s5) .none kV5 dc5 pm5 an5 cd5 ct5), sl5⟩) (c5 : PySem.W.codeIn K cd5 (Str.ofString "_law_name") = true) (k5 : PySem.W.keepIn K (.ref f5) = true)
    (a6 : PySem.W.nsIn K mainGlobals (Str.ofString "_law_is_name") = some (some (.ref f6))) (l6 : K.lookup f6 = some ⟨oc6, od6, .func (PySem.W.fnOf (Str.ofString "_law_is_name") (Str.ofString "_law_is_name") (defArgs s6) (defBody s6) (defScope s6) .none kV6 dc6 pm6 an6 cd6 ct6), sl6⟩) (c6 : PySem.W.codeIn K cd6 (Str.ofString "_law_is_name") = true) (k6 : PySem.W.keepIn K (.ref f6) = true)
    (a7 : PySem.W.nsIn K mainGlobals (Str.ofString "law") = some (some (.ref f7))) (l7 : K.lookup f7 = some ⟨oc7, od7, .func (PySem.W.fnOf (Str.ofString "law") (Str.ofString "law") (defArgs s7) (defBody s7) (defScope s7) .none kV7 dc7 pm7 an7 cd7 ct7), sl7⟩) (c7 : PySem.W.codeIn K cd7 (Str.ofString "law") = true) (k7 : PySem.W.keepIn K (.ref f7) = true)
    (n1 : PySem.W.nsIn K mainGlobals (Str.ofString "LETTERS") = some (some (.str (Str.ofString "abcdefghijklmnopqrstuvwxyz") tk1))) (n2 : PySem.W.nsIn K mainGlobals (Str.ofString "LONGEST_NAME") = some (some (.int 8 tk2)))
    (z0 : PySem.W.nsIn K mainGlobals (Str.ofString "len") = some none)
    (z1 : PySem.W.nsIn K mainGlobals (Str.ofString "repr") = some none)
    (z2 : PySem.W.nsIn K mainGlobals (Str.ofString "isinstance") = some none)
    (z3 : PySem.W.nsIn K mainGlobals (Str.ofString "str") = some none)
    (z4 : PySem.W.nsIn K mainGlobals (Str.ofString "all") = some none)
    (z5 : PySem.W.nsIn K mainGlobals (Str.ofString "int") = some none)
    (z6 : PySem.W.nsIn K mainGlobals (Str.ofString "list") = some none)
    (z7 : PySem.W.nsIn K mainGlobals (Str.ofString "range") = some none)
    (z8 : PySem.W.nsIn K mainGlobals (Str.ofString "min") = some none)
    : LawFact l.prog w K mg fa (Str.ofString "_law_script") pg 20 7 := by
  have e := hfa.symm.trans (PySem.W.mg_of X G a7)
  cases e
  let fd : Nat → Addr × FuncData := fun f => match f with
    | 0 => (f0, PySem.W.fnOf (Str.ofString "is_name") (Str.ofString "is_name") (defArgs s0) (defBody s0) (defScope s0) .none kV0 dc0 pm0 an0 cd0 ct0)
    | 1 => (f1, PySem.W.fnOf (Str.ofString "_law_begin") (Str.ofString "_law_begin") (defArgs s1) (defBody s1) (defScope s1) .none kV1 dc1 pm1 an1 cd1 ct1)
    | 2 => (f2, PySem.W.fnOf (Str.ofString "_law_blend") (Str.ofString "_law_blend") (defArgs s2) (defBody s2) (defScope s2) .none kV2 dc2 pm2 an2 cd2 ct2)
    | 3 => (f3, PySem.W.fnOf (Str.ofString "_law_take") (Str.ofString "_law_take") (defArgs s3) (defBody s3) (defScope s3) .none kV3 dc3 pm3 an3 cd3 ct3)
    | 4 => (f4, PySem.W.fnOf (Str.ofString "_law_pick") (Str.ofString "_law_pick") (defArgs s4) (defBody s4) (defScope s4) .none kV4 dc4 pm4 an4 cd4 ct4)
    | 5 => (f5, PySem.W.fnOf (Str.ofString "_law_name") (Str.ofString "_law_name") (defArgs s5) (defBody s5) (defScope s5) .none kV5 dc5 pm5 an5 cd5 ct5)
    | 6 => (f6, PySem.W.fnOf (Str.ofString "_law_is_name") (Str.ofString "_law_is_name") (defArgs s6) (defBody s6) (defScope s6) .none kV6 dc6 pm6 an6 cd6 ct6)
    | _ => (fa, PySem.W.fnOf (Str.ofString "law") (Str.ofString "law") (defArgs s7) (defBody s7) (defScope s7) .none kV7 dc7 pm7 an7 cd7 ct7)
  refine ⟨⟨K, fun _ => 0, fun _ => Str.empty⟩, nm, fd, F7, rfl, rfl, rfl, rfl, fun s u => .of_eq rfl, fun base KB GB => ⟨rfl, fun x d hx => ?_, fun x hx => ?_, fun x f hx => ?_, fun f ks perm hk => ?_, fun f F hF => ?_⟩⟩
  · exact (show ∀ p ∈ tab, ∀ d, p.2 = GN.const d → ∃ u v, mg p.1 = some u ∧ RelV v u ∧ ∀ W, Rep _ W d v from List.forall_mem_cons.mpr ⟨(fun d h => nomatch h), List.forall_mem_cons.mpr ⟨(fun d h => nomatch h), List.forall_mem_cons.mpr ⟨(fun d h => nomatch h), List.forall_mem_cons.mpr ⟨(fun d h => nomatch h), List.forall_mem_cons.mpr ⟨(fun d h => nomatch h), List.forall_mem_cons.mpr ⟨(fun d h => nomatch h), List.forall_mem_cons.mpr ⟨(fun d h => nomatch h), List.forall_mem_cons.mpr ⟨(fun d h => nomatch h), List.forall_mem_cons.mpr ⟨(fun d h => by cases h; exact ⟨_, V.str _, PySem.W.mg_of KB GB n1, ⟨tk1, rfl⟩, fun _ => rfl⟩), List.forall_mem_cons.mpr ⟨(fun d h => by cases h; exact ⟨_, V.int _, PySem.W.mg_of KB GB n2, ⟨tk2, rfl⟩, fun _ => rfl⟩), List.forall_mem_cons.mpr ⟨(fun d h => nomatch h), List.forall_mem_cons.mpr ⟨(fun d h => nomatch h), List.forall_mem_cons.mpr ⟨(fun d h => nomatch h), List.forall_mem_cons.mpr ⟨(fun d h => nomatch h), List.forall_mem_cons.mpr ⟨(fun d h => nomatch h), List.forall_mem_cons.mpr ⟨(fun d h => nomatch h), List.forall_mem_cons.mpr ⟨(fun d h => nomatch h), List.forall_mem_cons.mpr ⟨(fun d h => nomatch h), List.forall_mem_cons.mpr ⟨(fun d h => nomatch h), fun _ h => nomatch h⟩⟩⟩⟩⟩⟩⟩⟩⟩⟩⟩⟩⟩⟩⟩⟩⟩⟩⟩) (x, .const d) (gnT_mem hx nofun) d rfl
  · exact (show ∀ p ∈ tab, p.2 = GN.none → mg p.1 = none from List.forall_mem_cons.mpr ⟨(fun h => nomatch h), List.forall_mem_cons.mpr ⟨(fun h => nomatch h), List.forall_mem_cons.mpr ⟨(fun h => nomatch h), List.forall_mem_cons.mpr ⟨(fun h => nomatch h), List.forall_mem_cons.mpr ⟨(fun h => nomatch h), List.forall_mem_cons.mpr ⟨(fun h => nomatch h), List.forall_mem_cons.mpr ⟨(fun h => nomatch h), List.forall_mem_cons.mpr ⟨(fun h => nomatch h), List.forall_mem_cons.mpr ⟨(fun h => nomatch h), List.forall_mem_cons.mpr ⟨(fun h => nomatch h), List.forall_mem_cons.mpr ⟨fun _ => PySem.W.mg_none_of KB GB z0, List.forall_mem_cons.mpr ⟨fun _ => PySem.W.mg_none_of KB GB z1, List.forall_mem_cons.mpr ⟨fun _ => PySem.W.mg_none_of KB GB z2, List.forall_mem_cons.mpr ⟨fun _ => PySem.W.mg_none_of KB GB z3, List.forall_mem_cons.mpr ⟨fun _ => PySem.W.mg_none_of KB GB z4, List.forall_mem_cons.mpr ⟨fun _ => PySem.W.mg_none_of KB GB z5, List.forall_mem_cons.mpr ⟨fun _ => PySem.W.mg_none_of KB GB z6, List.forall_mem_cons.mpr ⟨fun _ => PySem.W.mg_none_of KB GB z7, List.forall_mem_cons.mpr ⟨fun _ => PySem.W.mg_none_of KB GB z8, fun _ h => nomatch h⟩⟩⟩⟩⟩⟩⟩⟩⟩⟩⟩⟩⟩⟩⟩⟩⟩⟩⟩) (x, .none) (gnT_mem hx nofun) rfl
  · exact (show ∀ p ∈ tab, ∀ f, p.2 = GN.fn f → ∃ F, pg.fn f = some F ∧ mg p.1 = some (.ref (fd f).1) ∧ PySem.W.keepIn K (.ref (fd f).1) = true from List.forall_mem_cons.mpr ⟨(fun f h => by cases h; exact ⟨F0, rfl, PySem.W.mg_of KB GB a0, k0⟩), List.forall_mem_cons.mpr ⟨(fun f h => by cases h; exact ⟨F1, rfl, PySem.W.mg_of KB GB a1, k1⟩), List.forall_mem_cons.mpr ⟨(fun f h => by cases h; exact ⟨F2, rfl, PySem.W.mg_of KB GB a2, k2⟩), List.forall_mem_cons.mpr ⟨(fun f h => by cases h; exact ⟨F3, rfl, PySem.W.mg_of KB GB a3, k3⟩), List.forall_mem_cons.mpr ⟨(fun f h => by cases h; exact ⟨F4, rfl, PySem.W.mg_of KB GB a4, k4⟩), List.forall_mem_cons.mpr ⟨(fun f h => by cases h; exact ⟨F5, rfl, PySem.W.mg_of KB GB a5, k5⟩), List.forall_mem_cons.mpr ⟨(fun f h => by cases h; exact ⟨F6, rfl, PySem.W.mg_of KB GB a6, k6⟩), List.forall_mem_cons.mpr ⟨(fun f h => by cases h; exact ⟨F7, rfl, PySem.W.mg_of KB GB a7, k7⟩), List.forall_mem_cons.mpr ⟨(fun f h => nomatch h), List.forall_mem_cons.mpr ⟨(fun f h => nomatch h), List.forall_mem_cons.mpr ⟨(fun f h => nomatch h), List.forall_mem_cons.mpr ⟨(fun f h => nomatch h), List.forall_mem_cons.mpr ⟨(fun f h => nomatch h), List.forall_mem_cons.mpr ⟨(fun f h => nomatch h), List.forall_mem_cons.mpr ⟨(fun f h => nomatch h), List.forall_mem_cons.mpr ⟨(fun f h => nomatch h), List.forall_mem_cons.mpr ⟨(fun f h => nomatch h), List.forall_mem_cons.mpr ⟨(fun f h => nomatch h), List.forall_mem_cons.mpr ⟨(fun f h => nomatch h), fun _ h => nomatch h⟩⟩⟩⟩⟩⟩⟩⟩⟩⟩⟩⟩⟩⟩⟩⟩⟩⟩⟩) (x, .fn f) (gnT_mem hx nofun) f rfl
  · have hk : (if f = 0 ∧ ks = [Str.ofString "value"] then some [0] else none) = some perm := hk
    split at hk
    · rename_i hf
      obtain ⟨e1, e2⟩ := hf
      subst e1 e2
      cases hk
      refine ⟨F0, rfl, ⟨fun s ws us _ hp hl => ?_, rfl, rfl⟩⟩
      match ws, hl with
      | [w], _ =>
        cases hp
        exact .of_eq rfl
    · cases hk
  · unfold pg at hF
    dsimp only at hF
    split at hF
    · cases hF; exact fact_mk rfl l0 c0 sc0 er0 (by decide) (fun us hl => match us, hl with | [_], _ => rfl)
    · cases hF; exact fact_mk rfl l1 c1 sc1 er1 (by decide) (fun us hl => match us, hl with | [_], _ => rfl)
    · cases hF; exact fact_mk rfl l2 c2 sc2 er2 (by decide) (fun us hl => match us, hl with | [_], _ => rfl)
    · cases hF; exact fact_mk rfl l3 c3 sc3 er3 (by decide) (fun us hl => match us, hl with | [_, _], _ => rfl)
    · cases hF; exact fact_mk rfl l4 c4 sc4 er4 (by decide) (fun us hl => match us, hl with | [_, _], _ => rfl)
    · cases hF; exact fact_mk rfl l5 c5 sc5 er5 (by decide) (fun us hl => match us, hl with | [_], _ => rfl)
    · cases hF; exact fact_mk rfl l6 c6 sc6 er6 (by decide) (fun us hl => match us, hl with | [_], _ => rfl)
    · cases hF; exact fact_mk rfl l7 c7 sc7 er7 (by decide) (fun us hl => match us, hl with | [_], _ => rfl)
    · cases hF
end RL.K02

set_option Elab.async false
set_option linter.all false
set_option maxRecDepth 1000000
set_option maxHeartbeats 2000000
namespace RL.K02
open PySem L2 RL
theorem b_ap {α β : Type} (m : M α) (f : α → M β) (μ : List Cell) : (m >>= f) μ = match m μ with | .stuck => .stuck | .ok a μ' => f a μ' | .exc C vs μ' => .exc C vs μ' := rfl
theorem p_ap {α : Type} (a : α) (μ : List Cell) : (pure a : M α) μ = .ok a μ := rfl
abbrev kW : D := .str (Str.ofString "wide")
abbrev kC : D := .str (Str.ofString "cells")
abbrev kR : D := .str (Str.ofString "rest")
abbrev kT : D := .str (Str.ofString "turn")
def drawC (w : Nat) (cells : List Int) (rest turn : Int) : Cell := .dct [kW, kC, kR, kT] [.cell w, .lst (cells.map .int), .int rest, .int turn]
structure Draw (μ : List Cell) (c w : Nat) (wide cells : List Int) (rest turn : Int) : Prop where
  c_ : μ[c]? = some (drawC w cells rest turn)
  w_ : μ[w]? = some (.lst (wide.map .int))
  ne : c ≠ w
theorem Draw.lt {μ : List Cell} {c w : Nat} {wide cells : List Int} {rest turn : Int} (h : Draw μ c w wide cells rest turn) : c < μ.length := (List.getElem?_eq_some_iff.mp h.c_).1
theorem sub_rest {μ : List Cell} {c w : Nat} {wide cells : List Int} {rest turn : Int} (h : Draw μ c w wide cells rest turn) : subD μ (.cell c) kR = some (.int rest) := by
  unfold subD
  simp only [seqOf, dctOf, h.c_, drawC]
  rfl
theorem sub_turn {μ : List Cell} {c w : Nat} {wide cells : List Int} {rest turn : Int} (h : Draw μ c w wide cells rest turn) : subD μ (.cell c) kT = some (.int turn) := by
  unfold subD
  simp only [seqOf, dctOf, h.c_, drawC]
  rfl
theorem sub_cells {μ : List Cell} {c w : Nat} {wide cells : List Int} {rest turn : Int} (h : Draw μ c w wide cells rest turn) : subD μ (.cell c) kC = some (.lst (cells.map .int)) := by
  unfold subD
  simp only [seqOf, dctOf, h.c_, drawC]
  rfl
theorem sub_wide {μ : List Cell} {c w : Nat} {wide cells : List Int} {rest turn : Int} (h : Draw μ c w wide cells rest turn) : subD μ (.cell c) kW = some (.cell w) := by
  unfold subD
  simp only [seqOf, dctOf, h.c_, drawC]
  rfl
theorem set_rest {μ : List Cell} {c w : Nat} {wide cells : List Int} {rest turn x : Int} (h : Draw μ c w wide cells rest turn) : setixD μ (.cell c) kR (.int x) = some ((), μ.set c (drawC w cells x turn)) := by
  unfold setixD
  simp only [cellL, cellDct, h.c_, drawC]
  rfl
theorem set_turn {μ : List Cell} {c w : Nat} {wide cells : List Int} {rest turn x : Int} (h : Draw μ c w wide cells rest turn) : setixD μ (.cell c) kT (.int x) = some ((), μ.set c (drawC w cells rest x)) := by
  unfold setixD
  simp only [cellL, cellDct, h.c_, drawC]
  rfl
theorem Draw.setc {μ : List Cell} {c w : Nat} {wide cells : List Int} {rest turn r t : Int} (h : Draw μ c w wide cells rest turn) : Draw (μ.set c (drawC w cells r t)) c w wide cells r t :=
  ⟨List.getElem?_set_self h.lt, by rw [List.getElem?_set_ne h.ne]; exact h.w_, h.ne⟩
theorem forIt_cons {w : List (Nat × Cell)} {t : MT} {body : List (Option D) → M (Flow × List (Option D))} {x : D} {xs : List D} {ρ ρ' ρ2 : List (Option D)} {μ μ2 : List Cell} {f : Flow} (hs : still w μ = true) (ha : assignT ρ t x = some ρ') (hb : body ρ' μ = .ok (f, ρ2) μ2) :
    forIt w t body (x :: xs) ρ μ = turnF (fun ρ2 => forIt w t body xs ρ2) (f, ρ2) μ2 := by
  have e : forIt w t body (x :: xs) ρ μ = (ofO (assignT ρ t x) >>= fun ρ' => body ρ' >>= turnF fun ρ2 => forIt w t body xs ρ2) μ := by
    conv => lhs; unfold forIt
    simp only [hs, if_true]
  rw [e]
  simp only [b_ap, ha, ofO, hb]
theorem exs_nx {c : Cfg} {s : MS} {ss : List MS} {ρ ρ' : List (Option D)} {μ μ' : List Cell} (h : ex c s ρ μ = .ok (.nx, ρ') μ') : exs c (s :: ss) ρ μ = exs c ss ρ' μ' := by
  conv => lhs; unfold exs
  simp only [b_ap, h, nextF]
abbrev innerB : List MS := [(.asg (.name 3) (.bin .Mod (.callB .int [(.bin .Add (.bin .Mult (.v 3) (.k (.int 48271))) (.v 4))]) (.v 2)) false)]
theorem inner_ok (n : Nat) {p : Int} (hp : 0 < p) (a0 a1 : Option D) (μ : List Cell) : ∀ (cells : List Int) (x : Int) (y : Option D), ∃ y', forIt [] (.name 4) (fun ρ => exs (cfgOf pg n) innerB ρ) (cells.map .int) [a0, a1, some (.int p), some (.int x), y] μ =
    .ok (.nx, [a0, a1, some (.int p), some (.int (cells.foldl (fun x c => (x * 48271 + c) % p) x)), y']) μ
  | [], x, y => ⟨y, rfl⟩
  | z :: cells, x, y => by
    obtain ⟨y', h⟩ := inner_ok n hp a0 a1 μ cells ((x * 48271 + z) % p) (some (.int z))
    refine ⟨y', ?_⟩
    have hb : exs (cfgOf pg n) innerB [a0, a1, some (.int p), some (.int x), some (.int z)] μ = .ok (.nx, [a0, a1, some (.int p), some (.int ((x * 48271 + z) % p)), some (.int z)]) μ := by
      have hm : mulOk x 48271 = true := by unfold mulOk bigI; simp
      simp only [innerB, exs, ex, tryE, ev, evs, b_ap, p_ap, ofO, ER.d, getM, biD, binD, mulD, addD, modD, hm, hp, if_true, List.getElem?_cons_zero, List.getElem?_cons_succ, Option.join, Option.bind, Option.map, id_eq, celled, assignT, nextF, List.length_cons, List.length_nil, List.set]
      rfl
    rw [List.map_cons, forIt_cons (ρ' := [a0, a1, some (.int p), some (.int x), some (.int z)]) rfl rfl hb]
    exact h
theorem fold_bound {p : Int} (hp : 0 < p) (hb : p < 2 ^ 40) : ∀ (cells : List Int) (x : Int), 0 ≤ x → x < 2 ^ 62 → 0 ≤ cells.foldl (fun x c => (x * 48271 + c) % p) x ∧ cells.foldl (fun x c => (x * 48271 + c) % p) x < 2 ^ 62
  | [], x, h1, h2 => ⟨h1, h2⟩
  | z :: cells, x, h1, h2 => by
    have q1 := Int.emod_nonneg (x * 48271 + z) (Int.ne_of_gt hp)
    have q2 := Int.emod_lt_of_pos (x * 48271 + z) hp
    have q3 : (x * 48271 + z) % p < 2 ^ 62 := by omega
    exact fold_bound hp hb cells _ q1 q3
abbrev outerB : List MS := [(.asg (.name 3) (.bin .Add (.bin .Mult (.k (.int 77003)) (.sub (.v 0) (.k (.str (Str.ofString "turn"))))) (.bin .FloorDiv (.v 2) (.k (.int 11)))) false), (.for_ (.name 4) (.iter (.sub (.v 0) (.k (.str (Str.ofString "cells"))))) innerB), (.asg (.name 1) (.bin .Add (.bin .Mult (.v 1) (.k (.int 2147483647))) (.bin .Mod (.callB .int [(.bin .Pow (.v 3) (.k (.int 5)))]) (.v 2))) false)]
theorem outer1 (n : Nat) {μ : List Cell} {c w : Nat} {wide cells : List Int} {rest turn : Int} (h : Draw μ c w wide cells rest turn) (ht : 0 ≤ turn) (ht2 : turn < 1000000) {p : Int} (hp : 0 < p) (hb : p < 2 ^ 40) (found : Int) (y3 y4 : Option D) :
    ∃ f' y3' y4', exs (cfgOf pg n) outerB [some (.cell c), some (.int found), some (.int p), y3, y4] μ = .ok (.nx, [some (.cell c), some (.int f'), some (.int p), y3', y4']) μ := by
  obtain ⟨y', hi⟩ := inner_ok n hp (some (.cell c)) (some (.int found)) μ cells (77003 * turn + p / 11) y4
  have hd : 0 ≤ p / 11 := Int.ediv_nonneg (Int.le_of_lt hp) (by decide)
  have hd2 : p / 11 ≤ p := Int.ediv_le_self _ (Int.le_of_lt hp)
  obtain ⟨b1, b2⟩ := fold_bound hp hb cells (77003 * turn + p / 11) (by omega) (by omega)
  generalize hx : cells.foldl (fun x c => (x * 48271 + c) % p) (77003 * turn + p / 11) = x at hi b1 b2
  have m1 : mulOk 77003 turn = true := by unfold mulOk bigI; simp
  have m2 : mulOk found 2147483647 = true := by unfold mulOk bigI; simp
  have hn : x.natAbs < 2 ^ 64 := by omega
  refine ⟨found * 2147483647 + x ^ 5 % p, some (.int x), y', ?_⟩
  have s1 := sub_turn h
  have s2 := sub_cells h
  have l11 : Int.natAbs 11 = 11 := rfl
  have lg : Nat.log2 11 < 9000 := by decide
  have w0 : watchOf μ (.lst (cells.map .int)) = [] := rfl
  have p5 : powD (.int x) (.int 5) = some (.v (.int (x ^ 5))) := by
    show (if (0 : Int) ≤ 5 ∧ (5 : Int) ≤ 1000000 ∧ x.natAbs < 2 ^ 64 then some (ER.v (.int (x ^ (5 : Int).toNat))) else none) = _
    rw [if_pos ⟨by decide, by decide, hn⟩]
    rfl
  have d11 : fdivD (.int p) (.int 11) = some (.v (.int (p / 11))) := by
    show (if (0 : Int) < 11 ∧ (11 : Int).natAbs.log2 < 9000 then some (ER.v (.int (p / 11))) else none) = _
    rw [if_pos ⟨by decide, by decide⟩]
  rw [show outerB = [_, _, _] from rfl]
  have e1 : ex (cfgOf pg n) (.asg (.name 3) (.bin .Add (.bin .Mult (.k (.int 77003)) (.sub (.v 0) (.k (.str (Str.ofString "turn"))))) (.bin .FloorDiv (.v 2) (.k (.int 11)))) false) [some (.cell c), some (.int found), some (.int p), y3, y4] μ = .ok (.nx, [some (.cell c), some (.int found), some (.int p), some (.int (77003 * turn + p / 11)), y4]) μ := by
    simp only [ex, tryE, ev, b_ap, p_ap, ofO, ER.d, getM, binD, mulD, addD, m1, d11, s1, if_true, List.getElem?_cons_zero, List.getElem?_cons_succ, Option.join, Option.bind, Option.map, id_eq, celled, assignT, List.length_cons, List.length_nil, List.set]
    rfl
  have e2 : ex (cfgOf pg n) (.for_ (.name 4) (.iter (.sub (.v 0) (.k (.str (Str.ofString "cells"))))) innerB) [some (.cell c), some (.int found), some (.int p), some (.int (77003 * turn + p / 11)), y4] μ = .ok (.nx, [some (.cell c), some (.int found), some (.int p), some (.int x), y']) μ := by
    rw [← hi]
    simp only [ex, tryE, ev, evI, b_ap, p_ap, ofO, ER.d, getM, s2, itemsOf, w0, List.getElem?_cons_zero, Option.join, Option.bind, Option.map, id_eq]
  have e3 : ex (cfgOf pg n) (.asg (.name 1) (.bin .Add (.bin .Mult (.v 1) (.k (.int 2147483647))) (.bin .Mod (.callB .int [(.bin .Pow (.v 3) (.k (.int 5)))]) (.v 2))) false) [some (.cell c), some (.int found), some (.int p), some (.int x), y'] μ = .ok (.nx, [some (.cell c), some (.int (found * 2147483647 + x ^ 5 % p)), some (.int p), some (.int x), y']) μ := by
    simp only [ex, tryE, ev, evs, b_ap, p_ap, ofO, ER.d, getM, biD, binD, mulD, addD, modD, m2, hp, p5, if_true, List.getElem?_cons_zero, List.getElem?_cons_succ, Option.join, Option.bind, Option.map, id_eq, celled, assignT, List.length_cons, List.length_nil, List.set]
    rfl
  rw [exs_nx e1, exs_nx e2, exs_nx e3]
  rfl
theorem outer_ok (n : Nat) {μ : List Cell} {c w : Nat} {wide cells : List Int} {rest turn : Int} (h : Draw μ c w wide cells rest turn) (ht : 0 ≤ turn) (ht2 : turn < 1000000) : ∀ (ps : List Int), (∀ p ∈ ps, 0 < p ∧ p < 2 ^ 40) → ∀ (found : Int) (y2 y3 y4 : Option D),
    ∃ f' y2' y3' y4', forIt [] (.name 2) (fun ρ => exs (cfgOf pg n) outerB ρ) (ps.map .int) [some (.cell c), some (.int found), y2, y3, y4] μ = .ok (.nx, [some (.cell c), some (.int f'), y2', y3', y4']) μ
  | [], _, found, y2, y3, y4 => ⟨found, y2, y3, y4, rfl⟩
  | p :: ps, hp, found, y2, y3, y4 => by
    obtain ⟨p1, p2⟩ := hp p List.mem_cons_self
    obtain ⟨f', a, b, e⟩ := outer1 n h ht ht2 p1 p2 found y3 y4
    obtain ⟨f2, q2, q3, q4, e2⟩ := outer_ok n h ht ht2 ps (fun q hq => hp q (List.mem_cons_of_mem _ hq)) f' (some (.int p)) a b
    refine ⟨f2, q2, q3, q4, ?_⟩
    rw [List.map_cons, forIt_cons (ρ' := [some (.cell c), some (.int found), some (.int p), y3, y4]) rfl rfl e]
    exact e2
theorem exs_ret {c : Cfg} {s : MS} {ss : List MS} {ρ ρ' : List (Option D)} {μ μ' : List Cell} {r : ER} (h : ex c s ρ μ = .ok (.ret r, ρ') μ') : exs c (s :: ss) ρ μ = .ok (.ret r, ρ') μ' := by
  conv => lhs; unfold exs
  simp only [b_ap, h, nextF, p_ap]
theorem runF_ret {Pr : Pg} {n f : Nat} {F : FD} {xs ys : List D} {μ μ1 : List Cell} {ρ' : List (Option D)} {r : ER} (hF : Pr.fn f = some F) (hy : xs ++ F.dflt.drop (F.dflt.length - (F.ps.length - xs.length)) = ys) (hl : ys.length = F.ps.length)
    (h : exs (cfgOf Pr n) F.body (start0 F ys) μ = .ok (.ret r, ρ') μ1) : runF Pr (n + 1) f xs μ = finish μ r μ1 := by
  rw [runF_succ Pr n f xs μ F hF, hy, if_pos hl, h]
theorem finish_same {μ μ1 : List Cell} {r : ER} (h : μ1.length = μ.length) : finish μ r μ1 = .ok r μ1 := by
  unfold finish
  simp [h]
theorem blend_ok (n : Nat) {μ : List Cell} {c w : Nat} {wide cells : List Int} {rest turn : Int} (h : Draw μ c w wide cells rest turn) (ht : 0 ≤ turn) (ht2 : turn < 999999) :
    ∃ f', runF pg (n + 1) 2 [.cell c] μ = .ok (.v (.int f')) (μ.set c (drawC w cells rest (turn + 1))) := by
  have h2 : Draw (μ.set c (drawC w cells rest (turn + 1))) c w wide cells rest (turn + 1) := h.setc
  obtain ⟨f', y2, y3, y4, e⟩ := outer_ok n h2 (by omega) (by omega) [2147483629, 2147483587, 2147483579, 2147483563, 2147483549, 2147483543] (by decide) 0 none none none
  refine ⟨f', ?_⟩
  have s1 := sub_turn h
  have s2 := set_turn (x := turn + 1) h
  have e1 : ex (cfgOf pg n) (.setix (.v 0) (.k (.str (Str.ofString "turn"))) (.bin .Add (.sub (.v 0) (.k (.str (Str.ofString "turn")))) (.k (.int 1)))) [some (.cell c), none, none, none, none] μ = .ok (.nx, [some (.cell c), none, none, none, none]) (μ.set c (drawC w cells rest (turn + 1))) := by
    simp only [ex, tryE, ev, b_ap, p_ap, ofO, ER.d, getM, modM, binD, addD, s1, s2, List.getElem?_cons_zero, Option.join, Option.bind, Option.map, id_eq]
  have e2 : ex (cfgOf pg n) (.asg (.name 1) (.k (.int 0)) false) [some (.cell c), none, none, none, none] (μ.set c (drawC w cells rest (turn + 1))) = .ok (.nx, [some (.cell c), some (.int 0), none, none, none]) (μ.set c (drawC w cells rest (turn + 1))) := rfl
  have e3 : ex (cfgOf pg n) (.for_ (.name 2) (.iter (.lst [(.k (.int 2147483629)), (.k (.int 2147483587)), (.k (.int 2147483579)), (.k (.int 2147483563)), (.k (.int 2147483549)), (.k (.int 2147483543))])) outerB) [some (.cell c), some (.int 0), none, none, none] (μ.set c (drawC w cells rest (turn + 1))) = .ok (.nx, [some (.cell c), some (.int f'), y2, y3, y4]) (μ.set c (drawC w cells rest (turn + 1))) := by
    rw [← e]; rfl
  have e4 : ex (cfgOf pg n) (.ret (.v 1)) [some (.cell c), some (.int f'), y2, y3, y4] (μ.set c (drawC w cells rest (turn + 1))) = .ok (.ret (.v (.int f')), [some (.cell c), some (.int f'), y2, y3, y4]) (μ.set c (drawC w cells rest (turn + 1))) := rfl
  rw [runF_ret (F := F2) (ys := [.cell c]) rfl rfl rfl (show exs (cfgOf pg n) [_, _, _, _] [some (.cell c), none, none, none, none] μ = _ by rw [exs_nx e1, exs_nx e2, exs_nx e3, exs_ret e4])]
  exact finish_same (by simp)
theorem eq_int (μ : List Cell) (a b : Int) : eqD μ (.int a) (.int b) = some (decide (a = b)) := by
  have : PyData.eqv (.int a) (.int b) = decide (a = b) := by
    by_cases h : a = b
    · subst h; simp [PyData.eqv]
    · simp [PyData.eqv, h]
  show (if _ then some (PyData.eqv (.int a) (.int b)) else none) = _
  rw [this]
  rfl
theorem plains_ints : ∀ ns : List Int, plains (ns.map .int) = true
  | [] => rfl
  | _ :: ns => plains_ints ns
theorem lay_ints : ∀ ns : List Int, PyData.canLayAll0 (toPys (ns.map .int)) = true
  | [] => rfl
  | _ :: ns => by
    show (true && PyData.canLayAll0 (toPys (ns.map .int))) = true
    rw [lay_ints ns]; rfl
theorem depth_ints : ∀ ns : List Int, PyData.depthAll (toPys (ns.map .int)) ≤ 1
  | [] => by decide
  | n :: ns => by
    have h := depth_ints ns
    show max (PyData.depth (.int n)) (PyData.depthAll (toPys (ns.map .int))) ≤ 1
    exact Nat.max_le.mpr ⟨by simp [PyData.depth], h⟩
theorem shaped_ints (ns : List Int) : SeqAt.shaped (.list (toPys (ns.map .int))) = true := by
  unfold SeqAt.shaped
  have h := depth_ints ns
  rw [Bool.and_eq_true]
  refine ⟨lay_ints ns, decide_eq_true ?_⟩
  show PyData.depthAll (toPys (ns.map .int)) + 1 ≤ 64
  omega
theorem eq_nil {μ : List Cell} {w : Nat} {wide : List Int} (h : μ[w]? = some (.lst (wide.map .int))) : eqD μ (.cell w) (.lst []) = some wide.isEmpty := by
  have f : flat μ (.cell w) = .lst (wide.map .int) := by unfold flat; simp only [h]
  have e : PyData.eqv (toPy (.lst (wide.map .int))) (toPy (.lst [])) = wide.isEmpty := by
    cases wide <;> rfl
  unfold eqD
  rw [f]
  have g : flat μ (.lst []) = .lst [] := rfl
  rw [g]
  have c : (plain (.lst (wide.map .int)) && plain (.lst []) && SeqAt.shaped (toPy (.lst (wide.map .int))) && SeqAt.shaped (toPy (.lst []))) = true := by
    simp only [Bool.and_eq_true]
    exact ⟨⟨⟨plains_ints wide, rfl⟩, shaped_ints wide⟩, rfl⟩
  rw [if_pos c, e]
abbrev takeT : List MS := [(.asg (.name 2) (.bin .Mod (.callB .int [(.sub (.v 0) (.k (.str (Str.ofString "rest"))))]) (.v 1)) false), (.setix (.v 0) (.k (.str (Str.ofString "rest"))) (.bin .FloorDiv (.sub (.v 0) (.k (.str (Str.ofString "rest")))) (.v 1))), (.ret (.v 2))]
theorem take_tail (n : Nat) {μ : List Cell} {c w : Nat} {wide cells : List Int} {rest turn m : Int} (h : Draw μ c w wide cells rest turn) (hm : 0 < m) (hm2 : m.natAbs.log2 < 9000) :
    exs (cfgOf pg n) takeT [some (.cell c), some (.int m), none] μ = .ok (.ret (.v (.int (rest % m))), [some (.cell c), some (.int m), some (.int (rest % m))]) (μ.set c (drawC w cells (rest / m) turn)) := by
  have s1 := sub_rest h
  have s2 := set_rest (x := rest / m) h
  have dv : fdivD (.int rest) (.int m) = some (.v (.int (rest / m))) := by
    show (if (0 : Int) < m ∧ m.natAbs.log2 < 9000 then some (ER.v (.int (rest / m))) else none) = _
    rw [if_pos ⟨hm, hm2⟩]
  have md : modD (.int rest) (.int m) = some (.v (.int (rest % m))) := by
    show (if (0 : Int) < m then some (ER.v (.int (rest % m))) else none) = _
    rw [if_pos hm]
  have e1 : ex (cfgOf pg n) (.asg (.name 2) (.bin .Mod (.callB .int [(.sub (.v 0) (.k (.str (Str.ofString "rest"))))]) (.v 1)) false) [some (.cell c), some (.int m), none] μ = .ok (.nx, [some (.cell c), some (.int m), some (.int (rest % m))]) μ := by
    simp only [ex, tryE, ev, evs, b_ap, p_ap, ofO, ER.d, getM, biD, binD, md, s1, if_true, List.getElem?_cons_zero, List.getElem?_cons_succ, Option.join, Option.bind, Option.map, id_eq, celled, assignT, List.length_cons, List.length_nil, List.set]
    rfl
  have e2 : ex (cfgOf pg n) (.setix (.v 0) (.k (.str (Str.ofString "rest"))) (.bin .FloorDiv (.sub (.v 0) (.k (.str (Str.ofString "rest")))) (.v 1))) [some (.cell c), some (.int m), some (.int (rest % m))] μ = .ok (.nx, [some (.cell c), some (.int m), some (.int (rest % m))]) (μ.set c (drawC w cells (rest / m) turn)) := by
    simp only [ex, tryE, ev, evs, b_ap, p_ap, ofO, ER.d, getM, modM, binD, dv, s1, s2, List.getElem?_cons_zero, List.getElem?_cons_succ, Option.join, Option.bind, Option.map, id_eq]
  rw [exs_nx e1, exs_nx e2, exs_ret (show ex (cfgOf pg n) (.ret (.v 2)) [some (.cell c), some (.int m), some (.int (rest % m))] _ = .ok (.ret (.v (.int (rest % m))), _) _ from rfl)]
theorem Draw.wlt {μ : List Cell} {c w : Nat} {wide cells : List Int} {rest turn : Int} (h : Draw μ c w wide cells rest turn) : w < μ.length := (List.getElem?_eq_some_iff.mp h.w_).1
theorem Draw.setw {μ : List Cell} {c w : Nat} {wide wide' cells : List Int} {rest turn : Int} (h : Draw μ c w wide cells rest turn) : Draw (μ.set w (.lst (wide'.map .int))) c w wide' cells rest turn :=
  ⟨by rw [List.getElem?_set_ne (Ne.symm h.ne)]; exact h.c_, List.getElem?_set_self h.wlt, h.ne⟩
abbrev takeS : MS := .setix (.v 0) (.k (.str (Str.ofString "rest"))) (.ite (.cmp .NotEq (.sub (.v 0) (.k (.str (Str.ofString "wide")))) (.lst [])) (.bm .popAt (.sub (.v 0) (.k (.str (Str.ofString "wide")))) [(.k (.int 0))]) (.callF 2 [(.v 0)]))
theorem take_fill (n : Nat) {μ : List Cell} {c w : Nat} {wide cells : List Int} {rest turn : Int} (m : Int) (h : Draw μ c w wide cells rest turn) (ht : 0 ≤ turn) (ht2 : turn < 999999) (hw : wide.length ≤ 63) :
    ∃ wide' rest' turn' μ', ex (cfgOf pg (n + 1)) takeS [some (.cell c), some (.int m), none] μ = .ok (.nx, [some (.cell c), some (.int m), none]) μ' ∧ Draw μ' c w wide' cells rest' turn' ∧ 0 ≤ turn' ∧ turn' ≤ turn + 1 ∧ wide'.length ≤ wide.length ∧ μ'.length = μ.length ∧ ∀ j, j ≠ c → j ≠ w → μ'[j]? = μ[j]? := by
  have s1 := sub_wide h
  have q := eq_nil h.w_
  cases wide with
  | nil =>
    obtain ⟨f', hb⟩ := blend_ok n h ht ht2
    have h2 : Draw (μ.set c (drawC w cells rest (turn + 1))) c w [] cells rest (turn + 1) := h.setc
    have s2 := set_rest (x := f') h2
    refine ⟨[], f', turn + 1, _, ?_, h2.setc, by omega, by omega, Nat.le_refl _, by simp, fun j h1 h3 => by rw [List.getElem?_set_ne (Ne.symm h1), List.getElem?_set_ne (Ne.symm h1)]⟩
    have q : eqD μ (.cell w) (.lst []) = some true := q
    have hb : runF pg (n + 1) 2 [.cell c] μ = .ok (.v (.int f')) (μ.set c (drawC w cells rest (turn + 1))) := hb
    simp only [takeS, ex, tryE, ev, evs, b_ap, p_ap, ofO, ER.d, getM, modM, cmpD, truthD, cfgOf, hb, q, s1, s2, Bool.not_true, Bool.false_eq_true, if_false, List.getElem?_cons_zero, Option.join, Option.bind, Option.map, id_eq, List.length_nil, Nat.zero_le, if_true]
  | cons v ws =>
    have q : eqD μ (.cell w) (.lst []) = some false := q
    have pop : popAtD μ (.cell w) [.int 0] = some (.v (.int v), μ.set w (.lst (ws.map .int))) := by
      have hl : (D.int v :: ws.map D.int).length ≤ lineN := by
        have : (D.int v :: ws.map D.int).length = (v :: ws).length := by simp
        rw [this]
        exact Nat.le_trans hw (by decide)
      have hc : cellL μ (.cell w) = some (w, D.int v :: ws.map D.int) := by
        unfold cellL
        simp only [h.w_, List.map_cons]
      have hi : ixN (D.int v :: ws.map D.int).length 0 = some 0 := by
        unfold ixN
        rw [if_pos (by decide), if_pos (by simp)]
        rfl
      unfold popAtD
      simp only [hc, one1, asInt, Option.bind, hi, List.getElem?_cons_zero, hl, if_true, List.eraseIdx_cons_zero]
    have h2 : Draw (μ.set w (.lst (ws.map .int))) c w ws cells rest turn := h.setw
    have s2 := set_rest (x := v) h2
    have ty : bmTy μ .popAt (.cell w) = some () := by
      unfold bmTy listOf
      simp only [h.w_]
      rfl
    refine ⟨ws, v, turn, _, ?_, h2.setc, ht, by omega, by simp, by simp, fun j h1 h3 => by rw [List.getElem?_set_ne (Ne.symm h1), List.getElem?_set_ne (Ne.symm h3)]⟩
    simp only [takeS, ex, tryE, ev, evs, b_ap, p_ap, ofO, ER.d, getM, modM, bmD, cmpD, truthD, pop, ty, q, s1, s2, Bool.not_false, if_true, List.getElem?_cons_zero, Option.join, Option.bind, Option.map, id_eq, List.length_nil, Nat.zero_le]
/-- _law_take -/
theorem take_ok (n : Nat) {μ : List Cell} {c w : Nat} {wide cells : List Int} {rest turn m : Int} (h : Draw μ c w wide cells rest turn) (ht : 0 ≤ turn) (ht2 : turn < 999999) (hw : wide.length ≤ 63) (hm : 0 < m) (hm2 : m.natAbs.log2 < 9000) :
    ∃ r wide' rest' turn' μ', runF pg (n + 2) 3 [.cell c, .int m] μ = .ok (.v (.int r)) μ' ∧ 0 ≤ r ∧ r < m ∧ Draw μ' c w wide' cells rest' turn' ∧ 0 ≤ turn' ∧ turn' ≤ turn + 1 ∧ wide'.length ≤ wide.length ∧ μ'.length = μ.length ∧ ∀ j, j ≠ c → j ≠ w → μ'[j]? = μ[j]? := by
  have s1 := sub_rest h
  have q := eq_int μ rest 0
  have head : ∃ wide' rest' turn' μ', ex (cfgOf pg (n + 1)) (.ite (.cmp .Eq (.sub (.v 0) (.k (.str (Str.ofString "rest")))) (.k (.int 0))) [takeS] []) [some (.cell c), some (.int m), none] μ = .ok (.nx, [some (.cell c), some (.int m), none]) μ' ∧ Draw μ' c w wide' cells rest' turn' ∧ 0 ≤ turn' ∧ turn' ≤ turn + 1 ∧ wide'.length ≤ wide.length ∧ μ'.length = μ.length ∧ ∀ j, j ≠ c → j ≠ w → μ'[j]? = μ[j]? := by
    by_cases h0 : rest = 0
    · obtain ⟨wide', rest', turn', μ', e, r⟩ := take_fill n m h ht ht2 hw
      refine ⟨wide', rest', turn', μ', ?_, r⟩
      have q : eqD μ (.int rest) (.int 0) = some true := by rw [q, decide_eq_true h0]
      have e2 : exs (cfgOf pg (n + 1)) [takeS] [some (.cell c), some (.int m), none] μ = .ok (.nx, [some (.cell c), some (.int m), none]) μ' := by rw [exs_nx e]; rfl
      rw [← e2]
      simp only [ex, tryE, RL.evB, ev, b_ap, p_ap, ofO, ER.d, getM, cmpD, truthD, q, s1, if_true, List.getElem?_cons_zero, Option.join, Option.bind, Option.map, id_eq]
    · refine ⟨wide, rest, turn, μ, ?_, h, ht, by omega, Nat.le_refl _, rfl, fun _ _ _ => rfl⟩
      have q : eqD μ (.int rest) (.int 0) = some false := by rw [q, decide_eq_false h0]
      simp only [ex, exs, tryE, RL.evB, ev, b_ap, p_ap, ofO, ER.d, getM, cmpD, truthD, q, s1, Bool.false_eq_true, if_false, List.getElem?_cons_zero, Option.join, Option.bind, Option.map, id_eq]
  obtain ⟨wide', rest', turn', μ1, e, d, h1, h2, h3, h4, h5⟩ := head
  have t := take_tail (n + 1) d hm hm2
  refine ⟨rest' % m, wide', rest' / m, turn', _, ?_, Int.emod_nonneg _ (Int.ne_of_gt hm), Int.emod_lt_of_pos _ hm, d.setc, h1, h2, h3, by simp [h4], fun j j1 j2 => by rw [List.getElem?_set_ne (Ne.symm j1)]; exact h5 j j1 j2⟩
  rw [runF_ret (F := F3) (ys := [.cell c, .int m]) rfl rfl rfl (show exs (cfgOf pg (n + 1)) [_, _, _, _] [some (.cell c), some (.int m), none] μ = _ by rw [exs_nx e]; exact t)]
  exact finish_same (by simp [h4])
def DrawI (μ : List Cell) (c w : Nat) (cells : List Int) (B : Int) : Prop := ∃ wide rest turn, Draw μ c w wide cells rest turn ∧ 0 ≤ turn ∧ turn ≤ B ∧ wide.length ≤ 63
def Same2 (c w : Nat) (μ μ' : List Cell) : Prop := μ'.length = μ.length ∧ ∀ j, j ≠ c → j ≠ w → μ'[j]? = μ[j]?
theorem Same2.refl {c w : Nat} {μ : List Cell} : Same2 c w μ μ := ⟨rfl, fun _ _ _ => rfl⟩
theorem Same2.trans {c w : Nat} {μ μ' μ'' : List Cell} (h : Same2 c w μ μ') (h' : Same2 c w μ' μ'') : Same2 c w μ μ'' := ⟨h'.1.trans h.1, fun j a b => (h'.2 j a b).trans (h.2 j a b)⟩
theorem take_I (n : Nat) {μ : List Cell} {c w : Nat} {cells : List Int} {B m : Int} (h : DrawI μ c w cells B) (hB : B < 999999) (hm : 0 < m) (hm2 : m.natAbs.log2 < 9000) :
    ∃ r μ', runF pg (n + 2) 3 [.cell c, .int m] μ = .ok (.v (.int r)) μ' ∧ 0 ≤ r ∧ r < m ∧ DrawI μ' c w cells (B + 1) ∧ Same2 c w μ μ' := by
  obtain ⟨wide, rest, turn, d, t1, t2, hw⟩ := h
  obtain ⟨r, wide', rest', turn', μ', e, r1, r2, d', h1, h2, h3, h4, h5⟩ := take_ok n d t1 (by omega) hw hm hm2
  exact ⟨r, μ', e, r1, r2, ⟨wide', rest', turn', d', h1, by omega, by omega⟩, h4, h5⟩
/-- _law_pick of a text -/
theorem pick_I (n : Nat) {μ : List Cell} {c w : Nat} {cells : List Int} {B : Int} {s : Str} (h : DrawI μ c w cells B) (hB : B < 999999) (hs : 0 < s.length) (hz : s.length ≤ 1000) :
    ∃ ch μ', runF pg (n + 3) 4 [.cell c, .str s] μ = .ok (.v (.str ⟨#[ch]⟩)) μ' ∧ ch ∈ s.cps.toList ∧ DrawI μ' c w cells (B + 1) ∧ Same2 c w μ μ' := by
  have lg : (s.length : Int).natAbs.log2 < 9000 := by
    have : (s.length : Int).natAbs = s.length := rfl
    rw [this]
    have := Nat.log2_le_self s.length
    omega
  obtain ⟨r, μ', e, r1, r2, d, sm⟩ := take_I n h hB (m := (s.length : Int)) (by omega) lg
  have hl : s.cps.toList.length = s.length := by simp [Str.length]
  have hr : r.toNat < s.cps.toList.length := by rw [hl]; omega
  have hat : atI s.cps.toList r = some s.cps.toList[r.toNat] := by
    unfold atI ixN
    rw [if_pos r1, if_pos (by rw [hl]; exact r2)]
    show s.cps.toList[r.toNat]? = _
    exact List.getElem?_eq_getElem hr
  have hz' : s.length ≤ sizeLine := Nat.le_trans hz (by decide)
  refine ⟨s.cps.toList[r.toNat], μ', ?_, List.getElem_mem hr, d, sm⟩
  have e4 : ex (cfgOf pg (n + 2)) (.ret (.sub (.v 1) (.callF 3 [(.v 0), (.callB .len [(.v 1)])]))) [some (.cell c), some (.str s)] μ = .ok (.ret (.v (.str ⟨#[s.cps.toList[r.toNat]]⟩)), [some (.cell c), some (.str s)]) μ' := by
    simp only [ex, tryE, ev, evs, b_ap, p_ap, ofO, ER.d, getM, biD, lenD, hz', cfgOf, e, subD, hat, if_true, List.getElem?_cons_zero, List.getElem?_cons_succ, Option.join, Option.bind, Option.map, id_eq]
  rw [runF_ret (F := F4) (ys := [.cell c, .str s]) rfl rfl rfl (show exs (cfgOf pg (n + 2)) [_] [some (.cell c), some (.str s)] μ = _ by rw [exs_ret e4])]
  exact finish_same sm.1
/-- _law_pick of a list -/
theorem pick_L (n : Nat) {μ : List Cell} {c w : Nat} {cells : List Int} {B : Int} {xs : List D} (h : DrawI μ c w cells B) (hB : B < 999999) (hs : 0 < xs.length) (hz : xs.length ≤ 1000) :
    ∃ x μ', runF pg (n + 3) 4 [.cell c, .lst xs] μ = .ok (.v x) μ' ∧ x ∈ xs ∧ DrawI μ' c w cells (B + 1) ∧ Same2 c w μ μ' := by
  have lg : (xs.length : Int).natAbs.log2 < 9000 := by
    have : (xs.length : Int).natAbs = xs.length := rfl
    rw [this]
    have := Nat.log2_le_self xs.length
    omega
  obtain ⟨r, μ', e, r1, r2, d, sm⟩ := take_I n h hB (m := (xs.length : Int)) (by omega) lg
  have hr : r.toNat < xs.length := by omega
  have hat : atI xs r = some xs[r.toNat] := by
    unfold atI ixN
    rw [if_pos r1, if_pos r2]
    show xs[r.toNat]? = _
    exact List.getElem?_eq_getElem hr
  have e4 : ex (cfgOf pg (n + 2)) (.ret (.sub (.v 1) (.callF 3 [(.v 0), (.callB .len [(.v 1)])]))) [some (.cell c), some (.lst xs)] μ = .ok (.ret (.v xs[r.toNat]), [some (.cell c), some (.lst xs)]) μ' := by
    simp only [ex, tryE, ev, evs, b_ap, p_ap, ofO, ER.d, getM, biD, lenD, cfgOf, e, subD, seqOf, hat, List.getElem?_cons_zero, List.getElem?_cons_succ, Option.join, Option.bind, Option.map, id_eq]
  have hm : xs[r.toNat] ∈ xs := List.getElem_mem hr
  refine ⟨xs[r.toNat], μ', ?_, hm, d, sm⟩
  rw [runF_ret (F := F4) (ys := [.cell c, .lst xs]) rfl rfl rfl (show exs (cfgOf pg (n + 2)) [_] [some (.cell c), some (.lst xs)] μ = _ by rw [exs_ret e4])]
  exact finish_same sm.1
/-- signs picked one by one -/
theorem picks {c w : Nat} {cells : List Int} {f : D → M (Option D)} {P : Nat → Prop} (hf : ∀ (x : D) (μ : List Cell) (B : Int), DrawI μ c w cells B → B < 999999 → ∃ ch μ', f x μ = .ok (some (.str ⟨#[ch]⟩)) μ' ∧ P ch ∧ DrawI μ' c w cells (B + 1) ∧ Same2 c w μ μ') :
    ∀ (xs : List D) (μ : List Cell) (B : Int), DrawI μ c w cells B → B + xs.length < 999999 → ∃ (cs : List Nat) (μ' : List Cell), mapIt [] f xs μ = .ok (cs.map fun ch => .str ⟨#[ch]⟩) μ' ∧ cs.length = xs.length ∧ (∀ ch ∈ cs, P ch) ∧ DrawI μ' c w cells (B + xs.length) ∧ Same2 c w μ μ'
  | [], μ, B, h, hB => ⟨[], μ, rfl, rfl, nofun, by simpa using h, .refl⟩
  | x :: xs, μ, B, h, hB => by
    have hB : B + (xs.length + 1 : Nat) < 999999 := hB
    obtain ⟨ch, μ1, e1, p1, d1, s1⟩ := hf x μ B h (by omega)
    obtain ⟨cs, μ2, e2, l2, p2, d2, s2⟩ := picks hf xs μ1 (B + 1) d1 (by omega)
    refine ⟨ch :: cs, μ2, ?_, by simp [l2], fun q hq => ?_, ?_, s1.trans s2⟩
    · have e : mapIt [] f (x :: xs) μ = ((noX (f x) >>= fun y => mapIt [] f xs >>= fun ys => (pure (match y with | some y => y :: ys | none => ys) : M (List D))) μ) := by
        conv => lhs; unfold mapIt
        rfl
      rw [e]
      simp only [b_ap, p_ap, noX, e1, e2, List.map_cons]
    · rcases List.mem_cons.mp hq with q1 | q1
      · rw [q1]; exact p1
      · exact p2 q q1
    · have : B + 1 + (xs.length : Int) = B + ((x :: xs).length : Int) := by simp; omega
      rw [← this]; exact d2
end RL.K02

set_option Elab.async false
set_option linter.all false
set_option maxRecDepth 1000000
set_option maxHeartbeats 2000000
namespace RL.K02
open PySem L2 RL
abbrev abc : Str := Str.ofString "abcdefghijklmnopqrstuvwxyz"
def isLet (c : Nat) : Bool := strIn ⟨#[c]⟩ abc
def isNm (s : Str) : Bool := decide (1 ≤ s.length) && decide (s.length ≤ 8) && s.cps.toList.all isLet
theorem all_lets (cs : List Nat) : asBools (cs.map fun c => D.bl (isLet c)) = some (cs.map isLet) := by
  induction cs with
  | nil => rfl
  | cons c cs ih => simp only [List.map_cons, asBools, ih, Option.map]
theorem chars_map (s : Str) : chars s = s.cps.toList.map fun c => D.str ⟨#[c]⟩ := rfl
theorem chars_len (s : Str) : (chars s).length = s.length := by rw [chars_map, List.length_map]; simp [Str.length]
theorem is_name_str (n : Nat) (μ : List Cell) (s : Str) (hs : s.length ≤ 16777216) : runF pg (n + 1) 0 [.str s] μ = .ok (.v (.bl (isNm s))) μ := by
  refine eq_of_wp (wp_run (F := F0) rfl rfl ?_)
  unfold isNm
  by_cases h1 : 1 ≤ s.length
  · by_cases h2 : s.length ≤ 8
    · have i1 : (1 : Int) ≤ (s.length : Int) := by omega
      have i2 : (s.length : Int) ≤ 8 := by omega
      have hl : (chars s).length ≤ 16777216 := by rw [chars_len]; omega
      simp only [F0, wp_pure, wp_bind, wp_stuck, wp_ofO, wp_ofN, wp_getM, wp_modM, wp_tryE, wp_iteB, wp_ite, wp_exs_nil, wp_exs_cons, nxQ_nx, nxQ_ret, nxQ_brk, nxQ_cont, nxQ_exc, turnQ_nx, turnQ_ret, turnQ_brk, turnQ_cont, turnQ_exc, retQ_ret, retQ_nx, retQ_exc, oQ_some, oQ_none, erd_v, erd_fl, erd_fd, erd_fo, ev_k, ev_v, ev_bin, ev_cmp, ev_chain, ev_and, ev_or, ev_not, ev_ite, ev_tup, ev_lst, ev_dct, ev_sub, ev_slice, ev_callF, ev_callK, ev_callB, ev_isinst, ev_bm, ev_lcF, evs, evp_absent, evp_star, evT_nil, evT_one, evI_range1, evI_range2, evI_zip, evI_enum, evI_iter, ex_asg, ex_par, ex_setix, ex_setattr, ex_aug, ex_expr, ex_ret, ex_ret0, ex_ite, ex_whil, ex_for, ex_brk, ex_cont, ex_pass, evB_eq, addD_int, addD_tup, addD_lst, addD_str, subtD_int, mulD_int, modD_int, fdivD_int, bin_add, bin_sub, bin_mul, bin_fdiv, bin_mod, bin_pow, cmp_eq, cmp_ne, cmp_lt, cmp_le, cmp_gt, cmp_ge, cmp_is, cmp_isnot, cmp_in, cmp_notin, ltD_int, leD_int, gtD_int, geD_int, isD_non, inD_str, inD_lst, inD_tup, inD_dct, truth_bl, truth_int, truth_lst, truth_tup, truth_non, seq_kl, seq_tup, seq_lst, dct_dct, list_lst, items_kl, items_str, items_tup, items_lst, len_kl, len_str, len_tup, len_lst, len_dct, bi_len, bi_all, bi_any, bi_sum, bi_max1, bi_min1, bi_max2, bi_min2, bi_int, bi_intB, bi_tuple, bi_list, bi_sorted, bi_repr, sub_tup, sub_lst, sub_kl, sub_dctS, slice_tup, slice_lst, slice_kl, pairsD_nil, bmD_append, bmD_popAt, bmD_join, bt_join, watch_tup, watch_lst, watch_str, watch_kl, watch_dct, zip_lst, zip_tup, celled_v, celled_fl, celled_fd, celled_fo, wp_celled_fl, wp_celled_fd, assign_name, assign_tup2, wipe_name, wipe_tup2, still_nil, tg_non, tg_bl, tg_int, tg_str, tg_tup, tg_lst, ty_isstr, ty_istup, start0, cfg_call, cfg_fuel, wpR_ok, fin_self, Option.join_some, Option.join_none, Option.bind_some, Option.bind_none, Option.map_some, Option.map_none, List.map_cons, List.map_nil, List.all_cons, List.all_nil, List.any_cons, List.any_nil, List.getElem?_cons_zero, List.getElem?_cons_succ, List.length_cons, List.length_nil, List.set_cons_zero, List.set_cons_succ, List.cons_append, List.nil_append, List.append_nil, List.replicate, List.drop_nil, Nat.sub_self, Nat.sub_zero, Nat.zero_add, Nat.reduceAdd, Nat.reduceSub, Nat.reduceLT, Nat.reduceLeDiff, Nat.zero_lt_succ, id_eq, if_true, if_false, Bool.true_and, Bool.and_true, Bool.false_and, Bool.and_false, Bool.or_false, Bool.false_or, Bool.true_or, Bool.or_true, Bool.not_true, Bool.not_false, Bool.and_self, Bool.or_self, Bool.false_eq_true, decide_true, decide_false, lineN_eq, sizeLine_eq, Nat.zero_le, and_self, i1, i2, h1, h2, hs, hl]
      rw [chars_map]
      refine wp_lc_map _ _ (fun c => .bl (isLet c)) (still_nil _) (fun c _ => ?_) ?_
      · unfold lcF
        simp only [wp_pure, wp_bind, wp_stuck, wp_ofO, wp_ofN, wp_getM, wp_modM, wp_tryE, wp_iteB, wp_ite, wp_exs_nil, wp_exs_cons, nxQ_nx, nxQ_ret, nxQ_brk, nxQ_cont, nxQ_exc, turnQ_nx, turnQ_ret, turnQ_brk, turnQ_cont, turnQ_exc, retQ_ret, retQ_nx, retQ_exc, oQ_some, oQ_none, erd_v, erd_fl, erd_fd, erd_fo, ev_k, ev_v, ev_bin, ev_cmp, ev_chain, ev_and, ev_or, ev_not, ev_ite, ev_tup, ev_lst, ev_dct, ev_sub, ev_slice, ev_callF, ev_callK, ev_callB, ev_isinst, ev_bm, ev_lcF, evs, evp_absent, evp_star, evT_nil, evT_one, evI_range1, evI_range2, evI_zip, evI_enum, evI_iter, ex_asg, ex_par, ex_setix, ex_setattr, ex_aug, ex_expr, ex_ret, ex_ret0, ex_ite, ex_whil, ex_for, ex_brk, ex_cont, ex_pass, evB_eq, addD_int, addD_tup, addD_lst, addD_str, subtD_int, mulD_int, modD_int, fdivD_int, bin_add, bin_sub, bin_mul, bin_fdiv, bin_mod, bin_pow, cmp_eq, cmp_ne, cmp_lt, cmp_le, cmp_gt, cmp_ge, cmp_is, cmp_isnot, cmp_in, cmp_notin, ltD_int, leD_int, gtD_int, geD_int, isD_non, inD_str, inD_lst, inD_tup, inD_dct, truth_bl, truth_int, truth_lst, truth_tup, truth_non, seq_kl, seq_tup, seq_lst, dct_dct, list_lst, items_kl, items_str, items_tup, items_lst, len_kl, len_str, len_tup, len_lst, len_dct, bi_len, bi_all, bi_any, bi_sum, bi_max1, bi_min1, bi_max2, bi_min2, bi_int, bi_intB, bi_tuple, bi_list, bi_sorted, bi_repr, sub_tup, sub_lst, sub_kl, sub_dctS, slice_tup, slice_lst, slice_kl, pairsD_nil, bmD_append, bmD_popAt, bmD_join, bt_join, watch_tup, watch_lst, watch_str, watch_kl, watch_dct, zip_lst, zip_tup, celled_v, celled_fl, celled_fd, celled_fo, wp_celled_fl, wp_celled_fd, assign_name, assign_tup2, wipe_name, wipe_tup2, still_nil, tg_non, tg_bl, tg_int, tg_str, tg_tup, tg_lst, ty_isstr, ty_istup, start0, cfg_call, cfg_fuel, wpR_ok, fin_self, Option.join_some, Option.join_none, Option.bind_some, Option.bind_none, Option.map_some, Option.map_none, List.map_cons, List.map_nil, List.all_cons, List.all_nil, List.any_cons, List.any_nil, List.getElem?_cons_zero, List.getElem?_cons_succ, List.length_cons, List.length_nil, List.set_cons_zero, List.set_cons_succ, List.cons_append, List.nil_append, List.append_nil, List.replicate, List.drop_nil, Nat.sub_self, Nat.sub_zero, Nat.zero_add, Nat.reduceAdd, Nat.reduceSub, Nat.reduceLT, Nat.reduceLeDiff, Nat.zero_lt_succ, id_eq, if_true, if_false, Bool.true_and, Bool.and_true, Bool.false_and, Bool.and_false, Bool.or_false, Bool.false_or, Bool.true_or, Bool.or_true, Bool.not_true, Bool.not_false, Bool.and_self, Bool.or_self, Bool.false_eq_true, decide_true, decide_false, lineN_eq, sizeLine_eq, Nat.zero_le, and_self, isLet]
      · rw [all_lets]
        simp only [wp_pure, wp_bind, wp_stuck, wp_ofO, wp_ofN, wp_getM, wp_modM, wp_tryE, wp_iteB, wp_ite, wp_exs_nil, wp_exs_cons, nxQ_nx, nxQ_ret, nxQ_brk, nxQ_cont, nxQ_exc, turnQ_nx, turnQ_ret, turnQ_brk, turnQ_cont, turnQ_exc, retQ_ret, retQ_nx, retQ_exc, oQ_some, oQ_none, erd_v, erd_fl, erd_fd, erd_fo, ev_k, ev_v, ev_bin, ev_cmp, ev_chain, ev_and, ev_or, ev_not, ev_ite, ev_tup, ev_lst, ev_dct, ev_sub, ev_slice, ev_callF, ev_callK, ev_callB, ev_isinst, ev_bm, ev_lcF, evs, evp_absent, evp_star, evT_nil, evT_one, evI_range1, evI_range2, evI_zip, evI_enum, evI_iter, ex_asg, ex_par, ex_setix, ex_setattr, ex_aug, ex_expr, ex_ret, ex_ret0, ex_ite, ex_whil, ex_for, ex_brk, ex_cont, ex_pass, evB_eq, addD_int, addD_tup, addD_lst, addD_str, subtD_int, mulD_int, modD_int, fdivD_int, bin_add, bin_sub, bin_mul, bin_fdiv, bin_mod, bin_pow, cmp_eq, cmp_ne, cmp_lt, cmp_le, cmp_gt, cmp_ge, cmp_is, cmp_isnot, cmp_in, cmp_notin, ltD_int, leD_int, gtD_int, geD_int, isD_non, inD_str, inD_lst, inD_tup, inD_dct, truth_bl, truth_int, truth_lst, truth_tup, truth_non, seq_kl, seq_tup, seq_lst, dct_dct, list_lst, items_kl, items_str, items_tup, items_lst, len_kl, len_str, len_tup, len_lst, len_dct, bi_len, bi_all, bi_any, bi_sum, bi_max1, bi_min1, bi_max2, bi_min2, bi_int, bi_intB, bi_tuple, bi_list, bi_sorted, bi_repr, sub_tup, sub_lst, sub_kl, sub_dctS, slice_tup, slice_lst, slice_kl, pairsD_nil, bmD_append, bmD_popAt, bmD_join, bt_join, watch_tup, watch_lst, watch_str, watch_kl, watch_dct, zip_lst, zip_tup, celled_v, celled_fl, celled_fd, celled_fo, wp_celled_fl, wp_celled_fd, assign_name, assign_tup2, wipe_name, wipe_tup2, still_nil, tg_non, tg_bl, tg_int, tg_str, tg_tup, tg_lst, ty_isstr, ty_istup, start0, cfg_call, cfg_fuel, wpR_ok, fin_self, Option.join_some, Option.join_none, Option.bind_some, Option.bind_none, Option.map_some, Option.map_none, List.map_cons, List.map_nil, List.all_cons, List.all_nil, List.any_cons, List.any_nil, List.getElem?_cons_zero, List.getElem?_cons_succ, List.length_cons, List.length_nil, List.set_cons_zero, List.set_cons_succ, List.cons_append, List.nil_append, List.append_nil, List.replicate, List.drop_nil, Nat.sub_self, Nat.sub_zero, Nat.zero_add, Nat.reduceAdd, Nat.reduceSub, Nat.reduceLT, Nat.reduceLeDiff, Nat.zero_lt_succ, id_eq, if_true, if_false, Bool.true_and, Bool.and_true, Bool.false_and, Bool.and_false, Bool.or_false, Bool.false_or, Bool.true_or, Bool.or_true, Bool.not_true, Bool.not_false, Bool.and_self, Bool.or_self, Bool.false_eq_true, decide_true, decide_false, lineN_eq, sizeLine_eq, Nat.zero_le, and_self, List.all_map, Function.comp_def]
    · have i1 : (1 : Int) ≤ (s.length : Int) := by omega
      have i2 : ¬ (s.length : Int) ≤ 8 := by omega
      simp only [F0, wp_pure, wp_bind, wp_stuck, wp_ofO, wp_ofN, wp_getM, wp_modM, wp_tryE, wp_iteB, wp_ite, wp_exs_nil, wp_exs_cons, nxQ_nx, nxQ_ret, nxQ_brk, nxQ_cont, nxQ_exc, turnQ_nx, turnQ_ret, turnQ_brk, turnQ_cont, turnQ_exc, retQ_ret, retQ_nx, retQ_exc, oQ_some, oQ_none, erd_v, erd_fl, erd_fd, erd_fo, ev_k, ev_v, ev_bin, ev_cmp, ev_chain, ev_and, ev_or, ev_not, ev_ite, ev_tup, ev_lst, ev_dct, ev_sub, ev_slice, ev_callF, ev_callK, ev_callB, ev_isinst, ev_bm, ev_lcF, evs, evp_absent, evp_star, evT_nil, evT_one, evI_range1, evI_range2, evI_zip, evI_enum, evI_iter, ex_asg, ex_par, ex_setix, ex_setattr, ex_aug, ex_expr, ex_ret, ex_ret0, ex_ite, ex_whil, ex_for, ex_brk, ex_cont, ex_pass, evB_eq, addD_int, addD_tup, addD_lst, addD_str, subtD_int, mulD_int, modD_int, fdivD_int, bin_add, bin_sub, bin_mul, bin_fdiv, bin_mod, bin_pow, cmp_eq, cmp_ne, cmp_lt, cmp_le, cmp_gt, cmp_ge, cmp_is, cmp_isnot, cmp_in, cmp_notin, ltD_int, leD_int, gtD_int, geD_int, isD_non, inD_str, inD_lst, inD_tup, inD_dct, truth_bl, truth_int, truth_lst, truth_tup, truth_non, seq_kl, seq_tup, seq_lst, dct_dct, list_lst, items_kl, items_str, items_tup, items_lst, len_kl, len_str, len_tup, len_lst, len_dct, bi_len, bi_all, bi_any, bi_sum, bi_max1, bi_min1, bi_max2, bi_min2, bi_int, bi_intB, bi_tuple, bi_list, bi_sorted, bi_repr, sub_tup, sub_lst, sub_kl, sub_dctS, slice_tup, slice_lst, slice_kl, pairsD_nil, bmD_append, bmD_popAt, bmD_join, bt_join, watch_tup, watch_lst, watch_str, watch_kl, watch_dct, zip_lst, zip_tup, celled_v, celled_fl, celled_fd, celled_fo, wp_celled_fl, wp_celled_fd, assign_name, assign_tup2, wipe_name, wipe_tup2, still_nil, tg_non, tg_bl, tg_int, tg_str, tg_tup, tg_lst, ty_isstr, ty_istup, start0, cfg_call, cfg_fuel, wpR_ok, fin_self, Option.join_some, Option.join_none, Option.bind_some, Option.bind_none, Option.map_some, Option.map_none, List.map_cons, List.map_nil, List.all_cons, List.all_nil, List.any_cons, List.any_nil, List.getElem?_cons_zero, List.getElem?_cons_succ, List.length_cons, List.length_nil, List.set_cons_zero, List.set_cons_succ, List.cons_append, List.nil_append, List.append_nil, List.replicate, List.drop_nil, Nat.sub_self, Nat.sub_zero, Nat.zero_add, Nat.reduceAdd, Nat.reduceSub, Nat.reduceLT, Nat.reduceLeDiff, Nat.zero_lt_succ, id_eq, if_true, if_false, Bool.true_and, Bool.and_true, Bool.false_and, Bool.and_false, Bool.or_false, Bool.false_or, Bool.true_or, Bool.or_true, Bool.not_true, Bool.not_false, Bool.and_self, Bool.or_self, Bool.false_eq_true, decide_true, decide_false, lineN_eq, sizeLine_eq, Nat.zero_le, and_self, i1, i2, hs, h1, h2]
  · have i1 : ¬ (1 : Int) ≤ (s.length : Int) := by omega
    simp only [F0, wp_pure, wp_bind, wp_stuck, wp_ofO, wp_ofN, wp_getM, wp_modM, wp_tryE, wp_iteB, wp_ite, wp_exs_nil, wp_exs_cons, nxQ_nx, nxQ_ret, nxQ_brk, nxQ_cont, nxQ_exc, turnQ_nx, turnQ_ret, turnQ_brk, turnQ_cont, turnQ_exc, retQ_ret, retQ_nx, retQ_exc, oQ_some, oQ_none, erd_v, erd_fl, erd_fd, erd_fo, ev_k, ev_v, ev_bin, ev_cmp, ev_chain, ev_and, ev_or, ev_not, ev_ite, ev_tup, ev_lst, ev_dct, ev_sub, ev_slice, ev_callF, ev_callK, ev_callB, ev_isinst, ev_bm, ev_lcF, evs, evp_absent, evp_star, evT_nil, evT_one, evI_range1, evI_range2, evI_zip, evI_enum, evI_iter, ex_asg, ex_par, ex_setix, ex_setattr, ex_aug, ex_expr, ex_ret, ex_ret0, ex_ite, ex_whil, ex_for, ex_brk, ex_cont, ex_pass, evB_eq, addD_int, addD_tup, addD_lst, addD_str, subtD_int, mulD_int, modD_int, fdivD_int, bin_add, bin_sub, bin_mul, bin_fdiv, bin_mod, bin_pow, cmp_eq, cmp_ne, cmp_lt, cmp_le, cmp_gt, cmp_ge, cmp_is, cmp_isnot, cmp_in, cmp_notin, ltD_int, leD_int, gtD_int, geD_int, isD_non, inD_str, inD_lst, inD_tup, inD_dct, truth_bl, truth_int, truth_lst, truth_tup, truth_non, seq_kl, seq_tup, seq_lst, dct_dct, list_lst, items_kl, items_str, items_tup, items_lst, len_kl, len_str, len_tup, len_lst, len_dct, bi_len, bi_all, bi_any, bi_sum, bi_max1, bi_min1, bi_max2, bi_min2, bi_int, bi_intB, bi_tuple, bi_list, bi_sorted, bi_repr, sub_tup, sub_lst, sub_kl, sub_dctS, slice_tup, slice_lst, slice_kl, pairsD_nil, bmD_append, bmD_popAt, bmD_join, bt_join, watch_tup, watch_lst, watch_str, watch_kl, watch_dct, zip_lst, zip_tup, celled_v, celled_fl, celled_fd, celled_fo, wp_celled_fl, wp_celled_fd, assign_name, assign_tup2, wipe_name, wipe_tup2, still_nil, tg_non, tg_bl, tg_int, tg_str, tg_tup, tg_lst, ty_isstr, ty_istup, start0, cfg_call, cfg_fuel, wpR_ok, fin_self, Option.join_some, Option.join_none, Option.bind_some, Option.bind_none, Option.map_some, Option.map_none, List.map_cons, List.map_nil, List.all_cons, List.all_nil, List.any_cons, List.any_nil, List.getElem?_cons_zero, List.getElem?_cons_succ, List.length_cons, List.length_nil, List.set_cons_zero, List.set_cons_succ, List.cons_append, List.nil_append, List.append_nil, List.replicate, List.drop_nil, Nat.sub_self, Nat.sub_zero, Nat.zero_add, Nat.reduceAdd, Nat.reduceSub, Nat.reduceLT, Nat.reduceLeDiff, Nat.zero_lt_succ, id_eq, if_true, if_false, Bool.true_and, Bool.and_true, Bool.false_and, Bool.and_false, Bool.or_false, Bool.false_or, Bool.true_or, Bool.or_true, Bool.not_true, Bool.not_false, Bool.and_self, Bool.or_self, Bool.false_eq_true, decide_true, decide_false, lineN_eq, sizeLine_eq, Nat.zero_le, and_self, i1, hs, h1]
theorem filter_lets (cs : List Nat) : ∃ ds : List Nat, (cs.filterMap fun c => if isLet c then none else some (D.str ⟨#[c]⟩)) = ds.map (fun c => D.str ⟨#[c]⟩) ∧ ds.isEmpty = cs.all isLet ∧ ∀ c ∈ ds, c ∈ cs := by
  induction cs with
  | nil => exact ⟨[], rfl, rfl, nofun⟩
  | cons c cs ih =>
    obtain ⟨ds, e, h, hm⟩ := ih
    rw [List.filterMap_cons, List.all_cons]
    cases isLet c with
    | true => exact ⟨ds, by simpa using e, by simpa using h, fun c hc => List.mem_cons_of_mem _ (hm c hc)⟩
    | false => exact ⟨c :: ds, by simp [e], by simp, fun q hq => (List.mem_cons.mp hq).elim (fun z => z ▸ List.mem_cons_self) fun z => List.mem_cons_of_mem _ (hm q z)⟩
theorem plains_strs : ∀ ns : List Nat, plains (ns.map fun c => D.str ⟨#[c]⟩) = true
  | [] => rfl
  | _ :: ns => plains_strs ns
theorem lay_strs : ∀ ns : List Nat, (∀ c ∈ ns, PyData.strOk ⟨#[c]⟩ = true) → PyData.canLayAll0 (toPys (ns.map fun c => D.str ⟨#[c]⟩)) = true
  | [], _ => rfl
  | n :: ns, h => by
    show (PyData.strOk ⟨#[n]⟩ && PyData.canLayAll0 (toPys (ns.map fun c => D.str ⟨#[c]⟩))) = true
    rw [lay_strs ns fun c hc => h c (List.mem_cons_of_mem _ hc), h n List.mem_cons_self]; rfl
theorem depth_strs : ∀ ns : List Nat, PyData.depthAll (toPys (ns.map fun c => D.str ⟨#[c]⟩)) ≤ 1
  | [] => by decide
  | n :: ns => by
    have h := depth_strs ns
    show max (PyData.depth (.str ⟨#[n]⟩)) (PyData.depthAll (toPys (ns.map fun c => D.str ⟨#[c]⟩))) ≤ 1
    exact Nat.max_le.mpr ⟨by simp [PyData.depth], h⟩
theorem shaped_strs (ns : List Nat) (hk : ∀ c ∈ ns, PyData.strOk ⟨#[c]⟩ = true) : SeqAt.shaped (.list (toPys (ns.map fun c => D.str ⟨#[c]⟩))) = true := by
  unfold SeqAt.shaped
  have h := depth_strs ns
  rw [Bool.and_eq_true]
  refine ⟨lay_strs ns hk, decide_eq_true ?_⟩
  show PyData.depthAll (toPys (ns.map fun c => D.str ⟨#[c]⟩)) + 1 ≤ 64
  omega
theorem eq_chars_nil (μ : List Cell) (cs : List Nat) (hk : ∀ c ∈ cs, PyData.strOk ⟨#[c]⟩ = true) : eqD μ (.lst (cs.map fun c => D.str ⟨#[c]⟩)) (.lst []) = some cs.isEmpty := by
  have e : PyData.eqv (toPy (.lst (cs.map fun c => D.str ⟨#[c]⟩))) (toPy (.lst [])) = cs.isEmpty := by
    cases cs <;> rfl
  unfold eqD
  have g : ∀ xs, flat μ (.lst xs) = .lst xs := fun _ => rfl
  rw [g, g]
  have c : (plain (.lst (cs.map fun c => D.str ⟨#[c]⟩)) && plain (.lst []) && SeqAt.shaped (toPy (.lst (cs.map fun c => D.str ⟨#[c]⟩))) && SeqAt.shaped (toPy (.lst []))) = true := by
    simp only [Bool.and_eq_true]
    exact ⟨⟨⟨plains_strs cs, rfl⟩, shaped_strs cs hk⟩, rfl⟩
  rw [if_pos c, e]
theorem law_is_name_str (n : Nat) (μ : List Cell) (s : Str) (hs : s.length ≤ 16777216) (hk : ∀ c ∈ s.cps.toList, PyData.strOk ⟨#[c]⟩ = true) : runF pg (n + 1) 6 [.str s] μ = .ok (.v (.bl (isNm s))) μ := by
  refine eq_of_wp (wp_run (F := F6) rfl rfl ?_)
  unfold isNm
  by_cases h1 : 1 ≤ s.length
  · by_cases h2 : s.length ≤ 8
    · have i1 : (0 : Int) < (s.length : Int) := by omega
      have i2 : (s.length : Int) < 9 := by omega
      have hl : (chars s).length ≤ 16777216 := by rw [chars_len]; omega
      simp only [F6, wp_pure, wp_bind, wp_stuck, wp_ofO, wp_ofN, wp_getM, wp_modM, wp_tryE, wp_iteB, wp_ite, wp_exs_nil, wp_exs_cons, nxQ_nx, nxQ_ret, nxQ_brk, nxQ_cont, nxQ_exc, turnQ_nx, turnQ_ret, turnQ_brk, turnQ_cont, turnQ_exc, retQ_ret, retQ_nx, retQ_exc, oQ_some, oQ_none, erd_v, erd_fl, erd_fd, erd_fo, ev_k, ev_v, ev_bin, ev_cmp, ev_chain, ev_and, ev_or, ev_not, ev_ite, ev_tup, ev_lst, ev_dct, ev_sub, ev_slice, ev_callF, ev_callK, ev_callB, ev_isinst, ev_bm, ev_lcF, evs, evp_absent, evp_star, evT_nil, evT_one, evI_range1, evI_range2, evI_zip, evI_enum, evI_iter, ex_asg, ex_par, ex_setix, ex_setattr, ex_aug, ex_expr, ex_ret, ex_ret0, ex_ite, ex_whil, ex_for, ex_brk, ex_cont, ex_pass, evB_eq, addD_int, addD_tup, addD_lst, addD_str, subtD_int, mulD_int, modD_int, fdivD_int, bin_add, bin_sub, bin_mul, bin_fdiv, bin_mod, bin_pow, cmp_eq, cmp_ne, cmp_lt, cmp_le, cmp_gt, cmp_ge, cmp_is, cmp_isnot, cmp_in, cmp_notin, ltD_int, leD_int, gtD_int, geD_int, isD_non, inD_str, inD_lst, inD_tup, inD_dct, truth_bl, truth_int, truth_lst, truth_tup, truth_non, seq_kl, seq_tup, seq_lst, dct_dct, list_lst, items_kl, items_str, items_tup, items_lst, len_kl, len_str, len_tup, len_lst, len_dct, bi_len, bi_all, bi_any, bi_sum, bi_max1, bi_min1, bi_max2, bi_min2, bi_int, bi_intB, bi_tuple, bi_list, bi_sorted, bi_repr, sub_tup, sub_lst, sub_kl, sub_dctS, slice_tup, slice_lst, slice_kl, pairsD_nil, bmD_append, bmD_popAt, bmD_join, bt_join, watch_tup, watch_lst, watch_str, watch_kl, watch_dct, zip_lst, zip_tup, celled_v, celled_fl, celled_fd, celled_fo, wp_celled_fl, wp_celled_fd, assign_name, assign_tup2, wipe_name, wipe_tup2, still_nil, tg_non, tg_bl, tg_int, tg_str, tg_tup, tg_lst, ty_isstr, ty_istup, start0, cfg_call, cfg_fuel, wpR_ok, fin_self, Option.join_some, Option.join_none, Option.bind_some, Option.bind_none, Option.map_some, Option.map_none, List.map_cons, List.map_nil, List.all_cons, List.all_nil, List.any_cons, List.any_nil, List.getElem?_cons_zero, List.getElem?_cons_succ, List.length_cons, List.length_nil, List.set_cons_zero, List.set_cons_succ, List.cons_append, List.nil_append, List.append_nil, List.replicate, List.drop_nil, Nat.sub_self, Nat.sub_zero, Nat.zero_add, Nat.reduceAdd, Nat.reduceSub, Nat.reduceLT, Nat.reduceLeDiff, Nat.zero_lt_succ, id_eq, if_true, if_false, Bool.true_and, Bool.and_true, Bool.false_and, Bool.and_false, Bool.or_false, Bool.false_or, Bool.true_or, Bool.or_true, Bool.not_true, Bool.not_false, Bool.and_self, Bool.or_self, Bool.false_eq_true, decide_true, decide_false, lineN_eq, sizeLine_eq, Nat.zero_le, and_self, i1, i2, h1, h2, hs, hl]
      rw [chars_map]
      refine wp_lc_opt _ _ (fun c => if isLet c then none else some (D.str ⟨#[c]⟩)) (still_nil _) (fun c _ => ?_) ?_
      · unfold lcF
        simp only [wp_pure, wp_bind, wp_stuck, wp_ofO, wp_ofN, wp_getM, wp_modM, wp_tryE, wp_iteB, wp_ite, wp_exs_nil, wp_exs_cons, nxQ_nx, nxQ_ret, nxQ_brk, nxQ_cont, nxQ_exc, turnQ_nx, turnQ_ret, turnQ_brk, turnQ_cont, turnQ_exc, retQ_ret, retQ_nx, retQ_exc, oQ_some, oQ_none, erd_v, erd_fl, erd_fd, erd_fo, ev_k, ev_v, ev_bin, ev_cmp, ev_chain, ev_and, ev_or, ev_not, ev_ite, ev_tup, ev_lst, ev_dct, ev_sub, ev_slice, ev_callF, ev_callK, ev_callB, ev_isinst, ev_bm, ev_lcF, evs, evp_absent, evp_star, evT_nil, evT_one, evI_range1, evI_range2, evI_zip, evI_enum, evI_iter, ex_asg, ex_par, ex_setix, ex_setattr, ex_aug, ex_expr, ex_ret, ex_ret0, ex_ite, ex_whil, ex_for, ex_brk, ex_cont, ex_pass, evB_eq, addD_int, addD_tup, addD_lst, addD_str, subtD_int, mulD_int, modD_int, fdivD_int, bin_add, bin_sub, bin_mul, bin_fdiv, bin_mod, bin_pow, cmp_eq, cmp_ne, cmp_lt, cmp_le, cmp_gt, cmp_ge, cmp_is, cmp_isnot, cmp_in, cmp_notin, ltD_int, leD_int, gtD_int, geD_int, isD_non, inD_str, inD_lst, inD_tup, inD_dct, truth_bl, truth_int, truth_lst, truth_tup, truth_non, seq_kl, seq_tup, seq_lst, dct_dct, list_lst, items_kl, items_str, items_tup, items_lst, len_kl, len_str, len_tup, len_lst, len_dct, bi_len, bi_all, bi_any, bi_sum, bi_max1, bi_min1, bi_max2, bi_min2, bi_int, bi_intB, bi_tuple, bi_list, bi_sorted, bi_repr, sub_tup, sub_lst, sub_kl, sub_dctS, slice_tup, slice_lst, slice_kl, pairsD_nil, bmD_append, bmD_popAt, bmD_join, bt_join, watch_tup, watch_lst, watch_str, watch_kl, watch_dct, zip_lst, zip_tup, celled_v, celled_fl, celled_fd, celled_fo, wp_celled_fl, wp_celled_fd, assign_name, assign_tup2, wipe_name, wipe_tup2, still_nil, tg_non, tg_bl, tg_int, tg_str, tg_tup, tg_lst, ty_isstr, ty_istup, start0, cfg_call, cfg_fuel, wpR_ok, fin_self, Option.join_some, Option.join_none, Option.bind_some, Option.bind_none, Option.map_some, Option.map_none, List.map_cons, List.map_nil, List.all_cons, List.all_nil, List.any_cons, List.any_nil, List.getElem?_cons_zero, List.getElem?_cons_succ, List.length_cons, List.length_nil, List.set_cons_zero, List.set_cons_succ, List.cons_append, List.nil_append, List.append_nil, List.replicate, List.drop_nil, Nat.sub_self, Nat.sub_zero, Nat.zero_add, Nat.reduceAdd, Nat.reduceSub, Nat.reduceLT, Nat.reduceLeDiff, Nat.zero_lt_succ, id_eq, if_true, if_false, Bool.true_and, Bool.and_true, Bool.false_and, Bool.and_false, Bool.or_false, Bool.false_or, Bool.true_or, Bool.or_true, Bool.not_true, Bool.not_false, Bool.and_self, Bool.or_self, Bool.false_eq_true, decide_true, decide_false, lineN_eq, sizeLine_eq, Nat.zero_le, and_self]
        cases h : strIn ⟨#[c]⟩ abc <;> simp only [wp_pure, wp_bind, wp_stuck, wp_ofO, wp_ofN, wp_getM, wp_modM, wp_tryE, wp_iteB, wp_ite, wp_exs_nil, wp_exs_cons, nxQ_nx, nxQ_ret, nxQ_brk, nxQ_cont, nxQ_exc, turnQ_nx, turnQ_ret, turnQ_brk, turnQ_cont, turnQ_exc, retQ_ret, retQ_nx, retQ_exc, oQ_some, oQ_none, erd_v, erd_fl, erd_fd, erd_fo, ev_k, ev_v, ev_bin, ev_cmp, ev_chain, ev_and, ev_or, ev_not, ev_ite, ev_tup, ev_lst, ev_dct, ev_sub, ev_slice, ev_callF, ev_callK, ev_callB, ev_isinst, ev_bm, ev_lcF, evs, evp_absent, evp_star, evT_nil, evT_one, evI_range1, evI_range2, evI_zip, evI_enum, evI_iter, ex_asg, ex_par, ex_setix, ex_setattr, ex_aug, ex_expr, ex_ret, ex_ret0, ex_ite, ex_whil, ex_for, ex_brk, ex_cont, ex_pass, evB_eq, addD_int, addD_tup, addD_lst, addD_str, subtD_int, mulD_int, modD_int, fdivD_int, bin_add, bin_sub, bin_mul, bin_fdiv, bin_mod, bin_pow, cmp_eq, cmp_ne, cmp_lt, cmp_le, cmp_gt, cmp_ge, cmp_is, cmp_isnot, cmp_in, cmp_notin, ltD_int, leD_int, gtD_int, geD_int, isD_non, inD_str, inD_lst, inD_tup, inD_dct, truth_bl, truth_int, truth_lst, truth_tup, truth_non, seq_kl, seq_tup, seq_lst, dct_dct, list_lst, items_kl, items_str, items_tup, items_lst, len_kl, len_str, len_tup, len_lst, len_dct, bi_len, bi_all, bi_any, bi_sum, bi_max1, bi_min1, bi_max2, bi_min2, bi_int, bi_intB, bi_tuple, bi_list, bi_sorted, bi_repr, sub_tup, sub_lst, sub_kl, sub_dctS, slice_tup, slice_lst, slice_kl, pairsD_nil, bmD_append, bmD_popAt, bmD_join, bt_join, watch_tup, watch_lst, watch_str, watch_kl, watch_dct, zip_lst, zip_tup, celled_v, celled_fl, celled_fd, celled_fo, wp_celled_fl, wp_celled_fd, assign_name, assign_tup2, wipe_name, wipe_tup2, still_nil, tg_non, tg_bl, tg_int, tg_str, tg_tup, tg_lst, ty_isstr, ty_istup, start0, cfg_call, cfg_fuel, wpR_ok, fin_self, Option.join_some, Option.join_none, Option.bind_some, Option.bind_none, Option.map_some, Option.map_none, List.map_cons, List.map_nil, List.all_cons, List.all_nil, List.any_cons, List.any_nil, List.getElem?_cons_zero, List.getElem?_cons_succ, List.length_cons, List.length_nil, List.set_cons_zero, List.set_cons_succ, List.cons_append, List.nil_append, List.append_nil, List.replicate, List.drop_nil, Nat.sub_self, Nat.sub_zero, Nat.zero_add, Nat.reduceAdd, Nat.reduceSub, Nat.reduceLT, Nat.reduceLeDiff, Nat.zero_lt_succ, id_eq, if_true, if_false, Bool.true_and, Bool.and_true, Bool.false_and, Bool.and_false, Bool.or_false, Bool.false_or, Bool.true_or, Bool.or_true, Bool.not_true, Bool.not_false, Bool.and_self, Bool.or_self, Bool.false_eq_true, decide_true, decide_false, lineN_eq, sizeLine_eq, Nat.zero_le, and_self, isLet, h]
      · obtain ⟨ds, e, h, hm⟩ := filter_lets s.cps.toList
        rw [e, eq_chars_nil _ _ fun c hc => hk c (hm c hc)]
        simp only [wp_pure, wp_bind, wp_stuck, wp_ofO, wp_ofN, wp_getM, wp_modM, wp_tryE, wp_iteB, wp_ite, wp_exs_nil, wp_exs_cons, nxQ_nx, nxQ_ret, nxQ_brk, nxQ_cont, nxQ_exc, turnQ_nx, turnQ_ret, turnQ_brk, turnQ_cont, turnQ_exc, retQ_ret, retQ_nx, retQ_exc, oQ_some, oQ_none, erd_v, erd_fl, erd_fd, erd_fo, ev_k, ev_v, ev_bin, ev_cmp, ev_chain, ev_and, ev_or, ev_not, ev_ite, ev_tup, ev_lst, ev_dct, ev_sub, ev_slice, ev_callF, ev_callK, ev_callB, ev_isinst, ev_bm, ev_lcF, evs, evp_absent, evp_star, evT_nil, evT_one, evI_range1, evI_range2, evI_zip, evI_enum, evI_iter, ex_asg, ex_par, ex_setix, ex_setattr, ex_aug, ex_expr, ex_ret, ex_ret0, ex_ite, ex_whil, ex_for, ex_brk, ex_cont, ex_pass, evB_eq, addD_int, addD_tup, addD_lst, addD_str, subtD_int, mulD_int, modD_int, fdivD_int, bin_add, bin_sub, bin_mul, bin_fdiv, bin_mod, bin_pow, cmp_eq, cmp_ne, cmp_lt, cmp_le, cmp_gt, cmp_ge, cmp_is, cmp_isnot, cmp_in, cmp_notin, ltD_int, leD_int, gtD_int, geD_int, isD_non, inD_str, inD_lst, inD_tup, inD_dct, truth_bl, truth_int, truth_lst, truth_tup, truth_non, seq_kl, seq_tup, seq_lst, dct_dct, list_lst, items_kl, items_str, items_tup, items_lst, len_kl, len_str, len_tup, len_lst, len_dct, bi_len, bi_all, bi_any, bi_sum, bi_max1, bi_min1, bi_max2, bi_min2, bi_int, bi_intB, bi_tuple, bi_list, bi_sorted, bi_repr, sub_tup, sub_lst, sub_kl, sub_dctS, slice_tup, slice_lst, slice_kl, pairsD_nil, bmD_append, bmD_popAt, bmD_join, bt_join, watch_tup, watch_lst, watch_str, watch_kl, watch_dct, zip_lst, zip_tup, celled_v, celled_fl, celled_fd, celled_fo, wp_celled_fl, wp_celled_fd, assign_name, assign_tup2, wipe_name, wipe_tup2, still_nil, tg_non, tg_bl, tg_int, tg_str, tg_tup, tg_lst, ty_isstr, ty_istup, start0, cfg_call, cfg_fuel, wpR_ok, fin_self, Option.join_some, Option.join_none, Option.bind_some, Option.bind_none, Option.map_some, Option.map_none, List.map_cons, List.map_nil, List.all_cons, List.all_nil, List.any_cons, List.any_nil, List.getElem?_cons_zero, List.getElem?_cons_succ, List.length_cons, List.length_nil, List.set_cons_zero, List.set_cons_succ, List.cons_append, List.nil_append, List.append_nil, List.replicate, List.drop_nil, Nat.sub_self, Nat.sub_zero, Nat.zero_add, Nat.reduceAdd, Nat.reduceSub, Nat.reduceLT, Nat.reduceLeDiff, Nat.zero_lt_succ, id_eq, if_true, if_false, Bool.true_and, Bool.and_true, Bool.false_and, Bool.and_false, Bool.or_false, Bool.false_or, Bool.true_or, Bool.or_true, Bool.not_true, Bool.not_false, Bool.and_self, Bool.or_self, Bool.false_eq_true, decide_true, decide_false, lineN_eq, sizeLine_eq, Nat.zero_le, and_self, h]
    · have i1 : (0 : Int) < (s.length : Int) := by omega
      have i2 : ¬ (s.length : Int) < 9 := by omega
      simp only [F6, wp_pure, wp_bind, wp_stuck, wp_ofO, wp_ofN, wp_getM, wp_modM, wp_tryE, wp_iteB, wp_ite, wp_exs_nil, wp_exs_cons, nxQ_nx, nxQ_ret, nxQ_brk, nxQ_cont, nxQ_exc, turnQ_nx, turnQ_ret, turnQ_brk, turnQ_cont, turnQ_exc, retQ_ret, retQ_nx, retQ_exc, oQ_some, oQ_none, erd_v, erd_fl, erd_fd, erd_fo, ev_k, ev_v, ev_bin, ev_cmp, ev_chain, ev_and, ev_or, ev_not, ev_ite, ev_tup, ev_lst, ev_dct, ev_sub, ev_slice, ev_callF, ev_callK, ev_callB, ev_isinst, ev_bm, ev_lcF, evs, evp_absent, evp_star, evT_nil, evT_one, evI_range1, evI_range2, evI_zip, evI_enum, evI_iter, ex_asg, ex_par, ex_setix, ex_setattr, ex_aug, ex_expr, ex_ret, ex_ret0, ex_ite, ex_whil, ex_for, ex_brk, ex_cont, ex_pass, evB_eq, addD_int, addD_tup, addD_lst, addD_str, subtD_int, mulD_int, modD_int, fdivD_int, bin_add, bin_sub, bin_mul, bin_fdiv, bin_mod, bin_pow, cmp_eq, cmp_ne, cmp_lt, cmp_le, cmp_gt, cmp_ge, cmp_is, cmp_isnot, cmp_in, cmp_notin, ltD_int, leD_int, gtD_int, geD_int, isD_non, inD_str, inD_lst, inD_tup, inD_dct, truth_bl, truth_int, truth_lst, truth_tup, truth_non, seq_kl, seq_tup, seq_lst, dct_dct, list_lst, items_kl, items_str, items_tup, items_lst, len_kl, len_str, len_tup, len_lst, len_dct, bi_len, bi_all, bi_any, bi_sum, bi_max1, bi_min1, bi_max2, bi_min2, bi_int, bi_intB, bi_tuple, bi_list, bi_sorted, bi_repr, sub_tup, sub_lst, sub_kl, sub_dctS, slice_tup, slice_lst, slice_kl, pairsD_nil, bmD_append, bmD_popAt, bmD_join, bt_join, watch_tup, watch_lst, watch_str, watch_kl, watch_dct, zip_lst, zip_tup, celled_v, celled_fl, celled_fd, celled_fo, wp_celled_fl, wp_celled_fd, assign_name, assign_tup2, wipe_name, wipe_tup2, still_nil, tg_non, tg_bl, tg_int, tg_str, tg_tup, tg_lst, ty_isstr, ty_istup, start0, cfg_call, cfg_fuel, wpR_ok, fin_self, Option.join_some, Option.join_none, Option.bind_some, Option.bind_none, Option.map_some, Option.map_none, List.map_cons, List.map_nil, List.all_cons, List.all_nil, List.any_cons, List.any_nil, List.getElem?_cons_zero, List.getElem?_cons_succ, List.length_cons, List.length_nil, List.set_cons_zero, List.set_cons_succ, List.cons_append, List.nil_append, List.append_nil, List.replicate, List.drop_nil, Nat.sub_self, Nat.sub_zero, Nat.zero_add, Nat.reduceAdd, Nat.reduceSub, Nat.reduceLT, Nat.reduceLeDiff, Nat.zero_lt_succ, id_eq, if_true, if_false, Bool.true_and, Bool.and_true, Bool.false_and, Bool.and_false, Bool.or_false, Bool.false_or, Bool.true_or, Bool.or_true, Bool.not_true, Bool.not_false, Bool.and_self, Bool.or_self, Bool.false_eq_true, decide_true, decide_false, lineN_eq, sizeLine_eq, Nat.zero_le, and_self, i1, i2, hs, h1, h2]
  · have i1 : ¬ (0 : Int) < (s.length : Int) := by omega
    simp only [F6, wp_pure, wp_bind, wp_stuck, wp_ofO, wp_ofN, wp_getM, wp_modM, wp_tryE, wp_iteB, wp_ite, wp_exs_nil, wp_exs_cons, nxQ_nx, nxQ_ret, nxQ_brk, nxQ_cont, nxQ_exc, turnQ_nx, turnQ_ret, turnQ_brk, turnQ_cont, turnQ_exc, retQ_ret, retQ_nx, retQ_exc, oQ_some, oQ_none, erd_v, erd_fl, erd_fd, erd_fo, ev_k, ev_v, ev_bin, ev_cmp, ev_chain, ev_and, ev_or, ev_not, ev_ite, ev_tup, ev_lst, ev_dct, ev_sub, ev_slice, ev_callF, ev_callK, ev_callB, ev_isinst, ev_bm, ev_lcF, evs, evp_absent, evp_star, evT_nil, evT_one, evI_range1, evI_range2, evI_zip, evI_enum, evI_iter, ex_asg, ex_par, ex_setix, ex_setattr, ex_aug, ex_expr, ex_ret, ex_ret0, ex_ite, ex_whil, ex_for, ex_brk, ex_cont, ex_pass, evB_eq, addD_int, addD_tup, addD_lst, addD_str, subtD_int, mulD_int, modD_int, fdivD_int, bin_add, bin_sub, bin_mul, bin_fdiv, bin_mod, bin_pow, cmp_eq, cmp_ne, cmp_lt, cmp_le, cmp_gt, cmp_ge, cmp_is, cmp_isnot, cmp_in, cmp_notin, ltD_int, leD_int, gtD_int, geD_int, isD_non, inD_str, inD_lst, inD_tup, inD_dct, truth_bl, truth_int, truth_lst, truth_tup, truth_non, seq_kl, seq_tup, seq_lst, dct_dct, list_lst, items_kl, items_str, items_tup, items_lst, len_kl, len_str, len_tup, len_lst, len_dct, bi_len, bi_all, bi_any, bi_sum, bi_max1, bi_min1, bi_max2, bi_min2, bi_int, bi_intB, bi_tuple, bi_list, bi_sorted, bi_repr, sub_tup, sub_lst, sub_kl, sub_dctS, slice_tup, slice_lst, slice_kl, pairsD_nil, bmD_append, bmD_popAt, bmD_join, bt_join, watch_tup, watch_lst, watch_str, watch_kl, watch_dct, zip_lst, zip_tup, celled_v, celled_fl, celled_fd, celled_fo, wp_celled_fl, wp_celled_fd, assign_name, assign_tup2, wipe_name, wipe_tup2, still_nil, tg_non, tg_bl, tg_int, tg_str, tg_tup, tg_lst, ty_isstr, ty_istup, start0, cfg_call, cfg_fuel, wpR_ok, fin_self, Option.join_some, Option.join_none, Option.bind_some, Option.bind_none, Option.map_some, Option.map_none, List.map_cons, List.map_nil, List.all_cons, List.all_nil, List.any_cons, List.any_nil, List.getElem?_cons_zero, List.getElem?_cons_succ, List.length_cons, List.length_nil, List.set_cons_zero, List.set_cons_succ, List.cons_append, List.nil_append, List.append_nil, List.replicate, List.drop_nil, Nat.sub_self, Nat.sub_zero, Nat.zero_add, Nat.reduceAdd, Nat.reduceSub, Nat.reduceLT, Nat.reduceLeDiff, Nat.zero_lt_succ, id_eq, if_true, if_false, Bool.true_and, Bool.and_true, Bool.false_and, Bool.and_false, Bool.or_false, Bool.false_or, Bool.true_or, Bool.or_true, Bool.not_true, Bool.not_false, Bool.and_self, Bool.or_self, Bool.false_eq_true, decide_true, decide_false, lineN_eq, sizeLine_eq, Nat.zero_le, and_self, i1, hs, h1]
end RL.K02

set_option Elab.async false
set_option linter.all false
set_option maxRecDepth 1000000
set_option maxHeartbeats 2000000
namespace RL.K02
open PySem L2 RL
theorem join_toList (ss : List Str) : (Txt.join (Str.ofString "") ss).cps.toList = (ss.map fun s => s.cps.toList).flatten := by
  rw [show Txt.join (Str.ofString "") ss = Str.join (Str.ofString "") ss from StrLaws.glued_eq_join _ ss]
  induction ss with
  | nil => rfl
  | cons x r ih =>
    cases r with
    | nil => simp [Str.join]
    | cons y r =>
      have e : Str.join (Str.ofString "") (x :: y :: r) = x ++ Str.ofString "" ++ Str.join (Str.ofString "") (y :: r) := rfl
      rw [e, List.map_cons, List.flatten_cons, ← ih]
      show (x.cps ++ (Str.ofString "").cps ++ (Str.join (Str.ofString "") (y :: r)).cps).toList = _
      have e2 : (Str.ofString "").cps = #[] := rfl
      rw [e2]
      simp
theorem strs_of (cs : List Nat) : asStrs (cs.map fun c => D.str ⟨#[c]⟩) = some (cs.map fun c => (⟨#[c]⟩ : Str)) := by
  induction cs with
  | nil => rfl
  | cons c cs ih => simp only [List.map_cons, asStrs, ih, Option.map]
theorem join_chars (μ : List Cell) (cs : List Nat) (h : cs.length ≤ 1000) : joinD μ (.str (Str.ofString "")) [.lst (cs.map fun c => D.str ⟨#[c]⟩)] = some (.v (.str ⟨cs.toArray⟩), μ) := by
  have e1 : ((cs.map fun c => (⟨#[c]⟩ : Str)).map (·.length)).sum = cs.length := by
    induction cs with
    | nil => rfl
    | cons c cs ih =>
      simp only [List.map_cons, List.sum_cons, List.length_cons]
      rw [ih (by simp at h; omega)]
      show 1 + cs.length = _
      omega
  have e2 : Txt.join (Str.ofString "") (cs.map fun c => (⟨#[c]⟩ : Str)) = ⟨cs.toArray⟩ := by
    have := join_toList (cs.map fun c => (⟨#[c]⟩ : Str))
    have e3 : ((cs.map fun c => (⟨#[c]⟩ : Str)).map fun s => s.cps.toList).flatten = cs := by
      clear h e1 this
      induction cs with
      | nil => rfl
      | cons c cs ih => simp only [List.map_cons, List.flatten_cons, ih]; rfl
    rw [e3] at this
    generalize Txt.join (Str.ofString "") (cs.map fun c => (⟨#[c]⟩ : Str)) = z at this
    obtain ⟨a⟩ := z
    have : a.toList = cs := this
    subst this
    rfl
  have e0 : (Str.ofString "").length = 0 := rfl
  unfold joinD
  simp only [asStr, one1, seqOf, Option.bind_some, strs_of, e0, Nat.mul_zero, Nat.add_zero, e1, e2]
  rw [if_pos (by omega)]
def Asc (s : Str) : Prop := ∀ c ∈ s.cps.toList, c < 128
def TxtR (k : Nat) (d : D) : Prop := ∃ s : Str, d = .str s ∧ Asc s ∧ s.length ≤ k
theorem pick_W (n : Nat) {μ : List Cell} {c w : Nat} {cells : List Int} {B : Int} {s : Str} (h : DrawI μ c w cells B) (hB : B < 999999) (hs : 0 < s.length) (hz : s.length ≤ 1000) :
    wp (runF pg (n + 3) 4 [.cell c, .str s]) μ (fun r μ' => ∃ ch, r = .v (.str ⟨#[ch]⟩) ∧ ch ∈ s.cps.toList ∧ DrawI μ' c w cells (B + 1) ∧ Same2 c w μ μ') NoE := by
  obtain ⟨ch, μ', e, a, b, d⟩ := pick_I n h hB hs hz
  rw [wp_of_eq e]
  exact ⟨ch, rfl, a, b, d⟩
theorem take_W (n : Nat) {μ : List Cell} {c w : Nat} {cells : List Int} {B m : Int} (h : DrawI μ c w cells B) (hB : B < 999999) (hm : 0 < m) (hm2 : m.natAbs.log2 < 9000) :
    wp (runF pg (n + 2) 3 [.cell c, .int m]) μ (fun r μ' => ∃ i : Int, r = .v (.int i) ∧ 0 ≤ i ∧ i < m ∧ DrawI μ' c w cells (B + 1) ∧ Same2 c w μ μ') NoE := by
  obtain ⟨r, μ', e, a⟩ := take_I n h hB hm hm2
  rw [wp_of_eq e]
  exact ⟨r, rfl, a⟩
theorem pickL_W (n : Nat) {μ : List Cell} {c w : Nat} {cells : List Int} {B : Int} {xs : List D} (h : DrawI μ c w cells B) (hB : B < 999999) (hs : 0 < xs.length) (hz : xs.length ≤ 1000) :
    wp (runF pg (n + 3) 4 [.cell c, .lst xs]) μ (fun r μ' => ∃ x, r = .v x ∧ x ∈ xs ∧ DrawI μ' c w cells (B + 1) ∧ Same2 c w μ μ') NoE := by
  obtain ⟨ch, μ', e, a⟩ := pick_L n h hB hs hz
  rw [wp_of_eq e]
  exact ⟨ch, rfl, a⟩
/-- a comprehension of picks of a text -/
theorem picks_W (n : Nat) {μ : List Cell} {c w : Nat} {cells : List Int} {B : Int} {s : Str} {f : D → M (Option D)} (xs : List D) (h : DrawI μ c w cells B) (hB : B + xs.length < 999999) (hs : 0 < s.length) (hz : s.length ≤ 1000)
    (hf : ∀ x μ Q, wp (f x) μ Q NoE = wp (runF pg (n + 3) 4 [.cell c, .str s]) μ (fun a μ' => Q (some a.d) μ') NoE) :
    wp (mapIt [] f xs) μ (fun r μ' => ∃ cs : List Nat, r = cs.map (fun c => D.str ⟨#[c]⟩) ∧ cs.length = xs.length ∧ (∀ ch ∈ cs, ch ∈ s.cps.toList) ∧ DrawI μ' c w cells (B + xs.length) ∧ Same2 c w μ μ') NoE := by
  obtain ⟨cs, μ', e, a⟩ := picks (P := fun ch => ch ∈ s.cps.toList) (f := f) (fun x μ B hd hb => by
    obtain ⟨ch, μ', e, a, b, d⟩ := pick_I n hd hb hs hz
    refine ⟨ch, μ', eq_of_wp ?_, a, b, d⟩
    rw [hf, wp_of_eq e]
    exact ⟨rfl, rfl⟩) xs μ B h hB
  rw [wp_of_eq e]
  exact ⟨cs, rfl, a⟩
theorem mem_words {x : D} {xs : List D} (h : x ∈ xs) (P : D → Bool) (hP : xs.all P = true) : P x = true := List.all_eq_true.mp hP x h
def txt8 : D → Bool
  | .str s => decide (s.length ≤ 8) && s.cps.toList.all fun c => decide (c < 128)
  | _ => false
theorem txt8_R {d : D} (h : txt8 d = true) : TxtR 8 d := by
  cases d with
  | str s =>
    rw [txt8, Bool.and_eq_true] at h
    exact ⟨s, rfl, fun c hc => of_decide_eq_true (List.all_eq_true.mp h.2 c hc), of_decide_eq_true h.1⟩
  | _ => cases h
theorem asc_of {s : Str} {cs : List Nat} (hs : s.cps.toList.all (fun c => decide (c < 128)) = true) (h : ∀ ch ∈ cs, ch ∈ s.cps.toList) : Asc ⟨cs.toArray⟩ := fun c hc => of_decide_eq_true (List.all_eq_true.mp hs c (h c (by simpa using hc)))
theorem DrawI.mono {μ : List Cell} {c w : Nat} {cells : List Int} {B B' : Int} (h : DrawI μ c w cells B) (hb : B ≤ B') : DrawI μ c w cells B' := by
  obtain ⟨wide, rest, turn, a, b, d, e⟩ := h
  exact ⟨wide, rest, turn, a, b, by omega, e⟩
theorem name_W (n : Nat) {μ : List Cell} {c w : Nat} {cells : List Int} {B : Int} (h : DrawI μ c w cells B) (hB : B < 900000) :
    wp (runF pg (n + 4) 5 [.cell c]) μ (fun r μ' => ∃ s : Str, r = .v (.str s) ∧ Asc s ∧ s.length ≤ 8 ∧ DrawI μ' c w cells (B + 20) ∧ Same2 c w μ μ') NoE := by
  refine wp_run (F := F5) rfl rfl ?_
  simp only [F5, wp_pure, wp_bind, wp_stuck, wp_ofO, wp_ofN, wp_getM, wp_modM, wp_tryE, wp_iteB, wp_ite, wp_exs_nil, wp_exs_cons, nxQ_nx, nxQ_ret, nxQ_brk, nxQ_cont, nxQ_exc, turnQ_nx, turnQ_ret, turnQ_brk, turnQ_cont, turnQ_exc, retQ_ret, retQ_nx, retQ_exc, oQ_some, oQ_none, erd_v, erd_fl, erd_fd, erd_fo, ev_k, ev_v, ev_bin, ev_cmp, ev_chain, ev_and, ev_or, ev_not, ev_ite, ev_tup, ev_lst, ev_dct, ev_sub, ev_slice, ev_callF, ev_callK, ev_callB, ev_isinst, ev_bm, ev_lcF, evs, evp_absent, evp_star, evT_nil, evT_one, evI_range1, evI_range2, evI_zip, evI_enum, evI_iter, ex_asg, ex_par, ex_setix, ex_setattr, ex_aug, ex_expr, ex_ret, ex_ret0, ex_ite, ex_whil, ex_for, ex_brk, ex_cont, ex_pass, evB_eq, addD_int, addD_tup, addD_lst, addD_str, subtD_int, mulD_int, modD_int, fdivD_int, bin_add, bin_sub, bin_mul, bin_fdiv, bin_mod, bin_pow, cmp_eq, cmp_ne, cmp_lt, cmp_le, cmp_gt, cmp_ge, cmp_is, cmp_isnot, cmp_in, cmp_notin, ltD_int, leD_int, gtD_int, geD_int, isD_non, inD_str, inD_lst, inD_tup, inD_dct, truth_bl, truth_int, truth_lst, truth_tup, truth_non, seq_kl, seq_tup, seq_lst, dct_dct, list_lst, items_kl, items_str, items_tup, items_lst, len_kl, len_str, len_tup, len_lst, len_dct, bi_len, bi_all, bi_any, bi_sum, bi_max1, bi_min1, bi_max2, bi_min2, bi_int, bi_intB, bi_tuple, bi_list, bi_sorted, bi_repr, sub_tup, sub_lst, sub_kl, sub_dctS, slice_tup, slice_lst, slice_kl, pairsD_nil, bmD_append, bmD_popAt, bmD_join, bt_join, watch_tup, watch_lst, watch_str, watch_kl, watch_dct, zip_lst, zip_tup, celled_v, celled_fl, celled_fd, celled_fo, wp_celled_fl, wp_celled_fd, assign_name, assign_tup2, wipe_name, wipe_tup2, still_nil, tg_non, tg_bl, tg_int, tg_str, tg_tup, tg_lst, ty_isstr, ty_istup, start0, cfg_call, cfg_fuel, wpR_ok, fin_self, Option.join_some, Option.join_none, Option.bind_some, Option.bind_none, Option.map_some, Option.map_none, List.map_cons, List.map_nil, List.all_cons, List.all_nil, List.any_cons, List.any_nil, List.getElem?_cons_zero, List.getElem?_cons_succ, List.length_cons, List.length_nil, List.set_cons_zero, List.set_cons_succ, List.cons_append, List.nil_append, List.append_nil, List.replicate, List.drop_nil, Nat.sub_self, Nat.sub_zero, Nat.zero_add, Nat.reduceAdd, Nat.reduceSub, Nat.reduceLT, Nat.reduceLeDiff, Nat.zero_lt_succ, id_eq, if_true, if_false, Bool.true_and, Bool.and_true, Bool.false_and, Bool.and_false, Bool.or_false, Bool.false_or, Bool.true_or, Bool.or_true, Bool.not_true, Bool.not_false, Bool.and_self, Bool.or_self, Bool.false_eq_true, decide_true, decide_false, lineN_eq, sizeLine_eq, Nat.zero_le, and_self]
  refine wp_call (take_W (n + 1) h (m := 3) (by omega) (by decide) (by decide)) ?_
  rintro r μ1 ⟨i, rfl, i0, i1, d1, s1⟩
  by_cases hi : 0 < i
  · simp only [wp_pure, wp_bind, wp_stuck, wp_ofO, wp_ofN, wp_getM, wp_modM, wp_tryE, wp_iteB, wp_ite, wp_exs_nil, wp_exs_cons, nxQ_nx, nxQ_ret, nxQ_brk, nxQ_cont, nxQ_exc, turnQ_nx, turnQ_ret, turnQ_brk, turnQ_cont, turnQ_exc, retQ_ret, retQ_nx, retQ_exc, oQ_some, oQ_none, erd_v, erd_fl, erd_fd, erd_fo, ev_k, ev_v, ev_bin, ev_cmp, ev_chain, ev_and, ev_or, ev_not, ev_ite, ev_tup, ev_lst, ev_dct, ev_sub, ev_slice, ev_callF, ev_callK, ev_callB, ev_isinst, ev_bm, ev_lcF, evs, evp_absent, evp_star, evT_nil, evT_one, evI_range1, evI_range2, evI_zip, evI_enum, evI_iter, ex_asg, ex_par, ex_setix, ex_setattr, ex_aug, ex_expr, ex_ret, ex_ret0, ex_ite, ex_whil, ex_for, ex_brk, ex_cont, ex_pass, evB_eq, addD_int, addD_tup, addD_lst, addD_str, subtD_int, mulD_int, modD_int, fdivD_int, bin_add, bin_sub, bin_mul, bin_fdiv, bin_mod, bin_pow, cmp_eq, cmp_ne, cmp_lt, cmp_le, cmp_gt, cmp_ge, cmp_is, cmp_isnot, cmp_in, cmp_notin, ltD_int, leD_int, gtD_int, geD_int, isD_non, inD_str, inD_lst, inD_tup, inD_dct, truth_bl, truth_int, truth_lst, truth_tup, truth_non, seq_kl, seq_tup, seq_lst, dct_dct, list_lst, items_kl, items_str, items_tup, items_lst, len_kl, len_str, len_tup, len_lst, len_dct, bi_len, bi_all, bi_any, bi_sum, bi_max1, bi_min1, bi_max2, bi_min2, bi_int, bi_intB, bi_tuple, bi_list, bi_sorted, bi_repr, sub_tup, sub_lst, sub_kl, sub_dctS, slice_tup, slice_lst, slice_kl, pairsD_nil, bmD_append, bmD_popAt, bmD_join, bt_join, watch_tup, watch_lst, watch_str, watch_kl, watch_dct, zip_lst, zip_tup, celled_v, celled_fl, celled_fd, celled_fo, wp_celled_fl, wp_celled_fd, assign_name, assign_tup2, wipe_name, wipe_tup2, still_nil, tg_non, tg_bl, tg_int, tg_str, tg_tup, tg_lst, ty_isstr, ty_istup, start0, cfg_call, cfg_fuel, wpR_ok, fin_self, Option.join_some, Option.join_none, Option.bind_some, Option.bind_none, Option.map_some, Option.map_none, List.map_cons, List.map_nil, List.all_cons, List.all_nil, List.any_cons, List.any_nil, List.getElem?_cons_zero, List.getElem?_cons_succ, List.length_cons, List.length_nil, List.set_cons_zero, List.set_cons_succ, List.cons_append, List.nil_append, List.append_nil, List.replicate, List.drop_nil, Nat.sub_self, Nat.sub_zero, Nat.zero_add, Nat.reduceAdd, Nat.reduceSub, Nat.reduceLT, Nat.reduceLeDiff, Nat.zero_lt_succ, id_eq, if_true, if_false, Bool.true_and, Bool.and_true, Bool.false_and, Bool.and_false, Bool.or_false, Bool.false_or, Bool.true_or, Bool.or_true, Bool.not_true, Bool.not_false, Bool.and_self, Bool.or_self, Bool.false_eq_true, decide_true, decide_false, lineN_eq, sizeLine_eq, Nat.zero_le, and_self, hi]
    refine wp_call (pickL_W n d1 (by omega) (by simp) (by simp)) ?_
    rintro r μ2 ⟨x, rfl, hx, d2, s2⟩
    obtain ⟨s, rfl, a, b⟩ := txt8_R (mem_words hx txt8 (by decide +kernel))
    rw [fin_same (s1.trans s2).1]
    exact ⟨s, rfl, a, b, d2.mono (by omega), s1.trans s2⟩
  · simp only [wp_pure, wp_bind, wp_stuck, wp_ofO, wp_ofN, wp_getM, wp_modM, wp_tryE, wp_iteB, wp_ite, wp_exs_nil, wp_exs_cons, nxQ_nx, nxQ_ret, nxQ_brk, nxQ_cont, nxQ_exc, turnQ_nx, turnQ_ret, turnQ_brk, turnQ_cont, turnQ_exc, retQ_ret, retQ_nx, retQ_exc, oQ_some, oQ_none, erd_v, erd_fl, erd_fd, erd_fo, ev_k, ev_v, ev_bin, ev_cmp, ev_chain, ev_and, ev_or, ev_not, ev_ite, ev_tup, ev_lst, ev_dct, ev_sub, ev_slice, ev_callF, ev_callK, ev_callB, ev_isinst, ev_bm, ev_lcF, evs, evp_absent, evp_star, evT_nil, evT_one, evI_range1, evI_range2, evI_zip, evI_enum, evI_iter, ex_asg, ex_par, ex_setix, ex_setattr, ex_aug, ex_expr, ex_ret, ex_ret0, ex_ite, ex_whil, ex_for, ex_brk, ex_cont, ex_pass, evB_eq, addD_int, addD_tup, addD_lst, addD_str, subtD_int, mulD_int, modD_int, fdivD_int, bin_add, bin_sub, bin_mul, bin_fdiv, bin_mod, bin_pow, cmp_eq, cmp_ne, cmp_lt, cmp_le, cmp_gt, cmp_ge, cmp_is, cmp_isnot, cmp_in, cmp_notin, ltD_int, leD_int, gtD_int, geD_int, isD_non, inD_str, inD_lst, inD_tup, inD_dct, truth_bl, truth_int, truth_lst, truth_tup, truth_non, seq_kl, seq_tup, seq_lst, dct_dct, list_lst, items_kl, items_str, items_tup, items_lst, len_kl, len_str, len_tup, len_lst, len_dct, bi_len, bi_all, bi_any, bi_sum, bi_max1, bi_min1, bi_max2, bi_min2, bi_int, bi_intB, bi_tuple, bi_list, bi_sorted, bi_repr, sub_tup, sub_lst, sub_kl, sub_dctS, slice_tup, slice_lst, slice_kl, pairsD_nil, bmD_append, bmD_popAt, bmD_join, bt_join, watch_tup, watch_lst, watch_str, watch_kl, watch_dct, zip_lst, zip_tup, celled_v, celled_fl, celled_fd, celled_fo, wp_celled_fl, wp_celled_fd, assign_name, assign_tup2, wipe_name, wipe_tup2, still_nil, tg_non, tg_bl, tg_int, tg_str, tg_tup, tg_lst, ty_isstr, ty_istup, start0, cfg_call, cfg_fuel, wpR_ok, fin_self, Option.join_some, Option.join_none, Option.bind_some, Option.bind_none, Option.map_some, Option.map_none, List.map_cons, List.map_nil, List.all_cons, List.all_nil, List.any_cons, List.any_nil, List.getElem?_cons_zero, List.getElem?_cons_succ, List.length_cons, List.length_nil, List.set_cons_zero, List.set_cons_succ, List.cons_append, List.nil_append, List.append_nil, List.replicate, List.drop_nil, Nat.sub_self, Nat.sub_zero, Nat.zero_add, Nat.reduceAdd, Nat.reduceSub, Nat.reduceLT, Nat.reduceLeDiff, Nat.zero_lt_succ, id_eq, if_true, if_false, Bool.true_and, Bool.and_true, Bool.false_and, Bool.and_false, Bool.or_false, Bool.false_or, Bool.true_or, Bool.or_true, Bool.not_true, Bool.not_false, Bool.and_self, Bool.or_self, Bool.false_eq_true, decide_true, decide_false, lineN_eq, sizeLine_eq, Nat.zero_le, and_self, hi]
    refine wp_call (take_W (n + 1) d1 (m := 8) (by omega) (by decide) (by decide)) ?_
    rintro r μ2 ⟨j, rfl, j0, j1, d2, s2⟩
    have hl : (1 + j).toNat ≤ 8 := by omega
    simp only [wp_pure, wp_bind, wp_stuck, wp_ofO, wp_ofN, wp_getM, wp_modM, wp_tryE, wp_iteB, wp_ite, wp_exs_nil, wp_exs_cons, nxQ_nx, nxQ_ret, nxQ_brk, nxQ_cont, nxQ_exc, turnQ_nx, turnQ_ret, turnQ_brk, turnQ_cont, turnQ_exc, retQ_ret, retQ_nx, retQ_exc, oQ_some, oQ_none, erd_v, erd_fl, erd_fd, erd_fo, ev_k, ev_v, ev_bin, ev_cmp, ev_chain, ev_and, ev_or, ev_not, ev_ite, ev_tup, ev_lst, ev_dct, ev_sub, ev_slice, ev_callF, ev_callK, ev_callB, ev_isinst, ev_bm, ev_lcF, evs, evp_absent, evp_star, evT_nil, evT_one, evI_range1, evI_range2, evI_zip, evI_enum, evI_iter, ex_asg, ex_par, ex_setix, ex_setattr, ex_aug, ex_expr, ex_ret, ex_ret0, ex_ite, ex_whil, ex_for, ex_brk, ex_cont, ex_pass, evB_eq, addD_int, addD_tup, addD_lst, addD_str, subtD_int, mulD_int, modD_int, fdivD_int, bin_add, bin_sub, bin_mul, bin_fdiv, bin_mod, bin_pow, cmp_eq, cmp_ne, cmp_lt, cmp_le, cmp_gt, cmp_ge, cmp_is, cmp_isnot, cmp_in, cmp_notin, ltD_int, leD_int, gtD_int, geD_int, isD_non, inD_str, inD_lst, inD_tup, inD_dct, truth_bl, truth_int, truth_lst, truth_tup, truth_non, seq_kl, seq_tup, seq_lst, dct_dct, list_lst, items_kl, items_str, items_tup, items_lst, len_kl, len_str, len_tup, len_lst, len_dct, bi_len, bi_all, bi_any, bi_sum, bi_max1, bi_min1, bi_max2, bi_min2, bi_int, bi_intB, bi_tuple, bi_list, bi_sorted, bi_repr, sub_tup, sub_lst, sub_kl, sub_dctS, slice_tup, slice_lst, slice_kl, pairsD_nil, bmD_append, bmD_popAt, bmD_join, bt_join, watch_tup, watch_lst, watch_str, watch_kl, watch_dct, zip_lst, zip_tup, celled_v, celled_fl, celled_fd, celled_fo, wp_celled_fl, wp_celled_fd, assign_name, assign_tup2, wipe_name, wipe_tup2, still_nil, tg_non, tg_bl, tg_int, tg_str, tg_tup, tg_lst, ty_isstr, ty_istup, start0, cfg_call, cfg_fuel, wpR_ok, fin_self, Option.join_some, Option.join_none, Option.bind_some, Option.bind_none, Option.map_some, Option.map_none, List.map_cons, List.map_nil, List.all_cons, List.all_nil, List.any_cons, List.any_nil, List.getElem?_cons_zero, List.getElem?_cons_succ, List.length_cons, List.length_nil, List.set_cons_zero, List.set_cons_succ, List.cons_append, List.nil_append, List.append_nil, List.replicate, List.drop_nil, Nat.sub_self, Nat.sub_zero, Nat.zero_add, Nat.reduceAdd, Nat.reduceSub, Nat.reduceLT, Nat.reduceLeDiff, Nat.zero_lt_succ, id_eq, if_true, if_false, Bool.true_and, Bool.and_true, Bool.false_and, Bool.and_false, Bool.or_false, Bool.false_or, Bool.true_or, Bool.or_true, Bool.not_true, Bool.not_false, Bool.and_self, Bool.or_self, Bool.false_eq_true, decide_true, decide_false, lineN_eq, sizeLine_eq, Nat.zero_le, and_self, rg1_int (1 + j) (by omega) (by omega), List.length_map, List.length_range, show (1 + j).toNat ≤ 16777216 by omega]
    refine wp_call (picks_W n _ d2 (s := abc) (by simp; omega) (by decide +kernel) (by decide +kernel) (fun x μ Q => by unfold lcF; simp only [wp_pure, wp_bind, wp_stuck, wp_ofO, wp_ofN, wp_getM, wp_modM, wp_tryE, wp_iteB, wp_ite, wp_exs_nil, wp_exs_cons, nxQ_nx, nxQ_ret, nxQ_brk, nxQ_cont, nxQ_exc, turnQ_nx, turnQ_ret, turnQ_brk, turnQ_cont, turnQ_exc, retQ_ret, retQ_nx, retQ_exc, oQ_some, oQ_none, erd_v, erd_fl, erd_fd, erd_fo, ev_k, ev_v, ev_bin, ev_cmp, ev_chain, ev_and, ev_or, ev_not, ev_ite, ev_tup, ev_lst, ev_dct, ev_sub, ev_slice, ev_callF, ev_callK, ev_callB, ev_isinst, ev_bm, ev_lcF, evs, evp_absent, evp_star, evT_nil, evT_one, evI_range1, evI_range2, evI_zip, evI_enum, evI_iter, ex_asg, ex_par, ex_setix, ex_setattr, ex_aug, ex_expr, ex_ret, ex_ret0, ex_ite, ex_whil, ex_for, ex_brk, ex_cont, ex_pass, evB_eq, addD_int, addD_tup, addD_lst, addD_str, subtD_int, mulD_int, modD_int, fdivD_int, bin_add, bin_sub, bin_mul, bin_fdiv, bin_mod, bin_pow, cmp_eq, cmp_ne, cmp_lt, cmp_le, cmp_gt, cmp_ge, cmp_is, cmp_isnot, cmp_in, cmp_notin, ltD_int, leD_int, gtD_int, geD_int, isD_non, inD_str, inD_lst, inD_tup, inD_dct, truth_bl, truth_int, truth_lst, truth_tup, truth_non, seq_kl, seq_tup, seq_lst, dct_dct, list_lst, items_kl, items_str, items_tup, items_lst, len_kl, len_str, len_tup, len_lst, len_dct, bi_len, bi_all, bi_any, bi_sum, bi_max1, bi_min1, bi_max2, bi_min2, bi_int, bi_intB, bi_tuple, bi_list, bi_sorted, bi_repr, sub_tup, sub_lst, sub_kl, sub_dctS, slice_tup, slice_lst, slice_kl, pairsD_nil, bmD_append, bmD_popAt, bmD_join, bt_join, watch_tup, watch_lst, watch_str, watch_kl, watch_dct, zip_lst, zip_tup, celled_v, celled_fl, celled_fd, celled_fo, wp_celled_fl, wp_celled_fd, assign_name, assign_tup2, wipe_name, wipe_tup2, still_nil, tg_non, tg_bl, tg_int, tg_str, tg_tup, tg_lst, ty_isstr, ty_istup, start0, cfg_call, cfg_fuel, wpR_ok, fin_self, Option.join_some, Option.join_none, Option.bind_some, Option.bind_none, Option.map_some, Option.map_none, List.map_cons, List.map_nil, List.all_cons, List.all_nil, List.any_cons, List.any_nil, List.getElem?_cons_zero, List.getElem?_cons_succ, List.length_cons, List.length_nil, List.set_cons_zero, List.set_cons_succ, List.cons_append, List.nil_append, List.append_nil, List.replicate, List.drop_nil, Nat.sub_self, Nat.sub_zero, Nat.zero_add, Nat.reduceAdd, Nat.reduceSub, Nat.reduceLT, Nat.reduceLeDiff, Nat.zero_lt_succ, id_eq, if_true, if_false, Bool.true_and, Bool.and_true, Bool.false_and, Bool.and_false, Bool.or_false, Bool.false_or, Bool.true_or, Bool.or_true, Bool.not_true, Bool.not_false, Bool.and_self, Bool.or_self, Bool.false_eq_true, decide_true, decide_false, lineN_eq, sizeLine_eq, Nat.zero_le, and_self])) ?_
    rintro r μ3 ⟨cs, rfl, hc, ha, d3, s3⟩
    have hc : cs.length = (1 + j).toNat := by simpa using hc
    rw [join_chars μ3 cs (by omega)]
    simp only [wp_pure, wp_bind, wp_stuck, wp_ofO, wp_ofN, wp_getM, wp_modM, wp_tryE, wp_iteB, wp_ite, wp_exs_nil, wp_exs_cons, nxQ_nx, nxQ_ret, nxQ_brk, nxQ_cont, nxQ_exc, turnQ_nx, turnQ_ret, turnQ_brk, turnQ_cont, turnQ_exc, retQ_ret, retQ_nx, retQ_exc, oQ_some, oQ_none, erd_v, erd_fl, erd_fd, erd_fo, ev_k, ev_v, ev_bin, ev_cmp, ev_chain, ev_and, ev_or, ev_not, ev_ite, ev_tup, ev_lst, ev_dct, ev_sub, ev_slice, ev_callF, ev_callK, ev_callB, ev_isinst, ev_bm, ev_lcF, evs, evp_absent, evp_star, evT_nil, evT_one, evI_range1, evI_range2, evI_zip, evI_enum, evI_iter, ex_asg, ex_par, ex_setix, ex_setattr, ex_aug, ex_expr, ex_ret, ex_ret0, ex_ite, ex_whil, ex_for, ex_brk, ex_cont, ex_pass, evB_eq, addD_int, addD_tup, addD_lst, addD_str, subtD_int, mulD_int, modD_int, fdivD_int, bin_add, bin_sub, bin_mul, bin_fdiv, bin_mod, bin_pow, cmp_eq, cmp_ne, cmp_lt, cmp_le, cmp_gt, cmp_ge, cmp_is, cmp_isnot, cmp_in, cmp_notin, ltD_int, leD_int, gtD_int, geD_int, isD_non, inD_str, inD_lst, inD_tup, inD_dct, truth_bl, truth_int, truth_lst, truth_tup, truth_non, seq_kl, seq_tup, seq_lst, dct_dct, list_lst, items_kl, items_str, items_tup, items_lst, len_kl, len_str, len_tup, len_lst, len_dct, bi_len, bi_all, bi_any, bi_sum, bi_max1, bi_min1, bi_max2, bi_min2, bi_int, bi_intB, bi_tuple, bi_list, bi_sorted, bi_repr, sub_tup, sub_lst, sub_kl, sub_dctS, slice_tup, slice_lst, slice_kl, pairsD_nil, bmD_append, bmD_popAt, bmD_join, bt_join, watch_tup, watch_lst, watch_str, watch_kl, watch_dct, zip_lst, zip_tup, celled_v, celled_fl, celled_fd, celled_fo, wp_celled_fl, wp_celled_fd, assign_name, assign_tup2, wipe_name, wipe_tup2, still_nil, tg_non, tg_bl, tg_int, tg_str, tg_tup, tg_lst, ty_isstr, ty_istup, start0, cfg_call, cfg_fuel, wpR_ok, fin_self, Option.join_some, Option.join_none, Option.bind_some, Option.bind_none, Option.map_some, Option.map_none, List.map_cons, List.map_nil, List.all_cons, List.all_nil, List.any_cons, List.any_nil, List.getElem?_cons_zero, List.getElem?_cons_succ, List.length_cons, List.length_nil, List.set_cons_zero, List.set_cons_succ, List.cons_append, List.nil_append, List.append_nil, List.replicate, List.drop_nil, Nat.sub_self, Nat.sub_zero, Nat.zero_add, Nat.reduceAdd, Nat.reduceSub, Nat.reduceLT, Nat.reduceLeDiff, Nat.zero_lt_succ, id_eq, if_true, if_false, Bool.true_and, Bool.and_true, Bool.false_and, Bool.and_false, Bool.or_false, Bool.false_or, Bool.true_or, Bool.or_true, Bool.not_true, Bool.not_false, Bool.and_self, Bool.or_self, Bool.false_eq_true, decide_true, decide_false, lineN_eq, sizeLine_eq, Nat.zero_le, and_self]
    rw [fin_same ((s1.trans s2).trans s3).1]
    refine ⟨_, rfl, asc_of (by decide +kernel) ha, ?_, d3.mono ?_, (s1.trans s2).trans s3⟩
    · show cs.toArray.size ≤ 8
      simp; omega
    · simp; omega
/-- a thing of the law -/
structure Thing (d : D) : Prop where
  isn : ∃ b, ∀ n μ, runF pg (n + 1) 0 [d] μ = .ok (.v (.bl b)) μ ∧ runF pg (n + 1) 6 [d] μ = .ok (.v (.bl b)) μ
  rp : ∃ z, sOk z ∧ ∀ μ, reprD μ d = some (.v (.str z))
theorem asc_ok {s : Str} (h : Asc s) : sOk s := (sOk_iff s).mpr fun c hc => by have := h c hc; omega
theorem thing_str {s : Str} (h : Asc s) (hl : s.length ≤ 1000) : Thing (.str s) :=
  ⟨⟨isNm s, fun n μ => ⟨is_name_str n μ s (by omega), law_is_name_str n μ s (by omega) fun c hc => (sOk_iff _).mpr fun d hd => by
      have : d = c := by simpa using hd
      have := h c hc; omega⟩⟩,
   ⟨_, (RpOk.str (k := 0) (b := 10 * s.length + 2) (asc_ok h) (Nat.le_refl _)).ok, fun μ => repr_of (RpOk.str (k := 0) (b := 10 * s.length + 2) (asc_ok h) (Nat.le_refl _)) (by omega) (by omega)⟩⟩
theorem not_str (n : Nat) (μ : List Cell) (d : D) (h : tysD μ d [.str] = some false) : runF pg (n + 1) 0 [d] μ = .ok (.v (.bl false)) μ ∧ runF pg (n + 1) 6 [d] μ = .ok (.v (.bl false)) μ := by
  constructor
  · refine eq_of_wp (wp_run (F := F0) rfl rfl ?_)
    simp only [F0, wp_pure, wp_bind, wp_stuck, wp_ofO, wp_ofN, wp_getM, wp_modM, wp_tryE, wp_iteB, wp_ite, wp_exs_nil, wp_exs_cons, nxQ_nx, nxQ_ret, nxQ_brk, nxQ_cont, nxQ_exc, turnQ_nx, turnQ_ret, turnQ_brk, turnQ_cont, turnQ_exc, retQ_ret, retQ_nx, retQ_exc, oQ_some, oQ_none, erd_v, erd_fl, erd_fd, erd_fo, ev_k, ev_v, ev_bin, ev_cmp, ev_chain, ev_and, ev_or, ev_not, ev_ite, ev_tup, ev_lst, ev_dct, ev_sub, ev_slice, ev_callF, ev_callK, ev_callB, ev_isinst, ev_bm, ev_lcF, evs, evp_absent, evp_star, evT_nil, evT_one, evI_range1, evI_range2, evI_zip, evI_enum, evI_iter, ex_asg, ex_par, ex_setix, ex_setattr, ex_aug, ex_expr, ex_ret, ex_ret0, ex_ite, ex_whil, ex_for, ex_brk, ex_cont, ex_pass, evB_eq, addD_int, addD_tup, addD_lst, addD_str, subtD_int, mulD_int, modD_int, fdivD_int, bin_add, bin_sub, bin_mul, bin_fdiv, bin_mod, bin_pow, cmp_eq, cmp_ne, cmp_lt, cmp_le, cmp_gt, cmp_ge, cmp_is, cmp_isnot, cmp_in, cmp_notin, ltD_int, leD_int, gtD_int, geD_int, isD_non, inD_str, inD_lst, inD_tup, inD_dct, truth_bl, truth_int, truth_lst, truth_tup, truth_non, seq_kl, seq_tup, seq_lst, dct_dct, list_lst, items_kl, items_str, items_tup, items_lst, len_kl, len_str, len_tup, len_lst, len_dct, bi_len, bi_all, bi_any, bi_sum, bi_max1, bi_min1, bi_max2, bi_min2, bi_int, bi_intB, bi_tuple, bi_list, bi_sorted, bi_repr, sub_tup, sub_lst, sub_kl, sub_dctS, slice_tup, slice_lst, slice_kl, pairsD_nil, bmD_append, bmD_popAt, bmD_join, bt_join, watch_tup, watch_lst, watch_str, watch_kl, watch_dct, zip_lst, zip_tup, celled_v, celled_fl, celled_fd, celled_fo, wp_celled_fl, wp_celled_fd, assign_name, assign_tup2, wipe_name, wipe_tup2, still_nil, tg_non, tg_bl, tg_int, tg_str, tg_tup, tg_lst, ty_isstr, ty_istup, start0, cfg_call, cfg_fuel, wpR_ok, fin_self, Option.join_some, Option.join_none, Option.bind_some, Option.bind_none, Option.map_some, Option.map_none, List.map_cons, List.map_nil, List.all_cons, List.all_nil, List.any_cons, List.any_nil, List.getElem?_cons_zero, List.getElem?_cons_succ, List.length_cons, List.length_nil, List.set_cons_zero, List.set_cons_succ, List.cons_append, List.nil_append, List.append_nil, List.replicate, List.drop_nil, Nat.sub_self, Nat.sub_zero, Nat.zero_add, Nat.reduceAdd, Nat.reduceSub, Nat.reduceLT, Nat.reduceLeDiff, Nat.zero_lt_succ, id_eq, if_true, if_false, Bool.true_and, Bool.and_true, Bool.false_and, Bool.and_false, Bool.or_false, Bool.false_or, Bool.true_or, Bool.or_true, Bool.not_true, Bool.not_false, Bool.and_self, Bool.or_self, Bool.false_eq_true, decide_true, decide_false, lineN_eq, sizeLine_eq, Nat.zero_le, and_self, h]
  · refine eq_of_wp (wp_run (F := F6) rfl rfl ?_)
    simp only [F6, wp_pure, wp_bind, wp_stuck, wp_ofO, wp_ofN, wp_getM, wp_modM, wp_tryE, wp_iteB, wp_ite, wp_exs_nil, wp_exs_cons, nxQ_nx, nxQ_ret, nxQ_brk, nxQ_cont, nxQ_exc, turnQ_nx, turnQ_ret, turnQ_brk, turnQ_cont, turnQ_exc, retQ_ret, retQ_nx, retQ_exc, oQ_some, oQ_none, erd_v, erd_fl, erd_fd, erd_fo, ev_k, ev_v, ev_bin, ev_cmp, ev_chain, ev_and, ev_or, ev_not, ev_ite, ev_tup, ev_lst, ev_dct, ev_sub, ev_slice, ev_callF, ev_callK, ev_callB, ev_isinst, ev_bm, ev_lcF, evs, evp_absent, evp_star, evT_nil, evT_one, evI_range1, evI_range2, evI_zip, evI_enum, evI_iter, ex_asg, ex_par, ex_setix, ex_setattr, ex_aug, ex_expr, ex_ret, ex_ret0, ex_ite, ex_whil, ex_for, ex_brk, ex_cont, ex_pass, evB_eq, addD_int, addD_tup, addD_lst, addD_str, subtD_int, mulD_int, modD_int, fdivD_int, bin_add, bin_sub, bin_mul, bin_fdiv, bin_mod, bin_pow, cmp_eq, cmp_ne, cmp_lt, cmp_le, cmp_gt, cmp_ge, cmp_is, cmp_isnot, cmp_in, cmp_notin, ltD_int, leD_int, gtD_int, geD_int, isD_non, inD_str, inD_lst, inD_tup, inD_dct, truth_bl, truth_int, truth_lst, truth_tup, truth_non, seq_kl, seq_tup, seq_lst, dct_dct, list_lst, items_kl, items_str, items_tup, items_lst, len_kl, len_str, len_tup, len_lst, len_dct, bi_len, bi_all, bi_any, bi_sum, bi_max1, bi_min1, bi_max2, bi_min2, bi_int, bi_intB, bi_tuple, bi_list, bi_sorted, bi_repr, sub_tup, sub_lst, sub_kl, sub_dctS, slice_tup, slice_lst, slice_kl, pairsD_nil, bmD_append, bmD_popAt, bmD_join, bt_join, watch_tup, watch_lst, watch_str, watch_kl, watch_dct, zip_lst, zip_tup, celled_v, celled_fl, celled_fd, celled_fo, wp_celled_fl, wp_celled_fd, assign_name, assign_tup2, wipe_name, wipe_tup2, still_nil, tg_non, tg_bl, tg_int, tg_str, tg_tup, tg_lst, ty_isstr, ty_istup, start0, cfg_call, cfg_fuel, wpR_ok, fin_self, Option.join_some, Option.join_none, Option.bind_some, Option.bind_none, Option.map_some, Option.map_none, List.map_cons, List.map_nil, List.all_cons, List.all_nil, List.any_cons, List.any_nil, List.getElem?_cons_zero, List.getElem?_cons_succ, List.length_cons, List.length_nil, List.set_cons_zero, List.set_cons_succ, List.cons_append, List.nil_append, List.append_nil, List.replicate, List.drop_nil, Nat.sub_self, Nat.sub_zero, Nat.zero_add, Nat.reduceAdd, Nat.reduceSub, Nat.reduceLT, Nat.reduceLeDiff, Nat.zero_lt_succ, id_eq, if_true, if_false, Bool.true_and, Bool.and_true, Bool.false_and, Bool.and_false, Bool.or_false, Bool.false_or, Bool.true_or, Bool.or_true, Bool.not_true, Bool.not_false, Bool.and_self, Bool.or_self, Bool.false_eq_true, decide_true, decide_false, lineN_eq, sizeLine_eq, Nat.zero_le, and_self, h]
theorem thing_of {d : D} {k b : Nat} (h : ∀ μ, tysD μ d [.str] = some false) (r : RpOk k b d) (hk : k ≤ 64) (hb : b ≤ 16777216) : Thing d :=
  ⟨⟨false, fun n μ => not_str n μ d (h μ)⟩, ⟨_, r.ok, fun μ => repr_of r hk hb⟩⟩
end RL.K02

set_option Elab.async false
set_option linter.all false
set_option maxRecDepth 1000000
set_option maxHeartbeats 4000000
namespace RL.K02
open PySem L2 RL
theorem filter_ints (ns : List Int) (g : Int → Option Int) : (ns.filterMap fun z => (g z).map D.int) = (ns.filterMap g).map D.int := by
  induction ns with
  | nil => rfl
  | cons z ns ih =>
    rw [List.filterMap_cons, List.filterMap_cons, ih]
    cases g z <;> rfl
theorem begin_W (n : Nat) (ns : List Int) (hn : ns.length ≤ 63) :
    ∃ wide : List Int, wide.length ≤ 63 ∧ wp (runF pg (n + 1) 1 [.kl ns]) [] (fun r μ' => r = .fd [kW, kC, kR, kT] [.cell 0, .lst (ns.map .int), .int 0, .int 0] ∧ μ' = [.lst (wide.map .int)]) NoE := by
  refine ⟨ns.filterMap (fun z => if 10 ^ 18 ≤ z then some (z - 10 ^ 18) else none), Nat.le_trans (List.length_filterMap_le _ _) hn, ?_⟩
  refine wp_run (F := F1) rfl rfl ?_
  have hl : ns.length ≤ 16777216 := by omega
  simp only [F1, wp_pure, wp_bind, wp_stuck, wp_ofO, wp_ofN, wp_getM, wp_modM, wp_tryE, wp_iteB, wp_ite, wp_exs_nil, wp_exs_cons, nxQ_nx, nxQ_ret, nxQ_brk, nxQ_cont, nxQ_exc, turnQ_nx, turnQ_ret, turnQ_brk, turnQ_cont, turnQ_exc, retQ_ret, retQ_nx, retQ_exc, oQ_some, oQ_none, erd_v, erd_fl, erd_fd, erd_fo, ev_k, ev_v, ev_bin, ev_cmp, ev_chain, ev_and, ev_or, ev_not, ev_ite, ev_tup, ev_lst, ev_dct, ev_sub, ev_slice, ev_callF, ev_callK, ev_callB, ev_isinst, ev_bm, ev_lcF, evs, evp_absent, evp_star, evT_nil, evT_one, evI_range1, evI_range2, evI_zip, evI_enum, evI_iter, ex_asg, ex_par, ex_setix, ex_setattr, ex_aug, ex_expr, ex_ret, ex_ret0, ex_ite, ex_whil, ex_for, ex_brk, ex_cont, ex_pass, evB_eq, addD_int, addD_tup, addD_lst, addD_str, subtD_int, mulD_int, modD_int, fdivD_int, bin_add, bin_sub, bin_mul, bin_fdiv, bin_mod, bin_pow, cmp_eq, cmp_ne, cmp_lt, cmp_le, cmp_gt, cmp_ge, cmp_is, cmp_isnot, cmp_in, cmp_notin, ltD_int, leD_int, gtD_int, geD_int, isD_non, inD_str, inD_lst, inD_tup, inD_dct, truth_bl, truth_int, truth_lst, truth_tup, truth_non, seq_kl, seq_tup, seq_lst, dct_dct, list_lst, items_kl, items_str, items_tup, items_lst, len_kl, len_str, len_tup, len_lst, len_dct, bi_len, bi_all, bi_any, bi_sum, bi_max1, bi_min1, bi_max2, bi_min2, bi_int, bi_intB, bi_tuple, bi_list, bi_sorted, bi_repr, sub_tup, sub_lst, sub_kl, sub_dctS, slice_tup, slice_lst, slice_kl, pairsD_nil, bmD_append, bmD_popAt, bmD_join, bt_join, watch_tup, watch_lst, watch_str, watch_kl, watch_dct, zip_lst, zip_tup, celled_v, celled_fl, celled_fd, celled_fo, wp_celled_fl, wp_celled_fd, assign_name, assign_tup2, wipe_name, wipe_tup2, still_nil, tg_non, tg_bl, tg_int, tg_str, tg_tup, tg_lst, ty_isstr, ty_istup, start0, cfg_call, cfg_fuel, wpR_ok, fin_self, Option.join_some, Option.join_none, Option.bind_some, Option.bind_none, Option.map_some, Option.map_none, List.map_cons, List.map_nil, List.all_cons, List.all_nil, List.any_cons, List.any_nil, List.getElem?_cons_zero, List.getElem?_cons_succ, List.length_cons, List.length_nil, List.set_cons_zero, List.set_cons_succ, List.cons_append, List.nil_append, List.append_nil, List.replicate, List.drop_nil, Nat.sub_self, Nat.sub_zero, Nat.zero_add, Nat.reduceAdd, Nat.reduceSub, Nat.reduceLT, Nat.reduceLeDiff, Nat.zero_lt_succ, id_eq, if_true, if_false, Bool.true_and, Bool.and_true, Bool.false_and, Bool.and_false, Bool.or_false, Bool.false_or, Bool.true_or, Bool.or_true, Bool.not_true, Bool.not_false, Bool.and_self, Bool.or_self, Bool.false_eq_true, decide_true, decide_false, lineN_eq, sizeLine_eq, Nat.zero_le, and_self, hl, List.length_map]
  refine wp_lc_opt D.int ns (fun z => (if 10 ^ 18 ≤ z then some (z - 10 ^ 18) else none).map D.int) (still_nil _) (fun z _ => ?_) ?_
  · unfold lcF
    have p : powD (.int 10) (.int 18) = some (.v (.int (10 ^ 18))) := by rfl
    simp only [wp_pure, wp_bind, wp_stuck, wp_ofO, wp_ofN, wp_getM, wp_modM, wp_tryE, wp_iteB, wp_ite, wp_exs_nil, wp_exs_cons, nxQ_nx, nxQ_ret, nxQ_brk, nxQ_cont, nxQ_exc, turnQ_nx, turnQ_ret, turnQ_brk, turnQ_cont, turnQ_exc, retQ_ret, retQ_nx, retQ_exc, oQ_some, oQ_none, erd_v, erd_fl, erd_fd, erd_fo, ev_k, ev_v, ev_bin, ev_cmp, ev_chain, ev_and, ev_or, ev_not, ev_ite, ev_tup, ev_lst, ev_dct, ev_sub, ev_slice, ev_callF, ev_callK, ev_callB, ev_isinst, ev_bm, ev_lcF, evs, evp_absent, evp_star, evT_nil, evT_one, evI_range1, evI_range2, evI_zip, evI_enum, evI_iter, ex_asg, ex_par, ex_setix, ex_setattr, ex_aug, ex_expr, ex_ret, ex_ret0, ex_ite, ex_whil, ex_for, ex_brk, ex_cont, ex_pass, evB_eq, addD_int, addD_tup, addD_lst, addD_str, subtD_int, mulD_int, modD_int, fdivD_int, bin_add, bin_sub, bin_mul, bin_fdiv, bin_mod, bin_pow, cmp_eq, cmp_ne, cmp_lt, cmp_le, cmp_gt, cmp_ge, cmp_is, cmp_isnot, cmp_in, cmp_notin, ltD_int, leD_int, gtD_int, geD_int, isD_non, inD_str, inD_lst, inD_tup, inD_dct, truth_bl, truth_int, truth_lst, truth_tup, truth_non, seq_kl, seq_tup, seq_lst, dct_dct, list_lst, items_kl, items_str, items_tup, items_lst, len_kl, len_str, len_tup, len_lst, len_dct, bi_len, bi_all, bi_any, bi_sum, bi_max1, bi_min1, bi_max2, bi_min2, bi_int, bi_intB, bi_tuple, bi_list, bi_sorted, bi_repr, sub_tup, sub_lst, sub_kl, sub_dctS, slice_tup, slice_lst, slice_kl, pairsD_nil, bmD_append, bmD_popAt, bmD_join, bt_join, watch_tup, watch_lst, watch_str, watch_kl, watch_dct, zip_lst, zip_tup, celled_v, celled_fl, celled_fd, celled_fo, wp_celled_fl, wp_celled_fd, assign_name, assign_tup2, wipe_name, wipe_tup2, still_nil, tg_non, tg_bl, tg_int, tg_str, tg_tup, tg_lst, ty_isstr, ty_istup, start0, cfg_call, cfg_fuel, wpR_ok, fin_self, Option.join_some, Option.join_none, Option.bind_some, Option.bind_none, Option.map_some, Option.map_none, List.map_cons, List.map_nil, List.all_cons, List.all_nil, List.any_cons, List.any_nil, List.getElem?_cons_zero, List.getElem?_cons_succ, List.length_cons, List.length_nil, List.set_cons_zero, List.set_cons_succ, List.cons_append, List.nil_append, List.append_nil, List.replicate, List.drop_nil, Nat.sub_self, Nat.sub_zero, Nat.zero_add, Nat.reduceAdd, Nat.reduceSub, Nat.reduceLT, Nat.reduceLeDiff, Nat.zero_lt_succ, id_eq, if_true, if_false, Bool.true_and, Bool.and_true, Bool.false_and, Bool.and_false, Bool.or_false, Bool.false_or, Bool.true_or, Bool.or_true, Bool.not_true, Bool.not_false, Bool.and_self, Bool.or_self, Bool.false_eq_true, decide_true, decide_false, lineN_eq, sizeLine_eq, Nat.zero_le, and_self, p]
    by_cases h : 10 ^ 18 ≤ z <;> simp only [wp_pure, wp_bind, wp_stuck, wp_ofO, wp_ofN, wp_getM, wp_modM, wp_tryE, wp_iteB, wp_ite, wp_exs_nil, wp_exs_cons, nxQ_nx, nxQ_ret, nxQ_brk, nxQ_cont, nxQ_exc, turnQ_nx, turnQ_ret, turnQ_brk, turnQ_cont, turnQ_exc, retQ_ret, retQ_nx, retQ_exc, oQ_some, oQ_none, erd_v, erd_fl, erd_fd, erd_fo, ev_k, ev_v, ev_bin, ev_cmp, ev_chain, ev_and, ev_or, ev_not, ev_ite, ev_tup, ev_lst, ev_dct, ev_sub, ev_slice, ev_callF, ev_callK, ev_callB, ev_isinst, ev_bm, ev_lcF, evs, evp_absent, evp_star, evT_nil, evT_one, evI_range1, evI_range2, evI_zip, evI_enum, evI_iter, ex_asg, ex_par, ex_setix, ex_setattr, ex_aug, ex_expr, ex_ret, ex_ret0, ex_ite, ex_whil, ex_for, ex_brk, ex_cont, ex_pass, evB_eq, addD_int, addD_tup, addD_lst, addD_str, subtD_int, mulD_int, modD_int, fdivD_int, bin_add, bin_sub, bin_mul, bin_fdiv, bin_mod, bin_pow, cmp_eq, cmp_ne, cmp_lt, cmp_le, cmp_gt, cmp_ge, cmp_is, cmp_isnot, cmp_in, cmp_notin, ltD_int, leD_int, gtD_int, geD_int, isD_non, inD_str, inD_lst, inD_tup, inD_dct, truth_bl, truth_int, truth_lst, truth_tup, truth_non, seq_kl, seq_tup, seq_lst, dct_dct, list_lst, items_kl, items_str, items_tup, items_lst, len_kl, len_str, len_tup, len_lst, len_dct, bi_len, bi_all, bi_any, bi_sum, bi_max1, bi_min1, bi_max2, bi_min2, bi_int, bi_intB, bi_tuple, bi_list, bi_sorted, bi_repr, sub_tup, sub_lst, sub_kl, sub_dctS, slice_tup, slice_lst, slice_kl, pairsD_nil, bmD_append, bmD_popAt, bmD_join, bt_join, watch_tup, watch_lst, watch_str, watch_kl, watch_dct, zip_lst, zip_tup, celled_v, celled_fl, celled_fd, celled_fo, wp_celled_fl, wp_celled_fd, assign_name, assign_tup2, wipe_name, wipe_tup2, still_nil, tg_non, tg_bl, tg_int, tg_str, tg_tup, tg_lst, ty_isstr, ty_istup, start0, cfg_call, cfg_fuel, wpR_ok, fin_self, Option.join_some, Option.join_none, Option.bind_some, Option.bind_none, Option.map_some, Option.map_none, List.map_cons, List.map_nil, List.all_cons, List.all_nil, List.any_cons, List.any_nil, List.getElem?_cons_zero, List.getElem?_cons_succ, List.length_cons, List.length_nil, List.set_cons_zero, List.set_cons_succ, List.cons_append, List.nil_append, List.append_nil, List.replicate, List.drop_nil, Nat.sub_self, Nat.sub_zero, Nat.zero_add, Nat.reduceAdd, Nat.reduceSub, Nat.reduceLT, Nat.reduceLeDiff, Nat.zero_lt_succ, id_eq, if_true, if_false, Bool.true_and, Bool.and_true, Bool.false_and, Bool.and_false, Bool.or_false, Bool.false_or, Bool.true_or, Bool.or_true, Bool.not_true, Bool.not_false, Bool.and_self, Bool.or_self, Bool.false_eq_true, decide_true, decide_false, lineN_eq, sizeLine_eq, Nat.zero_le, and_self, h, p]
  · have e : ∀ a b c d : D, pairsD [kW, a, kC, b, kR, c, kT, d] = some ([kW, kC, kR, kT], [a, b, c, d]) := fun a b c d => rfl
    simp only [wp_pure, wp_bind, wp_stuck, wp_ofO, wp_ofN, wp_getM, wp_modM, wp_tryE, wp_iteB, wp_ite, wp_exs_nil, wp_exs_cons, nxQ_nx, nxQ_ret, nxQ_brk, nxQ_cont, nxQ_exc, turnQ_nx, turnQ_ret, turnQ_brk, turnQ_cont, turnQ_exc, retQ_ret, retQ_nx, retQ_exc, oQ_some, oQ_none, erd_v, erd_fl, erd_fd, erd_fo, ev_k, ev_v, ev_bin, ev_cmp, ev_chain, ev_and, ev_or, ev_not, ev_ite, ev_tup, ev_lst, ev_dct, ev_sub, ev_slice, ev_callF, ev_callK, ev_callB, ev_isinst, ev_bm, ev_lcF, evs, evp_absent, evp_star, evT_nil, evT_one, evI_range1, evI_range2, evI_zip, evI_enum, evI_iter, ex_asg, ex_par, ex_setix, ex_setattr, ex_aug, ex_expr, ex_ret, ex_ret0, ex_ite, ex_whil, ex_for, ex_brk, ex_cont, ex_pass, evB_eq, addD_int, addD_tup, addD_lst, addD_str, subtD_int, mulD_int, modD_int, fdivD_int, bin_add, bin_sub, bin_mul, bin_fdiv, bin_mod, bin_pow, cmp_eq, cmp_ne, cmp_lt, cmp_le, cmp_gt, cmp_ge, cmp_is, cmp_isnot, cmp_in, cmp_notin, ltD_int, leD_int, gtD_int, geD_int, isD_non, inD_str, inD_lst, inD_tup, inD_dct, truth_bl, truth_int, truth_lst, truth_tup, truth_non, seq_kl, seq_tup, seq_lst, dct_dct, list_lst, items_kl, items_str, items_tup, items_lst, len_kl, len_str, len_tup, len_lst, len_dct, bi_len, bi_all, bi_any, bi_sum, bi_max1, bi_min1, bi_max2, bi_min2, bi_int, bi_intB, bi_tuple, bi_list, bi_sorted, bi_repr, sub_tup, sub_lst, sub_kl, sub_dctS, slice_tup, slice_lst, slice_kl, pairsD_nil, bmD_append, bmD_popAt, bmD_join, bt_join, watch_tup, watch_lst, watch_str, watch_kl, watch_dct, zip_lst, zip_tup, celled_v, celled_fl, celled_fd, celled_fo, wp_celled_fl, wp_celled_fd, assign_name, assign_tup2, wipe_name, wipe_tup2, still_nil, tg_non, tg_bl, tg_int, tg_str, tg_tup, tg_lst, ty_isstr, ty_istup, start0, cfg_call, cfg_fuel, wpR_ok, fin_self, Option.join_some, Option.join_none, Option.bind_some, Option.bind_none, Option.map_some, Option.map_none, List.map_cons, List.map_nil, List.all_cons, List.all_nil, List.any_cons, List.any_nil, List.getElem?_cons_zero, List.getElem?_cons_succ, List.length_cons, List.length_nil, List.set_cons_zero, List.set_cons_succ, List.cons_append, List.nil_append, List.append_nil, List.replicate, List.drop_nil, Nat.sub_self, Nat.sub_zero, Nat.zero_add, Nat.reduceAdd, Nat.reduceSub, Nat.reduceLT, Nat.reduceLeDiff, Nat.zero_lt_succ, id_eq, if_true, if_false, Bool.true_and, Bool.and_true, Bool.false_and, Bool.and_false, Bool.or_false, Bool.false_or, Bool.true_or, Bool.or_true, Bool.not_true, Bool.not_false, Bool.and_self, Bool.or_self, Bool.false_eq_true, decide_true, decide_false, lineN_eq, sizeLine_eq, Nat.zero_le, and_self, e]
    rw [filter_ints]
    exact ⟨rfl, rfl⟩
abbrev innerL : List MS := [(.asg (.name 7) (.callB .repr [(.v 6)]) false), (.ite (.or (.cmp .NotEq (.callB .repr [(.lst [(.callF 0 [(.v 6)]), (.callK 0 [0] [(.v 6)])])]) (.callB .repr [(.bin .Mult (.lst [(.callF 6 [(.v 6)])]) (.k (.int 2)))])) (.cmp .NotEq (.callB .repr [(.v 6)]) (.v 7))) [(.ret (.k (.bl false)))] [])]
theorem mul2 (μ : List Cell) (d : D) : mulD μ (.lst [d]) (.int 2) = some (.fl [d, d]) := rfl
theorem two_bl (μ : List Cell) (b : Bool) : ∃ z, sOk z ∧ reprD μ (.lst [.bl b, .bl b]) = some (.v (.str z)) := by
  have h : RpOk 1 17 (.lst [.bl b, .bl b]) := RpOk.lst (k := 0) (b := 5) (m := 2) (by intro x hx; simp at hx; rw [hx]; exact RpOk.bl 0 b) (by simp)
  exact ⟨_, h.ok, repr_of h (by decide) (by decide)⟩
/-- one turn of the inner loop -/
theorem inner_turn (n : Nat) {d : D} (h : Thing d) (μ : List Cell) (a0 a1 a2 a3 a4 a5 a7 : Option D) :
    exs (cfgOf pg (n + 1)) innerL [a0, a1, a2, a3, a4, a5, some d, a7] μ = .ok (.nx, [a0, a1, a2, a3, a4, a5, some d, some (.str h.rp.choose)]) μ := by
  have hz := h.rp.choose_spec
  generalize h.rp.choose = z at hz
  obtain ⟨z1, z2⟩ := hz
  obtain ⟨b, hb⟩ := h.isn
  obtain ⟨y, y1, y2⟩ := two_bl μ b
  have f0 := fun (Q : ER → List Cell → Prop) E => wp_of_eq (E := E) (hb n μ).1 Q
  have f6 := fun (Q : ER → List Cell → Prop) E => wp_of_eq (E := E) (hb n μ).2 Q
  have pm : permL [d] [0] = some [d] := rfl
  refine eq_of_wp ?_
  simp only [innerL, wp_pure, wp_bind, wp_stuck, wp_ofO, wp_ofN, wp_getM, wp_modM, wp_tryE, wp_iteB, wp_ite, wp_exs_nil, wp_exs_cons, nxQ_nx, nxQ_ret, nxQ_brk, nxQ_cont, nxQ_exc, turnQ_nx, turnQ_ret, turnQ_brk, turnQ_cont, turnQ_exc, retQ_ret, retQ_nx, retQ_exc, oQ_some, oQ_none, erd_v, erd_fl, erd_fd, erd_fo, ev_k, ev_v, ev_bin, ev_cmp, ev_chain, ev_and, ev_or, ev_not, ev_ite, ev_tup, ev_lst, ev_dct, ev_sub, ev_slice, ev_callF, ev_callK, ev_callB, ev_isinst, ev_bm, ev_lcF, evs, evp_absent, evp_star, evT_nil, evT_one, evI_range1, evI_range2, evI_zip, evI_enum, evI_iter, ex_asg, ex_par, ex_setix, ex_setattr, ex_aug, ex_expr, ex_ret, ex_ret0, ex_ite, ex_whil, ex_for, ex_brk, ex_cont, ex_pass, evB_eq, addD_int, addD_tup, addD_lst, addD_str, subtD_int, mulD_int, modD_int, fdivD_int, bin_add, bin_sub, bin_mul, bin_fdiv, bin_mod, bin_pow, cmp_eq, cmp_ne, cmp_lt, cmp_le, cmp_gt, cmp_ge, cmp_is, cmp_isnot, cmp_in, cmp_notin, ltD_int, leD_int, gtD_int, geD_int, isD_non, inD_str, inD_lst, inD_tup, inD_dct, truth_bl, truth_int, truth_lst, truth_tup, truth_non, seq_kl, seq_tup, seq_lst, dct_dct, list_lst, items_kl, items_str, items_tup, items_lst, len_kl, len_str, len_tup, len_lst, len_dct, bi_len, bi_all, bi_any, bi_sum, bi_max1, bi_min1, bi_max2, bi_min2, bi_int, bi_intB, bi_tuple, bi_list, bi_sorted, bi_repr, sub_tup, sub_lst, sub_kl, sub_dctS, slice_tup, slice_lst, slice_kl, pairsD_nil, bmD_append, bmD_popAt, bmD_join, bt_join, watch_tup, watch_lst, watch_str, watch_kl, watch_dct, zip_lst, zip_tup, celled_v, celled_fl, celled_fd, celled_fo, wp_celled_fl, wp_celled_fd, assign_name, assign_tup2, wipe_name, wipe_tup2, still_nil, tg_non, tg_bl, tg_int, tg_str, tg_tup, tg_lst, ty_isstr, ty_istup, start0, cfg_call, cfg_fuel, wpR_ok, fin_self, Option.join_some, Option.join_none, Option.bind_some, Option.bind_none, Option.map_some, Option.map_none, List.map_cons, List.map_nil, List.all_cons, List.all_nil, List.any_cons, List.any_nil, List.getElem?_cons_zero, List.getElem?_cons_succ, List.length_cons, List.length_nil, List.set_cons_zero, List.set_cons_succ, List.cons_append, List.nil_append, List.append_nil, List.replicate, List.drop_nil, Nat.sub_self, Nat.sub_zero, Nat.zero_add, Nat.reduceAdd, Nat.reduceSub, Nat.reduceLT, Nat.reduceLeDiff, Nat.zero_lt_succ, id_eq, if_true, if_false, Bool.true_and, Bool.and_true, Bool.false_and, Bool.and_false, Bool.or_false, Bool.false_or, Bool.true_or, Bool.or_true, Bool.not_true, Bool.not_false, Bool.and_self, Bool.or_self, Bool.false_eq_true, decide_true, decide_false, lineN_eq, sizeLine_eq, Nat.zero_le, and_self, z2, f0, f6, pm, mul2, y2, eqD_str y1 y1, eqD_str z1 z1]
theorem DrawI.push {μ : List Cell} {c w : Nat} {cells : List Int} {B : Int} (h : DrawI μ c w cells B) (x : List Cell) : DrawI (μ ++ x) c w cells B := by
  obtain ⟨wide, rest, turn, a, b, d, e⟩ := h
  refine ⟨wide, rest, turn, ⟨?_, ?_, a.ne⟩, b, d, e⟩
  · rw [List.getElem?_append_left (List.getElem?_eq_some_iff.mp a.c_).1]; exact a.c_
  · rw [List.getElem?_append_left (List.getElem?_eq_some_iff.mp a.w_).1]; exact a.w_
theorem DrawI.setk {μ : List Cell} {c w k : Nat} {cells : List Int} {B : Int} (h : DrawI μ c w cells B) (h1 : k ≠ c) (h2 : k ≠ w) (x : Cell) : DrawI (μ.set k x) c w cells B := by
  obtain ⟨wide, rest, turn, a, b, d, e⟩ := h
  exact ⟨wide, rest, turn, ⟨by rw [List.getElem?_set_ne h1]; exact a.c_, by rw [List.getElem?_set_ne h2]; exact a.w_, a.ne⟩, b, d, e⟩
abbrev outerL : List MS := [(.asg (.name 3) (.k (.str (Str.ofString "abcxyzABZ09 _-!>:\n"))) false), (.asg (.name 4) (.lst [(.k .non), (.k (.int 5)), (.k (.bl true)), (.tup []), (.lst []), (.dct []), (.lst [(.k (.str (Str.ofString "a")))]), (.tup [(.k (.str (Str.ofString "a")))]), (.k (.str (Str.ofString ""))), (.bin .Pow (.k (.int 10)) (.k (.int 40))), (.callF 5 [(.v 1)]), (.bin .Add (.callF 5 [(.v 1)]) (.k (.str (Str.ofString "x"))))]) true), (.expr (.bm .append (.v 4) [(.bm .join (.k (.str (Str.ofString ""))) [(.lc (.callF 4 [(.v 1), (.v 3)]) (.name 5) (.irange1 (.callF 3 [(.v 1), (.k (.int 13))])) [])])])), (.expr (.bm .append (.v 4) [(.bm .join (.k (.str (Str.ofString ""))) [(.lc (.callF 4 [(.v 1), (.k (.str (Str.ofString "abcxyz")))]) (.name 5) (.irange1 (.callF 3 [(.v 1), (.k (.int 13))])) [])])])), (.for_ (.name 6) (.iter (.v 4)) [(.asg (.name 7) (.callB .repr [(.v 6)]) false), (.ite (.or (.cmp .NotEq (.callB .repr [(.lst [(.callF 0 [(.v 6)]), (.callK 0 [0] [(.v 6)])])]) (.callB .repr [(.bin .Mult (.lst [(.callF 6 [(.v 6)])]) (.k (.int 2)))])) (.cmp .NotEq (.callB .repr [(.v 6)]) (.v 7))) [(.ret (.k (.bl false)))] [])])]
structure St (ns : List Int) (B : Int) (ρ : EnvD') (μ : List Cell) : Prop where
  d : DrawI μ 1 0 ns B
  e : ∃ a2 a3 a4 a5 a6 a7 : Option D, ρ = [some (.kl ns), some (.cell 1), a2, a3, a4, a5, a6, a7]
theorem pow40 : powD (.int 10) (.int 40) = some (.v (.int (10 ^ 40))) := by rfl
theorem things1 {s t : Str} (hs : Asc s ∧ s.length ≤ 8) (ht : Asc t ∧ t.length ≤ 8) : ∀ d ∈ [D.non, .int 5, .bl true, .tup [], .lst [], .dct [] [], .lst [.str (Str.ofString "a")], .tup [.str (Str.ofString "a")], .str (Str.ofString ""), .int (10 ^ 40), .str s, .str (t ++ Str.ofString "x")], Thing d := by
  have ta : RpOk 0 12 (.str (Str.ofString "a")) := RpOk.str (by unfold sOk; decide +kernel) (by decide)
  have one : ∀ x ∈ [D.str (Str.ofString "a")], RpOk 0 12 x := by intro x hx; simp at hx; rw [hx]; exact ta
  have nil : ∀ x ∈ ([] : List D), RpOk 0 12 x := nofun
  intro d hd
  simp only [List.mem_cons, List.not_mem_nil, or_false] at hd
  rcases hd with e | e | e | e | e | e | e | e | e | e | e | e <;> subst e
  · exact thing_of (fun _ => rfl) (RpOk.non 0) (by decide) (by decide)
  · exact thing_of (fun _ => rfl) (RpOk.int (k := 0) (by decide)) (by decide) (by decide)
  · exact thing_of (fun _ => rfl) (RpOk.bl 0 true) (by decide) (by decide)
  · exact thing_of (fun _ => rfl) (RpOk.tup (m := 0) nil (by decide)) (by decide) (by decide)
  · exact thing_of (fun _ => rfl) (RpOk.lst (m := 0) nil (by decide)) (by decide) (by decide)
  · exact ⟨⟨false, fun n μ => not_str n μ _ rfl⟩, ⟨_, by unfold sOk; decide +kernel, fun μ => repr_dct0 μ⟩⟩
  · exact thing_of (fun _ => rfl) (RpOk.lst (m := 1) one (by decide)) (by decide) (by decide)
  · exact thing_of (fun _ => rfl) (RpOk.tup (m := 1) one (by decide)) (by decide) (by decide)
  · exact thing_str (by unfold Asc; decide +kernel) (by decide +kernel)
  · exact thing_of (fun _ => rfl) (RpOk.int (k := 0) (log2_lt (i := 10 ^ 40) (m := 1920) (by decide +kernel) (by decide))) (by decide) (by decide)
  · exact thing_str hs.1 (by omega)
  · refine thing_str (fun c hc => ?_) ?_
    · have e : (t ++ Str.ofString "x").cps.toList = t.cps.toList ++ [120] := by
        show (t.cps ++ (Str.ofString "x").cps).toList = _
        have : (Str.ofString "x").cps = #[120] := by rfl
        rw [this]; simp
      rw [e] at hc
      rcases List.mem_append.mp hc with z | z
      · exact ht.1 c z
      · simp at z; omega
    · have : (t ++ Str.ofString "x").length = t.length + 1 := str_len_append _ _
      omega
theorem outer_turn (n : Nat) (ns : List Int) (B : Int) (hB : B < 800000) (i : Int) (ρ : EnvD') (μ : List Cell) (h : St ns B ρ μ) (Q : Flow × EnvD' → List Cell → Prop) (E : XE)
    (hq : ∀ ρ' μ', St ns (B + 200) ρ' μ' → Q (.nx, ρ') μ') : wp (exs (cfgOf pg (n + 4)) outerL (ρ.set 2 (some (.int i)))) μ Q E := by
  obtain ⟨d0, a2, a3, a4, a5, a6, a7, rfl⟩ := h
  simp only [outerL, wp_pure, wp_bind, wp_stuck, wp_ofO, wp_ofN, wp_getM, wp_modM, wp_tryE, wp_iteB, wp_ite, wp_exs_nil, wp_exs_cons, nxQ_nx, nxQ_ret, nxQ_brk, nxQ_cont, nxQ_exc, turnQ_nx, turnQ_ret, turnQ_brk, turnQ_cont, turnQ_exc, retQ_ret, retQ_nx, retQ_exc, oQ_some, oQ_none, erd_v, erd_fl, erd_fd, erd_fo, ev_k, ev_v, ev_bin, ev_cmp, ev_chain, ev_and, ev_or, ev_not, ev_ite, ev_tup, ev_lst, ev_dct, ev_sub, ev_slice, ev_callF, ev_callK, ev_callB, ev_isinst, ev_bm, ev_lcF, evs, evp_absent, evp_star, evT_nil, evT_one, evI_range1, evI_range2, evI_zip, evI_enum, evI_iter, ex_asg, ex_par, ex_setix, ex_setattr, ex_aug, ex_expr, ex_ret, ex_ret0, ex_ite, ex_whil, ex_for, ex_brk, ex_cont, ex_pass, evB_eq, addD_int, addD_tup, addD_lst, addD_str, subtD_int, mulD_int, modD_int, fdivD_int, bin_add, bin_sub, bin_mul, bin_fdiv, bin_mod, bin_pow, cmp_eq, cmp_ne, cmp_lt, cmp_le, cmp_gt, cmp_ge, cmp_is, cmp_isnot, cmp_in, cmp_notin, ltD_int, leD_int, gtD_int, geD_int, isD_non, inD_str, inD_lst, inD_tup, inD_dct, truth_bl, truth_int, truth_lst, truth_tup, truth_non, seq_kl, seq_tup, seq_lst, dct_dct, list_lst, items_kl, items_str, items_tup, items_lst, len_kl, len_str, len_tup, len_lst, len_dct, bi_len, bi_all, bi_any, bi_sum, bi_max1, bi_min1, bi_max2, bi_min2, bi_int, bi_intB, bi_tuple, bi_list, bi_sorted, bi_repr, sub_tup, sub_lst, sub_kl, sub_dctS, slice_tup, slice_lst, slice_kl, pairsD_nil, bmD_append, bmD_popAt, bmD_join, bt_join, watch_tup, watch_lst, watch_str, watch_kl, watch_dct, zip_lst, zip_tup, celled_v, celled_fl, celled_fd, celled_fo, wp_celled_fl, wp_celled_fd, assign_name, assign_tup2, wipe_name, wipe_tup2, still_nil, tg_non, tg_bl, tg_int, tg_str, tg_tup, tg_lst, ty_isstr, ty_istup, start0, cfg_call, cfg_fuel, wpR_ok, fin_self, Option.join_some, Option.join_none, Option.bind_some, Option.bind_none, Option.map_some, Option.map_none, List.map_cons, List.map_nil, List.all_cons, List.all_nil, List.any_cons, List.any_nil, List.getElem?_cons_zero, List.getElem?_cons_succ, List.length_cons, List.length_nil, List.set_cons_zero, List.set_cons_succ, List.cons_append, List.nil_append, List.append_nil, List.replicate, List.drop_nil, Nat.sub_self, Nat.sub_zero, Nat.zero_add, Nat.reduceAdd, Nat.reduceSub, Nat.reduceLT, Nat.reduceLeDiff, Nat.zero_lt_succ, id_eq, if_true, if_false, Bool.true_and, Bool.and_true, Bool.false_and, Bool.and_false, Bool.or_false, Bool.false_or, Bool.true_or, Bool.or_true, Bool.not_true, Bool.not_false, Bool.and_self, Bool.or_self, Bool.false_eq_true, decide_true, decide_false, lineN_eq, sizeLine_eq, Nat.zero_le, and_self, pow40]
  refine wp_call (name_W n d0 (by omega)) ?_
  rintro r μ1 ⟨s, rfl, hs, hs8, d1, s1⟩
  simp only [wp_pure, wp_bind, wp_stuck, wp_ofO, wp_ofN, wp_getM, wp_modM, wp_tryE, wp_iteB, wp_ite, wp_exs_nil, wp_exs_cons, nxQ_nx, nxQ_ret, nxQ_brk, nxQ_cont, nxQ_exc, turnQ_nx, turnQ_ret, turnQ_brk, turnQ_cont, turnQ_exc, retQ_ret, retQ_nx, retQ_exc, oQ_some, oQ_none, erd_v, erd_fl, erd_fd, erd_fo, ev_k, ev_v, ev_bin, ev_cmp, ev_chain, ev_and, ev_or, ev_not, ev_ite, ev_tup, ev_lst, ev_dct, ev_sub, ev_slice, ev_callF, ev_callK, ev_callB, ev_isinst, ev_bm, ev_lcF, evs, evp_absent, evp_star, evT_nil, evT_one, evI_range1, evI_range2, evI_zip, evI_enum, evI_iter, ex_asg, ex_par, ex_setix, ex_setattr, ex_aug, ex_expr, ex_ret, ex_ret0, ex_ite, ex_whil, ex_for, ex_brk, ex_cont, ex_pass, evB_eq, addD_int, addD_tup, addD_lst, addD_str, subtD_int, mulD_int, modD_int, fdivD_int, bin_add, bin_sub, bin_mul, bin_fdiv, bin_mod, bin_pow, cmp_eq, cmp_ne, cmp_lt, cmp_le, cmp_gt, cmp_ge, cmp_is, cmp_isnot, cmp_in, cmp_notin, ltD_int, leD_int, gtD_int, geD_int, isD_non, inD_str, inD_lst, inD_tup, inD_dct, truth_bl, truth_int, truth_lst, truth_tup, truth_non, seq_kl, seq_tup, seq_lst, dct_dct, list_lst, items_kl, items_str, items_tup, items_lst, len_kl, len_str, len_tup, len_lst, len_dct, bi_len, bi_all, bi_any, bi_sum, bi_max1, bi_min1, bi_max2, bi_min2, bi_int, bi_intB, bi_tuple, bi_list, bi_sorted, bi_repr, sub_tup, sub_lst, sub_kl, sub_dctS, slice_tup, slice_lst, slice_kl, pairsD_nil, bmD_append, bmD_popAt, bmD_join, bt_join, watch_tup, watch_lst, watch_str, watch_kl, watch_dct, zip_lst, zip_tup, celled_v, celled_fl, celled_fd, celled_fo, wp_celled_fl, wp_celled_fd, assign_name, assign_tup2, wipe_name, wipe_tup2, still_nil, tg_non, tg_bl, tg_int, tg_str, tg_tup, tg_lst, ty_isstr, ty_istup, start0, cfg_call, cfg_fuel, wpR_ok, fin_self, Option.join_some, Option.join_none, Option.bind_some, Option.bind_none, Option.map_some, Option.map_none, List.map_cons, List.map_nil, List.all_cons, List.all_nil, List.any_cons, List.any_nil, List.getElem?_cons_zero, List.getElem?_cons_succ, List.length_cons, List.length_nil, List.set_cons_zero, List.set_cons_succ, List.cons_append, List.nil_append, List.append_nil, List.replicate, List.drop_nil, Nat.sub_self, Nat.sub_zero, Nat.zero_add, Nat.reduceAdd, Nat.reduceSub, Nat.reduceLT, Nat.reduceLeDiff, Nat.zero_lt_succ, id_eq, if_true, if_false, Bool.true_and, Bool.and_true, Bool.false_and, Bool.and_false, Bool.or_false, Bool.false_or, Bool.true_or, Bool.or_true, Bool.not_true, Bool.not_false, Bool.and_self, Bool.or_self, Bool.false_eq_true, decide_true, decide_false, lineN_eq, sizeLine_eq, Nat.zero_le, and_self]
  refine wp_call (name_W n d1 (by omega)) ?_
  rintro r μ2 ⟨t, rfl, ht, ht8, d2, s2⟩
  have hx : t.length + (Str.ofString "x").length ≤ 16777216 := by
    have : (Str.ofString "x").length = 1 := rfl
    omega
  simp only [wp_pure, wp_bind, wp_stuck, wp_ofO, wp_ofN, wp_getM, wp_modM, wp_tryE, wp_iteB, wp_ite, wp_exs_nil, wp_exs_cons, nxQ_nx, nxQ_ret, nxQ_brk, nxQ_cont, nxQ_exc, turnQ_nx, turnQ_ret, turnQ_brk, turnQ_cont, turnQ_exc, retQ_ret, retQ_nx, retQ_exc, oQ_some, oQ_none, erd_v, erd_fl, erd_fd, erd_fo, ev_k, ev_v, ev_bin, ev_cmp, ev_chain, ev_and, ev_or, ev_not, ev_ite, ev_tup, ev_lst, ev_dct, ev_sub, ev_slice, ev_callF, ev_callK, ev_callB, ev_isinst, ev_bm, ev_lcF, evs, evp_absent, evp_star, evT_nil, evT_one, evI_range1, evI_range2, evI_zip, evI_enum, evI_iter, ex_asg, ex_par, ex_setix, ex_setattr, ex_aug, ex_expr, ex_ret, ex_ret0, ex_ite, ex_whil, ex_for, ex_brk, ex_cont, ex_pass, evB_eq, addD_int, addD_tup, addD_lst, addD_str, subtD_int, mulD_int, modD_int, fdivD_int, bin_add, bin_sub, bin_mul, bin_fdiv, bin_mod, bin_pow, cmp_eq, cmp_ne, cmp_lt, cmp_le, cmp_gt, cmp_ge, cmp_is, cmp_isnot, cmp_in, cmp_notin, ltD_int, leD_int, gtD_int, geD_int, isD_non, inD_str, inD_lst, inD_tup, inD_dct, truth_bl, truth_int, truth_lst, truth_tup, truth_non, seq_kl, seq_tup, seq_lst, dct_dct, list_lst, items_kl, items_str, items_tup, items_lst, len_kl, len_str, len_tup, len_lst, len_dct, bi_len, bi_all, bi_any, bi_sum, bi_max1, bi_min1, bi_max2, bi_min2, bi_int, bi_intB, bi_tuple, bi_list, bi_sorted, bi_repr, sub_tup, sub_lst, sub_kl, sub_dctS, slice_tup, slice_lst, slice_kl, pairsD_nil, bmD_append, bmD_popAt, bmD_join, bt_join, watch_tup, watch_lst, watch_str, watch_kl, watch_dct, zip_lst, zip_tup, celled_v, celled_fl, celled_fd, celled_fo, wp_celled_fl, wp_celled_fd, assign_name, assign_tup2, wipe_name, wipe_tup2, still_nil, tg_non, tg_bl, tg_int, tg_str, tg_tup, tg_lst, ty_isstr, ty_istup, start0, cfg_call, cfg_fuel, wpR_ok, fin_self, Option.join_some, Option.join_none, Option.bind_some, Option.bind_none, Option.map_some, Option.map_none, List.map_cons, List.map_nil, List.all_cons, List.all_nil, List.any_cons, List.any_nil, List.getElem?_cons_zero, List.getElem?_cons_succ, List.length_cons, List.length_nil, List.set_cons_zero, List.set_cons_succ, List.cons_append, List.nil_append, List.append_nil, List.replicate, List.drop_nil, Nat.sub_self, Nat.sub_zero, Nat.zero_add, Nat.reduceAdd, Nat.reduceSub, Nat.reduceLT, Nat.reduceLeDiff, Nat.zero_lt_succ, id_eq, if_true, if_false, Bool.true_and, Bool.and_true, Bool.false_and, Bool.and_false, Bool.or_false, Bool.false_or, Bool.true_or, Bool.or_true, Bool.not_true, Bool.not_false, Bool.and_self, Bool.or_self, Bool.false_eq_true, decide_true, decide_false, lineN_eq, sizeLine_eq, Nat.zero_le, and_self, hx]
  have all1 := things1 ⟨hs, hs8⟩ ⟨ht, ht8⟩
  generalize hL : [D.non, .int 5, .bl true, .tup [], .lst [], .dct [] [], .lst [.str (Str.ofString "a")], .tup [.str (Str.ofString "a")], .str (Str.ofString ""), .int (10 ^ 40), .str s, .str (t ++ Str.ofString "x")] = L at all1
  have hLl : L.length = 12 := by rw [← hL]; rfl
  have hk : 2 ≤ μ2.length := by
    obtain ⟨_, _, _, a, _⟩ := d2
    exact a.lt
  have c3 : (μ2 ++ [Cell.lst L])[μ2.length]? = some (.lst L) := by simp
  have d3 := d2.push [Cell.lst L]
  generalize μ2 ++ [Cell.lst L] = μ3 at c3 d3
  generalize hkk : μ2.length = k at c3 hk
  rw [bt_append _ c3]
  simp only [wp_pure, wp_bind, wp_stuck, wp_ofO, wp_ofN, wp_getM, wp_modM, wp_tryE, wp_iteB, wp_ite, wp_exs_nil, wp_exs_cons, nxQ_nx, nxQ_ret, nxQ_brk, nxQ_cont, nxQ_exc, turnQ_nx, turnQ_ret, turnQ_brk, turnQ_cont, turnQ_exc, retQ_ret, retQ_nx, retQ_exc, oQ_some, oQ_none, erd_v, erd_fl, erd_fd, erd_fo, ev_k, ev_v, ev_bin, ev_cmp, ev_chain, ev_and, ev_or, ev_not, ev_ite, ev_tup, ev_lst, ev_dct, ev_sub, ev_slice, ev_callF, ev_callK, ev_callB, ev_isinst, ev_bm, ev_lcF, evs, evp_absent, evp_star, evT_nil, evT_one, evI_range1, evI_range2, evI_zip, evI_enum, evI_iter, ex_asg, ex_par, ex_setix, ex_setattr, ex_aug, ex_expr, ex_ret, ex_ret0, ex_ite, ex_whil, ex_for, ex_brk, ex_cont, ex_pass, evB_eq, addD_int, addD_tup, addD_lst, addD_str, subtD_int, mulD_int, modD_int, fdivD_int, bin_add, bin_sub, bin_mul, bin_fdiv, bin_mod, bin_pow, cmp_eq, cmp_ne, cmp_lt, cmp_le, cmp_gt, cmp_ge, cmp_is, cmp_isnot, cmp_in, cmp_notin, ltD_int, leD_int, gtD_int, geD_int, isD_non, inD_str, inD_lst, inD_tup, inD_dct, truth_bl, truth_int, truth_lst, truth_tup, truth_non, seq_kl, seq_tup, seq_lst, dct_dct, list_lst, items_kl, items_str, items_tup, items_lst, len_kl, len_str, len_tup, len_lst, len_dct, bi_len, bi_all, bi_any, bi_sum, bi_max1, bi_min1, bi_max2, bi_min2, bi_int, bi_intB, bi_tuple, bi_list, bi_sorted, bi_repr, sub_tup, sub_lst, sub_kl, sub_dctS, slice_tup, slice_lst, slice_kl, pairsD_nil, bmD_append, bmD_popAt, bmD_join, bt_join, watch_tup, watch_lst, watch_str, watch_kl, watch_dct, zip_lst, zip_tup, celled_v, celled_fl, celled_fd, celled_fo, wp_celled_fl, wp_celled_fd, assign_name, assign_tup2, wipe_name, wipe_tup2, still_nil, tg_non, tg_bl, tg_int, tg_str, tg_tup, tg_lst, ty_isstr, ty_istup, start0, cfg_call, cfg_fuel, wpR_ok, fin_self, Option.join_some, Option.join_none, Option.bind_some, Option.bind_none, Option.map_some, Option.map_none, List.map_cons, List.map_nil, List.all_cons, List.all_nil, List.any_cons, List.any_nil, List.getElem?_cons_zero, List.getElem?_cons_succ, List.length_cons, List.length_nil, List.set_cons_zero, List.set_cons_succ, List.cons_append, List.nil_append, List.append_nil, List.replicate, List.drop_nil, Nat.sub_self, Nat.sub_zero, Nat.zero_add, Nat.reduceAdd, Nat.reduceSub, Nat.reduceLT, Nat.reduceLeDiff, Nat.zero_lt_succ, id_eq, if_true, if_false, Bool.true_and, Bool.and_true, Bool.false_and, Bool.and_false, Bool.or_false, Bool.false_or, Bool.true_or, Bool.or_true, Bool.not_true, Bool.not_false, Bool.and_self, Bool.or_self, Bool.false_eq_true, decide_true, decide_false, lineN_eq, sizeLine_eq, Nat.zero_le, and_self]
  refine wp_call (take_W (n + 2) d3 (m := 13) (by omega) (by decide) (by decide)) ?_
  rintro r μ4 ⟨j, rfl, j0, j1, d4, s4⟩
  simp only [wp_pure, wp_bind, wp_stuck, wp_ofO, wp_ofN, wp_getM, wp_modM, wp_tryE, wp_iteB, wp_ite, wp_exs_nil, wp_exs_cons, nxQ_nx, nxQ_ret, nxQ_brk, nxQ_cont, nxQ_exc, turnQ_nx, turnQ_ret, turnQ_brk, turnQ_cont, turnQ_exc, retQ_ret, retQ_nx, retQ_exc, oQ_some, oQ_none, erd_v, erd_fl, erd_fd, erd_fo, ev_k, ev_v, ev_bin, ev_cmp, ev_chain, ev_and, ev_or, ev_not, ev_ite, ev_tup, ev_lst, ev_dct, ev_sub, ev_slice, ev_callF, ev_callK, ev_callB, ev_isinst, ev_bm, ev_lcF, evs, evp_absent, evp_star, evT_nil, evT_one, evI_range1, evI_range2, evI_zip, evI_enum, evI_iter, ex_asg, ex_par, ex_setix, ex_setattr, ex_aug, ex_expr, ex_ret, ex_ret0, ex_ite, ex_whil, ex_for, ex_brk, ex_cont, ex_pass, evB_eq, addD_int, addD_tup, addD_lst, addD_str, subtD_int, mulD_int, modD_int, fdivD_int, bin_add, bin_sub, bin_mul, bin_fdiv, bin_mod, bin_pow, cmp_eq, cmp_ne, cmp_lt, cmp_le, cmp_gt, cmp_ge, cmp_is, cmp_isnot, cmp_in, cmp_notin, ltD_int, leD_int, gtD_int, geD_int, isD_non, inD_str, inD_lst, inD_tup, inD_dct, truth_bl, truth_int, truth_lst, truth_tup, truth_non, seq_kl, seq_tup, seq_lst, dct_dct, list_lst, items_kl, items_str, items_tup, items_lst, len_kl, len_str, len_tup, len_lst, len_dct, bi_len, bi_all, bi_any, bi_sum, bi_max1, bi_min1, bi_max2, bi_min2, bi_int, bi_intB, bi_tuple, bi_list, bi_sorted, bi_repr, sub_tup, sub_lst, sub_kl, sub_dctS, slice_tup, slice_lst, slice_kl, pairsD_nil, bmD_append, bmD_popAt, bmD_join, bt_join, watch_tup, watch_lst, watch_str, watch_kl, watch_dct, zip_lst, zip_tup, celled_v, celled_fl, celled_fd, celled_fo, wp_celled_fl, wp_celled_fd, assign_name, assign_tup2, wipe_name, wipe_tup2, still_nil, tg_non, tg_bl, tg_int, tg_str, tg_tup, tg_lst, ty_isstr, ty_istup, start0, cfg_call, cfg_fuel, wpR_ok, fin_self, Option.join_some, Option.join_none, Option.bind_some, Option.bind_none, Option.map_some, Option.map_none, List.map_cons, List.map_nil, List.all_cons, List.all_nil, List.any_cons, List.any_nil, List.getElem?_cons_zero, List.getElem?_cons_succ, List.length_cons, List.length_nil, List.set_cons_zero, List.set_cons_succ, List.cons_append, List.nil_append, List.append_nil, List.replicate, List.drop_nil, Nat.sub_self, Nat.sub_zero, Nat.zero_add, Nat.reduceAdd, Nat.reduceSub, Nat.reduceLT, Nat.reduceLeDiff, Nat.zero_lt_succ, id_eq, if_true, if_false, Bool.true_and, Bool.and_true, Bool.false_and, Bool.and_false, Bool.or_false, Bool.false_or, Bool.true_or, Bool.or_true, Bool.not_true, Bool.not_false, Bool.and_self, Bool.or_self, Bool.false_eq_true, decide_true, decide_false, lineN_eq, sizeLine_eq, Nat.zero_le, and_self, rg1_int j (by omega) (by omega), List.length_map, List.length_range, show j.toNat ≤ 16777216 by omega]
  refine wp_call (picks_W (n + 1) _ d4 (s := Str.ofString "abcxyzABZ09 _-!>:\n") (by simp; omega) (by decide +kernel) (by decide +kernel) (fun x μ Q => by unfold lcF; simp only [wp_pure, wp_bind, wp_stuck, wp_ofO, wp_ofN, wp_getM, wp_modM, wp_tryE, wp_iteB, wp_ite, wp_exs_nil, wp_exs_cons, nxQ_nx, nxQ_ret, nxQ_brk, nxQ_cont, nxQ_exc, turnQ_nx, turnQ_ret, turnQ_brk, turnQ_cont, turnQ_exc, retQ_ret, retQ_nx, retQ_exc, oQ_some, oQ_none, erd_v, erd_fl, erd_fd, erd_fo, ev_k, ev_v, ev_bin, ev_cmp, ev_chain, ev_and, ev_or, ev_not, ev_ite, ev_tup, ev_lst, ev_dct, ev_sub, ev_slice, ev_callF, ev_callK, ev_callB, ev_isinst, ev_bm, ev_lcF, evs, evp_absent, evp_star, evT_nil, evT_one, evI_range1, evI_range2, evI_zip, evI_enum, evI_iter, ex_asg, ex_par, ex_setix, ex_setattr, ex_aug, ex_expr, ex_ret, ex_ret0, ex_ite, ex_whil, ex_for, ex_brk, ex_cont, ex_pass, evB_eq, addD_int, addD_tup, addD_lst, addD_str, subtD_int, mulD_int, modD_int, fdivD_int, bin_add, bin_sub, bin_mul, bin_fdiv, bin_mod, bin_pow, cmp_eq, cmp_ne, cmp_lt, cmp_le, cmp_gt, cmp_ge, cmp_is, cmp_isnot, cmp_in, cmp_notin, ltD_int, leD_int, gtD_int, geD_int, isD_non, inD_str, inD_lst, inD_tup, inD_dct, truth_bl, truth_int, truth_lst, truth_tup, truth_non, seq_kl, seq_tup, seq_lst, dct_dct, list_lst, items_kl, items_str, items_tup, items_lst, len_kl, len_str, len_tup, len_lst, len_dct, bi_len, bi_all, bi_any, bi_sum, bi_max1, bi_min1, bi_max2, bi_min2, bi_int, bi_intB, bi_tuple, bi_list, bi_sorted, bi_repr, sub_tup, sub_lst, sub_kl, sub_dctS, slice_tup, slice_lst, slice_kl, pairsD_nil, bmD_append, bmD_popAt, bmD_join, bt_join, watch_tup, watch_lst, watch_str, watch_kl, watch_dct, zip_lst, zip_tup, celled_v, celled_fl, celled_fd, celled_fo, wp_celled_fl, wp_celled_fd, assign_name, assign_tup2, wipe_name, wipe_tup2, still_nil, tg_non, tg_bl, tg_int, tg_str, tg_tup, tg_lst, ty_isstr, ty_istup, start0, cfg_call, cfg_fuel, wpR_ok, fin_self, Option.join_some, Option.join_none, Option.bind_some, Option.bind_none, Option.map_some, Option.map_none, List.map_cons, List.map_nil, List.all_cons, List.all_nil, List.any_cons, List.any_nil, List.getElem?_cons_zero, List.getElem?_cons_succ, List.length_cons, List.length_nil, List.set_cons_zero, List.set_cons_succ, List.cons_append, List.nil_append, List.append_nil, List.replicate, List.drop_nil, Nat.sub_self, Nat.sub_zero, Nat.zero_add, Nat.reduceAdd, Nat.reduceSub, Nat.reduceLT, Nat.reduceLeDiff, Nat.zero_lt_succ, id_eq, if_true, if_false, Bool.true_and, Bool.and_true, Bool.false_and, Bool.and_false, Bool.or_false, Bool.false_or, Bool.true_or, Bool.or_true, Bool.not_true, Bool.not_false, Bool.and_self, Bool.or_self, Bool.false_eq_true, decide_true, decide_false, lineN_eq, sizeLine_eq, Nat.zero_le, and_self])) ?_
  rintro r μ5 ⟨cs, rfl, hc, ha, d5, s5⟩
  have hc : cs.length = j.toNat := by simpa using hc
  have d5 := d5.mono (B' := B + 60) (by simp; omega)
  have c5 : μ5[k]? = some (.lst L) := by rw [(s4.trans s5).2 k (by omega) (by omega)]; exact c3
  rw [join_chars μ5 cs (by omega)]
  simp only [wp_pure, wp_bind, wp_stuck, wp_ofO, wp_ofN, wp_getM, wp_modM, wp_tryE, wp_iteB, wp_ite, wp_exs_nil, wp_exs_cons, nxQ_nx, nxQ_ret, nxQ_brk, nxQ_cont, nxQ_exc, turnQ_nx, turnQ_ret, turnQ_brk, turnQ_cont, turnQ_exc, retQ_ret, retQ_nx, retQ_exc, oQ_some, oQ_none, erd_v, erd_fl, erd_fd, erd_fo, ev_k, ev_v, ev_bin, ev_cmp, ev_chain, ev_and, ev_or, ev_not, ev_ite, ev_tup, ev_lst, ev_dct, ev_sub, ev_slice, ev_callF, ev_callK, ev_callB, ev_isinst, ev_bm, ev_lcF, evs, evp_absent, evp_star, evT_nil, evT_one, evI_range1, evI_range2, evI_zip, evI_enum, evI_iter, ex_asg, ex_par, ex_setix, ex_setattr, ex_aug, ex_expr, ex_ret, ex_ret0, ex_ite, ex_whil, ex_for, ex_brk, ex_cont, ex_pass, evB_eq, addD_int, addD_tup, addD_lst, addD_str, subtD_int, mulD_int, modD_int, fdivD_int, bin_add, bin_sub, bin_mul, bin_fdiv, bin_mod, bin_pow, cmp_eq, cmp_ne, cmp_lt, cmp_le, cmp_gt, cmp_ge, cmp_is, cmp_isnot, cmp_in, cmp_notin, ltD_int, leD_int, gtD_int, geD_int, isD_non, inD_str, inD_lst, inD_tup, inD_dct, truth_bl, truth_int, truth_lst, truth_tup, truth_non, seq_kl, seq_tup, seq_lst, dct_dct, list_lst, items_kl, items_str, items_tup, items_lst, len_kl, len_str, len_tup, len_lst, len_dct, bi_len, bi_all, bi_any, bi_sum, bi_max1, bi_min1, bi_max2, bi_min2, bi_int, bi_intB, bi_tuple, bi_list, bi_sorted, bi_repr, sub_tup, sub_lst, sub_kl, sub_dctS, slice_tup, slice_lst, slice_kl, pairsD_nil, bmD_append, bmD_popAt, bmD_join, bt_join, watch_tup, watch_lst, watch_str, watch_kl, watch_dct, zip_lst, zip_tup, celled_v, celled_fl, celled_fd, celled_fo, wp_celled_fl, wp_celled_fd, assign_name, assign_tup2, wipe_name, wipe_tup2, still_nil, tg_non, tg_bl, tg_int, tg_str, tg_tup, tg_lst, ty_isstr, ty_istup, start0, cfg_call, cfg_fuel, wpR_ok, fin_self, Option.join_some, Option.join_none, Option.bind_some, Option.bind_none, Option.map_some, Option.map_none, List.map_cons, List.map_nil, List.all_cons, List.all_nil, List.any_cons, List.any_nil, List.getElem?_cons_zero, List.getElem?_cons_succ, List.length_cons, List.length_nil, List.set_cons_zero, List.set_cons_succ, List.cons_append, List.nil_append, List.append_nil, List.replicate, List.drop_nil, Nat.sub_self, Nat.sub_zero, Nat.zero_add, Nat.reduceAdd, Nat.reduceSub, Nat.reduceLT, Nat.reduceLeDiff, Nat.zero_lt_succ, id_eq, if_true, if_false, Bool.true_and, Bool.and_true, Bool.false_and, Bool.and_false, Bool.or_false, Bool.false_or, Bool.true_or, Bool.or_true, Bool.not_true, Bool.not_false, Bool.and_self, Bool.or_self, Bool.false_eq_true, decide_true, decide_false, lineN_eq, sizeLine_eq, Nat.zero_le, and_self]
  rw [append_cell _ c5 (by rw [hLl]; decide)]
  simp only [wp_pure, wp_bind, wp_stuck, wp_ofO, wp_ofN, wp_getM, wp_modM, wp_tryE, wp_iteB, wp_ite, wp_exs_nil, wp_exs_cons, nxQ_nx, nxQ_ret, nxQ_brk, nxQ_cont, nxQ_exc, turnQ_nx, turnQ_ret, turnQ_brk, turnQ_cont, turnQ_exc, retQ_ret, retQ_nx, retQ_exc, oQ_some, oQ_none, erd_v, erd_fl, erd_fd, erd_fo, ev_k, ev_v, ev_bin, ev_cmp, ev_chain, ev_and, ev_or, ev_not, ev_ite, ev_tup, ev_lst, ev_dct, ev_sub, ev_slice, ev_callF, ev_callK, ev_callB, ev_isinst, ev_bm, ev_lcF, evs, evp_absent, evp_star, evT_nil, evT_one, evI_range1, evI_range2, evI_zip, evI_enum, evI_iter, ex_asg, ex_par, ex_setix, ex_setattr, ex_aug, ex_expr, ex_ret, ex_ret0, ex_ite, ex_whil, ex_for, ex_brk, ex_cont, ex_pass, evB_eq, addD_int, addD_tup, addD_lst, addD_str, subtD_int, mulD_int, modD_int, fdivD_int, bin_add, bin_sub, bin_mul, bin_fdiv, bin_mod, bin_pow, cmp_eq, cmp_ne, cmp_lt, cmp_le, cmp_gt, cmp_ge, cmp_is, cmp_isnot, cmp_in, cmp_notin, ltD_int, leD_int, gtD_int, geD_int, isD_non, inD_str, inD_lst, inD_tup, inD_dct, truth_bl, truth_int, truth_lst, truth_tup, truth_non, seq_kl, seq_tup, seq_lst, dct_dct, list_lst, items_kl, items_str, items_tup, items_lst, len_kl, len_str, len_tup, len_lst, len_dct, bi_len, bi_all, bi_any, bi_sum, bi_max1, bi_min1, bi_max2, bi_min2, bi_int, bi_intB, bi_tuple, bi_list, bi_sorted, bi_repr, sub_tup, sub_lst, sub_kl, sub_dctS, slice_tup, slice_lst, slice_kl, pairsD_nil, bmD_append, bmD_popAt, bmD_join, bt_join, watch_tup, watch_lst, watch_str, watch_kl, watch_dct, zip_lst, zip_tup, celled_v, celled_fl, celled_fd, celled_fo, wp_celled_fl, wp_celled_fd, assign_name, assign_tup2, wipe_name, wipe_tup2, still_nil, tg_non, tg_bl, tg_int, tg_str, tg_tup, tg_lst, ty_isstr, ty_istup, start0, cfg_call, cfg_fuel, wpR_ok, fin_self, Option.join_some, Option.join_none, Option.bind_some, Option.bind_none, Option.map_some, Option.map_none, List.map_cons, List.map_nil, List.all_cons, List.all_nil, List.any_cons, List.any_nil, List.getElem?_cons_zero, List.getElem?_cons_succ, List.length_cons, List.length_nil, List.set_cons_zero, List.set_cons_succ, List.cons_append, List.nil_append, List.append_nil, List.replicate, List.drop_nil, Nat.sub_self, Nat.sub_zero, Nat.zero_add, Nat.reduceAdd, Nat.reduceSub, Nat.reduceLT, Nat.reduceLeDiff, Nat.zero_lt_succ, id_eq, if_true, if_false, Bool.true_and, Bool.and_true, Bool.false_and, Bool.and_false, Bool.or_false, Bool.false_or, Bool.true_or, Bool.or_true, Bool.not_true, Bool.not_false, Bool.and_self, Bool.or_self, Bool.false_eq_true, decide_true, decide_false, lineN_eq, sizeLine_eq, Nat.zero_le, and_self]
  have hk5 : k < μ5.length := (List.getElem?_eq_some_iff.mp c5).1
  have c6 : (μ5.set k (.lst (L ++ [.str ⟨cs.toArray⟩])))[k]? = some (.lst (L ++ [.str ⟨cs.toArray⟩])) := List.getElem?_set_self hk5
  have d6 := d5.setk (k := k) (by omega) (by omega) (.lst (L ++ [.str ⟨cs.toArray⟩]))
  have all2 : ∀ d ∈ L ++ [D.str ⟨cs.toArray⟩], Thing d := fun d hd => by
    rcases List.mem_append.mp hd with z | z
    · exact all1 d z
    · simp at z; rw [z]
      exact thing_str (asc_of (by decide +kernel) ha) (by show cs.toArray.size ≤ 1000; simp; omega)
  have hLl2 : (L ++ [D.str ⟨cs.toArray⟩]).length = 13 := by simp [hLl]
  generalize L ++ [D.str ⟨cs.toArray⟩] = L2 at c6 d6 all2 hLl2
  generalize μ5.set k (.lst L2) = μ6 at c6 d6
  rw [bt_append _ c6]
  simp only [wp_pure, wp_bind, wp_stuck, wp_ofO, wp_ofN, wp_getM, wp_modM, wp_tryE, wp_iteB, wp_ite, wp_exs_nil, wp_exs_cons, nxQ_nx, nxQ_ret, nxQ_brk, nxQ_cont, nxQ_exc, turnQ_nx, turnQ_ret, turnQ_brk, turnQ_cont, turnQ_exc, retQ_ret, retQ_nx, retQ_exc, oQ_some, oQ_none, erd_v, erd_fl, erd_fd, erd_fo, ev_k, ev_v, ev_bin, ev_cmp, ev_chain, ev_and, ev_or, ev_not, ev_ite, ev_tup, ev_lst, ev_dct, ev_sub, ev_slice, ev_callF, ev_callK, ev_callB, ev_isinst, ev_bm, ev_lcF, evs, evp_absent, evp_star, evT_nil, evT_one, evI_range1, evI_range2, evI_zip, evI_enum, evI_iter, ex_asg, ex_par, ex_setix, ex_setattr, ex_aug, ex_expr, ex_ret, ex_ret0, ex_ite, ex_whil, ex_for, ex_brk, ex_cont, ex_pass, evB_eq, addD_int, addD_tup, addD_lst, addD_str, subtD_int, mulD_int, modD_int, fdivD_int, bin_add, bin_sub, bin_mul, bin_fdiv, bin_mod, bin_pow, cmp_eq, cmp_ne, cmp_lt, cmp_le, cmp_gt, cmp_ge, cmp_is, cmp_isnot, cmp_in, cmp_notin, ltD_int, leD_int, gtD_int, geD_int, isD_non, inD_str, inD_lst, inD_tup, inD_dct, truth_bl, truth_int, truth_lst, truth_tup, truth_non, seq_kl, seq_tup, seq_lst, dct_dct, list_lst, items_kl, items_str, items_tup, items_lst, len_kl, len_str, len_tup, len_lst, len_dct, bi_len, bi_all, bi_any, bi_sum, bi_max1, bi_min1, bi_max2, bi_min2, bi_int, bi_intB, bi_tuple, bi_list, bi_sorted, bi_repr, sub_tup, sub_lst, sub_kl, sub_dctS, slice_tup, slice_lst, slice_kl, pairsD_nil, bmD_append, bmD_popAt, bmD_join, bt_join, watch_tup, watch_lst, watch_str, watch_kl, watch_dct, zip_lst, zip_tup, celled_v, celled_fl, celled_fd, celled_fo, wp_celled_fl, wp_celled_fd, assign_name, assign_tup2, wipe_name, wipe_tup2, still_nil, tg_non, tg_bl, tg_int, tg_str, tg_tup, tg_lst, ty_isstr, ty_istup, start0, cfg_call, cfg_fuel, wpR_ok, fin_self, Option.join_some, Option.join_none, Option.bind_some, Option.bind_none, Option.map_some, Option.map_none, List.map_cons, List.map_nil, List.all_cons, List.all_nil, List.any_cons, List.any_nil, List.getElem?_cons_zero, List.getElem?_cons_succ, List.length_cons, List.length_nil, List.set_cons_zero, List.set_cons_succ, List.cons_append, List.nil_append, List.append_nil, List.replicate, List.drop_nil, Nat.sub_self, Nat.sub_zero, Nat.zero_add, Nat.reduceAdd, Nat.reduceSub, Nat.reduceLT, Nat.reduceLeDiff, Nat.zero_lt_succ, id_eq, if_true, if_false, Bool.true_and, Bool.and_true, Bool.false_and, Bool.and_false, Bool.or_false, Bool.false_or, Bool.true_or, Bool.or_true, Bool.not_true, Bool.not_false, Bool.and_self, Bool.or_self, Bool.false_eq_true, decide_true, decide_false, lineN_eq, sizeLine_eq, Nat.zero_le, and_self]
  refine wp_call (take_W (n + 2) d6 (m := 13) (by omega) (by decide) (by decide)) ?_
  rintro r μ7 ⟨j', rfl, j0', j1', d7, s7⟩
  simp only [wp_pure, wp_bind, wp_stuck, wp_ofO, wp_ofN, wp_getM, wp_modM, wp_tryE, wp_iteB, wp_ite, wp_exs_nil, wp_exs_cons, nxQ_nx, nxQ_ret, nxQ_brk, nxQ_cont, nxQ_exc, turnQ_nx, turnQ_ret, turnQ_brk, turnQ_cont, turnQ_exc, retQ_ret, retQ_nx, retQ_exc, oQ_some, oQ_none, erd_v, erd_fl, erd_fd, erd_fo, ev_k, ev_v, ev_bin, ev_cmp, ev_chain, ev_and, ev_or, ev_not, ev_ite, ev_tup, ev_lst, ev_dct, ev_sub, ev_slice, ev_callF, ev_callK, ev_callB, ev_isinst, ev_bm, ev_lcF, evs, evp_absent, evp_star, evT_nil, evT_one, evI_range1, evI_range2, evI_zip, evI_enum, evI_iter, ex_asg, ex_par, ex_setix, ex_setattr, ex_aug, ex_expr, ex_ret, ex_ret0, ex_ite, ex_whil, ex_for, ex_brk, ex_cont, ex_pass, evB_eq, addD_int, addD_tup, addD_lst, addD_str, subtD_int, mulD_int, modD_int, fdivD_int, bin_add, bin_sub, bin_mul, bin_fdiv, bin_mod, bin_pow, cmp_eq, cmp_ne, cmp_lt, cmp_le, cmp_gt, cmp_ge, cmp_is, cmp_isnot, cmp_in, cmp_notin, ltD_int, leD_int, gtD_int, geD_int, isD_non, inD_str, inD_lst, inD_tup, inD_dct, truth_bl, truth_int, truth_lst, truth_tup, truth_non, seq_kl, seq_tup, seq_lst, dct_dct, list_lst, items_kl, items_str, items_tup, items_lst, len_kl, len_str, len_tup, len_lst, len_dct, bi_len, bi_all, bi_any, bi_sum, bi_max1, bi_min1, bi_max2, bi_min2, bi_int, bi_intB, bi_tuple, bi_list, bi_sorted, bi_repr, sub_tup, sub_lst, sub_kl, sub_dctS, slice_tup, slice_lst, slice_kl, pairsD_nil, bmD_append, bmD_popAt, bmD_join, bt_join, watch_tup, watch_lst, watch_str, watch_kl, watch_dct, zip_lst, zip_tup, celled_v, celled_fl, celled_fd, celled_fo, wp_celled_fl, wp_celled_fd, assign_name, assign_tup2, wipe_name, wipe_tup2, still_nil, tg_non, tg_bl, tg_int, tg_str, tg_tup, tg_lst, ty_isstr, ty_istup, start0, cfg_call, cfg_fuel, wpR_ok, fin_self, Option.join_some, Option.join_none, Option.bind_some, Option.bind_none, Option.map_some, Option.map_none, List.map_cons, List.map_nil, List.all_cons, List.all_nil, List.any_cons, List.any_nil, List.getElem?_cons_zero, List.getElem?_cons_succ, List.length_cons, List.length_nil, List.set_cons_zero, List.set_cons_succ, List.cons_append, List.nil_append, List.append_nil, List.replicate, List.drop_nil, Nat.sub_self, Nat.sub_zero, Nat.zero_add, Nat.reduceAdd, Nat.reduceSub, Nat.reduceLT, Nat.reduceLeDiff, Nat.zero_lt_succ, id_eq, if_true, if_false, Bool.true_and, Bool.and_true, Bool.false_and, Bool.and_false, Bool.or_false, Bool.false_or, Bool.true_or, Bool.or_true, Bool.not_true, Bool.not_false, Bool.and_self, Bool.or_self, Bool.false_eq_true, decide_true, decide_false, lineN_eq, sizeLine_eq, Nat.zero_le, and_self, rg1_int j' (by omega) (by omega), List.length_map, List.length_range, show j'.toNat ≤ 16777216 by omega]
  refine wp_call (picks_W (n + 1) _ d7 (s := Str.ofString "abcxyz") (by simp; omega) (by decide +kernel) (by decide +kernel) (fun x μ Q => by unfold lcF; simp only [wp_pure, wp_bind, wp_stuck, wp_ofO, wp_ofN, wp_getM, wp_modM, wp_tryE, wp_iteB, wp_ite, wp_exs_nil, wp_exs_cons, nxQ_nx, nxQ_ret, nxQ_brk, nxQ_cont, nxQ_exc, turnQ_nx, turnQ_ret, turnQ_brk, turnQ_cont, turnQ_exc, retQ_ret, retQ_nx, retQ_exc, oQ_some, oQ_none, erd_v, erd_fl, erd_fd, erd_fo, ev_k, ev_v, ev_bin, ev_cmp, ev_chain, ev_and, ev_or, ev_not, ev_ite, ev_tup, ev_lst, ev_dct, ev_sub, ev_slice, ev_callF, ev_callK, ev_callB, ev_isinst, ev_bm, ev_lcF, evs, evp_absent, evp_star, evT_nil, evT_one, evI_range1, evI_range2, evI_zip, evI_enum, evI_iter, ex_asg, ex_par, ex_setix, ex_setattr, ex_aug, ex_expr, ex_ret, ex_ret0, ex_ite, ex_whil, ex_for, ex_brk, ex_cont, ex_pass, evB_eq, addD_int, addD_tup, addD_lst, addD_str, subtD_int, mulD_int, modD_int, fdivD_int, bin_add, bin_sub, bin_mul, bin_fdiv, bin_mod, bin_pow, cmp_eq, cmp_ne, cmp_lt, cmp_le, cmp_gt, cmp_ge, cmp_is, cmp_isnot, cmp_in, cmp_notin, ltD_int, leD_int, gtD_int, geD_int, isD_non, inD_str, inD_lst, inD_tup, inD_dct, truth_bl, truth_int, truth_lst, truth_tup, truth_non, seq_kl, seq_tup, seq_lst, dct_dct, list_lst, items_kl, items_str, items_tup, items_lst, len_kl, len_str, len_tup, len_lst, len_dct, bi_len, bi_all, bi_any, bi_sum, bi_max1, bi_min1, bi_max2, bi_min2, bi_int, bi_intB, bi_tuple, bi_list, bi_sorted, bi_repr, sub_tup, sub_lst, sub_kl, sub_dctS, slice_tup, slice_lst, slice_kl, pairsD_nil, bmD_append, bmD_popAt, bmD_join, bt_join, watch_tup, watch_lst, watch_str, watch_kl, watch_dct, zip_lst, zip_tup, celled_v, celled_fl, celled_fd, celled_fo, wp_celled_fl, wp_celled_fd, assign_name, assign_tup2, wipe_name, wipe_tup2, still_nil, tg_non, tg_bl, tg_int, tg_str, tg_tup, tg_lst, ty_isstr, ty_istup, start0, cfg_call, cfg_fuel, wpR_ok, fin_self, Option.join_some, Option.join_none, Option.bind_some, Option.bind_none, Option.map_some, Option.map_none, List.map_cons, List.map_nil, List.all_cons, List.all_nil, List.any_cons, List.any_nil, List.getElem?_cons_zero, List.getElem?_cons_succ, List.length_cons, List.length_nil, List.set_cons_zero, List.set_cons_succ, List.cons_append, List.nil_append, List.append_nil, List.replicate, List.drop_nil, Nat.sub_self, Nat.sub_zero, Nat.zero_add, Nat.reduceAdd, Nat.reduceSub, Nat.reduceLT, Nat.reduceLeDiff, Nat.zero_lt_succ, id_eq, if_true, if_false, Bool.true_and, Bool.and_true, Bool.false_and, Bool.and_false, Bool.or_false, Bool.false_or, Bool.true_or, Bool.or_true, Bool.not_true, Bool.not_false, Bool.and_self, Bool.or_self, Bool.false_eq_true, decide_true, decide_false, lineN_eq, sizeLine_eq, Nat.zero_le, and_self])) ?_
  rintro r μ8 ⟨cs2, rfl, hc2, ha2, d8, s8⟩
  have hc2 : cs2.length = j'.toNat := by simpa using hc2
  have d8 := d8.mono (B' := B + 100) (by simp; omega)
  have c8 : μ8[k]? = some (.lst L2) := by rw [(s7.trans s8).2 k (by omega) (by omega)]; exact c6
  rw [join_chars μ8 cs2 (by omega)]
  simp only [wp_pure, wp_bind, wp_stuck, wp_ofO, wp_ofN, wp_getM, wp_modM, wp_tryE, wp_iteB, wp_ite, wp_exs_nil, wp_exs_cons, nxQ_nx, nxQ_ret, nxQ_brk, nxQ_cont, nxQ_exc, turnQ_nx, turnQ_ret, turnQ_brk, turnQ_cont, turnQ_exc, retQ_ret, retQ_nx, retQ_exc, oQ_some, oQ_none, erd_v, erd_fl, erd_fd, erd_fo, ev_k, ev_v, ev_bin, ev_cmp, ev_chain, ev_and, ev_or, ev_not, ev_ite, ev_tup, ev_lst, ev_dct, ev_sub, ev_slice, ev_callF, ev_callK, ev_callB, ev_isinst, ev_bm, ev_lcF, evs, evp_absent, evp_star, evT_nil, evT_one, evI_range1, evI_range2, evI_zip, evI_enum, evI_iter, ex_asg, ex_par, ex_setix, ex_setattr, ex_aug, ex_expr, ex_ret, ex_ret0, ex_ite, ex_whil, ex_for, ex_brk, ex_cont, ex_pass, evB_eq, addD_int, addD_tup, addD_lst, addD_str, subtD_int, mulD_int, modD_int, fdivD_int, bin_add, bin_sub, bin_mul, bin_fdiv, bin_mod, bin_pow, cmp_eq, cmp_ne, cmp_lt, cmp_le, cmp_gt, cmp_ge, cmp_is, cmp_isnot, cmp_in, cmp_notin, ltD_int, leD_int, gtD_int, geD_int, isD_non, inD_str, inD_lst, inD_tup, inD_dct, truth_bl, truth_int, truth_lst, truth_tup, truth_non, seq_kl, seq_tup, seq_lst, dct_dct, list_lst, items_kl, items_str, items_tup, items_lst, len_kl, len_str, len_tup, len_lst, len_dct, bi_len, bi_all, bi_any, bi_sum, bi_max1, bi_min1, bi_max2, bi_min2, bi_int, bi_intB, bi_tuple, bi_list, bi_sorted, bi_repr, sub_tup, sub_lst, sub_kl, sub_dctS, slice_tup, slice_lst, slice_kl, pairsD_nil, bmD_append, bmD_popAt, bmD_join, bt_join, watch_tup, watch_lst, watch_str, watch_kl, watch_dct, zip_lst, zip_tup, celled_v, celled_fl, celled_fd, celled_fo, wp_celled_fl, wp_celled_fd, assign_name, assign_tup2, wipe_name, wipe_tup2, still_nil, tg_non, tg_bl, tg_int, tg_str, tg_tup, tg_lst, ty_isstr, ty_istup, start0, cfg_call, cfg_fuel, wpR_ok, fin_self, Option.join_some, Option.join_none, Option.bind_some, Option.bind_none, Option.map_some, Option.map_none, List.map_cons, List.map_nil, List.all_cons, List.all_nil, List.any_cons, List.any_nil, List.getElem?_cons_zero, List.getElem?_cons_succ, List.length_cons, List.length_nil, List.set_cons_zero, List.set_cons_succ, List.cons_append, List.nil_append, List.append_nil, List.replicate, List.drop_nil, Nat.sub_self, Nat.sub_zero, Nat.zero_add, Nat.reduceAdd, Nat.reduceSub, Nat.reduceLT, Nat.reduceLeDiff, Nat.zero_lt_succ, id_eq, if_true, if_false, Bool.true_and, Bool.and_true, Bool.false_and, Bool.and_false, Bool.or_false, Bool.false_or, Bool.true_or, Bool.or_true, Bool.not_true, Bool.not_false, Bool.and_self, Bool.or_self, Bool.false_eq_true, decide_true, decide_false, lineN_eq, sizeLine_eq, Nat.zero_le, and_self]
  rw [append_cell _ c8 (by rw [hLl2]; decide)]
  simp only [wp_pure, wp_bind, wp_stuck, wp_ofO, wp_ofN, wp_getM, wp_modM, wp_tryE, wp_iteB, wp_ite, wp_exs_nil, wp_exs_cons, nxQ_nx, nxQ_ret, nxQ_brk, nxQ_cont, nxQ_exc, turnQ_nx, turnQ_ret, turnQ_brk, turnQ_cont, turnQ_exc, retQ_ret, retQ_nx, retQ_exc, oQ_some, oQ_none, erd_v, erd_fl, erd_fd, erd_fo, ev_k, ev_v, ev_bin, ev_cmp, ev_chain, ev_and, ev_or, ev_not, ev_ite, ev_tup, ev_lst, ev_dct, ev_sub, ev_slice, ev_callF, ev_callK, ev_callB, ev_isinst, ev_bm, ev_lcF, evs, evp_absent, evp_star, evT_nil, evT_one, evI_range1, evI_range2, evI_zip, evI_enum, evI_iter, ex_asg, ex_par, ex_setix, ex_setattr, ex_aug, ex_expr, ex_ret, ex_ret0, ex_ite, ex_whil, ex_for, ex_brk, ex_cont, ex_pass, evB_eq, addD_int, addD_tup, addD_lst, addD_str, subtD_int, mulD_int, modD_int, fdivD_int, bin_add, bin_sub, bin_mul, bin_fdiv, bin_mod, bin_pow, cmp_eq, cmp_ne, cmp_lt, cmp_le, cmp_gt, cmp_ge, cmp_is, cmp_isnot, cmp_in, cmp_notin, ltD_int, leD_int, gtD_int, geD_int, isD_non, inD_str, inD_lst, inD_tup, inD_dct, truth_bl, truth_int, truth_lst, truth_tup, truth_non, seq_kl, seq_tup, seq_lst, dct_dct, list_lst, items_kl, items_str, items_tup, items_lst, len_kl, len_str, len_tup, len_lst, len_dct, bi_len, bi_all, bi_any, bi_sum, bi_max1, bi_min1, bi_max2, bi_min2, bi_int, bi_intB, bi_tuple, bi_list, bi_sorted, bi_repr, sub_tup, sub_lst, sub_kl, sub_dctS, slice_tup, slice_lst, slice_kl, pairsD_nil, bmD_append, bmD_popAt, bmD_join, bt_join, watch_tup, watch_lst, watch_str, watch_kl, watch_dct, zip_lst, zip_tup, celled_v, celled_fl, celled_fd, celled_fo, wp_celled_fl, wp_celled_fd, assign_name, assign_tup2, wipe_name, wipe_tup2, still_nil, tg_non, tg_bl, tg_int, tg_str, tg_tup, tg_lst, ty_isstr, ty_istup, start0, cfg_call, cfg_fuel, wpR_ok, fin_self, Option.join_some, Option.join_none, Option.bind_some, Option.bind_none, Option.map_some, Option.map_none, List.map_cons, List.map_nil, List.all_cons, List.all_nil, List.any_cons, List.any_nil, List.getElem?_cons_zero, List.getElem?_cons_succ, List.length_cons, List.length_nil, List.set_cons_zero, List.set_cons_succ, List.cons_append, List.nil_append, List.append_nil, List.replicate, List.drop_nil, Nat.sub_self, Nat.sub_zero, Nat.zero_add, Nat.reduceAdd, Nat.reduceSub, Nat.reduceLT, Nat.reduceLeDiff, Nat.zero_lt_succ, id_eq, if_true, if_false, Bool.true_and, Bool.and_true, Bool.false_and, Bool.and_false, Bool.or_false, Bool.false_or, Bool.true_or, Bool.or_true, Bool.not_true, Bool.not_false, Bool.and_self, Bool.or_self, Bool.false_eq_true, decide_true, decide_false, lineN_eq, sizeLine_eq, Nat.zero_le, and_self]
  have hk8 : k < μ8.length := (List.getElem?_eq_some_iff.mp c8).1
  have c9 : (μ8.set k (.lst (L2 ++ [.str ⟨cs2.toArray⟩])))[k]? = some (.lst (L2 ++ [.str ⟨cs2.toArray⟩])) := List.getElem?_set_self hk8
  have d9 := d8.setk (k := k) (by omega) (by omega) (.lst (L2 ++ [.str ⟨cs2.toArray⟩]))
  have all3 : ∀ d ∈ L2 ++ [D.str ⟨cs2.toArray⟩], Thing d := fun d hd => by
    rcases List.mem_append.mp hd with z | z
    · exact all2 d z
    · simp at z; rw [z]
      exact thing_str (asc_of (by decide +kernel) ha2) (by show cs2.toArray.size ≤ 1000; simp; omega)
  generalize L2 ++ [D.str ⟨cs2.toArray⟩] = L3 at c9 d9 all3
  generalize μ8.set k (.lst L3) = μ9 at c9 d9
  rw [items_cell _ c9, watch_cell _ c9]
  simp only [wp_pure, wp_bind, wp_stuck, wp_ofO, wp_ofN, wp_getM, wp_modM, wp_tryE, wp_iteB, wp_ite, wp_exs_nil, wp_exs_cons, nxQ_nx, nxQ_ret, nxQ_brk, nxQ_cont, nxQ_exc, turnQ_nx, turnQ_ret, turnQ_brk, turnQ_cont, turnQ_exc, retQ_ret, retQ_nx, retQ_exc, oQ_some, oQ_none, erd_v, erd_fl, erd_fd, erd_fo, ev_k, ev_v, ev_bin, ev_cmp, ev_chain, ev_and, ev_or, ev_not, ev_ite, ev_tup, ev_lst, ev_dct, ev_sub, ev_slice, ev_callF, ev_callK, ev_callB, ev_isinst, ev_bm, ev_lcF, evs, evp_absent, evp_star, evT_nil, evT_one, evI_range1, evI_range2, evI_zip, evI_enum, evI_iter, ex_asg, ex_par, ex_setix, ex_setattr, ex_aug, ex_expr, ex_ret, ex_ret0, ex_ite, ex_whil, ex_for, ex_brk, ex_cont, ex_pass, evB_eq, addD_int, addD_tup, addD_lst, addD_str, subtD_int, mulD_int, modD_int, fdivD_int, bin_add, bin_sub, bin_mul, bin_fdiv, bin_mod, bin_pow, cmp_eq, cmp_ne, cmp_lt, cmp_le, cmp_gt, cmp_ge, cmp_is, cmp_isnot, cmp_in, cmp_notin, ltD_int, leD_int, gtD_int, geD_int, isD_non, inD_str, inD_lst, inD_tup, inD_dct, truth_bl, truth_int, truth_lst, truth_tup, truth_non, seq_kl, seq_tup, seq_lst, dct_dct, list_lst, items_kl, items_str, items_tup, items_lst, len_kl, len_str, len_tup, len_lst, len_dct, bi_len, bi_all, bi_any, bi_sum, bi_max1, bi_min1, bi_max2, bi_min2, bi_int, bi_intB, bi_tuple, bi_list, bi_sorted, bi_repr, sub_tup, sub_lst, sub_kl, sub_dctS, slice_tup, slice_lst, slice_kl, pairsD_nil, bmD_append, bmD_popAt, bmD_join, bt_join, watch_tup, watch_lst, watch_str, watch_kl, watch_dct, zip_lst, zip_tup, celled_v, celled_fl, celled_fd, celled_fo, wp_celled_fl, wp_celled_fd, assign_name, assign_tup2, wipe_name, wipe_tup2, still_nil, tg_non, tg_bl, tg_int, tg_str, tg_tup, tg_lst, ty_isstr, ty_istup, start0, cfg_call, cfg_fuel, wpR_ok, fin_self, Option.join_some, Option.join_none, Option.bind_some, Option.bind_none, Option.map_some, Option.map_none, List.map_cons, List.map_nil, List.all_cons, List.all_nil, List.any_cons, List.any_nil, List.getElem?_cons_zero, List.getElem?_cons_succ, List.length_cons, List.length_nil, List.set_cons_zero, List.set_cons_succ, List.cons_append, List.nil_append, List.append_nil, List.replicate, List.drop_nil, Nat.sub_self, Nat.sub_zero, Nat.zero_add, Nat.reduceAdd, Nat.reduceSub, Nat.reduceLT, Nat.reduceLeDiff, Nat.zero_lt_succ, id_eq, if_true, if_false, Bool.true_and, Bool.and_true, Bool.false_and, Bool.and_false, Bool.or_false, Bool.false_or, Bool.true_or, Bool.or_true, Bool.not_true, Bool.not_false, Bool.and_self, Bool.or_self, Bool.false_eq_true, decide_true, decide_false, lineN_eq, sizeLine_eq, Nat.zero_le, and_self]
  refine wp_forL (fun done rest ρ μ => μ = μ9 ∧ (∀ d ∈ rest, Thing d) ∧ ∃ a4 a5 a6 a7 : Option D, ρ = [some (.kl ns), some (.cell 1), some (.int i), some (.str (Str.ofString "abcxyzABZ09 _-!>:\n")), a4, a5, a6, a7]) (fun done x rest ρ μ h => ?_) (fun done ρ μ h => ?_) L3 ⟨rfl, all3, _, _, _, _, rfl⟩
  · obtain ⟨rfl, ha, a4, a5, a6, a7, rfl⟩ := h
    refine ⟨still_one _ c9, _, assign_name _ 6 x (by simp), ?_⟩
    simp only [List.set_cons_succ, List.set_cons_zero]
    rw [wp_of_eq (inner_turn (n + 3) (ha x List.mem_cons_self) μ _ _ _ _ _ _ _)]
    exact ⟨rfl, fun d hd => ha d (List.mem_cons_of_mem _ hd), _, _, _, _, rfl⟩
  · obtain ⟨rfl, ha, a4, a5, a6, a7, rfl⟩ := h
    exact ⟨still_one _ c9, hq _ _ ⟨d9.mono (by omega), _, _, _, _, _, _, rfl⟩⟩
theorem truth : LawTrue pg 20 7 63 := fun ns hn => by
  have key : wp (runF pg 20 7 [.kl ns]) [] (fun r μ' => r = .v (.bl true)) NoE := by
    obtain ⟨wide, hw, hb⟩ := begin_W 18 ns hn
    refine wp_run (F := F7) rfl rfl ?_
    simp only [F7, wp_pure, wp_bind, wp_stuck, wp_ofO, wp_ofN, wp_getM, wp_modM, wp_tryE, wp_iteB, wp_ite, wp_exs_nil, wp_exs_cons, nxQ_nx, nxQ_ret, nxQ_brk, nxQ_cont, nxQ_exc, turnQ_nx, turnQ_ret, turnQ_brk, turnQ_cont, turnQ_exc, retQ_ret, retQ_nx, retQ_exc, oQ_some, oQ_none, erd_v, erd_fl, erd_fd, erd_fo, ev_k, ev_v, ev_bin, ev_cmp, ev_chain, ev_and, ev_or, ev_not, ev_ite, ev_tup, ev_lst, ev_dct, ev_sub, ev_slice, ev_callF, ev_callK, ev_callB, ev_isinst, ev_bm, ev_lcF, evs, evp_absent, evp_star, evT_nil, evT_one, evI_range1, evI_range2, evI_zip, evI_enum, evI_iter, ex_asg, ex_par, ex_setix, ex_setattr, ex_aug, ex_expr, ex_ret, ex_ret0, ex_ite, ex_whil, ex_for, ex_brk, ex_cont, ex_pass, evB_eq, addD_int, addD_tup, addD_lst, addD_str, subtD_int, mulD_int, modD_int, fdivD_int, bin_add, bin_sub, bin_mul, bin_fdiv, bin_mod, bin_pow, cmp_eq, cmp_ne, cmp_lt, cmp_le, cmp_gt, cmp_ge, cmp_is, cmp_isnot, cmp_in, cmp_notin, ltD_int, leD_int, gtD_int, geD_int, isD_non, inD_str, inD_lst, inD_tup, inD_dct, truth_bl, truth_int, truth_lst, truth_tup, truth_non, seq_kl, seq_tup, seq_lst, dct_dct, list_lst, items_kl, items_str, items_tup, items_lst, len_kl, len_str, len_tup, len_lst, len_dct, bi_len, bi_all, bi_any, bi_sum, bi_max1, bi_min1, bi_max2, bi_min2, bi_int, bi_intB, bi_tuple, bi_list, bi_sorted, bi_repr, sub_tup, sub_lst, sub_kl, sub_dctS, slice_tup, slice_lst, slice_kl, pairsD_nil, bmD_append, bmD_popAt, bmD_join, bt_join, watch_tup, watch_lst, watch_str, watch_kl, watch_dct, zip_lst, zip_tup, celled_v, celled_fl, celled_fd, celled_fo, wp_celled_fl, wp_celled_fd, assign_name, assign_tup2, wipe_name, wipe_tup2, still_nil, tg_non, tg_bl, tg_int, tg_str, tg_tup, tg_lst, ty_isstr, ty_istup, start0, cfg_call, cfg_fuel, wpR_ok, fin_self, Option.join_some, Option.join_none, Option.bind_some, Option.bind_none, Option.map_some, Option.map_none, List.map_cons, List.map_nil, List.all_cons, List.all_nil, List.any_cons, List.any_nil, List.getElem?_cons_zero, List.getElem?_cons_succ, List.length_cons, List.length_nil, List.set_cons_zero, List.set_cons_succ, List.cons_append, List.nil_append, List.append_nil, List.replicate, List.drop_nil, Nat.sub_self, Nat.sub_zero, Nat.zero_add, Nat.reduceAdd, Nat.reduceSub, Nat.reduceLT, Nat.reduceLeDiff, Nat.zero_lt_succ, id_eq, if_true, if_false, Bool.true_and, Bool.and_true, Bool.false_and, Bool.and_false, Bool.or_false, Bool.false_or, Bool.true_or, Bool.or_true, Bool.not_true, Bool.not_false, Bool.and_self, Bool.or_self, Bool.false_eq_true, decide_true, decide_false, lineN_eq, sizeLine_eq, Nat.zero_le, and_self]
    refine wp_call hb ?_
    rintro r μ1 ⟨rfl, rfl⟩
    simp only [wp_pure, wp_bind, wp_stuck, wp_ofO, wp_ofN, wp_getM, wp_modM, wp_tryE, wp_iteB, wp_ite, wp_exs_nil, wp_exs_cons, nxQ_nx, nxQ_ret, nxQ_brk, nxQ_cont, nxQ_exc, turnQ_nx, turnQ_ret, turnQ_brk, turnQ_cont, turnQ_exc, retQ_ret, retQ_nx, retQ_exc, oQ_some, oQ_none, erd_v, erd_fl, erd_fd, erd_fo, ev_k, ev_v, ev_bin, ev_cmp, ev_chain, ev_and, ev_or, ev_not, ev_ite, ev_tup, ev_lst, ev_dct, ev_sub, ev_slice, ev_callF, ev_callK, ev_callB, ev_isinst, ev_bm, ev_lcF, evs, evp_absent, evp_star, evT_nil, evT_one, evI_range1, evI_range2, evI_zip, evI_enum, evI_iter, ex_asg, ex_par, ex_setix, ex_setattr, ex_aug, ex_expr, ex_ret, ex_ret0, ex_ite, ex_whil, ex_for, ex_brk, ex_cont, ex_pass, evB_eq, addD_int, addD_tup, addD_lst, addD_str, subtD_int, mulD_int, modD_int, fdivD_int, bin_add, bin_sub, bin_mul, bin_fdiv, bin_mod, bin_pow, cmp_eq, cmp_ne, cmp_lt, cmp_le, cmp_gt, cmp_ge, cmp_is, cmp_isnot, cmp_in, cmp_notin, ltD_int, leD_int, gtD_int, geD_int, isD_non, inD_str, inD_lst, inD_tup, inD_dct, truth_bl, truth_int, truth_lst, truth_tup, truth_non, seq_kl, seq_tup, seq_lst, dct_dct, list_lst, items_kl, items_str, items_tup, items_lst, len_kl, len_str, len_tup, len_lst, len_dct, bi_len, bi_all, bi_any, bi_sum, bi_max1, bi_min1, bi_max2, bi_min2, bi_int, bi_intB, bi_tuple, bi_list, bi_sorted, bi_repr, sub_tup, sub_lst, sub_kl, sub_dctS, slice_tup, slice_lst, slice_kl, pairsD_nil, bmD_append, bmD_popAt, bmD_join, bt_join, watch_tup, watch_lst, watch_str, watch_kl, watch_dct, zip_lst, zip_tup, celled_v, celled_fl, celled_fd, celled_fo, wp_celled_fl, wp_celled_fd, assign_name, assign_tup2, wipe_name, wipe_tup2, still_nil, tg_non, tg_bl, tg_int, tg_str, tg_tup, tg_lst, ty_isstr, ty_istup, start0, cfg_call, cfg_fuel, wpR_ok, fin_self, Option.join_some, Option.join_none, Option.bind_some, Option.bind_none, Option.map_some, Option.map_none, List.map_cons, List.map_nil, List.all_cons, List.all_nil, List.any_cons, List.any_nil, List.getElem?_cons_zero, List.getElem?_cons_succ, List.length_cons, List.length_nil, List.set_cons_zero, List.set_cons_succ, List.cons_append, List.nil_append, List.append_nil, List.replicate, List.drop_nil, Nat.sub_self, Nat.sub_zero, Nat.zero_add, Nat.reduceAdd, Nat.reduceSub, Nat.reduceLT, Nat.reduceLeDiff, Nat.zero_lt_succ, id_eq, if_true, if_false, Bool.true_and, Bool.and_true, Bool.false_and, Bool.and_false, Bool.or_false, Bool.false_or, Bool.true_or, Bool.or_true, Bool.not_true, Bool.not_false, Bool.and_self, Bool.or_self, Bool.false_eq_true, decide_true, decide_false, lineN_eq, sizeLine_eq, Nat.zero_le, and_self]
    have dr : DrawI [Cell.lst (wide.map .int), .dct [kW, kC, kR, kT] [.cell 0, .lst (ns.map .int), .int 0, .int 0]] 1 0 ns 0 :=
      ⟨wide, 0, 0, ⟨rfl, rfl, by decide⟩, by decide, by decide, hw⟩
    have hm : ∃ m : Int, m ≤ 24 ∧ 0 ≤ m ∧ (if (ns.length : Int) < 24 then (ns.length : Int) else 24) = m := ⟨_, by split <;> omega, by split <;> omega, rfl⟩
    obtain ⟨m, m1, m2, em⟩ := hm
    simp only [em, rg1_int (8 + m) (by omega) (by omega)]
    simp only [wp_pure, wp_bind, wp_stuck, wp_ofO, wp_ofN, wp_getM, wp_modM, wp_tryE, wp_iteB, wp_ite, wp_exs_nil, wp_exs_cons, nxQ_nx, nxQ_ret, nxQ_brk, nxQ_cont, nxQ_exc, turnQ_nx, turnQ_ret, turnQ_brk, turnQ_cont, turnQ_exc, retQ_ret, retQ_nx, retQ_exc, oQ_some, oQ_none, erd_v, erd_fl, erd_fd, erd_fo, ev_k, ev_v, ev_bin, ev_cmp, ev_chain, ev_and, ev_or, ev_not, ev_ite, ev_tup, ev_lst, ev_dct, ev_sub, ev_slice, ev_callF, ev_callK, ev_callB, ev_isinst, ev_bm, ev_lcF, evs, evp_absent, evp_star, evT_nil, evT_one, evI_range1, evI_range2, evI_zip, evI_enum, evI_iter, ex_asg, ex_par, ex_setix, ex_setattr, ex_aug, ex_expr, ex_ret, ex_ret0, ex_ite, ex_whil, ex_for, ex_brk, ex_cont, ex_pass, evB_eq, addD_int, addD_tup, addD_lst, addD_str, subtD_int, mulD_int, modD_int, fdivD_int, bin_add, bin_sub, bin_mul, bin_fdiv, bin_mod, bin_pow, cmp_eq, cmp_ne, cmp_lt, cmp_le, cmp_gt, cmp_ge, cmp_is, cmp_isnot, cmp_in, cmp_notin, ltD_int, leD_int, gtD_int, geD_int, isD_non, inD_str, inD_lst, inD_tup, inD_dct, truth_bl, truth_int, truth_lst, truth_tup, truth_non, seq_kl, seq_tup, seq_lst, dct_dct, list_lst, items_kl, items_str, items_tup, items_lst, len_kl, len_str, len_tup, len_lst, len_dct, bi_len, bi_all, bi_any, bi_sum, bi_max1, bi_min1, bi_max2, bi_min2, bi_int, bi_intB, bi_tuple, bi_list, bi_sorted, bi_repr, sub_tup, sub_lst, sub_kl, sub_dctS, slice_tup, slice_lst, slice_kl, pairsD_nil, bmD_append, bmD_popAt, bmD_join, bt_join, watch_tup, watch_lst, watch_str, watch_kl, watch_dct, zip_lst, zip_tup, celled_v, celled_fl, celled_fd, celled_fo, wp_celled_fl, wp_celled_fd, assign_name, assign_tup2, wipe_name, wipe_tup2, still_nil, tg_non, tg_bl, tg_int, tg_str, tg_tup, tg_lst, ty_isstr, ty_istup, start0, cfg_call, cfg_fuel, wpR_ok, fin_self, Option.join_some, Option.join_none, Option.bind_some, Option.bind_none, Option.map_some, Option.map_none, List.map_cons, List.map_nil, List.all_cons, List.all_nil, List.any_cons, List.any_nil, List.getElem?_cons_zero, List.getElem?_cons_succ, List.length_cons, List.length_nil, List.set_cons_zero, List.set_cons_succ, List.cons_append, List.nil_append, List.append_nil, List.replicate, List.drop_nil, Nat.sub_self, Nat.sub_zero, Nat.zero_add, Nat.reduceAdd, Nat.reduceSub, Nat.reduceLT, Nat.reduceLeDiff, Nat.zero_lt_succ, id_eq, if_true, if_false, Bool.true_and, Bool.and_true, Bool.false_and, Bool.and_false, Bool.or_false, Bool.false_or, Bool.true_or, Bool.or_true, Bool.not_true, Bool.not_false, Bool.and_self, Bool.or_self, Bool.false_eq_true, decide_true, decide_false, lineN_eq, sizeLine_eq, Nat.zero_le, and_self]
    refine wp_for (fun i : Nat => D.int (i : Int)) (fun done rest ρ μ => done.length + rest.length ≤ 32 ∧ St ns (200 * done.length) ρ μ) (fun done x rest ρ μ h => ?_) (fun done ρ μ h => ?_) [] _ _ _ ⟨by simp; omega, dr.mono (by simp), _, _, _, _, _, _, rfl⟩
    · obtain ⟨hl, hs⟩ := h
      have hs' := hs
      obtain ⟨_, a2, a3, a4, a5, a6, a7, rfl⟩ := hs'
      have hl : done.length + (rest.length + 1) ≤ 32 := hl
      refine ⟨rfl, _, assign_name _ 2 _ (by simp), ?_⟩
      refine outer_turn 15 ns _ (by omega) x _ μ hs _ _ fun ρ' μ' h' => ⟨by simp; omega, ?_⟩
      have e : (200 * ((done ++ [x]).length : Int)) = 200 * (done.length : Int) + 200 := by simp; omega
      rw [e]; exact h'
    · obtain ⟨hl, _, a2, a3, a4, a5, a6, a7, rfl⟩ := h
      refine ⟨rfl, ?_⟩
      simp only [wp_pure, wp_bind, wp_stuck, wp_ofO, wp_ofN, wp_getM, wp_modM, wp_tryE, wp_iteB, wp_ite, wp_exs_nil, wp_exs_cons, nxQ_nx, nxQ_ret, nxQ_brk, nxQ_cont, nxQ_exc, turnQ_nx, turnQ_ret, turnQ_brk, turnQ_cont, turnQ_exc, retQ_ret, retQ_nx, retQ_exc, oQ_some, oQ_none, erd_v, erd_fl, erd_fd, erd_fo, ev_k, ev_v, ev_bin, ev_cmp, ev_chain, ev_and, ev_or, ev_not, ev_ite, ev_tup, ev_lst, ev_dct, ev_sub, ev_slice, ev_callF, ev_callK, ev_callB, ev_isinst, ev_bm, ev_lcF, evs, evp_absent, evp_star, evT_nil, evT_one, evI_range1, evI_range2, evI_zip, evI_enum, evI_iter, ex_asg, ex_par, ex_setix, ex_setattr, ex_aug, ex_expr, ex_ret, ex_ret0, ex_ite, ex_whil, ex_for, ex_brk, ex_cont, ex_pass, evB_eq, addD_int, addD_tup, addD_lst, addD_str, subtD_int, mulD_int, modD_int, fdivD_int, bin_add, bin_sub, bin_mul, bin_fdiv, bin_mod, bin_pow, cmp_eq, cmp_ne, cmp_lt, cmp_le, cmp_gt, cmp_ge, cmp_is, cmp_isnot, cmp_in, cmp_notin, ltD_int, leD_int, gtD_int, geD_int, isD_non, inD_str, inD_lst, inD_tup, inD_dct, truth_bl, truth_int, truth_lst, truth_tup, truth_non, seq_kl, seq_tup, seq_lst, dct_dct, list_lst, items_kl, items_str, items_tup, items_lst, len_kl, len_str, len_tup, len_lst, len_dct, bi_len, bi_all, bi_any, bi_sum, bi_max1, bi_min1, bi_max2, bi_min2, bi_int, bi_intB, bi_tuple, bi_list, bi_sorted, bi_repr, sub_tup, sub_lst, sub_kl, sub_dctS, slice_tup, slice_lst, slice_kl, pairsD_nil, bmD_append, bmD_popAt, bmD_join, bt_join, watch_tup, watch_lst, watch_str, watch_kl, watch_dct, zip_lst, zip_tup, celled_v, celled_fl, celled_fd, celled_fo, wp_celled_fl, wp_celled_fd, assign_name, assign_tup2, wipe_name, wipe_tup2, still_nil, tg_non, tg_bl, tg_int, tg_str, tg_tup, tg_lst, ty_isstr, ty_istup, start0, cfg_call, cfg_fuel, wpR_ok, fin_self, Option.join_some, Option.join_none, Option.bind_some, Option.bind_none, Option.map_some, Option.map_none, List.map_cons, List.map_nil, List.all_cons, List.all_nil, List.any_cons, List.any_nil, List.getElem?_cons_zero, List.getElem?_cons_succ, List.length_cons, List.length_nil, List.set_cons_zero, List.set_cons_succ, List.cons_append, List.nil_append, List.append_nil, List.replicate, List.drop_nil, Nat.sub_self, Nat.sub_zero, Nat.zero_add, Nat.reduceAdd, Nat.reduceSub, Nat.reduceLT, Nat.reduceLeDiff, Nat.zero_lt_succ, id_eq, if_true, if_false, Bool.true_and, Bool.and_true, Bool.false_and, Bool.and_false, Bool.or_false, Bool.false_or, Bool.true_or, Bool.or_true, Bool.not_true, Bool.not_false, Bool.and_self, Bool.or_self, Bool.false_eq_true, decide_true, decide_false, lineN_eq, sizeLine_eq, Nat.zero_le, and_self]
      unfold finish
      dsimp only
      split
      · rfl
      · split <;> rfl
  unfold wp at key
  cases e : runF pg 20 7 [.kl ns] [] with
  | stuck => rw [e] at key; exact key.elim
  | exc C vs μ => rw [e] at key; exact key.elim
  | ok r μ => rw [e] at key; exact ⟨μ, by rw [show r = .v (.bl true) from key]⟩
end RL.K02

set_option maxRecDepth 100000
set_option linter.all false
set_option Elab.async false
open PySem PySem.W PyProof.Rows
set_option maxHeartbeats 0 in
theorem PySem.Challenge.cw_leastcrews_k02_names_judged_holds : PySem.Challenge.rw_leastcrews_k02_names_judged.Holds := by
  w_on; o_law; k_head; (case hw => w_witness2)
  k_fill
  refine RL.walk_ofG (l := PySem.Challenge.rw_leastcrews_k02_names_judged) (n := 63) (k := 20) (f := 7) (x := "_law_script") (Pr := RL.K02.pg) rfl (by decide) rfl ⟨rfl, by decide, by decide⟩ (fun w h Y => PySem.W.kIn_of Y) ?F RL.K02.truth
  case F =>
    intro w mg fa h KX G hmg
    refine' RL.K02.all_mk KX G hmg ?a0 ?l0 ?c0 ?k0 ?a1 ?l1 ?c1 ?k1 ?a2 ?l2 ?c2 ?k2 ?a3 ?l3 ?c3 ?k3 ?a4 ?l4 ?c4 ?k4 ?a5 ?l5 ?c5 ?k5 ?a6 ?l6 ?c6 ?k6 ?a7 ?l7 ?c7 ?k7 ?n1 ?n2 ?z0 ?z1 ?z2 ?z3 ?z4 ?z5 ?z6 ?z7 ?z8
    (case a0 => k_is); (case l0 => k_is); (case c0 => k_is); (case k0 => k_is); (case a1 => k_is); (case l1 => k_is); (case c1 => k_is); (case k1 => k_is); (case a2 => k_is); (case l2 => k_is); (case c2 => k_is); (case k2 => k_is); (case a3 => k_is); (case l3 => k_is); (case c3 => k_is); (case k3 => k_is); (case a4 => k_is); (case l4 => k_is); (case c4 => k_is); (case k4 => k_is); (case a5 => k_is); (case l5 => k_is); (case c5 => k_is); (case k5 => k_is); (case a6 => k_is); (case l6 => k_is); (case c6 => k_is); (case k6 => k_is); (case a7 => k_is); (case l7 => k_is); (case c7 => k_is); (case k7 => k_is); (case n1 => k_is); (case n2 => k_is); (case z0 => k_is); (case z1 => k_is); (case z2 => k_is); (case z3 => k_is); (case z4 => k_is); (case z5 => k_is); (case z6 => k_is); (case z7 => k_is); (case z8 => k_is)
