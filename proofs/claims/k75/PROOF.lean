import PyProof.Rows.All
import Wide.All
import OpenK.AllK
import Wide.FinOn
import HandS.ForMost
import HandS.Exc
import HandS.TryOnly
import HandS.ExcOwn
import HandS.WordsExc
import KE.KDictKeyed
import HandS.TupAny
import HandS.TupMul
import HandS.Deep
import HandS.SortRule
import HandS.SortInts
import HandS.IsInst
import HandS.Wide
import HandS.More
import HandS.Text
import HandS.Ends
import HandS.Defaults
import HandS.Head0
import HandS.Head1
import HandS.Head2
import HandS.HeadEnd
import HandS.HeadHook1
import HandS.HeadHook2
import HandS.Conv
import HandS.TupSets
import KE.KIntText
import KE.IntTextLaws
import PySem.Challenge.RW_pilenets_k75_nets_written
set_option Elab.async false
set_option maxRecDepth 100000
set_option maxHeartbeats 4000000
set_option linter.all false
namespace Dv
open PySem L2

/-! ## Data and what represents it -/
/-- plain data -/
inductive D where
  | non
  | bl (b : Bool)
  | int (i : Int)
  | str (x : Str)
  | lst (xs : List D)
  | tup (xs : List D)
  | dic (kvs : List (D × D))
  | cell (n : Nat)
  | kls (xs : List D)
  deriving Inhabited

/-- a mutable thing that is told by its number -/
inductive Cel where
  | lst (xs : List D)

abbrev Mu := List Cel
abbrev Rho := List (Option D)

/-- what is fixed: the written part, the program, the world -/
structure Gx where
  K : PySem.W.Frag
  P : Program
  w : World
  mg : Str → Option Value
abbrev gx (X : Cx) : Gx := ⟨X.K, X.prog, X.w, X.mg⟩

mutual
def nkD : NestedKey → D
  | .none => .non
  | .num i => .int i
  | .text x => .str x
  | .tup ks => .tup (nkDs ks)
def nkDs : List NestedKey → List D
  | [] => []
  | k :: ks => nkD k :: nkDs ks
end
def kD : Key → D
  | .inl i => .int i
  | .inr x => .str x

abbrev Ent := NestedKey × Addr × V
/-- a dict whose keys are tuples: its entries by key, the key's address, the value -/
def dtPhi (G : Gx) (a : Addr) (es : List Ent) (h : Heap) : Prop :=
  es.length ≤ sizeLine ∧ (a == sysModules) = false ∧ ∃ vs : List (NestedKey × Addr × Value), Paired (fun (p : Ent) (q : NestedKey × Addr × Value) => p.1 = q.1 ∧ p.2.1 = q.2.1 ∧ RelV p.2.2 q.2.2) es vs ∧
    ∃ o ds ep, h.get? a = some o ∧ o.ExactDict ∧ o.data = .dict ds ep ∧ ds.toList = vs.map (entryOfKey (nestedKind G.P G.w)) ∧ (vs.map (·.1)).Nodup
def dtO (G : Gx) (a : Addr) (es : List Ent) : HO := .ext (dtPhi G a es)

/-- a list of the program's own, written part -/
def KL (K : PySem.W.Frag) (a : Addr) (xs : List V) : Prop := ∃ (o : Obj) (its : Array Value) (n : Nat), K.lookup a = some o ∧ o.cls = .type "list" ∧ o.dict = none ∧ o.data = .seq its n ∧ its.size ≤ sizeLine ∧ Vals xs its.toList
mutual
/-- the value v is the data d; F: the lists (and dicts) that it hangs on -/
inductive Rep (G : Gx) (H : Hp) (phi : List Addr) : V → D → List Addr → Prop where
  | non : Rep G H phi .non .non []
  | bl (b : Bool) : Rep G H phi (.bl b) (.bl b) []
  | int (i : Int) : Rep G H phi (.int i) (.int i) []
  | str (x : Str) : Rep G H phi (.str x) (.str x) []
  | lst {a : Addr} {vs : List V} {ds : List D} {F : List Addr} : Rd H a (.lst vs) → a ∉ phi → Reps G H phi vs ds F → Rep G H phi (.ref a) (.lst ds) (a :: F)
  | tup {a : Addr} {vs : List V} {ds : List D} {F : List Addr} : SqT G.K H a vs → Reps G H phi vs ds F → Rep G H phi (.ref a) (.tup ds) F
  | cell {a : Addr} {n : Nat} : phi[n]? = some a → Rep G H phi (.ref a) (.cell n) []
  | kls {a : Addr} {vs : List V} {ds : List D} : KL G.K a vs → Reps G H phi vs ds [] → Rep G H phi (.ref a) (.kls ds) []
  | dicK {a : Addr} {es : List (Key × V)} {kvs : List (D × D)} {F : List Addr} : H a = some (.dK es) → a ∉ phi → kvs.map (·.1) = es.map (fun e => kD e.1) → Reps G H phi (es.map (·.2)) (kvs.map (·.2)) F → Rep G H phi (.ref a) (.dic kvs) (a :: F)
  | dicT {a : Addr} {es : List Ent} {kvs : List (D × D)} {F E : List Addr} : H a = some (dtO G a es) → a ∉ phi → kvs.map (·.1) = es.map (fun e => nkD e.1) → Reps G H phi (es.map (fun e => .ref e.2.1)) (kvs.map (·.1)) E →
      Reps G H phi (es.map (·.2.2)) (kvs.map (·.2)) F → Rep G H phi (.ref a) (.dic kvs) (a :: (E ++ F))
inductive Reps (G : Gx) (H : Hp) (phi : List Addr) : List V → List D → List Addr → Prop where
  | nil : Reps G H phi [] [] []
  | cons {v : V} {d : D} {F : List Addr} {vs : List V} {ds : List D} {E : List Addr} : Rep G H phi v d F → Reps G H phi vs ds E → Reps G H phi (v :: vs) (d :: ds) (F ++ E)
end

/-- what may be held by a footprint -/
def Held (o : HO) : Prop := (∃ vs, o = .lst vs) ∨ (∃ u vs, o = .frz u (.lst vs)) ∨ (∃ es, o = .dK es) ∨ (∃ p, o = .ext p)
theorem Held.ntup {o : HO} (h : Held o) {vs : List V} : o ≠ .tup vs ∧ ∀ u, o ≠ .frz u (.tup vs) := by
  rcases h with ⟨_, rfl⟩ | ⟨_, _, rfl⟩ | ⟨_, rfl⟩ | ⟨_, rfl⟩ <;> exact ⟨nofun, fun _ => nofun⟩

/-- from one heap to a later one: all that F names, and all tuples, stand as they stood; cells may be new -/
structure Kp (F : List Addr) (H : Hp) (phi : List Addr) (H' : Hp) (phi' : List Addr) : Prop where
  at_ : ∀ a ∈ F, ∀ o, H a = some o → a ∉ phi → H' a = some o
  tup : ∀ a vs, Rd H a (.tup vs) → Rd H' a (.tup vs)
  pre : phi <+: phi'
  new : ∀ a ∈ F, ∀ o, H a = some o → a ∉ phi → a ∉ phi'
theorem Kp.sub {F E : List Addr} {H H' : Hp} {phi phi' : List Addr} (k : Kp F H phi H' phi') (h : ∀ a ∈ E, a ∈ F) : Kp E H phi H' phi' :=
  ⟨fun a ha => k.at_ a (h a ha), k.tup, k.pre, fun a ha => k.new a (h a ha)⟩
theorem pre_get {phi phi' : List Addr} (h : phi <+: phi') {n : Nat} {a : Addr} (e : phi[n]? = some a) : phi'[n]? = some a := by
  obtain ⟨t, rfl⟩ := h
  rw [List.getElem?_append_left (List.getElem?_eq_some_iff.mp e).1]
  exact e
theorem rdSome {H : Hp} {a : Addr} {u : HO} (h : Rd H a u) : ∃ o, H a = some o := by
  rcases h with h | ⟨o, h⟩ <;> exact ⟨_, h⟩
theorem rdImp {H H' : Hp} {a : Addr} {u : HO} (h : Rd H a u) (k : ∀ o, H a = some o → H' a = some o) : Rd H' a u := by
  rcases h with h | ⟨o, h⟩
  · exact .inl (k _ h)
  · exact .inr ⟨o, k _ h⟩

section
variable {G : Gx} {H H' : Hp} {phi phi' : List Addr}
mutual
theorem Rep.kp : ∀ {v : V} {d : D} {F : List Addr}, Rep G H phi v d F → Kp F H phi H' phi' → Rep G H' phi' v d F
  | _, _, _, .non, _ => .non
  | _, _, _, .bl b, _ => .bl b
  | _, _, _, .int b, _ => .int b
  | _, _, _, .str b, _ => .str b
  | _, _, _, .lst h n r, k => .lst (rdImp h fun o e => k.at_ _ List.mem_cons_self o e n) (let ⟨o, e⟩ := rdSome h; k.new _ List.mem_cons_self o e n) (Reps.kp r (k.sub fun _ => List.mem_cons_of_mem _))
  | _, _, _, .tup h r, k => .tup (h.elim (fun z => .inl (k.tup _ _ z)) .inr) (Reps.kp r k)
  | _, _, _, .cell h, k => .cell (pre_get k.pre h)
  | _, _, _, .kls h r, k => .kls h (Reps.kp r k)
  | _, _, _, .dicK h n e r, k => .dicK (k.at_ _ List.mem_cons_self _ h n) (k.new _ List.mem_cons_self _ h n) e (Reps.kp r (k.sub fun _ => List.mem_cons_of_mem _))
  | _, _, _, .dicT h n e r s, k => .dicT (k.at_ _ List.mem_cons_self _ h n) (k.new _ List.mem_cons_self _ h n) e (Reps.kp r (k.sub fun _ z => List.mem_cons_of_mem _ (List.mem_append_left _ z))) (Reps.kp s (k.sub fun _ z => List.mem_cons_of_mem _ (List.mem_append_right _ z)))
theorem Reps.kp : ∀ {v : List V} {d : List D} {F : List Addr}, Reps G H phi v d F → Kp F H phi H' phi' → Reps G H' phi' v d F
  | _, _, _, .nil, _ => .nil
  | _, _, _, .cons h r, k => .cons (Rep.kp h (k.sub fun _ => List.mem_append_left _)) (Reps.kp r (k.sub fun _ => List.mem_append_right _))
end
mutual
/-- what a value hangs on stands, and is no cell -/
theorem Rep.on : ∀ {v : V} {d : D} {F : List Addr}, Rep G H phi v d F → ∀ a ∈ F, (∃ o, H a = some o ∧ Held o) ∧ a ∉ phi
  | _, _, _, .non, _, h => nomatch h
  | _, _, _, .bl b, _, h => nomatch h
  | _, _, _, .int b, _, h => nomatch h
  | _, _, _, .str b, _, h => nomatch h
  | _, _, _, .lst r n s, a, h => (List.mem_cons.mp h).elim (fun e => e ▸ ⟨r.elim (fun z => ⟨_, z, .inl ⟨_, rfl⟩⟩) (fun ⟨u, z⟩ => ⟨_, z, .inr (.inl ⟨_, _, rfl⟩)⟩), n⟩) (Reps.on s a)
  | _, _, _, .tup _ s, a, h => Reps.on s a h
  | _, _, _, .cell _, _, h => nomatch h
  | _, _, _, .kls _ _, _, h => nomatch h
  | _, _, _, .dicK r n _ s, a, h => (List.mem_cons.mp h).elim (fun e => e ▸ ⟨⟨_, r, .inr (.inr (.inl ⟨_, rfl⟩))⟩, n⟩) (Reps.on s a)
  | _, _, _, .dicT r n _ s t, a, h => (List.mem_cons.mp h).elim (fun e => e ▸ ⟨⟨_, r, .inr (.inr (.inr ⟨_, rfl⟩))⟩, n⟩) fun h => (List.mem_append.mp h).elim (Reps.on s a) (Reps.on t a)
theorem Reps.on : ∀ {v : List V} {d : List D} {F : List Addr}, Reps G H phi v d F → ∀ a ∈ F, (∃ o, H a = some o ∧ Held o) ∧ a ∉ phi
  | _, _, _, .nil, _, h => nomatch h
  | _, _, _, .cons r s, a, h => (List.mem_append.mp h).elim (Rep.on r a) (Reps.on s a)
end
theorem Reps.length {vs : List V} {ds : List D} {F : List Addr} (r : Reps G H phi vs ds F) : vs.length = ds.length := by
  induction vs generalizing ds F with
  | nil => cases r; rfl
  | cons v vs ih => cases r with | cons a b => simp [ih b]
theorem Reps.append {vs ws : List V} {ds es : List D} {F E : List Addr} (r : Reps G H phi vs ds F) (s : Reps G H phi ws es E) : Reps G H phi (vs ++ ws) (ds ++ es) (F ++ E) := by
  induction vs generalizing ds F with
  | nil => cases r; exact s
  | cons v vs ih =>
    cases r with
    | cons a b =>
      rw [List.append_assoc]
      exact .cons a (ih b)
theorem Reps.get {vs : List V} {ds : List D} {F : List Addr} (r : Reps G H phi vs ds F) {i : Nat} {d : D} (h : ds[i]? = some d) : ∃ v E, vs[i]? = some v ∧ Rep G H phi v d E ∧ ∀ a ∈ E, a ∈ F := by
  induction vs generalizing ds F i with
  | nil => cases r; simp at h
  | cons v vs ih =>
    cases r with
    | cons a b =>
      cases i with
      | zero => simp at h; subst h; exact ⟨v, _, by simp, a, fun _ => List.mem_append_left _⟩
      | succ i =>
        obtain ⟨u, E, h1, h2, h3⟩ := ih b (i := i) (by simpa using h)
        exact ⟨u, E, by simpa using h1, h2, fun a z => List.mem_append_right _ (h3 a z)⟩
theorem Reps.getV {vs : List V} {ds : List D} {F : List Addr} (r : Reps G H phi vs ds F) {i : Nat} {v : V} (h : vs[i]? = some v) : ∃ d E, ds[i]? = some d ∧ Rep G H phi v d E ∧ ∀ a ∈ E, a ∈ F := by
  have hl := r.length
  have hi := (List.getElem?_eq_some_iff.mp h).1
  obtain ⟨u, E, h1, h2, h3⟩ := r.get (i := i) (d := ds[i]'(by omega)) (by simp)
  rw [h] at h1; cases h1
  exact ⟨_, E, by simp, h2, h3⟩
/-- a part of a sequence, by a choice of places -/
theorem Reps.pick {vs : List V} {ds : List D} {F : List Addr} (r : Reps G H phi vs ds F) : ∀ (is : List Nat), (∀ i ∈ is, i < ds.length) → ∃ E, Reps G H phi (is.filterMap fun i => vs[i]?) (is.filterMap fun i => ds[i]?) E ∧ ∀ a ∈ E, a ∈ F
  | [], _ => ⟨[], .nil, fun _ h => nomatch h⟩
  | i :: is, h => by
    obtain ⟨E, h1, h2⟩ := r.pick is fun j hj => h j (List.mem_cons_of_mem _ hj)
    have hi := h i List.mem_cons_self
    obtain ⟨v, E1, g1, g2, g3⟩ := r.get (i := i) (d := ds[i]) (by simp [hi])
    refine ⟨E1 ++ E, ?_, fun a ha => (List.mem_append.mp ha).elim (g3 a) (h2 a)⟩
    rw [List.filterMap_cons, List.filterMap_cons, g1]
    simp only [List.getElem?_eq_getElem hi]
    exact .cons g2 h1
end

/-- the heap has grown: what stood stands as it was, but for the cells; cells may be new -/
structure Step (H : Hp) (phi : List Addr) (H' : Hp) (phi' : List Addr) : Prop where
  same : ∀ a o, H a = some o → a ∉ phi → H' a = some o
  pre : phi <+: phi'
  new : ∀ a ∈ phi', a ∈ phi ∨ H a = none
  ntup : ∀ a ∈ phi, ∀ vs, ¬ Rd H a (.tup vs)
  /-- cells stay tracked -/
  cel : ∀ a ∈ phi, ∀ o, H a = some o → ∃ o', H' a = some o'
theorem Step.refl {H : Hp} {phi : List Addr} (h : ∀ a ∈ phi, ∀ vs, ¬ Rd H a (.tup vs)) : Step H phi H phi := ⟨fun _ _ e _ => e, List.prefix_refl _, fun _ h => .inl h, h, fun _ _ o e => ⟨o, e⟩⟩
theorem Step.there {H H' : Hp} {phi phi' : List Addr} (s : Step H phi H' phi') {a : Addr} {o : HO} (e : H a = some o) : ∃ o', H' a = some o' := by
  by_cases h : a ∈ phi
  · exact s.cel a h o e
  · exact ⟨o, s.same a o e h⟩
theorem Step.free {H H' : Hp} {phi phi' : List Addr} (s : Step H phi H' phi') {a : Addr} (e : H' a = none) : H a = none := by
  cases h : H a with
  | none => rfl
  | some o => obtain ⟨o', h'⟩ := s.there h; rw [e] at h'; cases h'
theorem Step.notin {H H' : Hp} {phi phi' : List Addr} (s : Step H phi H' phi') {a : Addr} {o : HO} (e : H a = some o) (h : a ∉ phi) : a ∉ phi' := fun z => (s.new a z).elim h fun q => by rw [e] at q; cases q
theorem Step.trans {H H1 H2 : Hp} {phi phi1 phi2 : List Addr} (a : Step H phi H1 phi1) (b : Step H1 phi1 H2 phi2) : Step H phi H2 phi2 where
  same := fun c o e n => b.same c o (a.same c o e n) (a.notin e n)
  pre := a.pre.trans b.pre
  new := fun c h => (b.new c h).elim (a.new c) fun e => .inr (a.free e)
  ntup := a.ntup
  cel := fun c h o e => by
    obtain ⟨o', e'⟩ := a.cel c h o e
    exact b.there e'
theorem Step.tupk {H H' : Hp} {phi phi' : List Addr} (s : Step H phi H' phi') {a : Addr} {vs : List V} (h : Rd H a (.tup vs)) : Rd H' a (.tup vs) := rdImp h fun o e => s.same a o e fun z => s.ntup a z vs h
theorem Step.kp {H H' : Hp} {phi phi' : List Addr} (s : Step H phi H' phi') (F : List Addr) : Kp F H phi H' phi' := ⟨fun a _ o e n => s.same a o e n, fun _ _ h => s.tupk h, s.pre, fun a _ o e n => s.notin e n⟩
theorem Rep.step {G : Gx} {H H' : Hp} {phi phi' : List Addr} {v : V} {d : D} {F : List Addr} (r : Rep G H phi v d F) (s : Step H phi H' phi') : Rep G H' phi' v d F := r.kp (s.kp F)
theorem Reps.step {G : Gx} {H H' : Hp} {phi phi' : List Addr} {v : List V} {d : List D} {F : List Addr} (r : Reps G H phi v d F) (s : Step H phi H' phi') : Reps G H' phi' v d F := r.kp (s.kp F)
/-- a new object -/
theorem Step.mkUpd {H : Hp} {phi : List Addr} (h : ∀ a ∈ phi, ∀ vs, ¬ Rd H a (.tup vs)) {p : Addr} (hp : H p = none) (o : HO) : Step H phi (upd H p o) phi :=
  ⟨fun a u e _ => by rw [upd_ne (ne_of_none e hp)]; exact e, List.prefix_refl _, fun _ z => .inl z, h, fun a _ u e => ⟨u, by rw [upd_ne (ne_of_none e hp)]; exact e⟩⟩
theorem Step.of_same {H H' : Hp} {phi : List Addr} (h : ∀ a ∈ phi, ∀ vs, ¬ Rd H a (.tup vs)) (s : Same H H') : Step H phi H' phi := ⟨fun a o e _ => s a o e, List.prefix_refl _, fun _ z => .inl z, h, fun a _ o e => ⟨o, s a o e⟩⟩

/-! ## Cells -/
inductive Cells (G : Gx) (H : Hp) (phi : List Addr) : List Addr → List Cel → List Addr → Prop where
  | nil : Cells G H phi [] [] []
  | cons {a : Addr} {vs : List V} {ds : List D} {F E : List Addr} {as : List Addr} {mu : List Cel} : H a = some (.lst vs) → Reps G H phi vs ds F → Cells G H phi as mu E → Cells G H phi (a :: as) (.lst ds :: mu) (F ++ E)
structure CellsOk (G : Gx) (H : Hp) (phi : List Addr) (mu : Mu) (Fc : List Addr) : Prop where
  nd : phi.Nodup
  all : Cells G H phi phi mu Fc
theorem Cells.ntup {G : Gx} {H : Hp} {phi as : List Addr} {mu : Mu} {E : List Addr} (c : Cells G H phi as mu E) : ∀ a ∈ as, ∃ vs, H a = some (.lst vs) := by
  induction c with
  | nil => intro a h; cases h
  | cons h _ _ ih =>
    intro a hm
    rcases List.mem_cons.mp hm with rfl | hm
    · exact ⟨_, h⟩
    · exact ih a hm
theorem CellsOk.ntup {G : Gx} {H : Hp} {phi : List Addr} {mu : Mu} {Fc : List Addr} (c : CellsOk G H phi mu Fc) : ∀ a ∈ phi, ∀ vs, ¬ Rd H a (.tup vs) := fun a ha vs h => by
  obtain ⟨xs, e⟩ := c.all.ntup a ha
  rcases h with h | ⟨o, h⟩ <;> (rw [e] at h; cases h)
theorem Cells.on {G : Gx} {H : Hp} {phi as : List Addr} {mu : Mu} {E : List Addr} (c : Cells G H phi as mu E) : ∀ a ∈ E, (∃ o, H a = some o ∧ Held o) ∧ a ∉ phi := by
  induction c with
  | nil => intro a h; cases h
  | cons _ r _ ih =>
    intro a h
    rcases List.mem_append.mp h with h | h
    · exact r.on a h
    · exact ih a h
/-- cells stand where nothing of them was changed -/
theorem Cells.kp {G : Gx} {H H' : Hp} {phi as : List Addr} {mu : Mu} {E : List Addr} (c : Cells G H phi as mu E) (k : Kp E H phi H' phi) (ha : ∀ a ∈ as, ∀ vs, H a = some (.lst vs) → H' a = some (.lst vs)) : Cells G H' phi as mu E := by
  induction c with
  | nil => exact .nil
  | cons h r _ ih =>
    exact .cons (ha _ List.mem_cons_self _ h) (r.kp (k.sub fun _ => List.mem_append_left _)) (ih (k.sub fun _ => List.mem_append_right _) fun a z => ha a (List.mem_cons_of_mem _ z))
theorem CellsOk.same {G : Gx} {H H' : Hp} {phi : List Addr} {mu : Mu} {Fc : List Addr} (c : CellsOk G H phi mu Fc) (s : Same H H') : CellsOk G H' phi mu Fc :=
  ⟨c.nd, c.all.kp ⟨fun a _ o e _ => s a o e, fun _ _ h => rdImp h (s _), List.prefix_refl _, fun _ _ _ _ n => n⟩ fun a _ _ e => s _ _ e⟩
end Dv

namespace Dv
open PySem L2

/-! ## The state: slots and their footprints -/
structure Entr where
  H : Hp
  phi : List Addr
  Ba : List Addr
  Bc : List Addr
abbrev Pin := V × D × List Addr
abbrev Gm := List Nat
abbrev flag (g : Gm) (i : Nat) : Nat := g.getD i 0
def heldL (n : Nat) (F : List Addr) : List Addr := match n with
  | 0 => []
  | 1 => F.take 1
  | _ => F
def hasTop : D → Bool
  | .lst _ => true
  | .dic _ => true
  | _ => false
def elems (d : D) (F : List Addr) : List Addr := if hasTop d then F.tail else F
theorem heldL_sub {n : Nat} {F : List Addr} {a : Addr} (h : a ∈ heldL n F) : a ∈ F := by
  unfold heldL at h
  split at h
  · cases h
  · exact List.mem_of_mem_take h
  · exact h
theorem elems_sub {d : D} {F : List Addr} {a : Addr} (h : a ∈ elems d F) : a ∈ F := by
  unfold elems at h
  split at h
  · exact List.mem_of_mem_tail h
  · exact h

structure Ok (G : Gx) (N : Entr) (P : List Pin) (g : Gm) (rho : Rho) (mu : Mu) (σ : St) (H : Hp) (phi : List Addr) (Fs : Nat → List Addr) (Fc : List Addr) : Prop where
  len : rho.length = σ.length
  slot : ∀ i d, rho[i]? = some (some d) → ∃ v, σ[i]? = some (some v) ∧ Rep G H phi v d (Fs i)
  nil : ∀ i, (∀ d, rho[i]? ≠ some (some d)) → Fs i = []
  own : ∀ i, ∀ a ∈ heldL (flag g i) (Fs i), N.H a = none ∧ (∃ o, H a = some o ∧ Mut (some o)) ∧ a ∉ Fc ∧ (∀ j, j ≠ i → a ∉ Fs j) ∧ ∀ p ∈ P, a ∉ p.2.2
  top : ∀ i, flag g i = 1 → ∀ d, rho[i]? = some (some d) → hasTop d = true ∧ ∃ a r, Fs i = a :: r ∧ a ∉ r
  nd : ∀ i, 2 ≤ flag g i → (Fs i).Nodup
  pins : ∀ p ∈ P, Rep G H phi p.1 p.2.1 p.2.2
  cells : CellsOk G H phi mu Fc
  step : Step N.H N.phi H phi
  baseS : ∀ i, ∀ a ∈ Fs i, N.H a = none ∨ a ∈ N.Ba ∨ a ∈ N.Bc
  baseC : ∀ a ∈ Fc, N.H a = none ∨ a ∈ N.Bc

theorem Ok.tracked {G : Gx} {N : Entr} {P : List Pin} {g : Gm} {rho : Rho} {mu : Mu} {σ : St} {H : Hp} {phi : List Addr} {Fs : Nat → List Addr} {Fc : List Addr} (o : Ok G N P g rho mu σ H phi Fs Fc) {i : Nat} {a : Addr} (h : a ∈ Fs i) : (∃ u, H a = some u ∧ Held u) ∧ a ∉ phi := by
  by_cases e : ∃ d, rho[i]? = some (some d)
  · obtain ⟨d, e⟩ := e
    obtain ⟨v, _, r⟩ := o.slot i d e
    exact r.on a h
  · rw [o.nil i fun d z => e ⟨d, z⟩] at h
    cases h

/-- from one heap to a later one where the slots stay -/
theorem Ok.step' {G : Gx} {N : Entr} {P : List Pin} {g : Gm} {rho : Rho} {mu mu' : Mu} {σ : St} {H H' : Hp} {phi phi' : List Addr} {Fs : Nat → List Addr} {Fc Fc' : List Addr} (o : Ok G N P g rho mu σ H phi Fs Fc)
    (s : Step H phi H' phi') (c : CellsOk G H' phi' mu' Fc') (b : ∀ a ∈ Fc', a ∈ Fc ∨ H a = none) : Ok G N P g rho mu' σ H' phi' Fs Fc' where
  len := o.len
  slot := fun i d e => let ⟨v, h1, h2⟩ := o.slot i d e; ⟨v, h1, h2.step s⟩
  nil := o.nil
  own := fun i a ha => by
    obtain ⟨h1, ⟨u, h2, h3⟩, h4, h5, h6⟩ := o.own i a ha
    have nphi := (o.tracked (heldL_sub ha)).2
    refine ⟨h1, ⟨u, s.same a u h2 nphi, h3⟩, fun z => ?_, h5, h6⟩
    rcases b a z with z | z
    · exact h4 z
    · rw [h2] at z; cases z
  top := o.top
  nd := o.nd
  pins := fun p hp => (o.pins p hp).step s
  cells := c
  step := o.step.trans s
  baseS := o.baseS
  baseC := fun a ha => (b a ha).elim (o.baseC a) fun e => .inl (o.step.free e)

/-! ## What an expression gives -/
inductive Out (α : Type) where
  | ok (a : α) (mu : Mu)
  | ex (c : Str) (mu : Mu)
  | bad
abbrev DE := Rho → Mu → Out D
abbrev DT := Rho → Mu → Out Bool
abbrev DA := Rho → Mu → Out (List D)

/-- how fresh it is: 0 nothing known, 1 its own top is new and nowhere else, 2 all that it hangs on is new and nowhere else, 3 it hangs on nothing -/
def Fresh (fl : Nat) (H H' : Hp) (d : D) (F : List Addr) : Prop := match fl with
  | 0 => True
  | 1 => hasTop d = true ∧ ∃ a r, F = a :: r ∧ H a = none ∧ a ∉ r ∧ ∃ o, H' a = some o ∧ Mut (some o)
  | 2 => F.Nodup ∧ ∀ a ∈ F, H a = none ∧ ∃ o, H' a = some o ∧ Mut (some o)
  | _ => F = []
def bnd (g : Gm) (Fs : Nat → List Addr) (Fc : List Addr) (H : Hp) (A : List Nat) (F : List Addr) : Prop :=
  ∀ a ∈ F, H a = none ∨ a ∈ Fc ∨ ∃ i, a ∈ Fs i ∧ (i ∈ A ∨ a ∉ heldL (flag g i) (Fs i))
def flS (fl : Nat) : Nat := if 2 ≤ fl then 2 else fl
structure Val (G : Gx) (g : Gm) (A E : List Nat) (fl : Nat) (Fs : Nat → List Addr) (Fc : List Addr) (H H' : Hp) (phi' Fc' : List Addr) (v : V) (d : D) (F : List Addr) : Prop where
  rep : Rep G H' phi' v d F
  bd : bnd g Fs Fc H A F
  be : bnd g Fs Fc H E (elems d F)
  fr : Fresh fl H H' d F
  nc : ∀ a ∈ heldL (flS fl) F, a ∉ Fc'
structure Vals' (G : Gx) (g : Gm) (A : List Nat) (fl : Nat) (Fs : Nat → List Addr) (Fc : List Addr) (H H' : Hp) (phi' Fc' : List Addr) (vs : List V) (ds : List D) (F : List Addr) : Prop where
  rep : Reps G H' phi' vs ds F
  bd : bnd g Fs Fc H A F
  fr : 2 ≤ fl → F.Nodup ∧ ∀ a ∈ F, H a = none ∧ ∃ o, H' a = some o ∧ Mut (some o)
  f3 : 3 ≤ fl → F = []
  nc : 2 ≤ fl → ∀ a ∈ F, a ∉ Fc'
/-- cells behind -/
structure CB (G : Gx) (Fc : List Addr) (H : Hp) (phi : List Addr) (H' : Hp) (phi' : List Addr) (mu' : Mu) (Fc' : List Addr) : Prop where
  st : Step H phi H' phi'
  ce : CellsOk G H' phi' mu' Fc'
  bc : ∀ a ∈ Fc', a ∈ Fc ∨ H a = none

theorem CB.trans {G : Gx} {Fc Fc1 Fc2 : List Addr} {H H1 H2 : Hp} {phi phi1 phi2 : List Addr} {mu1 mu2 : Mu} (a : CB G Fc H phi H1 phi1 mu1 Fc1) (b : CB G Fc1 H1 phi1 H2 phi2 mu2 Fc2) : CB G Fc H phi H2 phi2 mu2 Fc2 :=
  ⟨a.st.trans b.st, b.ce, fun c h => (b.bc c h).elim (a.bc c) fun e => .inr (a.st.free e)⟩
theorem CB.refl {G : Gx} {Fc : List Addr} {H : Hp} {phi : List Addr} {mu : Mu} (c : CellsOk G H phi mu Fc) : CB G Fc H phi H phi mu Fc := ⟨.refl c.ntup, c, fun _ h => .inl h⟩
theorem CB.same {G : Gx} {Fc Fc' : List Addr} {H H' H2 : Hp} {phi phi' : List Addr} {mu : Mu} (a : CB G Fc H phi H' phi' mu Fc') (s : Same H' H2) : CB G Fc H phi H2 phi' mu Fc' :=
  a.trans ⟨.of_same a.ce.ntup s, a.ce.same s, fun _ h => .inl h⟩
theorem Ok.cb {G : Gx} {N : Entr} {P : List Pin} {g : Gm} {rho : Rho} {mu mu' : Mu} {σ : St} {H H' : Hp} {phi phi' : List Addr} {Fs : Nat → List Addr} {Fc Fc' : List Addr} (o : Ok G N P g rho mu σ H phi Fs Fc)
    (c : CB G Fc H phi H' phi' mu' Fc') : Ok G N P g rho mu' σ H' phi' Fs Fc' := o.step' c.st c.ce c.bc
/-- a bound told at a later heap -/
theorem bnd.back {G : Gx} {g : Gm} {Fs : Nat → List Addr} {Fc Fc' : List Addr} {H H' : Hp} {phi phi' : List Addr} {mu' : Mu} {A : List Nat} {F : List Addr} (b : bnd g Fs Fc' H' A F) (c : CB G Fc H phi H' phi' mu' Fc') : bnd g Fs Fc H A F := fun a ha => by
  rcases b a ha with h | h | h
  · exact .inl (c.st.free h)
  · exact (c.bc a h).elim (fun z => .inr (.inl z)) .inl
  · exact .inr (.inr h)
theorem bnd.mono {g : Gm} {Fs : Nat → List Addr} {Fc : List Addr} {H : Hp} {A B : List Nat} {F : List Addr} (b : bnd g Fs Fc H A F) (h : ∀ i ∈ A, i ∈ B) : bnd g Fs Fc H B F := fun a ha =>
  (b a ha).imp id fun z => z.imp id fun ⟨i, h1, h2⟩ => ⟨i, h1, h2.imp (h i) id⟩
theorem bnd.sub {g : Gm} {Fs : Nat → List Addr} {Fc : List Addr} {H : Hp} {A : List Nat} {F F' : List Addr} (b : bnd g Fs Fc H A F) (h : ∀ a ∈ F', a ∈ F) : bnd g Fs Fc H A F' := fun a ha => b a (h a ha)
theorem bnd.app {g : Gm} {Fs : Nat → List Addr} {Fc : List Addr} {H : Hp} {A : List Nat} {F F' : List Addr} (b : bnd g Fs Fc H A F) (c : bnd g Fs Fc H A F') : bnd g Fs Fc H A (F ++ F') := fun a ha => (List.mem_append.mp ha).elim (b a) (c a)
theorem bnd.none {g : Gm} {Fs : Nat → List Addr} {Fc : List Addr} {H : Hp} {A : List Nat} {F : List Addr} (h : ∀ a ∈ F, H a = Option.none) : bnd g Fs Fc H A F := fun a ha => .inl (h a ha)
theorem bnd.nil {g : Gm} {Fs : Nat → List Addr} {Fc : List Addr} {H : Hp} {A : List Nat} : bnd g Fs Fc H A [] := fun _ h => nomatch h

/-- the slots whose lists may be in a result of such freshness -/
def al (fl : Nat) (A : List Nat) : List Nat := if 2 ≤ fl then [] else A

def exK (G : Gx) (W : WX) (Fc : List Addr) (σ : St) (H : Hp) (phi : List Addr) (c : Str) (mu : Mu) : Prop :=
  ∀ C H' phi' Fc', G.mg c = some (.ref C) → CB G Fc H phi H' phi' mu Fc' → W (.ref C) none σ H'
def okE (G : Gx) (g : Gm) (A E : List Nat) (fl : Nat) (Fs : Nat → List Addr) (Fc : List Addr) (H : Hp) (phi : List Addr) (Q : VK) (d : D) (mu : Mu) : Prop :=
  ∀ v H' phi' Fc' F, CB G Fc H phi H' phi' mu Fc' → Val G g A E fl Fs Fc H H' phi' Fc' v d F → Q v H'
def okA (G : Gx) (g : Gm) (A : List Nat) (fl : Nat) (Fs : Nat → List Addr) (Fc : List Addr) (H : Hp) (phi : List Addr) (Q : List V → Hp → Prop) (d : List D) (mu : Mu) : Prop :=
  ∀ v H' phi' Fc' F, CB G Fc H phi H' phi' mu Fc' → Vals' G g A fl Fs Fc H H' phi' Fc' v d F → Q v H'
def okT (G : Gx) (Fc : List Addr) (H : Hp) (phi : List Addr) (Q : Bool → Hp → Prop) (b : Bool) (mu : Mu) : Prop :=
  ∀ H' phi' Fc', CB G Fc H phi H' phi' mu Fc' → Q b H'
def cse {α : Type} (o : Out α) (k : α → Mu → Prop) (e : Str → Mu → Prop) : Prop := match o with
  | .ok a mu => k a mu
  | .ex c mu => e c mu
  | .bad => False
def dE (G : Gx) (W : WX) (N : Entr) (g : Gm) (A E : List Nat) (fl : Nat) (f : DE) : TE := fun σ H Q => ∃ P rho mu phi Fs Fc, Ok G N P g rho mu σ H phi Fs Fc ∧
  cse (f rho mu) (okE G g A E fl Fs Fc H phi Q) (exK G W Fc σ H phi)
def dA (G : Gx) (W : WX) (N : Entr) (g : Gm) (A : List Nat) (fl : Nat) (f : DA) : TA := fun σ H Q => ∃ P rho mu phi Fs Fc, Ok G N P g rho mu σ H phi Fs Fc ∧
  cse (f rho mu) (okA G g A fl Fs Fc H phi Q) (exK G W Fc σ H phi)
def dT (G : Gx) (W : WX) (N : Entr) (g : Gm) (f : DT) : TT := fun σ H Q => ∃ P rho mu phi Fs Fc, Ok G N P g rho mu σ H phi Fs Fc ∧
  cse (f rho mu) (okT G Fc H phi Q) (exK G W Fc σ H phi)

def bind {α β : Type} (o : Out α) (k : α → Mu → Out β) : Out β := match o with
  | .ok a mu => k a mu
  | .ex c mu => .ex c mu
  | .bad => .bad
theorem cse_bind {α β : Type} {o : Out α} {k : α → Mu → Out β} {K : β → Mu → Prop} {e : Str → Mu → Prop} : cse (bind o k) K e = cse o (fun a mu => cse (k a mu) K e) e := by
  cases o <;> rfl
theorem cse_imp {α : Type} {o : Out α} {K K' : α → Mu → Prop} {e e' : Str → Mu → Prop} (h : cse o K e) (hk : ∀ a mu, K a mu → K' a mu) (he : ∀ c mu, e c mu → e' c mu) : cse o K' e' := by
  cases o with
  | ok a mu => exact hk a mu h
  | ex c mu => exact he c mu h
  | bad => exact h
def lift {α : Type} (o : Option α) (mu : Mu) : Out α := match o with
  | some a => .ok a mu
  | none => .bad
theorem cse_lift {α : Type} {o : Option α} {mu : Mu} {K : α → Mu → Prop} {e : Str → Mu → Prop} (h : cse (lift o mu) K e) : ∃ a, o = some a ∧ K a mu := by
  cases o with
  | none => exact h.elim
  | some a => exact ⟨a, rfl, h⟩

theorem peOf {X : Cx} {e : Expr} {t u : TE} (h : PE X e t) (k : ∀ σ H Q, u σ H Q → t σ H Q) : PE X e u := ⟨fun pins s σ H Q I hq => h.run pins s σ H Q I (k σ H Q hq)⟩
theorem ptOf {X : Cx} {e : Expr} {t u : TT} (h : PT X e t) (k : ∀ σ H Q, u σ H Q → t σ H Q) : PT X e u := ⟨fun pins s σ H Q I hq => h.run pins s σ H Q I (k σ H Q hq)⟩
theorem pwOf {X : Cx} {e : Expr} {t u : TT} (h : PW X e t) (k : ∀ σ H Q, u σ H Q → t σ H Q) : PW X e u := ⟨fun w pins s σ H Q I hq => h.run w pins s σ H Q I (k σ H Q hq)⟩
theorem paOf {X : Cx} {e : List Expr} {t u : TA} (h : PA X e t) (k : ∀ σ H Q, u σ H Q → t σ H Q) : PA X e u := ⟨fun pos pins s σ H Q I hq => h.run pos pins s σ H Q I (k σ H Q hq)⟩
theorem psOf {X : Cx} {e : Stmt} {t u : TS} (h : PS X e t) (k : ∀ D σ H, u D σ H → t D σ H) : PS X e u := ⟨fun pins s σ H D I hq => h.run pins s σ H D I (k D σ H hq)⟩
theorem pssOf {X : Cx} {e : List Stmt} {t u : TS} (h : PSs X e t) (k : ∀ D σ H, u D σ H → t D σ H) : PSs X e u := ⟨fun pins s σ H D I hq => h.run pins s σ H D I (k D σ H hq)⟩

section
variable {X : Cx} {W : WX} {N : Entr} {g : Gm} {A E A1 A2 E1 E2 : List Nat} {fl fl1 fl2 : Nat} {e a b : Expr} {es : List Expr} {pos : Pos}
/-- the exception's wish told at an earlier heap -/
theorem exK.back {Fc Fc1 : List Addr} {σ : St} {H H1 : Hp} {phi phi1 : List Addr} {mu1 : Mu} {c : Str} {mu : Mu} (h : exK (gx X) W Fc σ H phi c mu) (b : CB (gx X) Fc H phi H1 phi1 mu1 Fc1) : exK (gx X) W Fc1 σ H1 phi1 c mu :=
  fun C H' phi' Fc' m b' => h C H' phi' Fc' m (b.trans b')

/-! ### names, constants -/
def dVar (i : Nat) : DE := fun rho mu => match rho[i]? with
  | some (some d) => .ok d mu
  | _ => .bad
def eOf (g : Gm) (i : Nat) : List Nat := if flag g i = 1 then [] else [i]
theorem pd_var {i : Nat} (h : PE X e (tVar i)) : PE X e (dE (gx X) W N g [i] (eOf g i) 0 (dVar i)) := by
  refine peOf h fun σ H Q ⟨P, rho, mu, phi, Fs, Fc, o, q⟩ => ?_
  unfold dVar at q
  split at q
  · rename_i d hd
    obtain ⟨v, hv, r⟩ := o.slot i d hd
    refine ⟨v, hv, q v H phi Fc (Fs i) (.refl o.cells) ⟨r, fun a ha => .inr (.inr ⟨i, ha, .inl (by simp)⟩), fun a ha => ?_, trivial, fun _ h => nomatch h⟩⟩
    unfold eOf
    split
    · rename_i h1
      refine .inr (.inr ⟨i, elems_sub ha, .inr ?_⟩)
      obtain ⟨ht, x, t, e1, nx⟩ := o.top i h1 d hd
      rw [h1, e1]
      unfold elems at ha
      rw [ht, e1] at ha
      simp only [heldL, List.take_succ_cons, List.take_zero, List.mem_singleton]
      rintro rfl
      exact nx ha
    · exact .inr (.inr ⟨i, elems_sub ha, .inl (by simp)⟩)
  · exact q.elim
/-- a value without footprint -/
theorem val3 {fs : Nat → List Addr} {fc fc' : List Addr} {H H' : Hp} {phi : List Addr} {v : V} {d : D} (r : Rep (gx X) H' phi v d []) : Val (gx X) g A E 3 fs fc H H' phi fc' v d [] :=
  ⟨r, bnd.nil, by unfold elems; split <;> exact bnd.nil, rfl, fun _ h => nomatch h⟩
def dK (d : D) : DE := fun _ mu => .ok d mu
theorem pd_const {v : V} {d : D} (h : PE X e (tC v)) (r : ∀ H phi, Rep (gx X) H phi v d []) : PE X e (dE (gx X) W N g [] [] 3 (dK d)) :=
  peOf h fun σ H Q ⟨P, rho, mu, phi, Fs, Fc, o, q⟩ => q v H phi Fc [] (.refl o.cells) (val3 (r H phi))
theorem pd_int {i : Int} {j : Nat} : PE X (.Constant (.int i) j pos) (dE (gx X) W N g [] [] 3 (dK (.int i))) := pd_const pe_int fun _ _ => .int i
theorem pd_bl {i : Bool} {j : Nat} : PE X (.Constant (.bool i) j pos) (dE (gx X) W N g [] [] 3 (dK (.bl i))) := pd_const pe_bl fun _ _ => .bl i
theorem pd_non {j : Nat} : PE X (.Constant .none j pos) (dE (gx X) W N g [] [] 3 (dK .non)) := pd_const pe_non fun _ _ => .non
theorem pd_str {i : Str} {j : Nat} : PE X (.Constant (.str i) j pos) (dE (gx X) W N g [] [] 3 (dK (.str i))) := pd_const pe_str fun _ _ => .str i
end
end Dv

namespace Dv
open PySem L2

theorem Fresh.two {fl : Nat} {H H' : Hp} {d : D} {F : List Addr} (h : 2 ≤ fl) (f : Fresh fl H H' d F) : F.Nodup ∧ ∀ a ∈ F, H a = none ∧ ∃ o, H' a = some o ∧ Mut (some o) := by
  match fl, h with
  | 2, _ => exact f
  | _ + 3, _ =>
    have e : F = [] := f
    subst e
    exact ⟨List.nodup_nil, fun _ h => nomatch h⟩
theorem Fresh.three {fl : Nat} {H H' : Hp} {d : D} {F : List Addr} (h : 3 ≤ fl) (f : Fresh fl H H' d F) : F = [] := by
  match fl, h with
  | _ + 3, _ => exact f
def flc (a b : Nat) : Nat := if 2 ≤ a ∧ 2 ≤ b then min a b else 0
theorem flc2 {a b : Nat} (h : 2 ≤ flc a b) : 2 ≤ a ∧ 2 ≤ b := by unfold flc at h; split at h <;> omega
theorem flc3 {a b : Nat} (h : 3 ≤ flc a b) : 3 ≤ a ∧ 3 ≤ b := by unfold flc at h; split at h <;> omega

section
variable {X : Cx} {W : WX} {N : Entr} {g : Gm} {A E A1 A2 E1 E2 : List Nat} {fl fl1 fl2 : Nat} {e a b : Expr} {es : List Expr} {pos : Pos}
def daNil : DA := fun _ mu => .ok [] mu
def daCons (f : DE) (r : DA) : DA := fun rho mu => bind (f rho mu) fun d mu1 => bind (r rho mu1) fun ds mu2 => .ok (d :: ds) mu2
theorem pda_nil : PA X [] (dA (gx X) W N g [] 3 daNil) :=
  paOf pa_nil fun σ H Q ⟨P, rho, mu, phi, Fs, Fc, o, q⟩ => q [] H phi Fc [] (.refl o.cells) ⟨.nil, bnd.nil, fun _ => ⟨List.nodup_nil, fun _ h => nomatch h⟩, fun _ => rfl, fun _ _ h => nomatch h⟩
/-- the bound of a value, less where it is fresh -/
theorem Val.bal {Fs : Nat → List Addr} {Fc : List Addr} {H H' : Hp} {phi : List Addr} {Fc' : List Addr} {v : V} {d : D} {F : List Addr} (x : Val (gx X) g A E fl Fs Fc H H' phi Fc' v d F) : bnd g Fs Fc H (al fl A) F := by
  unfold al
  split
  · rename_i h
    exact bnd.none fun a ha => ((x.fr.two h).2 a ha).1
  · exact x.bd
theorem Val.bale {Fs : Nat → List Addr} {Fc : List Addr} {H H' : Hp} {phi : List Addr} {Fc' : List Addr} {v : V} {d : D} {F : List Addr} (x : Val (gx X) g A E fl Fs Fc H H' phi Fc' v d F) : bnd g Fs Fc H (al fl E) (elems d F) := by
  unfold al
  split
  · rename_i h
    exact bnd.none fun a ha => ((x.fr.two h).2 a (elems_sub ha)).1
  · exact x.be
theorem pda_cons {fa : DE} {fr : DA} (ha : PE X e (dE (gx X) W N g A1 E1 fl1 fa)) (hr : PA X es (dA (gx X) W N g A2 fl2 fr)) (hs : starEach (e :: es) X.env = (false, eval e X.env) :: starEach es X.env := by rfl) :
    PA X (e :: es) (dA (gx X) W N g (al fl1 A1 ++ A2) (flc fl1 fl2) (daCons fa fr)) := by
  refine paOf (pa_cons ha hr hs) fun σ H Q ⟨P, rho, mu, phi, Fs, Fc, o, q⟩ => ⟨P, rho, mu, phi, Fs, Fc, o, ?_⟩
  unfold daCons at q
  rw [cse_bind] at q
  refine cse_imp q (fun d mu1 q v H1 phi1 Fc1 F1 c1 v1 => ⟨P, rho, mu1, phi1, Fs, Fc1, o.cb c1, ?_⟩) fun c mu1 q => q
  rw [cse_bind] at q
  refine cse_imp q (fun ds mu2 q vs H2 phi2 Fc2 F2 c2 v2 => ?_) fun c mu2 q => q.back c1
  refine q (v :: vs) H2 phi2 Fc2 (F1 ++ F2) (c1.trans c2) ⟨.cons (v1.rep.step c2.st) v2.rep, ?_, fun h => ?_, fun h => ?_, fun h a ha => ?_⟩
  · exact (v1.bal.mono fun _ => List.mem_append_left _).app ((v2.bd.back c1).mono fun _ => List.mem_append_right _)
  · obtain ⟨h1, h2⟩ := flc2 h
    obtain ⟨n1, k1⟩ := v1.fr.two h1
    obtain ⟨n2, k2⟩ := v2.fr h2
    refine ⟨List.nodup_append.mpr ⟨n1, n2, fun x hx y hy e => ?_⟩, fun a ha => ?_⟩
    · subst e
      obtain ⟨_, u, hu, _⟩ := k1 x hx
      rw [(k2 x hy).1] at hu; cases hu
    · rcases List.mem_append.mp ha with h | h
      · obtain ⟨g1, u, hu, hm⟩ := k1 a h
        exact ⟨g1, u, c2.st.same a u hu (v1.rep.on a h).2, hm⟩
      · obtain ⟨g1, g2⟩ := k2 a h
        exact ⟨c1.st.free g1, g2⟩
  · obtain ⟨h1, h2⟩ := flc3 h
    rw [v1.fr.three h1, v2.f3 h2]; rfl
  · obtain ⟨h1, h2⟩ := flc2 h
    rcases List.mem_append.mp ha with z | z
    · intro q
      have n1 := v1.nc a (by unfold flS; rw [if_pos h1]; exact z)
      obtain ⟨_, u, hu, _⟩ := (v1.fr.two h1).2 a z
      rcases c2.bc a q with q | q
      · exact n1 q
      · rw [hu] at q; cases q
    · exact v2.nc h2 a z

/-! ### displays -/
theorem rd_upd {H : Hp} {p : Addr} {o : HO} : Rd (upd H p o) p o := .inl upd_same
theorem CB.upd {G : Gx} {Fc Fc' : List Addr} {H H' : Hp} {phi phi' : List Addr} {mu : Mu} (a : CB G Fc H phi H' phi' mu Fc') {p : Addr} (hp : H' p = none) (o : HO) : CB G Fc H phi (upd H' p o) phi' mu Fc' :=
  a.same fun b u e => by rw [upd_ne (ne_of_none e hp)]; exact e
theorem notin_new {G : Gx} {H : Hp} {phi : List Addr} {mu : Mu} {Fc : List Addr} (c : CellsOk G H phi mu Fc) {p : Addr} (hp : H p = none) : p ∉ phi := fun z => by
  obtain ⟨vs, e⟩ := c.all.ntup p z
  rw [hp] at e; cases e
theorem stepUpd {G : Gx} {H : Hp} {phi : List Addr} {mu : Mu} {Fc : List Addr} (c : CellsOk G H phi mu Fc) {p : Addr} (hp : H p = none) (o : HO) : Step H phi (L2.upd H p o) phi := Step.mkUpd c.ntup hp o
def dLst (f : DA) : DE := fun rho mu => bind (f rho mu) fun ds mu1 => if ds.length ≤ 1000 then .ok (.lst ds) mu1 else .bad
def dTup (f : DA) : DE := fun rho mu => bind (f rho mu) fun ds mu1 => if ds.length ≤ 1000 then .ok (.tup ds) mu1 else .bad
theorem le1000 {n : Nat} (h : n ≤ 1000) : n ≤ sizeLine := Nat.le_trans h (by decide)
def flL (fl : Nat) : Nat := if 2 ≤ fl then 2 else 1
theorem pd_lst {f : DA} (h : PA X es (dA (gx X) W N g A fl f)) : PE X (.List es pos) (dE (gx X) W N g A A (flL fl) (dLst f)) := by
  refine peOf (pe_lst h) fun σ H Q ⟨P, rho, mu, phi, Fs, Fc, o, q⟩ => ⟨P, rho, mu, phi, Fs, Fc, o, ?_⟩
  unfold dLst at q
  rw [cse_bind] at q
  refine cse_imp q (fun ds mu1 q vs H1 phi1 Fc1 F1 c1 v1 => ?_) fun c mu1 q => q
  split at q
  rotate_left
  · exact q.elim
  rename_i hl
  refine ⟨by rw [v1.rep.length]; exact le1000 hl, fun p hp => ?_⟩
  have hp0 : H p = none := c1.st.free hp
  have np := notin_new c1.ce hp
  have nF : p ∉ F1 := fun z => by
    obtain ⟨⟨u, hu, _⟩, _⟩ := v1.rep.on p z
    rw [hp] at hu; cases hu
  have nfc : p ∉ Fc1 := fun z => by
    obtain ⟨⟨u, hu, _⟩, _⟩ := c1.ce.all.on p z
    rw [hp] at hu; cases hu
  refine q (.ref p) _ phi1 Fc1 (p :: F1) (c1.upd hp _) ⟨.lst rd_upd np (v1.rep.step (stepUpd c1.ce hp _)), ?_, v1.bd, ?_, fun a ha => ?_⟩
  · intro a ha
    rcases List.mem_cons.mp ha with rfl | ha
    · exact .inl hp0
    · exact v1.bd a ha
  · unfold flL
    split
    · rename_i h2
      obtain ⟨n1, k1⟩ := v1.fr h2
      refine ⟨List.nodup_cons.mpr ⟨nF, n1⟩, fun a ha => ?_⟩
      rcases List.mem_cons.mp ha with rfl | ha
      · exact ⟨hp0, _, upd_same, trivial⟩
      · obtain ⟨g1, u, hu, hm⟩ := k1 a ha
        exact ⟨g1, u, by rw [upd_ne (ne_of_none hu hp)]; exact hu, hm⟩
    · exact ⟨rfl, p, F1, rfl, hp0, nF, _, upd_same, trivial⟩
  · unfold flL at ha
    split at ha
    · rename_i h2
      rcases List.mem_cons.mp ha with rfl | ha
      · exact nfc
      · exact v1.nc h2 a ha
    · rcases List.mem_cons.mp ha with rfl | ha
      · exact nfc
      · cases ha
theorem pd_tup {f : DA} {k : Nat} (h : PA X es (dA (gx X) W N g A fl f)) : PE X (.Tuple es k pos) (dE (gx X) W N g A A (flc fl 3) (dTup f)) := by
  refine peOf (pe_tup h) fun σ H Q ⟨P, rho, mu, phi, Fs, Fc, o, q⟩ => ⟨P, rho, mu, phi, Fs, Fc, o, ?_⟩
  unfold dTup at q
  rw [cse_bind] at q
  refine cse_imp q (fun ds mu1 q vs H1 phi1 Fc1 F1 c1 v1 => ?_) fun c mu1 q => q
  split at q
  rotate_left
  · exact q.elim
  rename_i hl
  refine ⟨by rw [v1.rep.length]; exact le1000 hl, fun p hp => ?_⟩
  refine q (.ref p) _ phi1 Fc1 F1 (c1.upd hp _) ⟨.tup (SqT.of upd_same) (v1.rep.step (stepUpd c1.ce hp _)), v1.bd, v1.bd, ?_, fun a ha => ?_⟩
  rotate_left
  · have h2 : 2 ≤ fl := by
      unfold flc at ha
      split at ha
      · rename_i h; exact h.1
      · cases ha
    exact v1.nc h2 a (heldL_sub ha)
  unfold flc
  split
  · rename_i h2
    match fl, h2 with
    | 2, h2 =>
      obtain ⟨n1, k1⟩ := v1.fr h2.1
      refine ⟨n1, fun a ha => ?_⟩
      obtain ⟨g1, u, hu, hm⟩ := k1 a ha
      exact ⟨g1, u, by rw [upd_ne (ne_of_none hu hp)]; exact hu, hm⟩
    | m + 3, _ =>
      have e : min (m + 3) 3 = 3 := by omega
      rw [e]
      exact v1.f3 (by omega)
  · trivial

/-! ### operations by values -/
/-- what an operation may hand out: at a heap that has grown, of what its operands hang on (B) and new things -/
def Rlt (G : Gx) (H : Hp) (phi : List Addr) (B : List Addr) (fl : Nat) (d : D) (Q : VK) : Prop :=
  ∀ v H' F, Same H H' → Rep G H' phi v d F → (∀ a ∈ F, H a = none ∨ a ∈ B) → Fresh fl H H' d F → Q v H'
def NT (H : Hp) (phi : List Addr) : Prop := ∀ a ∈ phi, ∃ vs, H a = some (.lst vs)
abbrev Op1 := D → Option D
abbrev Op2 := D → D → Option D
def Sem1 (G : Gx) (r : V → Hp → VK → Prop) (f : Op1) (fl : Nat) : Prop := ∀ H phi x dx Fx d Q, NT H phi → Rep G H phi x dx Fx → f dx = some d → Rlt G H phi (elems dx Fx) fl d Q → r x H Q
def Sem2 (G : Gx) (r : R2) (f : Op2) (fl : Nat) : Prop := ∀ H phi x dx Fx y dy Fy d Q, NT H phi → Rep G H phi x dx Fx → Rep G H phi y dy Fy → f dx dy = some d → Rlt G H phi (elems dx Fx ++ elems dy Fy) fl d Q → r x y H Q
/-- an operation's answer, as the expression's -/
theorem Rlt.mk {Fs : Nat → List Addr} {Fc Fc1 : List Addr} {H H1 : Hp} {phi phi1 : List Addr} {mu1 : Mu} {B : List Addr} {d : D} {Q : VK} (q : okE (gx X) g A A fl Fs Fc H phi Q d mu1) (c : CB (gx X) Fc H phi H1 phi1 mu1 Fc1)
    (hb : 2 ≤ fl ∨ bnd g Fs Fc H A B) : Rlt (gx X) H1 phi1 B fl d Q := fun v H' F s r b f => by
  have c' := c.same s
  have nb : bnd g Fs Fc H A F := fun a ha => by
    rcases hb with h | h
    · exact .inl (c.st.free ((f.two h).2 a ha).1)
    · rcases b a ha with z | z
      · exact .inl (c.st.free z)
      · exact h a z
  refine q v H' phi1 Fc1 F c' ⟨r, nb, nb.sub fun a h => elems_sub h, ?_, fun a ha z => ?_⟩
  rotate_left
  · obtain ⟨⟨u, hu, _⟩, _⟩ := c.ce.all.on a z
    match fl, f, ha with
    | 0, _, ha => cases ha
    | 1, f, ha =>
      obtain ⟨_, x, t, rfl, h3, _⟩ := f
      have ha : a ∈ [x] := ha
      rw [List.mem_singleton.mp ha, h3] at hu; cases hu
    | n + 2, f, ha =>
      have := ((Fresh.two (fl := n + 2) (by omega) f).2 a (heldL_sub ha)).1
      rw [this] at hu; cases hu
  match fl, f with
  | 0, _ => trivial
  | 1, f =>
    obtain ⟨h1, x, t, h2, h3, h4⟩ := f
    exact ⟨h1, x, t, h2, c.st.free h3, h4⟩
  | 2, f => exact ⟨f.1, fun a ha => ⟨c.st.free (f.2 a ha).1, (f.2 a ha).2⟩⟩
  | _ + 3, f => exact f
def dOp1 (k : Op1) (f : DE) : DE := fun rho mu => bind (f rho mu) fun d mu1 => lift (k d) mu1
def dOp2 (k : Op2) (f1 f2 : DE) : DE := fun rho mu => bind (f1 rho mu) fun d mu1 => bind (f2 rho mu1) fun d2 mu2 => lift (k d d2) mu2
theorem sem1_go {r : V → Hp → VK → Prop} {k : Op1} {f : DE} {ta : TE} (hs : Sem1 (gx X) r k fl) {σ : St} {H : Hp} {Q : VK}
    (h : dE (gx X) W N g (al fl (al fl1 E1)) (al fl (al fl1 E1)) fl (dOp1 k f) σ H Q) : dE (gx X) W N g A1 E1 fl1 f σ H fun x H1 => r x H1 Q := by
  obtain ⟨P, rho, mu, phi, Fs, Fc, o, q⟩ := h
  refine ⟨P, rho, mu, phi, Fs, Fc, o, ?_⟩
  unfold dOp1 at q
  rw [cse_bind] at q
  refine cse_imp q (fun d mu1 q v H1 phi1 Fc1 F1 c1 v1 => ?_) fun c mu1 q => q
  obtain ⟨d', hd, q⟩ := cse_lift q
  refine hs H1 phi1 v d F1 d' Q c1.ce.all.ntup v1.rep hd (Rlt.mk q c1 ?_)
  unfold al
  by_cases h : 2 ≤ fl
  · exact .inl h
  · rw [if_neg h]; exact .inr v1.bale
theorem sem2_go {r : R2} {k : Op2} {f1 f2 : DE} (hs : Sem2 (gx X) r k fl) {σ : St} {H : Hp} {Q : VK}
    (h : dE (gx X) W N g (al fl (al fl1 E1 ++ al fl2 E2)) (al fl (al fl1 E1 ++ al fl2 E2)) fl (dOp2 k f1 f2) σ H Q) :
    dE (gx X) W N g A1 E1 fl1 f1 σ H fun x H1 => dE (gx X) W N g A2 E2 fl2 f2 σ H1 fun y H2 => r x y H2 Q := by
  obtain ⟨P, rho, mu, phi, Fs, Fc, o, q⟩ := h
  refine ⟨P, rho, mu, phi, Fs, Fc, o, ?_⟩
  unfold dOp2 at q
  rw [cse_bind] at q
  refine cse_imp q (fun d mu1 q v H1 phi1 Fc1 F1 c1 v1 => ⟨P, rho, mu1, phi1, Fs, Fc1, o.cb c1, ?_⟩) fun c mu1 q => q
  rw [cse_bind] at q
  refine cse_imp q (fun d2 mu2 q v2 H2 phi2 Fc2 F2 c2 w2 => ?_) fun c mu2 q => q.back c1
  obtain ⟨d', hd, q⟩ := cse_lift q
  refine hs H2 phi2 v d F1 v2 d2 F2 d' Q c2.ce.all.ntup (v1.rep.step c2.st) w2.rep hd (Rlt.mk q (c1.trans c2) ?_)
  unfold al
  by_cases h : 2 ≤ fl
  · exact .inl h
  · rw [if_neg h]; exact .inr ((v1.bale.mono fun _ => List.mem_append_left _).app ((w2.bale.back c1).mono fun _ => List.mem_append_right _))
abbrev al1 (fl fl1 : Nat) (E1 : List Nat) : List Nat := al fl (al fl1 E1)
abbrev al2 (fl fl1 fl2 : Nat) (E1 E2 : List Nat) : List Nat := al fl (al fl1 E1 ++ al fl2 E2)
/-- a op b -/
theorem pd_bin {op : Operator} {r : R2} {k : Op2} {f1 f2 : DE} (ho : OpR X (binaryOp op) r) (hs : Sem2 (gx X) r k fl) (ha : PE X a (dE (gx X) W N g A1 E1 fl1 f1)) (hb : PE X b (dE (gx X) W N g A2 E2 fl2 f2)) :
    PE X (.BinOp a op b pos) (dE (gx X) W N g (al2 fl fl1 fl2 E1 E2) (al2 fl fl1 fl2 E1 E2) fl (dOp2 k f1 f2)) := peOf (pe_op ho ha hb) fun _ _ _ h => sem2_go hs h
theorem pd_un {op : UnaryOp} {r : V → Hp → VK → Prop} {k : Op1} {f1 : DE} (ho : UnR X (unaryOp op) r) (hs : Sem1 (gx X) r k fl) (ha : PE X a (dE (gx X) W N g A1 E1 fl1 f1)) :
    PE X (.UnaryOp op a pos) (dE (gx X) W N g (al1 fl fl1 E1) (al1 fl fl1 E1) fl (dOp1 k f1)) := peOf (pe_un ho ha) fun _ _ _ h => sem1_go (ta := tVar 0) hs h
theorem pd_ix {r : R2} {k : Op2} {f1 f2 : DE} (ho : IxR X r) (hs : Sem2 (gx X) r k fl) (ha : PE X a (dE (gx X) W N g A1 E1 fl1 f1)) (hb : PE X b (dE (gx X) W N g A2 E2 fl2 f2)) (hp : PlainIx b) :
    PE X (.Subscript a b pos) (dE (gx X) W N g (al2 fl fl1 fl2 E1 E2) (al2 fl fl1 fl2 E1 E2) fl (dOp2 k f1 f2)) := peOf (pe_ix ho ha hb hp) fun _ _ _ h => sem2_go hs h
/-- a built-in of one argument, of two -/
theorem arg1 {t : TE} {r : List V → Hp → VK → Prop} {σ : St} {H : Hp} {Q : VK} (h : t σ H fun x H1 => r [x] H1 Q) : tCB r (tCons t tNil) σ H Q := h
theorem pd_call1 {id : String} {x : Str} {p : Pos} {r : List V → Hp → VK → Prop} {k : Op1} {f1 : DE} (hc : CallR X (.builtin id) r) (hs : Sem1 (gx X) (fun v H Q => r [v] H Q) k fl) (hg : Gl X x) (hm : X.mg x = none) (hv : bootBuiltins x = some (.builtin id))
    (ha : PE X a (dE (gx X) W N g A1 E1 fl1 f1)) (hn : x ≠ "__name__" := by decide) (hdb : (x == ("__debug__" : Str)) = false := by decide) (he : starEach [a] X.env = (false, eval a X.env) :: starEach [] X.env := by rfl) (hpl : (backTo pos (starEach [] X.env)).any (·.1) = false := by rfl) :
    PE X (.Call (.Name x p) [a] [] pos) (dE (gx X) W N g (al1 fl fl1 E1) (al1 fl fl1 E1) fl (dOp1 k f1)) := peOf (pe_callB hc hg hm hv (pa_cons ha pa_nil he) hn hdb he hpl) fun σ H Q h => sem1_go (r := fun v H Q => r [v] H Q) (ta := tVar 0) hs h
theorem pd_call2 {id : String} {x : Str} {p : Pos} {r : List V → Hp → VK → Prop} {k : Op2} {f1 f2 : DE} (hc : CallR X (.builtin id) r) (hs : Sem2 (gx X) (fun v u H Q => r [v, u] H Q) k fl) (hg : Gl X x) (hm : X.mg x = none) (hv : bootBuiltins x = some (.builtin id))
    (ha : PE X a (dE (gx X) W N g A1 E1 fl1 f1)) (hb : PE X b (dE (gx X) W N g A2 E2 fl2 f2)) (hn : x ≠ "__name__" := by decide) (hdb : (x == ("__debug__" : Str)) = false := by decide) (he : starEach [a, b] X.env = (false, eval a X.env) :: starEach [b] X.env := by rfl) (he2 : starEach [b] X.env = (false, eval b X.env) :: starEach [] X.env := by rfl) (hpl : (backTo pos (starEach [b] X.env)).any (·.1) = false := by rfl) :
    PE X (.Call (.Name x p) [a, b] [] pos) (dE (gx X) W N g (al2 fl fl1 fl2 E1 E2) (al2 fl fl1 fl2 E1 E2) fl (dOp2 k f1 f2)) := peOf (pe_callB hc hg hm hv (pa_cons ha (pa_cons hb pa_nil he2) he) hn hdb he hpl) fun σ H Q h => sem2_go (r := fun v u H Q => r [v, u] H Q) hs h
theorem pd_ty1 {T : String} {x : Str} {p : Pos} {r : List V → Hp → VK → Prop} {k : Op1} {f1 : DE} (hc : CallR X (.type T) r) (hs : Sem1 (gx X) (fun v H Q => r [v] H Q) k fl) (hg : Gl X x) (hm : X.mg x = none) (hv : bootBuiltins x = some (.type T))
    (ha : PE X a (dE (gx X) W N g A1 E1 fl1 f1)) (hn : x ≠ "__name__" := by decide) (hdb : (x == ("__debug__" : Str)) = false := by decide) (he : starEach [a] X.env = (false, eval a X.env) :: starEach [] X.env := by rfl) (hpl : (backTo pos (starEach [] X.env)).any (·.1) = false := by rfl) :
    PE X (.Call (.Name x p) [a] [] pos) (dE (gx X) W N g (al1 fl fl1 E1) (al1 fl fl1 E1) fl (dOp1 k f1)) := peOf (pe_callTy hc hg hm hv (pa_cons ha pa_nil he) hn hdb he hpl) fun σ H Q h => sem1_go (r := fun v H Q => r [v] H Q) (ta := tVar 0) hs h
end
end Dv

namespace Dv
open PySem L2

section
variable {X : Cx} {W : WX} {N : Entr} {g : Gm} {A E A1 A2 E1 E2 : List Nat} {fl fl1 fl2 : Nat} {e a b c : Expr} {es rest : List Expr} {pos : Pos}
/-! ### tests -/
def dB (f : DE) : DT := fun rho mu => bind (f rho mu) fun d mu1 => match d with
  | .bl b => .ok b mu1
  | _ => .bad
theorem dB_go {f : DE} {σ : St} {H : Hp} {Q : Bool → Hp → Prop} (h : dT (gx X) W N g (dB f) σ H Q) : dE (gx X) W N g A E fl f σ H fun x H1 => ∃ c, x = .bl c ∧ Q c H1 := by
  obtain ⟨P, rho, mu, phi, Fs, Fc, o, q⟩ := h
  refine ⟨P, rho, mu, phi, Fs, Fc, o, ?_⟩
  unfold dB at q
  rw [cse_bind] at q
  refine cse_imp q (fun d mu1 q v H1 phi1 Fc1 F1 c1 v1 => ?_) fun c mu1 q => q
  split at q
  · have r := v1.rep
    cases r
    exact ⟨_, rfl, q H1 phi1 Fc1 c1⟩
  · exact q.elim
theorem pdt_val {f : DE} (h : PE X e (dE (gx X) W N g A E fl f)) (he : ∀ whole, isTrue e X.env whole = (do let v ← whole; standAt e.pos; holding [v] (truthy v)) := by intro _; rfl) : PT X e (dT (gx X) W N g (dB f)) :=
  ptOf (pt_val h he) fun _ _ _ h => dB_go h
/-- a comparison by data -/
abbrev OpB := D → D → Option Bool
def SemB (G : Gx) (r : R2) (k : OpB) : Prop := ∀ H phi x dx Fx y dy Fy b (Q : VK), NT H phi → Rep G H phi x dx Fx → Rep G H phi y dy Fy → k dx dy = some b → Q (.bl b) H → r x y H Q
def dCmp (k : OpB) (f1 f2 : DE) : DT := fun rho mu => bind (f1 rho mu) fun d mu1 => bind (f2 rho mu1) fun d2 mu2 => lift (k d d2) mu2
theorem cmp_go {r : R2} {k : OpB} {f1 f2 : DE} (hs : SemB (gx X) r k) {σ : St} {H : Hp} {Q : VK} (h : dT (gx X) W N g (dCmp k f1 f2) σ H fun b H1 => Q (.bl b) H1) :
    dE (gx X) W N g A1 E1 fl1 f1 σ H fun x H1 => dE (gx X) W N g A2 E2 fl2 f2 σ H1 fun y H2 => r x y H2 Q := by
  obtain ⟨P, rho, mu, phi, Fs, Fc, o, q⟩ := h
  refine ⟨P, rho, mu, phi, Fs, Fc, o, ?_⟩
  unfold dCmp at q
  rw [cse_bind] at q
  refine cse_imp q (fun d mu1 q v H1 phi1 Fc1 F1 c1 v1 => ⟨P, rho, mu1, phi1, Fs, Fc1, o.cb c1, ?_⟩) fun c mu1 q => q
  rw [cse_bind] at q
  refine cse_imp q (fun d2 mu2 q v2 H2 phi2 Fc2 F2 c2 w2 => ?_) fun c mu2 q => q.back c1
  obtain ⟨b, hb, q⟩ := cse_lift q
  exact hs H2 phi2 v d F1 v2 d2 F2 b Q c2.ce.all.ntup (v1.rep.step c2.st) w2.rep hb (q H2 phi2 Fc2 (c1.trans c2))
theorem pdt_cmp {op : CmpOp} {r : R2} {k : OpB} {f1 f2 : DE} (ho : OpR X (compareOp op) r) (hs : SemB (gx X) r k) (ha : PE X a (dE (gx X) W N g A1 E1 fl1 f1)) (hb : PE X b (dE (gx X) W N g A2 E2 fl2 f2)) (hm : behindInMarks op b = false) :
    PT X (.Compare a [op] [b] pos) (dT (gx X) W N g (dCmp k f1 f2)) := by
  refine ptOf (pt_cmpR ho ha hb hm) fun σ H Q h => cmp_go hs ?_
  obtain ⟨P, rho, mu, phi, Fs, Fc, o, q⟩ := h
  exact ⟨P, rho, mu, phi, Fs, Fc, o, cse_imp q (fun b mu q H' phi' Fc' c => ⟨b, rfl, q H' phi' Fc' c⟩) fun _ _ q => q⟩
def dNot (f : DT) : DT := fun rho mu => bind (f rho mu) fun b mu1 => .ok (!b) mu1
theorem pdt_not {f : DT} (h : PT X a (dT (gx X) W N g f)) : PT X (.UnaryOp .Not a pos) (dT (gx X) W N g (dNot f)) := by
  refine ptOf (pt_not h) fun σ H Q ⟨P, rho, mu, phi, Fs, Fc, o, q⟩ => ⟨P, rho, mu, phi, Fs, Fc, o, ?_⟩
  unfold dNot at q
  rw [cse_bind] at q
  exact q
def dAnd (f1 f2 : DT) : DT := fun rho mu => bind (f1 rho mu) fun b mu1 => if b = true then f2 rho mu1 else .ok false mu1
def dOr (f1 f2 : DT) : DT := fun rho mu => bind (f1 rho mu) fun b mu1 => if b = true then .ok true mu1 else f2 rho mu1
theorem okT.back {Fc Fc1 : List Addr} {H H1 : Hp} {phi phi1 : List Addr} {mu1 mu : Mu} {Q : Bool → Hp → Prop} {b : Bool} (h : okT (gx X) Fc H phi Q b mu) (c : CB (gx X) Fc H phi H1 phi1 mu1 Fc1) : okT (gx X) Fc1 H1 phi1 Q b mu := fun H' phi' Fc' c' => h H' phi' Fc' (c.trans c')
theorem pdw_one {f : DT} (ha : PT X a (dT (gx X) W N g f)) : PW X (.BoolOp .And [a] pos) (dT (gx X) W N g f) := pw_and1 ha
theorem pdw_one' {f : DT} (ha : PT X a (dT (gx X) W N g f)) : PW X (.BoolOp .Or [a] pos) (dT (gx X) W N g f) := pw_or1 ha
theorem pdw_and {f1 f2 : DT} (ha : PT X a (dT (gx X) W N g f1)) (hb : PW X (.BoolOp .And (b :: rest) pos) (dT (gx X) W N g f2)) : PW X (.BoolOp .And (a :: b :: rest) pos) (dT (gx X) W N g (dAnd f1 f2)) := by
  refine pwOf (pw_and ha hb) fun σ H Q ⟨P, rho, mu, phi, Fs, Fc, o, q⟩ => ⟨P, rho, mu, phi, Fs, Fc, o, ?_⟩
  unfold dAnd at q
  rw [cse_bind] at q
  refine cse_imp q (fun d mu1 q H1 phi1 Fc1 c1 => ?_) fun c mu1 q => q
  cases d with
  | true => exact ⟨P, rho, mu1, phi1, Fs, Fc1, o.cb c1, cse_imp q (fun _ _ q => q.back c1) fun _ _ q => q.back c1⟩
  | false => exact q H1 phi1 Fc1 c1
theorem pdw_or {f1 f2 : DT} (ha : PT X a (dT (gx X) W N g f1)) (hb : PW X (.BoolOp .Or (b :: rest) pos) (dT (gx X) W N g f2)) : PW X (.BoolOp .Or (a :: b :: rest) pos) (dT (gx X) W N g (dOr f1 f2)) := by
  refine pwOf (pw_or ha hb) fun σ H Q ⟨P, rho, mu, phi, Fs, Fc, o, q⟩ => ⟨P, rho, mu, phi, Fs, Fc, o, ?_⟩
  unfold dOr at q
  rw [cse_bind] at q
  refine cse_imp q (fun d mu1 q H1 phi1 Fc1 c1 => ?_) fun c mu1 q => q
  cases d with
  | false => exact ⟨P, rho, mu1, phi1, Fs, Fc1, o.cb c1, cse_imp q (fun _ _ q => q.back c1) fun _ _ q => q.back c1⟩
  | true => exact q H1 phi1 Fc1 c1
/-! ### truth values as values -/
def dV (f : DT) : DE := fun rho mu => bind (f rho mu) fun b mu1 => .ok (.bl b) mu1
def asB (f : DE) : DE := dV (dB f)
theorem bl_val {Fs : Nat → List Addr} {Fc Fc' : List Addr} {H H' : Hp} {phi : List Addr} (k : Bool) : Val (gx X) g A E 3 Fs Fc H H' phi Fc' (.bl k) (.bl k) [] := val3 (.bl k)
theorem dV_go {f : DT} {σ : St} {H : Hp} {Q : VK} (h : dE (gx X) W N g A E 3 (dV f) σ H Q) : dT (gx X) W N g f σ H fun b H1 => Q (.bl b) H1 := by
  obtain ⟨P, rho, mu, phi, Fs, Fc, o, q⟩ := h
  refine ⟨P, rho, mu, phi, Fs, Fc, o, ?_⟩
  unfold dV at q
  rw [cse_bind] at q
  exact cse_imp q (fun b mu1 q H1 phi1 Fc1 c1 => q _ H1 phi1 Fc1 [] c1 (bl_val _)) fun _ _ q => q
theorem pd_cmp {op : CmpOp} {r : R2} {k : OpB} {f1 f2 : DE} (ho : OpR X (compareOp op) r) (hs : SemB (gx X) r k) (ha : PE X a (dE (gx X) W N g A1 E1 fl1 f1)) (hb : PE X b (dE (gx X) W N g A2 E2 fl2 f2)) (hm : behindInMarks op b = false) :
    PE X (.Compare a [op] [b] pos) (dE (gx X) W N g [] [] 3 (dV (dCmp k f1 f2))) := peOf (pe_cmpR ho ha hb hm) fun σ H Q h => cmp_go hs (dV_go h)
theorem okE.back {Fs : Nat → List Addr} {Fc Fc1 : List Addr} {H H1 : Hp} {phi phi1 : List Addr} {mu1 mu : Mu} {Q : VK} {d : D} (h : okE (gx X) g A E fl Fs Fc H phi Q d mu) (c : CB (gx X) Fc H phi H1 phi1 mu1 Fc1) : okE (gx X) g A E fl Fs Fc1 H1 phi1 Q d mu :=
  fun v H' phi' Fc' F c' w => h v H' phi' Fc' F (c.trans c') ⟨w.rep, w.bd.back c, w.be.back c, by
    have f := w.fr
    match fl, f with
    | 0, _ => trivial
    | 1, f =>
      obtain ⟨h1, x, t, h2, h3, h4⟩ := f
      exact ⟨h1, x, t, h2, c.st.free h3, h4⟩
    | 2, f => exact ⟨f.1, fun a ha => ⟨c.st.free (f.2 a ha).1, (f.2 a ha).2⟩⟩
    | _ + 3, f => exact f, w.nc⟩
theorem pd_not {f : DE} (h : PE X a (dE (gx X) W N g A1 E1 fl1 f)) : PE X (.UnaryOp .Not a pos) (dE (gx X) W N g [] [] 3 (dV (dNot (dB f)))) := by
  refine peOf (pe_not h) fun σ H Q h => dB_go (X := X) (W := W) (N := N) (g := g) ?_
  obtain ⟨P, rho, mu, phi, Fs, Fc, o, q⟩ := h
  refine ⟨P, rho, mu, phi, Fs, Fc, o, ?_⟩
  unfold dV dNot at q
  rw [cse_bind, cse_bind] at q
  exact cse_imp q (fun b mu1 q H1 phi1 Fc1 c1 => q _ H1 phi1 Fc1 [] c1 (bl_val _)) fun _ _ q => q
theorem pd_one {op} {f : DE} (h : PE X a (dE (gx X) W N g A1 E1 fl1 f)) : PE X (.BoolOp op [a] pos) (dE (gx X) W N g A1 E1 fl1 f) := pe_one h
theorem pd_and {f1 f2 : DE} (ha : PE X a (dE (gx X) W N g A1 E1 fl1 f1)) (hb : PE X (.BoolOp .And (b :: rest) pos) (dE (gx X) W N g A2 E2 fl2 f2)) : PE X (.BoolOp .And (a :: b :: rest) pos) (dE (gx X) W N g [] [] 3 (dV (dAnd (dB f1) (dB f2)))) := by
  refine peOf (pe_and ha hb) fun σ H Q h => dB_go (X := X) (W := W) (N := N) (g := g) ?_
  obtain ⟨P, rho, mu, phi, Fs, Fc, o, q⟩ := h
  refine ⟨P, rho, mu, phi, Fs, Fc, o, ?_⟩
  unfold dV dAnd at q
  rw [cse_bind, cse_bind] at q
  refine cse_imp q (fun c mu1 q H1 phi1 Fc1 c1 => ?_) fun _ _ q => q
  cases c with
  | true =>
    rw [if_pos rfl]
    have z : dT (gx X) W N g (dB f2) σ H1 fun k H2 => Q (.bl k) H2 := ⟨P, rho, mu1, phi1, Fs, Fc1, o.cb c1, cse_imp q (fun k _ q H2 phi2 Fc2 c2 => q _ H2 phi2 Fc2 [] (c1.trans c2) (bl_val _)) fun _ _ q => q.back c1⟩
    have y := dB_go (A := A2) (E := E2) (fl := fl2) z
    obtain ⟨P, rho, mu, phi, Fs, Fc, o, y⟩ := y
    exact ⟨P, rho, mu, phi, Fs, Fc, o, cse_imp y (fun d mu y v H' phi' Fc' F c w => by
      obtain ⟨k, e, q⟩ := y v H' phi' Fc' F c w
      subst e; exact q) fun _ _ y => y⟩
  | false => exact q _ H1 phi1 Fc1 [] c1 (bl_val _)
theorem pd_or {f1 f2 : DE} (ha : PE X a (dE (gx X) W N g A1 E1 fl1 f1)) (hb : PE X (.BoolOp .Or (b :: rest) pos) (dE (gx X) W N g A2 E2 fl2 f2)) : PE X (.BoolOp .Or (a :: b :: rest) pos) (dE (gx X) W N g [] [] 3 (dV (dOr (dB f1) (dB f2)))) := by
  refine peOf (pe_or ha hb) fun σ H Q h => dB_go (X := X) (W := W) (N := N) (g := g) ?_
  obtain ⟨P, rho, mu, phi, Fs, Fc, o, q⟩ := h
  refine ⟨P, rho, mu, phi, Fs, Fc, o, ?_⟩
  unfold dV dOr at q
  rw [cse_bind, cse_bind] at q
  refine cse_imp q (fun c mu1 q H1 phi1 Fc1 c1 => ?_) fun _ _ q => q
  cases c with
  | false =>
    rw [if_neg Bool.false_ne_true]
    have z : dT (gx X) W N g (dB f2) σ H1 fun k H2 => Q (.bl k) H2 := ⟨P, rho, mu1, phi1, Fs, Fc1, o.cb c1, cse_imp q (fun k _ q H2 phi2 Fc2 c2 => q _ H2 phi2 Fc2 [] (c1.trans c2) (bl_val _)) fun _ _ q => q.back c1⟩
    have y := dB_go (A := A2) (E := E2) (fl := fl2) z
    obtain ⟨P, rho, mu, phi, Fs, Fc, o, y⟩ := y
    exact ⟨P, rho, mu, phi, Fs, Fc, o, cse_imp y (fun d mu y v H' phi' Fc' F c w => by
      obtain ⟨k, e, q⟩ := y v H' phi' Fc' F c w
      subst e; exact q) fun _ _ y => y⟩
  | true => exact q _ H1 phi1 Fc1 [] c1 (bl_val _)
/-- a op1 b op2 c -/
def dChain (k1 k2 : OpB) (f1 f2 f3 : DE) : DT := fun rho mu => bind (f1 rho mu) fun x mu1 => bind (f2 rho mu1) fun y mu2 => bind (lift (k1 x y) mu2) fun z mu3 =>
  if z = true then bind (f3 rho mu3) fun w mu4 => lift (k2 y w) mu4 else .ok false mu3
theorem chain_go {r r' : R2} {k1 k2 : OpB} {f1 f2 f3 : DE} {A3 E3 : List Nat} {fl3 : Nat} (hs : SemB (gx X) r k1) (hs' : SemB (gx X) r' k2) {σ : St} {H : Hp} {Q : VK} (h : dT (gx X) W N g (dChain k1 k2 f1 f2 f3) σ H fun b H1 => Q (.bl b) H1) :
    tChain r r' (dE (gx X) W N g A1 E1 fl1 f1) (dE (gx X) W N g A2 E2 fl2 f2) (dE (gx X) W N g A3 E3 fl3 f3) σ H Q := by
  obtain ⟨P, rho, mu, phi, Fs, Fc, o, q⟩ := h
  refine ⟨P, rho, mu, phi, Fs, Fc, o, ?_⟩
  unfold dChain at q
  rw [cse_bind] at q
  refine cse_imp q (fun d1 mu1 q v1 H1 phi1 Fc1 F1 c1 w1 => ⟨P, rho, mu1, phi1, Fs, Fc1, o.cb c1, ?_⟩) fun _ _ q => q
  rw [cse_bind] at q
  refine cse_imp q (fun d2 mu2 q v2 H2 phi2 Fc2 F2 c2 w2 => ?_) fun _ _ q => q.back c1
  rw [cse_bind] at q
  obtain ⟨z, hz, q⟩ := cse_lift q
  have c12 := c1.trans c2
  refine hs H2 phi2 v1 d1 F1 v2 d2 F2 z _ c2.ce.all.ntup (w1.rep.step c2.st) w2.rep hz ⟨z, rfl, ?_⟩
  cases z with
  | true =>
    rw [if_pos rfl] at q ⊢
    refine ⟨P, rho, mu2, phi2, Fs, Fc2, (o.cb c1).cb c2, ?_⟩
    rw [cse_bind] at q
    refine cse_imp q (fun d3 mu3 q v3 H3 phi3 Fc3 F3 c3 w3 => ?_) fun _ _ q => q.back c12
    obtain ⟨k, hk, q⟩ := cse_lift q
    exact hs' H3 phi3 v2 d2 F2 v3 d3 F3 k Q c3.ce.all.ntup (w2.rep.step c3.st) w3.rep hk (q H3 phi3 Fc3 (c12.trans c3))
  | false =>
    rw [if_neg Bool.false_ne_true] at q ⊢
    exact q H2 phi2 Fc2 c12
theorem pdt_chain {op op' : CmpOp} {r r' : R2} {k1 k2 : OpB} {f1 f2 f3 : DE} {A3 E3 : List Nat} {fl3 : Nat} (ho : OpR X (compareOp op) r) (ho' : OpR X (compareOp op') r') (hs : SemB (gx X) r k1) (hs' : SemB (gx X) r' k2)
    (ha : PE X a (dE (gx X) W N g A1 E1 fl1 f1)) (hb : PE X b (dE (gx X) W N g A2 E2 fl2 f2)) (hc : PE X c (dE (gx X) W N g A3 E3 fl3 f3)) (hm : lastMarks [op, op'] [b, c] = false := by with_unfolding_all rfl) :
    PT X (.Compare a [op, op'] [b, c] pos) (dT (gx X) W N g (dChain k1 k2 f1 f2 f3)) := by
  refine ptOf (pt_chain ho ho' ha hb hc hm) fun σ H Q h => chain_go hs hs' ?_
  obtain ⟨P, rho, mu, phi, Fs, Fc, o, q⟩ := h
  exact ⟨P, rho, mu, phi, Fs, Fc, o, cse_imp q (fun b mu q H' phi' Fc' c => ⟨b, rfl, q H' phi' Fc' c⟩) fun _ _ q => q⟩
theorem pd_chain {op op' : CmpOp} {r r' : R2} {k1 k2 : OpB} {f1 f2 f3 : DE} {A3 E3 : List Nat} {fl3 : Nat} (ho : OpR X (compareOp op) r) (ho' : OpR X (compareOp op') r') (hs : SemB (gx X) r k1) (hs' : SemB (gx X) r' k2)
    (ha : PE X a (dE (gx X) W N g A1 E1 fl1 f1)) (hb : PE X b (dE (gx X) W N g A2 E2 fl2 f2)) (hc : PE X c (dE (gx X) W N g A3 E3 fl3 f3)) (hm : lastMarks [op, op'] [b, c] = false := by with_unfolding_all rfl) :
    PE X (.Compare a [op, op'] [b, c] pos) (dE (gx X) W N g [] [] 3 (dV (dChain k1 k2 f1 f2 f3))) := peOf (pe_chain ho ho' ha hb hc hm) fun σ H Q h => chain_go hs hs' (dV_go h)

/-! ### a if t else b -/
def dIf (t : DT) (f1 f2 : DE) : DE := fun rho mu => bind (t rho mu) fun b mu1 => if b = true then f1 rho mu1 else f2 rho mu1
def flm (a b : Nat) : Nat := if a = b then a else if 2 ≤ a ∧ 2 ≤ b then 2 else 0
theorem flm_held1 {a b : Nat} {F : List Addr} {x : Addr} (h : x ∈ heldL (flS (flm a b)) F) : x ∈ heldL (flS a) F := by
  unfold flm at h
  split at h
  · exact h
  · split at h
    · rename_i q
      unfold flS; rw [if_pos q.1]; exact heldL_sub h
    · cases h
theorem flm_held2 {a b : Nat} {F : List Addr} {x : Addr} (h : x ∈ heldL (flS (flm a b)) F) : x ∈ heldL (flS b) F := by
  unfold flm at h
  split at h
  · rename_i q; rw [← q]; exact h
  · split at h
    · rename_i q
      unfold flS; rw [if_pos q.2]; exact heldL_sub h
    · cases h
theorem Fresh.min1 {a b : Nat} {H H' : Hp} {d : D} {F : List Addr} (f : Fresh a H H' d F) : Fresh (flm a b) H H' d F := by
  unfold flm
  split
  · exact f
  · split
    · rename_i h
      exact f.two h.1
    · trivial
theorem Fresh.min2 {a b : Nat} {H H' : Hp} {d : D} {F : List Addr} (f : Fresh b H H' d F) : Fresh (flm a b) H H' d F := by
  unfold flm
  split
  · rename_i h; rw [h]; exact f
  · split
    · rename_i h
      exact f.two h.2
    · trivial
theorem okE.left {Fs : Nat → List Addr} {Fc : List Addr} {H : Hp} {phi : List Addr} {mu : Mu} {Q : VK} {d : D} (h : okE (gx X) g (A1 ++ A2) (E1 ++ E2) (flm fl1 fl2) Fs Fc H phi Q d mu) : okE (gx X) g A1 E1 fl1 Fs Fc H phi Q d mu :=
  fun v H' phi' Fc' F c w => h v H' phi' Fc' F c ⟨w.rep, w.bd.mono fun _ => List.mem_append_left _, w.be.mono fun _ => List.mem_append_left _, w.fr.min1, fun a ha => w.nc a (flm_held1 ha)⟩
theorem okE.right {Fs : Nat → List Addr} {Fc : List Addr} {H : Hp} {phi : List Addr} {mu : Mu} {Q : VK} {d : D} (h : okE (gx X) g (A1 ++ A2) (E1 ++ E2) (flm fl1 fl2) Fs Fc H phi Q d mu) : okE (gx X) g A2 E2 fl2 Fs Fc H phi Q d mu :=
  fun v H' phi' Fc' F c w => h v H' phi' Fc' F c ⟨w.rep, w.bd.mono fun _ => List.mem_append_right _, w.be.mono fun _ => List.mem_append_right _, w.fr.min2, fun a ha => w.nc a (flm_held2 ha)⟩
theorem pd_ifE {t : DT} {f1 f2 : DE} (hc : PT X c (dT (gx X) W N g t)) (ha : PE X a (dE (gx X) W N g A1 E1 fl1 f1)) (hb : PE X b (dE (gx X) W N g A2 E2 fl2 f2)) :
    PE X (.IfExp c a b pos) (dE (gx X) W N g (A1 ++ A2) (E1 ++ E2) (flm fl1 fl2) (dIf t f1 f2)) := by
  refine peOf (pe_ifExp hc ha hb) fun σ H Q ⟨P, rho, mu, phi, Fs, Fc, o, q⟩ => ⟨P, rho, mu, phi, Fs, Fc, o, ?_⟩
  unfold dIf at q
  rw [cse_bind] at q
  refine cse_imp q (fun d mu1 q H1 phi1 Fc1 c1 => ?_) fun c mu1 q => q
  cases d with
  | true => exact ⟨P, rho, mu1, phi1, Fs, Fc1, o.cb c1, cse_imp q (fun _ _ q => q.left.back c1) fun _ _ q => q.back c1⟩
  | false => exact ⟨P, rho, mu1, phi1, Fs, Fc1, o.cb c1, cse_imp q (fun _ _ q => q.right.back c1) fun _ _ q => q.back c1⟩

/-! ### slices -/
abbrev DO := Rho → Mu → Out (Option Int)
def dO (G : Gx) (W : WX) (N : Entr) (g : Gm) (f : DO) : TO := fun σ H Q => ∃ P rho mu phi Fs Fc, Ok G N P g rho mu σ H phi Fs Fc ∧
  cse (f rho mu) (fun o mu' => ∀ H' phi' Fc', CB G Fc H phi H' phi' mu' Fc' → Q o H') (exK G W Fc σ H phi)
theorem poOf {e : Option Expr} {t u : TO} (h : PO X e t) (k : ∀ σ H Q, u σ H Q → t σ H Q) : PO X e u := ⟨fun pins s σ H Q I hq => h.run pins s σ H Q I (k σ H Q hq)⟩
def doNone : DO := fun _ mu => .ok none mu
def doSome (f : DE) : DO := fun rho mu => bind (f rho mu) fun d mu1 => match d with
  | .int i => .ok (some i) mu1
  | _ => .bad
theorem pdo_none : PO X none (dO (gx X) W N g doNone) := poOf po_none fun σ H Q ⟨P, rho, mu, phi, Fs, Fc, o, q⟩ => q H phi Fc (.refl o.cells)
theorem pdo_some {f : DE} (h : PE X e (dE (gx X) W N g A1 E1 fl1 f)) : PO X (some e) (dO (gx X) W N g (doSome f)) := by
  refine poOf (po_some h) fun σ H Q ⟨P, rho, mu, phi, Fs, Fc, o, q⟩ => ⟨P, rho, mu, phi, Fs, Fc, o, ?_⟩
  unfold doSome at q
  rw [cse_bind] at q
  refine cse_imp q (fun d mu1 q v H1 phi1 Fc1 F1 c1 w1 => ?_) fun _ _ q => q
  split at q
  · have r := w1.rep
    cases r
    exact ⟨_, rfl, q H1 phi1 Fc1 c1⟩
  · exact q.elim
abbrev OpS := D → Option Int → Option Int → Option D
def SemS (G : Gx) (r : V → Option Int → Option Int → Hp → VK → Prop) (k : OpS) (fl : Nat) : Prop := ∀ H phi x dx Fx lo hi d Q, NT H phi → Rep G H phi x dx Fx → k dx lo hi = some d → Rlt G H phi (elems dx Fx) fl d Q → r x lo hi H Q
def dSl (k : OpS) (f : DE) (fl fh : DO) : DE := fun rho mu => bind (f rho mu) fun d mu1 => bind (fl rho mu1) fun lo mu2 => bind (fh rho mu2) fun hi mu3 => lift (k d lo hi) mu3
theorem pd_slice {r : V → Option Int → Option Int → Hp → VK → Prop} {k : OpS} {f : DE} {fl' fh : DO} {lo hi : Option Expr} {p2 : Pos} (hr : SlR X r) (hs : SemS (gx X) r k fl) (he : PE X e (dE (gx X) W N g A1 E1 fl1 f)) (hl : PO X lo (dO (gx X) W N g fl')) (hu : PO X hi (dO (gx X) W N g fh)) :
    PE X (.Subscript e (.Slice lo hi none p2) pos) (dE (gx X) W N g (al1 fl fl1 E1) (al1 fl fl1 E1) fl (dSl k f fl' fh)) := by
  refine peOf (pe_slice hr he hl hu) fun σ H Q ⟨P, rho, mu, phi, Fs, Fc, o, q⟩ => ⟨P, rho, mu, phi, Fs, Fc, o, ?_⟩
  unfold dSl at q
  rw [cse_bind] at q
  refine cse_imp q (fun d mu1 q v H1 phi1 Fc1 F1 c1 v1 => ⟨P, rho, mu1, phi1, Fs, Fc1, o.cb c1, ?_⟩) fun c mu1 q => q
  rw [cse_bind] at q
  refine cse_imp q (fun lo mu2 q H2 phi2 Fc2 c2 => ⟨P, rho, mu2, phi2, Fs, Fc2, (o.cb c1).cb c2, ?_⟩) fun c mu2 q => q.back c1
  rw [cse_bind] at q
  refine cse_imp q (fun hi mu3 q H3 phi3 Fc3 c3 => ?_) fun c mu2 q => q.back (c1.trans c2)
  obtain ⟨d', hd, q⟩ := cse_lift q
  refine hs H3 phi3 v d F1 lo hi d' Q c3.ce.all.ntup ((v1.rep.step c2.st).step c3.st) hd (Rlt.mk q ((c1.trans c2).trans c3) ?_)
  unfold al1 al
  by_cases h : 2 ≤ fl
  · exact .inl h
  · rw [if_neg h]; exact .inr v1.bale
end
end Dv

namespace Dv
open PySem L2

/-! ## Statements -/
inductive OutS where
  | nx (rho : Rho) (mu : Mu)
  | rt (d : D) (mu : Mu)
  | ex (c : Str) (rho : Rho) (mu : Mu)
  | bad
abbrev DS := Rho → Mu → OutS
def csS (o : OutS) (k : Rho → Mu → Prop) (r : D → Mu → Prop) (e : Str → Rho → Mu → Prop) : Prop := match o with
  | .nx rho mu => k rho mu
  | .rt d mu => r d mu
  | .ex c rho mu => e c rho mu
  | .bad => False
theorem csS_imp {o : OutS} {k k' : Rho → Mu → Prop} {r r' : D → Mu → Prop} {e e' : Str → Rho → Mu → Prop} (h : csS o k r e) (hk : ∀ a b, k a b → k' a b) (hr : ∀ a b, r a b → r' a b) (he : ∀ a b c, e a b c → e' a b c) : csS o k' r' e' := by
  cases o with
  | nx a b => exact hk _ _ h
  | rt a b => exact hr _ _ h
  | ex a b c => exact he _ _ _ h
  | bad => exact h
def nxK (G : Gx) (N : Entr) (P : List Pin) (g : Gm) (Q : St → Hp → Prop) (rho : Rho) (mu : Mu) : Prop := ∀ σ H phi Fs Fc, Ok G N P g rho mu σ H phi Fs Fc → Q σ H
def rtK (G : Gx) (N : Entr) (fl : Nat) (Q : VK) (d : D) (mu : Mu) : Prop := ∀ v H phi Fc F, Step N.H N.phi H phi → CellsOk G H phi mu Fc → (∀ a ∈ Fc, N.H a = none ∨ a ∈ N.Bc) → Rep G H phi v d F →
  (∀ a ∈ F, N.H a = none ∨ a ∈ N.Ba ∨ a ∈ N.Bc) → Fresh fl N.H H d F → (∀ a ∈ heldL (flS fl) F, a ∉ Fc) → Q v H
def exS (G : Gx) (N : Entr) (P : List Pin) (W : WX) (c : Str) (rho : Rho) (mu : Mu) : Prop := ∀ C σ H phi Fs Fc, G.mg c = some (.ref C) → Ok G N P [] rho mu σ H phi Fs Fc → W (.ref C) none σ H
def dS (G : Gx) (W : WX) (N : Entr) (g g' : Gm) (fl : Nat) (f : DS) : TS := fun D σ H => ∃ P rho mu phi Fs Fc, Ok G N P g rho mu σ H phi Fs Fc ∧
  csS (f rho mu) (nxK G N P g' D.nx) (rtK G N fl D.rt) (exS G N P W)

/-! ### flags -/
def leG (g' g : Gm) : Bool := (List.range g'.length).all fun i => flag g' i == 0 || flag g' i == flag g i
theorem leG_at {g' g : Gm} (h : leG g' g = true) (i : Nat) : flag g' i = 0 ∨ flag g' i = flag g i := by
  by_cases hi : i < g'.length
  · have := List.all_eq_true.mp h i (List.mem_range.mpr hi)
    simpa using this
  · left
    unfold flag
    rw [List.getD_eq_getElem?_getD, List.getElem?_eq_none (by omega)]
    rfl
theorem flag_nil (i : Nat) : flag [] i = 0 := rfl
section
variable {G : Gx} {N : Entr} {P : List Pin} {g g' : Gm} {rho : Rho} {mu : Mu} {σ : St} {H : Hp} {phi : List Addr} {Fs : Nat → List Addr} {Fc : List Addr}
theorem Ok.weak' (o : Ok G N P g rho mu σ H phi Fs Fc) (h : ∀ i, flag g' i = 0 ∨ flag g' i = flag g i) : Ok G N P g' rho mu σ H phi Fs Fc where
  len := o.len
  slot := o.slot
  nil := o.nil
  own := fun i a ha => by
    rcases h i with e | e
    · rw [e] at ha; cases ha
    · rw [e] at ha; exact o.own i a ha
  top := fun i e => by
    rcases h i with q | q
    · rw [q] at e; cases e
    · rw [q] at e; exact o.top i e
  nd := fun i e => by
    rcases h i with q | q
    · rw [q] at e; omega
    · rw [q] at e; exact o.nd i e
  pins := o.pins
  cells := o.cells
  step := o.step
  baseS := o.baseS
  baseC := o.baseC
theorem Ok.weak (o : Ok G N P g rho mu σ H phi Fs Fc) (h : leG g' g = true) : Ok G N P g' rho mu σ H phi Fs Fc := o.weak' (leG_at h)
theorem Ok.zero (o : Ok G N P g rho mu σ H phi Fs Fc) : Ok G N P [] rho mu σ H phi Fs Fc := o.weak' fun _ => .inl rfl
theorem Ok.unpin {p : Pin} (o : Ok G N (p :: P) g rho mu σ H phi Fs Fc) : Ok G N P g rho mu σ H phi Fs Fc :=
  ⟨o.len, o.slot, o.nil, fun i a ha => let ⟨h1, h2, h3, h4, h5⟩ := o.own i a ha; ⟨h1, h2, h3, h4, fun p hp => h5 p (List.mem_cons_of_mem _ hp)⟩, o.top, o.nd, fun p hp => o.pins p (List.mem_cons_of_mem _ hp), o.cells, o.step, o.baseS, o.baseC⟩
theorem Ok.pin {p : Pin} (o : Ok G N P g rho mu σ H phi Fs Fc) (r : Rep G H phi p.1 p.2.1 p.2.2) (h : ∀ i, ∀ a ∈ heldL (flag g i) (Fs i), a ∉ p.2.2) : Ok G N (p :: P) g rho mu σ H phi Fs Fc :=
  ⟨o.len, o.slot, o.nil, fun i a ha => let ⟨h1, h2, h3, h4, h5⟩ := o.own i a ha; ⟨h1, h2, h3, h4, fun q hq => (List.mem_cons.mp hq).elim (fun e => e ▸ h i a ha) (h5 q)⟩, o.top, o.nd,
    fun q hq => (List.mem_cons.mp hq).elim (fun e => e ▸ r) (o.pins q), o.cells, o.step, o.baseS, o.baseC⟩
/-- what is bounded is not held but by the named slots -/
theorem Ok.notHeld (o : Ok G N P g rho mu σ H phi Fs Fc) {A : List Nat} {F : List Addr} (b : bnd g Fs Fc H A F) {i : Nat} (hi : i ∉ A) : ∀ a ∈ heldL (flag g i) (Fs i), a ∉ F := fun a ha hF => by
  obtain ⟨h1, ⟨u, h2, _⟩, h3, h4, _⟩ := o.own i a ha
  rcases b a hF with z | z | ⟨k, z1, z2⟩
  · rw [h2] at z; cases z
  · exact h3 z
  · by_cases e : k = i
    · subst e
      exact z2.elim hi fun q => q ha
    · exact h4 k e z1
theorem Ok.base (o : Ok G N P g rho mu σ H phi Fs Fc) {A : List Nat} {F : List Addr} (b : bnd g Fs Fc H A F) : ∀ a ∈ F, N.H a = none ∨ a ∈ N.Ba ∨ a ∈ N.Bc := fun a ha => by
  rcases b a ha with z | z | ⟨k, z1, z2⟩
  · exact .inl (o.step.free z)
  · exact (o.baseC a z).imp id .inr
  · exact o.baseS k a z1
end
/-- the flags of the named slots gone -/
def clr (g : Gm) (A : List Nat) : Gm := g.mapIdx fun i x => if A.contains i then 0 else x
theorem flag_clr (g : Gm) (A : List Nat) (i : Nat) : flag (clr g A) i = if i ∈ A then 0 else flag g i := by
  unfold flag clr
  rw [List.getD_eq_getElem?_getD, List.getD_eq_getElem?_getD, List.getElem?_mapIdx]
  cases h : g[i]? with
  | none => simp
  | some x =>
    simp only [Option.map_some, Option.getD_some, List.contains_iff_mem]
def setG (g : Gm) (i k : Nat) : Gm := g.set i k
theorem flag_set (g : Gm) (i k j : Nat) : flag (setG g i k) j = if j = i then (if i < g.length then k else 0) else flag g j := by
  unfold flag setG
  rw [List.getD_eq_getElem?_getD, List.getD_eq_getElem?_getD, List.getElem?_set]
  by_cases h : i = j
  · subst h
    simp only [if_true]
    split <;> rfl
  · rw [if_neg h, if_neg (fun e => h e.symm)]
def setF (Fs : Nat → List Addr) (i : Nat) (F : List Addr) : Nat → List Addr := fun j => if j = i then F else Fs j
section
variable {G : Gx} {N : Entr} {P : List Pin} {g g' : Gm} {rho : Rho} {mu : Mu} {σ : St} {H : Hp} {phi : List Addr} {Fs : Nat → List Addr} {Fc : List Addr}
/-- a slot is set -/
theorem Ok.set (o : Ok G N P g rho mu σ H phi Fs Fc) {i : Nat} {v : V} {d : D} {F : List Addr} (hi : i < rho.length) (r : Rep G H phi v d F) (b : ∀ a ∈ F, N.H a = none ∨ a ∈ N.Ba ∨ a ∈ N.Bc)
    (nh : ∀ j, j ≠ i → ∀ a ∈ heldL (flag g j) (Fs j), a ∉ F) {k : Nat}
    (kown : ∀ a ∈ heldL k F, N.H a = none ∧ (∃ o, H a = some o ∧ Mut (some o)) ∧ a ∉ Fc ∧ (∀ j, j ≠ i → a ∉ Fs j) ∧ ∀ p ∈ P, a ∉ p.2.2)
    (ktop : k = 1 → hasTop d = true ∧ ∃ a t, F = a :: t ∧ a ∉ t) (knd : 2 ≤ k → F.Nodup) : Ok G N P (setG g i k) (rho.set i (some d)) mu (σ.set i (some v)) H phi (setF Fs i F) Fc where
  len := by rw [List.length_set, List.length_set]; exact o.len
  slot := fun j d' e => by
    by_cases hj : j = i
    · subst hj
      rw [List.getElem?_set_self hi] at e
      cases e
      exact ⟨v, List.getElem?_set_self (by rw [← o.len]; exact hi), by unfold setF; rw [if_pos rfl]; exact r⟩
    · rw [List.getElem?_set_ne (Ne.symm hj)] at e
      obtain ⟨u, h1, h2⟩ := o.slot j d' e
      exact ⟨u, by rw [List.getElem?_set_ne (Ne.symm hj)]; exact h1, by unfold setF; rw [if_neg hj]; exact h2⟩
  nil := fun j e => by
    by_cases hj : j = i
    · subst hj
      exact absurd (List.getElem?_set_self hi) (e d)
    · unfold setF
      rw [if_neg hj]
      exact o.nil j fun d' q => e d' (by rw [List.getElem?_set_ne (Ne.symm hj)]; exact q)
  own := fun j a ha => by
    rw [flag_set] at ha
    by_cases hj : j = i
    · subst hj
      unfold setF at ha
      rw [if_pos rfl, if_pos rfl] at ha
      split at ha
      · obtain ⟨h1, h2, h3, h4, h5⟩ := kown a ha
        exact ⟨h1, h2, h3, fun l hl => by unfold setF; rw [if_neg hl]; exact h4 l hl, h5⟩
      · cases ha
    · unfold setF at ha
      rw [if_neg hj, if_neg hj] at ha
      obtain ⟨h1, h2, h3, h4, h5⟩ := o.own j a ha
      refine ⟨h1, h2, h3, fun l hl => ?_, h5⟩
      unfold setF
      split
      · exact nh j hj a ha
      · exact h4 l hl
  top := fun j e d' e' => by
    rw [flag_set] at e
    by_cases hj : j = i
    · subst hj
      rw [List.getElem?_set_self hi] at e'
      cases e'
      rw [if_pos rfl] at e
      split at e
      · unfold setF; rw [if_pos rfl]; exact ktop e
      · cases e
    · rw [if_neg hj] at e
      rw [List.getElem?_set_ne (Ne.symm hj)] at e'
      unfold setF
      rw [if_neg hj]
      exact o.top j e d' e'
  nd := fun j e => by
    rw [flag_set] at e
    unfold setF
    by_cases hj : j = i
    · rw [if_pos hj] at e ⊢
      split at e
      · exact knd e
      · omega
    · rw [if_neg hj] at e ⊢
      exact o.nd j e
  pins := o.pins
  cells := o.cells
  step := o.step
  baseS := fun j a ha => by
    unfold setF at ha
    split at ha
    · exact b a ha
    · exact o.baseS j a ha
  baseC := o.baseC
end

section
variable {X : Cx} {W : WX} {N : Entr} {g g' g1 g2 : Gm} {A E A1 A2 E1 E2 : List Nat} {fl fl1 fl2 : Nat} {e a b c : Expr} {es rest : List Expr} {pos : Pos} {st : Stmt} {sts : List Stmt}
/-! ### blocks -/
def sNil : DS := fun rho mu => .nx rho mu
def sSeq (f1 f2 : DS) : DS := fun rho mu => match f1 rho mu with
  | .nx r m => f2 r m
  | o => o
theorem csS_seq {f2 : DS} {o : OutS} {k : Rho → Mu → Prop} {r : D → Mu → Prop} {e : Str → Rho → Mu → Prop} (h : csS (match o with | .nx r m => f2 r m | o => o) k r e) : csS o (fun rho mu => csS (f2 rho mu) k r e) r e := by
  cases o <;> exact h
theorem pds_nil : PSs X [] (dS (gx X) W N g g fl sNil) := pssOf pss_nil fun D σ H ⟨P, rho, mu, phi, Fs, Fc, o, q⟩ => q σ H phi Fs Fc o
theorem pds_cons {f1 f2 : DS} (h1 : PS X st (dS (gx X) W N g g1 fl f1)) (h2 : PSs X sts (dS (gx X) W N g1 g2 fl f2)) : PSs X (st :: sts) (dS (gx X) W N g g2 fl (sSeq f1 f2)) := by
  refine pssOf (pss_cons h1 h2) fun D σ H ⟨P, rho, mu, phi, Fs, Fc, o, q⟩ => ⟨P, rho, mu, phi, Fs, Fc, o, ?_⟩
  exact csS_imp (csS_seq q) (fun r m q σ' H' phi' Fs' Fc' o' => ⟨P, r, m, phi', Fs', Fc', o', q⟩) (fun _ _ q => q) fun _ _ _ q => q
theorem pds_one {f1 : DS} (h1 : PS X st (dS (gx X) W N g g1 fl f1)) : PSs X [st] (dS (gx X) W N g g1 fl f1) := pss_one h1
theorem pds_weak {f1 : DS} (h1 : PSs X sts (dS (gx X) W N g g1 fl f1)) (h : leG g2 g1 = true) : PSs X sts (dS (gx X) W N g g2 fl f1) :=
  pssOf h1 fun D σ H ⟨P, rho, mu, phi, Fs, Fc, o, q⟩ => ⟨P, rho, mu, phi, Fs, Fc, o, csS_imp q (fun r m q σ' H' phi' Fs' Fc' o' => q σ' H' phi' Fs' Fc' (o'.weak h)) (fun _ _ q => q) fun _ _ _ q => q⟩
theorem pd_weak {f1 : DS} (h1 : PS X st (dS (gx X) W N g g1 fl f1)) (h : leG g2 g1 = true) : PS X st (dS (gx X) W N g g2 fl f1) :=
  psOf h1 fun D σ H ⟨P, rho, mu, phi, Fs, Fc, o, q⟩ => ⟨P, rho, mu, phi, Fs, Fc, o, csS_imp q (fun r m q σ' H' phi' Fs' Fc' o' => q σ' H' phi' Fs' Fc' (o'.weak h)) (fun _ _ q => q) fun _ _ _ q => q⟩
theorem pds_pre {f1 : DS} (h1 : PSs X sts (dS (gx X) W N g1 g2 fl f1)) (h : leG g1 g = true) : PSs X sts (dS (gx X) W N g g2 fl f1) :=
  pssOf h1 fun D σ H ⟨P, rho, mu, phi, Fs, Fc, o, q⟩ => ⟨P, rho, mu, phi, Fs, Fc, o.weak h, q⟩
theorem pd_pre {f1 : DS} (h1 : PS X st (dS (gx X) W N g1 g2 fl f1)) (h : leG g1 g = true) : PS X st (dS (gx X) W N g g2 fl f1) :=
  psOf h1 fun D σ H ⟨P, rho, mu, phi, Fs, Fc, o, q⟩ => ⟨P, rho, mu, phi, Fs, Fc, o.weak h, q⟩
/-- an expression's exception, in a statement -/
theorem exS_of {P : List Pin} {rho : Rho} {mu mu' : Mu} {σ : St} {H : Hp} {phi : List Addr} {Fs : Nat → List Addr} {Fc : List Addr} {cl : Str} (o : Ok (gx X) N P g rho mu σ H phi Fs Fc) (q : exS (gx X) N P W cl rho mu') : exK (gx X) W Fc σ H phi cl mu' :=
  fun C H' phi' Fc' m c => q C σ H' phi' Fs Fc' m (o.cb c).zero
def sOf {α : Type} (o : Rho → Mu → Out α) (k : Rho → α → Mu → OutS) : DS := fun rho mu => match o rho mu with
  | .ok a m => k rho a m
  | .ex c m => .ex c rho m
  | .bad => .bad
theorem csS_of {α : Type} {f : Rho → Mu → Out α} {k : Rho → α → Mu → OutS} {rho : Rho} {mu : Mu} {K : Rho → Mu → Prop} {R : D → Mu → Prop} {E : Str → Rho → Mu → Prop} (h : csS (sOf f k rho mu) K R E) : cse (f rho mu) (fun a m => csS (k rho a m) K R E) (fun c m => E c rho m) := by
  unfold sOf at h
  cases e : f rho mu <;> (rw [e] at h; exact h)
/-! ### small statements -/
def sDrop (f : DE) : DS := sOf f fun rho _ mu => .nx rho mu
theorem pds_expr {f : DE} (h : PE X e (dE (gx X) W N g A E fl1 f)) (hs : swapsWith e none pos.line X.env = pure false := by rfl) : PS X (.Expr e pos) (dS (gx X) W N g g fl (sDrop f)) := by
  refine psOf (ps_expr h hs) fun D σ H ⟨P, rho, mu, phi, Fs, Fc, o, q⟩ => ⟨P, rho, mu, phi, Fs, Fc, o, ?_⟩
  exact cse_imp (csS_of q) (fun d mu1 q v H1 phi1 Fc1 F1 c1 w1 => q σ H1 phi1 Fs Fc1 (o.cb c1)) fun _ _ q => exS_of o q
def fle (k fl : Nat) : Bool := k == 0 || k == fl || (k == 2 && fl == 3)
theorem Fresh.le {k fl : Nat} {H H' : Hp} {d : D} {F : List Addr} (f : Fresh fl H H' d F) (h : fle k fl = true) : Fresh k H H' d F := by
  unfold fle at h
  simp only [Bool.or_eq_true, beq_iff_eq, Bool.and_eq_true] at h
  rcases h with (rfl | rfl) | ⟨rfl, rfl⟩
  · trivial
  · exact f
  · exact f.two (by omega)
theorem fle_held {k fl : Nat} {F : List Addr} {x : Addr} (h : fle k fl = true) (hx : x ∈ heldL (flS k) F) : x ∈ heldL (flS fl) F := by
  unfold fle at h
  simp only [Bool.or_eq_true, beq_iff_eq, Bool.and_eq_true] at h
  rcases h with (rfl | rfl) | ⟨rfl, rfl⟩
  · cases hx
  · exact hx
  · exact hx
theorem Fresh.early {fl : Nat} {H0 H H' : Hp} {d : D} {F : List Addr} (f : Fresh fl H H' d F) (h : ∀ a, H a = none → H0 a = none) : Fresh fl H0 H' d F := by
  match fl, f with
  | 0, _ => trivial
  | 1, f =>
    obtain ⟨h1, x, t, h2, h3, h4⟩ := f
    exact ⟨h1, x, t, h2, h _ h3, h4⟩
  | 2, f => exact ⟨f.1, fun a ha => ⟨h _ (f.2 a ha).1, (f.2 a ha).2⟩⟩
  | _ + 3, f => exact f
def sRet (f : DE) : DS := sOf f fun _ d mu => .rt d mu
theorem pds_ret {f : DE} (h : PE X e (dE (gx X) W N g A E fl1 f)) (hf : fle fl fl1 = true) : PS X (.Return (some e) pos) (dS (gx X) W N g g' fl (sRet f)) := by
  refine psOf (ps_ret h) fun D σ H ⟨P, rho, mu, phi, Fs, Fc, o, q⟩ => ⟨P, rho, mu, phi, Fs, Fc, o, ?_⟩
  refine cse_imp (csS_of q) (fun d mu1 q v H1 phi1 Fc1 F1 c1 w1 => ?_) fun _ _ q => exS_of o q
  have o1 := o.cb c1
  exact q v H1 phi1 Fc1 F1 o1.step o1.cells o1.baseC w1.rep (o.base w1.bd) ((w1.fr.le hf).early fun _ => o.step.free) fun a ha => w1.nc a (fle_held hf ha)
theorem flS_held {n : Nat} {F : List Addr} {x : Addr} (h : x ∈ heldL (flS (flS n)) F) : x ∈ heldL n F := by
  match n, h with
  | 0, h => exact h
  | 1, h => exact h
  | n + 2, h => exact heldL_sub h
/-- return x of a list of its own -/
theorem pds_retV {i : Nat} {e : Expr} (h : PE X e (tVar i)) (hf : fle fl (flS (flag g i)) = true) : PS X (.Return (some e) pos) (dS (gx X) W N g g' fl (sRet (dVar i))) := by
  refine psOf (ps_ret h) fun D σ H ⟨P, rho, mu, phi, Fs, Fc, o, q⟩ => ?_
  have q := csS_of q
  unfold dVar at q
  split at q
  · rename_i d hd
    obtain ⟨v, hv, r⟩ := o.slot i d hd
    refine ⟨v, hv, q v H phi Fc (Fs i) o.step o.cells o.baseC r (o.baseS i) (Fresh.le ?_ hf) fun a ha => (o.own i a (flS_held (fle_held hf ha))).2.2.1⟩
    by_cases h2 : 2 ≤ flag g i
    · have e : flS (flag g i) = 2 := by unfold flS; rw [if_pos h2]
      rw [e]
      exact ⟨o.nd i h2, fun a ha => by
        obtain ⟨g1, g2, _⟩ := o.own i a (by
          obtain ⟨m, e⟩ : ∃ m, flag g i = m + 2 := ⟨flag g i - 2, by omega⟩
          rw [e]; exact ha)
        exact ⟨g1, g2⟩⟩
    · have e : flS (flag g i) = flag g i := by unfold flS; rw [if_neg h2]
      rw [e]
      by_cases h1 : flag g i = 1
      · obtain ⟨g1, x, t, g2, g3⟩ := o.top i h1 d hd
        obtain ⟨g4, g5, _⟩ := o.own i x (by rw [h1, g2]; simp [heldL])
        rw [h1]
        exact ⟨g1, x, t, g2, g4, g3, g5⟩
      · have h0 : flag g i = 0 := by omega
        rw [h0]; trivial
  · exact q.elim
def sRetN : DS := fun _ mu => .rt .non mu
theorem pds_retN (hf : fle fl 3 = true) : PS X (.Return none pos) (dS (gx X) W N g g' fl sRetN) := by
  refine psOf ps_retN fun D σ H ⟨P, rho, mu, phi, Fs, Fc, o, q⟩ => ?_
  exact q .non H phi Fc [] o.step o.cells o.baseC .non (fun _ h => nomatch h) (Fresh.le (fl := 3) rfl hf) fun _ h => nomatch heldL_sub h
end
end Dv

namespace Dv
open PySem L2
section
variable {X : Cx} {W : WX} {N : Entr} {g g' g1 g2 gL : Gm} {A E A1 A2 E1 E2 : List Nat} {fl fl1 fl2 : Nat} {e a b c : Expr} {es rest : List Expr} {pos : Pos} {st : Stmt} {sts body els : List Stmt}
/-! ### name = e -/
def sSet (i : Nat) (f : DE) : DS := sOf f fun rho d mu => if i < rho.length then .nx (rho.set i (some d)) mu else .bad
theorem Fresh.held {fl : Nat} {H H' : Hp} {d : D} {F : List Addr} (f : Fresh fl H H' d F) {a : Addr} (h : a ∈ heldL (flS fl) F) : H a = none ∧ ∃ o, H' a = some o ∧ Mut (some o) := by
  match fl, f, h with
  | 0, _, h => cases h
  | 1, f, h =>
    obtain ⟨_, x, t, rfl, h3, h4, h5⟩ := f
    have h : a ∈ [x] := h
    rw [List.mem_singleton.mp h]
    exact ⟨h3, h5⟩
  | n + 2, f, h => exact (Fresh.two (fl := n + 2) (by omega) f).2 a (heldL_sub h)
/-- a value that has just come, put into a slot -/
theorem Ok.put {P : List Pin} {rho : Rho} {mu mu1 : Mu} {σ : St} {H H1 : Hp} {phi phi1 : List Addr} {Fs : Nat → List Addr} {Fc Fc1 F : List Addr} {v : V} {d : D} {i : Nat} (o : Ok (gx X) N P g rho mu σ H phi Fs Fc)
    (c1 : CB (gx X) Fc H phi H1 phi1 mu1 Fc1) (w1 : Val (gx X) g A E fl Fs Fc H H1 phi1 Fc1 v d F) (hi : i < rho.length) :
    Ok (gx X) N P (setG (clr g (al fl A)) i (flS fl)) (rho.set i (some d)) mu1 (σ.set i (some v)) H1 phi1 (setF Fs i F) Fc1 := by
  have o1 := (o.cb c1).weak' (g' := clr g (al fl A)) fun i => by
    rw [flag_clr]
    split
    · exact .inl rfl
    · exact .inr rfl
  refine o1.set hi w1.rep (o.base w1.bd) (fun j hj a ha => ?_) (fun a ha => ?_) (fun hk => ?_) fun hk => ?_
  · rw [flag_clr] at ha
    split at ha
    · cases ha
    · rename_i hn
      exact o.notHeld w1.bal hn a ha
  · obtain ⟨h1, h2⟩ := w1.fr.held ha
    refine ⟨o.step.free h1, h2, w1.nc a ha, fun j _ z => ?_, fun p hp z => ?_⟩
    · obtain ⟨⟨u, hu, _⟩, _⟩ := o.tracked z
      rw [h1] at hu; cases hu
    · obtain ⟨⟨u, hu, _⟩, _⟩ := (o.pins p hp).on a z
      rw [h1] at hu; cases hu
  · have e : fl = 1 := by unfold flS at hk; split at hk <;> omega
    subst e
    obtain ⟨h1, x, t, h2, h3, h4, _⟩ := w1.fr
    exact ⟨h1, x, t, h2, h4⟩
  · have e : 2 ≤ fl := by unfold flS at hk; split at hk <;> omega
    exact (w1.fr.two e).1
abbrev gSet (g : Gm) (fl : Nat) (A : List Nat) (i : Nat) : Gm := setG (clr g (al fl A)) i (flS fl)
theorem pds_set {f : DE} {i : Nat} (h : PS X st (tAsg (dE (gx X) W N g A E fl1 f) (gName i))) : PS X st (dS (gx X) W N g (gSet g fl1 A i) fl (sSet i f)) := by
  refine psOf h fun D σ H ⟨P, rho, mu, phi, Fs, Fc, o, q⟩ => ⟨P, rho, mu, phi, Fs, Fc, o, ?_⟩
  refine cse_imp (csS_of q) (fun d mu1 q v H1 phi1 Fc1 F1 c1 w1 => ?_) fun _ _ q => exS_of o q
  split at q
  · rename_i hi
    exact q _ H1 phi1 _ Fc1 (o.put c1 w1 hi)
  · exact q.elim

/-! ### if -/
def sIf (t : DT) (f1 f2 : DS) : DS := sOf t fun rho b mu => if b = true then f1 rho mu else f2 rho mu
theorem pds_if {t : DT} {f1 f2 : DS} (hc : PT X c (dT (gx X) W N g t)) (ha : PSs X body (dS (gx X) W N g g' fl f1)) (hb : PSs X els (dS (gx X) W N g g' fl f2)) : PS X (.If c body els pos) (dS (gx X) W N g g' fl (sIf t f1 f2)) := by
  refine psOf (ps_if hc ha hb) fun D σ H ⟨P, rho, mu, phi, Fs, Fc, o, q⟩ => ⟨P, rho, mu, phi, Fs, Fc, o, ?_⟩
  refine cse_imp (csS_of q) (fun d mu1 q H1 phi1 Fc1 c1 => ?_) fun _ _ q => exS_of o q
  cases d with
  | true => exact ⟨P, rho, mu1, phi1, Fs, Fc1, o.cb c1, q⟩
  | false => exact ⟨P, rho, mu1, phi1, Fs, Fc1, o.cb c1, q⟩

/-! ### while -/
def sWhile (t : DT) (f : DS) : Nat → DS
  | 0 => fun _ _ => .bad
  | n + 1 => sOf t fun rho b mu => if b = true then (match f rho mu with
    | .nx r m => sWhile t f n r m
    | o => o) else .nx rho mu
theorem pds_while {t : DT} {f : DS} {n : Nat} (hp : PassesOwn (model X.prog X.w) X.A X.env X.xe) (hc : PT X c (dT (gx X) W N g t)) (hb : PSs X body (dS (gx X) W N g g fl f)) : PS X (.While c body [] pos) (dS (gx X) W N g g fl (sWhile t f n)) := by
  refine psOf (ps_while hp hc hb) fun D σ H ⟨P, rho, mu, phi, Fs, Fc, o, q⟩ => ?_
  refine ⟨fun m σ H => ∃ rho mu phi Fs Fc, Ok (gx X) N P g rho mu σ H phi Fs Fc ∧ csS (sWhile t f m rho mu) (nxK (gx X) N P g D.nx) (rtK (gx X) N fl D.rt) (exS (gx X) N P W), ⟨n, rho, mu, phi, Fs, Fc, o, q⟩, ?_⟩
  rintro m σ H ⟨rho, mu, phi, Fs, Fc, o, q⟩
  cases m with
  | zero => exact q.elim
  | succ m =>
    refine ⟨P, rho, mu, phi, Fs, Fc, o, ?_⟩
    refine cse_imp (csS_of q) (fun d mu1 q H1 phi1 Fc1 c1 => ?_) fun _ _ q => exS_of o q
    cases d with
    | true =>
      rw [if_pos rfl] at q ⊢
      refine ⟨fun σ H => ∃ rho mu phi Fs Fc, Ok (gx X) N P g rho mu σ H phi Fs Fc ∧ csS (sWhile t f m rho mu) (nxK (gx X) N P g D.nx) (rtK (gx X) N fl D.rt) (exS (gx X) N P W), fun σ' H' z => ⟨m, Nat.lt_succ_self m, z⟩, ?_⟩
      exact ⟨P, rho, mu1, phi1, Fs, Fc1, o.cb c1, csS_imp (csS_seq q) (fun r m q σ' H' phi' Fs' Fc' o' => ⟨r, m, phi', Fs', Fc', o', q⟩) (fun _ _ q => q) fun _ _ _ q => q⟩
    | false =>
      rw [if_neg Bool.false_ne_true] at q ⊢
      exact q σ H1 phi1 Fs Fc1 (o.cb c1)

/-! ### what is walked -/
/-- the walk J gives the data ds, one by one, of what is pinned -/
def Walks' (G : Gx) (J : It) (p : Pin) (ds : List D) : Prop := ∀ i H phi, NT H phi → Rep G H phi p.1 p.2.1 p.2.2 →
  (∀ d, ds[i]? = some d → J.go i H ∧ ∀ x H', J.yld i H x H' → Same H H' ∧ ∃ F, Rep G H' phi x d F ∧ ∀ a ∈ F, a ∈ elems p.2.1 p.2.2) ∧ (ds.length ≤ i → J.stop i H)
def dI (G : Gx) (W : WX) (N : Entr) (g : Gm) (A E : List Nat) (f : DA) : TI := fun σ H R => ∃ P rho mu phi Fs Fc, Ok G N P g rho mu σ H phi Fs Fc ∧
  cse (f rho mu) (fun ds mu' => ∀ J p H' phi' Fc', CB G Fc H phi H' phi' mu' Fc' → Rep G H' phi' p.1 p.2.1 p.2.2 → bnd g Fs Fc H A p.2.2 → bnd g Fs Fc H E (elems p.2.1 p.2.2) → Walks' G J p ds → R J H') (exK G W Fc σ H phi)
theorem piOf {tg e : Expr} {t u : TI} (h : PI X tg e t) (k : ∀ σ H Q, u σ H Q → t σ H Q) : PI X tg e u := ⟨fun pins s σ H Q I hq => h.run pins s σ H Q I (k σ H Q hq)⟩
/-- a target that a datum is put to -/
abbrev Tgt := D → Rho → Option Rho
def dG (G : Gx) (N : Entr) (g g' : Gm) (T : List Nat) (t : Tgt) (tg : TG) : Prop := (∀ j, j ∉ T → flag g' j = flag g j) ∧ ∀ P rho mu σ H phi Fs Fc v d F (Q : St → Hp → Prop), Ok G N P g rho mu σ H phi Fs Fc → Rep G H phi v d F → (∀ a ∈ F, N.H a = none ∨ a ∈ N.Ba ∨ a ∈ N.Bc) →
  (∀ j, ∀ a ∈ heldL (flag g j) (Fs j), a ∉ F) → ∀ rho', t d rho = some rho' → (∀ σ' Fs', Ok G N P g' rho' mu σ' H phi Fs' Fc → (∀ j, j ∉ T → Fs' j = Fs j ∧ σ'[j]? = σ[j]?) → (∀ j ∈ T, ∀ a ∈ Fs' j, a ∈ F) → σ'.length = σ.length → Q σ' H) → tg v σ H Q
def tName (i : Nat) : Tgt := fun d rho => if i < rho.length then some (rho.set i (some d)) else none
theorem Ok.set0 {P : List Pin} {rho : Rho} {mu : Mu} {σ : St} {H : Hp} {phi : List Addr} {Fs : Nat → List Addr} {Fc F : List Addr} {v : V} {d : D} {i : Nat} (o : Ok (gx X) N P g rho mu σ H phi Fs Fc) (r : Rep (gx X) H phi v d F)
    (b : ∀ a ∈ F, N.H a = none ∨ a ∈ N.Ba ∨ a ∈ N.Bc) (nh : ∀ j, ∀ a ∈ heldL (flag g j) (Fs j), a ∉ F) (hi : i < rho.length) : Ok (gx X) N P (setG g i 0) (rho.set i (some d)) mu (σ.set i (some v)) H phi (setF Fs i F) Fc :=
  o.set hi r b (fun j _ => nh j) (fun a h => nomatch h) (fun h => nomatch h) fun h => absurd h (by omega)
theorem flag_set0 {i j : Nat} (h : j ≠ i) : flag (setG g i 0) j = flag g j := by rw [flag_set, if_neg h]
theorem dg_name {i : Nat} : dG (gx X) N g (setG g i 0) [i] (tName i) (gName i) := ⟨fun j hj => flag_set0 (by simpa using hj), fun P rho mu σ H phi Fs Fc v d F Q o r b nh rho' ht q => by
  unfold tName at ht
  split at ht
  · rename_i hi
    cases ht
    refine q _ _ (o.set0 r b nh hi) (fun j hj => ?_) (fun j hj a ha => ?_) (List.length_set ..)
    · have hj : j ≠ i := by simpa using hj
      exact ⟨by unfold setF; rw [if_neg hj], List.getElem?_set_ne (Ne.symm hj)⟩
    · have hj : j = i := by simpa using hj
      subst hj
      unfold setF at ha
      rw [if_pos rfl] at ha
      exact ha
  · cases ht⟩
def dGs (G : Gx) (N : Entr) (g g' : Gm) (T : List Nat) (t : List D → Rho → Option Rho) (tg : TGs) : Prop := (∀ j, j ∉ T → flag g' j = flag g j) ∧ ∀ P rho mu σ H phi Fs Fc vs ds F (Q : St → Hp → Prop), Ok G N P g rho mu σ H phi Fs Fc → Reps G H phi vs ds F → (∀ a ∈ F, N.H a = none ∨ a ∈ N.Ba ∨ a ∈ N.Bc) →
  (∀ j, ∀ a ∈ heldL (flag g j) (Fs j), a ∉ F) → ∀ rho', t ds rho = some rho' → (∀ σ' Fs', Ok G N P g' rho' mu σ' H phi Fs' Fc → (∀ j, j ∉ T → Fs' j = Fs j ∧ σ'[j]? = σ[j]?) → (∀ j ∈ T, ∀ a ∈ Fs' j, a ∈ F) → σ'.length = σ.length → Q σ' H) → tg vs σ H Q
def tNames : List Nat → List D → Rho → Option Rho
  | [], [], rho => some rho
  | i :: is, d :: ds, rho => if i < rho.length then tNames is ds (rho.set i (some d)) else none
  | _, _, _ => none
def setGs (g : Gm) : List Nat → Gm
  | [] => g
  | i :: is => setGs (setG g i 0) is
theorem dgs_nil : dGs (gx X) N g (setGs g []) [] (tNames []) gNil := ⟨fun _ _ => rfl, fun P rho mu σ H phi Fs Fc vs ds F Q o r b nh rho' ht q => by
  cases r with
  | nil => cases ht; exact ⟨rfl, q _ _ o (fun _ _ => ⟨rfl, rfl⟩) (fun _ h => nomatch h) rfl⟩
  | cons _ _ => cases ht⟩
theorem dgs_cons {i : Nat} {is : List Nat} {tgs : TGs} (h : dGs (gx X) N (setG g i 0) (setGs (setG g i 0) is) is (tNames is) tgs) : dGs (gx X) N g (setGs g (i :: is)) (i :: is) (tNames (i :: is)) (gCons (gName i) tgs) := ⟨fun j hj => by
  simp only [List.mem_cons, not_or] at hj
  exact (h.1 j hj.2).trans (flag_set0 hj.1), fun P rho mu σ H phi Fs Fc vs ds F Q o r b nh rho' ht q => by
  cases r with
  | nil => cases ht
  | cons r1 r2 =>
    unfold tNames at ht
    split at ht
    · rename_i hi
      refine ⟨_, _, rfl, ?_⟩
      have o1 := o.set0 r1 (fun a ha => b a (List.mem_append_left _ ha)) (fun j a ha z => nh j a ha (List.mem_append_left _ z)) hi
      refine h.2 P _ mu _ H phi _ Fc _ _ _ Q o1 r2 (fun a ha => b a (List.mem_append_right _ ha)) (fun j a ha z => ?_) rho' ht fun σ' Fs' o' k1 k2 k3 => q σ' Fs' o' (fun j hj => ?_) (fun j hj a ha => ?_) (k3.trans (List.length_set ..))
      · rw [flag_set] at ha
        unfold setF at ha
        by_cases hj : j = i
        · rw [if_pos hj] at ha
          split at ha <;> cases ha
        · rw [if_neg hj, if_neg hj] at ha
          exact nh j a ha (List.mem_append_right _ z)
      · simp only [List.mem_cons, not_or] at hj
        obtain ⟨e1, e2⟩ := k1 j hj.2
        refine ⟨e1.trans (by unfold setF; rw [if_neg hj.1]), e2.trans (List.getElem?_set_ne (Ne.symm hj.1))⟩
      · by_cases hj2 : j ∈ is
        · exact List.mem_append_right _ (k2 j hj2 a ha)
        · obtain ⟨e1, _⟩ := k1 j hj2
          have hji : j = i := by
            rcases List.mem_cons.mp hj with e | e
            · exact e
            · exact absurd e hj2
          rw [e1] at ha
          unfold setF at ha
          rw [if_pos hji] at ha
          exact List.mem_append_left _ ha
    · cases ht⟩
def tTupN (is : List Nat) : Tgt := fun d rho => match d with
  | .tup ds => tNames is ds rho
  | _ => none
theorem tNames_len : ∀ {is : List Nat} {ds : List D} {rho rho' : Rho}, tNames is ds rho = some rho' → ds.length = is.length
  | [], [], _, _, _ => rfl
  | [], _ :: _, _, _, h => by cases h
  | _ :: _, [], _, _, h => by cases h
  | i :: is, d :: ds, rho, rho', h => by
    unfold tNames at h
    split at h
    · simp [tNames_len h]
    · cases h
theorem dg_tup {is : List Nat} {tgs : TGs} (h : dGs (gx X) N g (setGs g is) is (tNames is) tgs) : dG (gx X) N g (setGs g is) is (tTupN is) (gTup X.K is.length tgs) := ⟨h.1, fun P rho mu σ H phi Fs Fc v d F Q o r b nh rho' ht q => by
  unfold tTupN at ht
  split at ht
  · cases r with
    | tup r1 r2 => exact ⟨_, _, rfl, r1, r2.length.trans (tNames_len ht), h.2 P rho mu σ H phi Fs Fc _ _ F Q o r2 b nh rho' ht q⟩
  · cases ht⟩

/-! ### for -/
def sForL (t : Tgt) (f : DS) : List D → DS
  | [] => fun rho mu => .nx rho mu
  | d :: ds => fun rho mu => match t d rho with
    | none => .bad
    | some r => match f r mu with
      | .nx r m => sForL t f ds r m
      | o => o
def sFor (fi : DA) (t : Tgt) (f : DS) : DS := sOf fi fun rho ds mu => sForL t f ds rho mu
theorem pds_for {iter tg : Expr} {fi : DA} {t : Tgt} {tgr : TG} {f : DS} (hp : PassesOwn (model X.prog X.w) X.A X.env X.xe) (hc : X.calm = true) (hi : PI X tg iter (dI (gx X) W N g A E fi)) (hg : PG X tg tgr) {T : List Nat} (hd : dG (gx X) N gL g1 T t tgr)
    (hb : PSs X body (dS (gx X) W N g1 gL fl f)) (hw : leG gL (clr g A) = true) (hs : ∀ x, foldedSetIterable iter X.env x = pure x := by intro _; rfl) : PS X (.For tg iter body [] pos) (dS (gx X) W N g gL fl (sFor fi t f)) := by
  refine psOf (ps_for hp hc hi hg hb hs) fun D σ H ⟨P, rho, mu, phi, Fs, Fc, o, q⟩ => ⟨P, rho, mu, phi, Fs, Fc, o, ?_⟩
  refine cse_imp (csS_of q) (fun ds mu1 q J p H1 phi1 Fc1 c1 rp bp be wk => ?_) fun _ _ q => exS_of o q
  have o1 := (o.cb c1)
  have basep := o.base bp
  have oL : Ok (gx X) N (p :: P) gL rho mu1 σ H1 phi1 Fs Fc1 := by
    refine ((o1.weak' (g' := clr g A) fun i => by rw [flag_clr]; split; exact .inl rfl; exact .inr rfl).pin rp fun i a ha => ?_).weak hw
    rw [flag_clr] at ha
    split at ha
    · cases ha
    · rename_i hn
      exact o.notHeld bp hn a ha
  refine ⟨fun i m σ H => m = ds.length - i ∧ i ≤ ds.length ∧ ∃ rho mu phi Fs Fc, Ok (gx X) N (p :: P) gL rho mu σ H phi Fs Fc ∧ csS (sForL t f (ds.drop i) rho mu) (nxK (gx X) N P gL D.nx) (rtK (gx X) N fl D.rt) (exS (gx X) N P W),
    ⟨ds.length, by omega, by omega, rho, mu1, phi1, Fs, Fc1, oL, by rw [List.drop_zero]; exact q⟩, ?_⟩
  rintro i m σ H ⟨rfl, hi, rho, mu, phi, Fs, Fc, o, q⟩
  have wk1 := wk i H phi o.cells.all.ntup (o.pins p List.mem_cons_self)
  by_cases hlt : i < ds.length
  · right
    have e1 : ds[i]? = some ds[i] := List.getElem?_eq_getElem hlt
    obtain ⟨go, yl⟩ := wk1.1 _ e1
    refine ⟨go, fun σ H => ∃ rho mu phi Fs Fc, Ok (gx X) N (p :: P) gL rho mu σ H phi Fs Fc ∧ csS (sForL t f (ds.drop (i + 1)) rho mu) (nxK (gx X) N P gL D.nx) (rtK (gx X) N fl D.rt) (exS (gx X) N P W),
      fun σ' H' z => ⟨ds.length - (i + 1), by omega, rfl, hlt, z⟩, fun x H' y => ?_⟩
    obtain ⟨sm, F, rx, hF⟩ := yl x H' y
    have c2 : CB (gx X) Fc H phi H' phi mu Fc := (CB.refl o.cells).same sm
    have o2 := o.cb c2
    rw [List.drop_eq_getElem_cons hlt] at q
    unfold sForL at q
    cases et : t ds[i] rho with
    | none => rw [et] at q; exact q.elim
    | some rho2 =>
      rw [et] at q
      have rp2 := o2.pins p List.mem_cons_self
      have nh : ∀ j, ∀ a ∈ heldL (flag gL j) (Fs j), a ∉ F := fun j a ha z => (o2.own j a ha).2.2.2.2 p List.mem_cons_self (elems_sub (hF a z))
      have bs : ∀ a ∈ F, N.H a = none ∨ a ∈ N.Ba ∨ a ∈ N.Bc := fun a ha => basep a (elems_sub (hF a ha))
      refine hd.2 (p :: P) rho mu σ H' phi Fs Fc x _ F _ o2 rx bs nh rho2 et fun σ2 Fs2 o3 _ _ _ => ?_
      refine ⟨p :: P, rho2, mu, phi, Fs2, Fc, o3, ?_⟩
      exact csS_imp (csS_seq q) (fun r m q σ' H' phi' Fs' Fc' o' => ⟨r, m, phi', Fs', Fc', o', q⟩) (fun _ _ q => q) fun _ _ _ q => fun C σ H phi Fs Fc m o => q C σ H phi Fs Fc m o.unpin
  · left
    have e : i = ds.length := by omega
    subst e
    rw [List.drop_length] at q
    exact ⟨wk1.2 (Nat.le_refl _), q σ H phi Fs Fc o.unpin⟩
end
end Dv

namespace Dv
open PySem L2
section
variable {X : Cx} {W : WX} {N : Entr} {g g' g1 g2 gL : Gm} {A E A1 A2 E1 E2 : List Nat} {fl fl1 fl2 : Nat} {e a b c tg : Expr} {es rest : List Expr} {pos p p2 : Pos}
theorem sqlRd {K : PySem.W.Frag} {H : Hp} {a : Addr} {vs : List V} (h : Rd H a (.lst vs)) : SqL K H a vs := .inl h
theorem Reps.getE {G : Gx} {H : Hp} {phi : List Addr} {vs : List V} {ds : List D} {F : List Addr} (r : Reps G H phi vs ds F) {i : Nat} {d : D} {v : V} (h : ds[i]? = some d) (hv : vs[i]? = some v) : ∃ E, Rep G H phi v d E ∧ ∀ a ∈ E, a ∈ F := by
  obtain ⟨u, E, h1, h2, h3⟩ := r.get h
  rw [hv] at h1; cases h1
  exact ⟨E, h2, h3⟩
/-! ### what is walked -/
theorem walks_list {G : Gx} {a : Addr} {ds : List D} {F : List Addr} : Walks' G (Itl G.K a) (.ref a, .lst ds, F) ds := fun i H phi _ r => by
  cases r with
  | lst h _ r =>
    refine ⟨fun d hd => ?_, fun hl => ⟨_, sqlRd h, by rw [r.length]; exact hl⟩⟩
    obtain ⟨v, E, h1, h2, h3⟩ := r.get hd
    refine ⟨⟨_, v, sqlRd h, h1⟩, fun x H' y => ?_⟩
    obtain ⟨rfl, y⟩ := y
    have e := y _ (sqlRd h)
    rw [h1] at e; cases e
    exact ⟨Same.refl _, E, h2, h3⟩
theorem walks_tup {G : Gx} {a : Addr} {ds : List D} {F : List Addr} : Walks' G (Itt G.K a) (.ref a, .tup ds, F) ds := fun i H phi _ r => by
  cases r with
  | tup h r =>
    refine ⟨fun d hd => ?_, fun hl => ⟨_, h, by rw [r.length]; exact hl⟩⟩
    obtain ⟨v, E, h1, h2, h3⟩ := r.get hd
    refine ⟨⟨_, v, h, h1⟩, fun x H' y => ?_⟩
    obtain ⟨rfl, y⟩ := y
    have e := y _ h
    rw [h1] at e; cases e
    exact ⟨Same.refl _, E, h2, h3⟩
def daSeq (f : DE) : DA := fun rho mu => bind (f rho mu) fun d mu1 => match d with
  | .lst ds => .ok ds mu1
  | _ => .bad
def daTupl (f : DE) : DA := fun rho mu => bind (f rho mu) fun d mu1 => match d with
  | .tup ds => .ok ds mu1
  | _ => .bad
theorem pdi_list {f : DE} (h : PE X e (dE (gx X) W N g A E fl f)) : PI X tg e (dI (gx X) W N g (al fl A) (al fl E) (daSeq f)) := by
  refine piOf (pi_list h) fun σ H R ⟨P, rho, mu, phi, Fs, Fc, o, q⟩ => ⟨P, rho, mu, phi, Fs, Fc, o, ?_⟩
  unfold daSeq at q
  rw [cse_bind] at q
  refine cse_imp q (fun d mu1 q v H1 phi1 Fc1 F1 c1 w1 => ?_) fun _ _ q => q
  split at q
  · have r := w1.rep
    have rr := r
    cases r with
    | lst h n r => exact ⟨_, rfl, ⟨_, sqlRd h⟩, q _ (_, _, _) H1 phi1 Fc1 c1 rr w1.bal w1.bale walks_list⟩
  · exact q.elim
theorem pdi_tup {f : DE} (h : PE X e (dE (gx X) W N g A E fl f)) : PI X tg e (dI (gx X) W N g (al fl A) (al fl E) (daTupl f)) := by
  refine piOf (pi_tup h) fun σ H R ⟨P, rho, mu, phi, Fs, Fc, o, q⟩ => ⟨P, rho, mu, phi, Fs, Fc, o, ?_⟩
  unfold daTupl at q
  rw [cse_bind] at q
  refine cse_imp q (fun d mu1 q v H1 phi1 Fc1 F1 c1 w1 => ?_) fun _ _ q => q
  split at q
  · have r := w1.rep
    have rr := r
    cases r with
    | tup h r => exact ⟨_, rfl, ⟨_, h⟩, q _ (_, _, _) H1 phi1 Fc1 c1 rr w1.bal w1.bale walks_tup⟩
  · exact q.elim
/-- lo, lo + 1, .. n of them -/
def intsD (lo : Int) (n : Nat) : List D := (List.range n).map fun i => .int (lo + (i : Nat))
theorem walks_range {G : Gx} {lo : Int} {n : Nat} : Walks' G (Itr lo n) (.non, .non, []) (intsD lo n) := fun i H phi _ _ => by
  unfold intsD
  refine ⟨fun d hd => ?_, fun hl => (by have h := hl; simp at h; exact h)⟩
  rw [List.getElem?_map] at hd
  by_cases hi : i < n
  · rw [List.getElem?_range hi] at hd
    cases hd
    refine ⟨hi, fun x H' y => ?_⟩
    obtain ⟨rfl, rfl⟩ := y
    exact ⟨Same.refl _, [], .int _, fun _ h => nomatch h⟩
  · rw [List.getElem?_eq_none (by simpa using hi)] at hd
    cases hd
def small62 (i : Int) : Bool := decide (-(2 ^ 62) ≤ i) && decide (i < 2 ^ 62)
theorem small62_iff {i : Int} (h : small62 i = true) : -(2 ^ 62) ≤ i ∧ i < 2 ^ 62 := by
  unfold small62 at h
  simp only [Bool.and_eq_true, decide_eq_true_eq] at h
  exact h
def daRange1 (f : DE) : DA := fun rho mu => bind (f rho mu) fun d mu1 => match d with
  | .int j => if small62 j = true then .ok (intsD 0 j.toNat) mu1 else .bad
  | _ => .bad
theorem pdi_range1 {f : DE} (hg : Gl X "range") (hm : X.mg "range" = none) (ha : PE X a (dE (gx X) W N g A E fl f)) (hs : starEach [a] X.env = [(false, eval a X.env)] := by rfl) : PI X tg (.Call (.Name "range" p) [a] [] pos) (dI (gx X) W N g [] [] (daRange1 f)) := by
  refine piOf (pi_range1 hg hm (pa_cons ha pa_nil (hs.trans rfl)) hs) fun σ H R ⟨P, rho, mu, phi, Fs, Fc, o, q⟩ => ⟨P, rho, mu, phi, Fs, Fc, o, ?_⟩
  unfold daRange1 at q
  rw [cse_bind] at q
  refine cse_imp q (fun d mu1 q v H1 phi1 Fc1 F1 c1 w1 => ?_) fun _ _ q => q
  split at q
  · have r := w1.rep
    cases r
    split at q
    · rename_i hb
      obtain ⟨h1, h2⟩ := small62_iff hb
      exact ⟨_, rfl, h1, h2, q _ (_, _, _) H1 phi1 Fc1 c1 .non bnd.nil bnd.nil walks_range⟩
    · exact q.elim
  · exact q.elim
def daRange2 (f1 f2 : DE) : DA := fun rho mu => bind (f1 rho mu) fun d mu1 => bind (f2 rho mu1) fun d2 mu2 => match d, d2 with
  | .int i, .int j => if small62 i = true ∧ small62 j = true then .ok (intsD i (j - i).toNat) mu2 else .bad
  | _, _ => .bad
theorem pdi_range2 {f1 f2 : DE} (hg : Gl X "range") (hm : X.mg "range" = none) (ha : PE X a (dE (gx X) W N g A1 E1 fl1 f1)) (hb : PE X b (dE (gx X) W N g A2 E2 fl2 f2)) (hs : starEach [a, b] X.env = [(false, eval a X.env), (false, eval b X.env)] := by rfl) (hs2 : starEach [b] X.env = [(false, eval b X.env)] := by rfl) :
    PI X tg (.Call (.Name "range" p) [a, b] [] pos) (dI (gx X) W N g [] [] (daRange2 f1 f2)) := by
  refine piOf (pi_range2 hg hm (pa_cons ha (pa_cons hb pa_nil (hs2.trans rfl)) (by rw [hs, hs2])) hs hs2) fun σ H R ⟨P, rho, mu, phi, Fs, Fc, o, q⟩ => ⟨P, rho, mu, phi, Fs, Fc, o, ?_⟩
  unfold daRange2 at q
  rw [cse_bind] at q
  refine cse_imp q (fun d mu1 q v H1 phi1 Fc1 F1 c1 w1 => ⟨P, rho, mu1, phi1, Fs, Fc1, o.cb c1, ?_⟩) fun _ _ q => q
  rw [cse_bind] at q
  refine cse_imp q (fun d2 mu2 q v2 H2 phi2 Fc2 F2 c2 w2 => ?_) fun _ _ q => q.back c1
  split at q
  · have r := w1.rep
    cases r
    have r2 := w2.rep
    cases r2
    split at q
    · rename_i hb
      obtain ⟨h1, h2⟩ := small62_iff hb.1
      obtain ⟨h3, h4⟩ := small62_iff hb.2
      exact ⟨_, _, rfl, ⟨h1, h2, h3, h4⟩, q _ (_, _, _) H2 phi2 Fc2 (c1.trans c2) .non bnd.nil bnd.nil walks_range⟩
    · exact q.elim
  · exact q.elim
/-- lo, lo - 1, .. n of them -/
def intsDn (lo : Int) (n : Nat) : List D := (List.range n).map fun i => .int (lo + (i : Nat) * (-1))
theorem walks_rangeDn {G : Gx} {lo : Int} {n : Nat} : Walks' G (Itc lo (-1) n) (.non, .non, []) (intsDn lo n) := fun i H phi _ _ => by
  unfold intsDn
  refine ⟨fun d hd => ?_, fun hl => (by have h := hl; simp at h; exact h)⟩
  rw [List.getElem?_map] at hd
  by_cases hi : i < n
  · rw [List.getElem?_range hi] at hd
    cases hd
    refine ⟨hi, fun x H' y => ?_⟩
    obtain ⟨rfl, rfl⟩ := y
    exact ⟨Same.refl _, [], .int _, fun _ h => nomatch h⟩
  · rw [List.getElem?_eq_none (by simpa using hi)] at hd
    cases hd
/-- range(a, b, -1) -/
def daRangeDn (f1 f2 f3 : DE) : DA := fun rho mu => bind (f1 rho mu) fun d mu1 => bind (f2 rho mu1) fun d2 mu2 => bind (f3 rho mu2) fun d3 mu3 => match d, d2, d3 with
  | .int i, .int j, .int k => if small62 i = true ∧ small62 j = true ∧ k = -1 then .ok (intsDn i (i - j).toNat) mu3 else .bad
  | _, _, _ => .bad
theorem pdi_rangeDn {A3 E3 : List Nat} {fl3 : Nat} {f1 f2 f3 : DE} (hg : Gl X "range") (hm : X.mg "range" = none) (ha : PE X a (dE (gx X) W N g A1 E1 fl1 f1)) (hb : PE X b (dE (gx X) W N g A2 E2 fl2 f2)) (hc : PE X c (dE (gx X) W N g A3 E3 fl3 f3))
    (hs : starEach [a, b, c] X.env = (false, eval a X.env) :: starEach [b, c] X.env := by rfl) (hs2 : starEach [b, c] X.env = (false, eval b X.env) :: starEach [c] X.env := by rfl) (hs3 : starEach [c] X.env = (false, eval c X.env) :: starEach [] X.env := by rfl) (hpl : (backTo pos (starEach [b, c] X.env)).any (·.1) = false := by rfl) :
    PI X tg (.Call (.Name "range" p) [a, b, c] [] pos) (dI (gx X) W N g [] [] (daRangeDn f1 f2 f3)) := by
  refine piOf (pi_range3 hg hm (pa_cons ha (pa_cons hb (pa_cons hc pa_nil hs3) hs2) hs) hs hpl) fun σ H R ⟨P, rho, mu, phi, Fs, Fc, o, q⟩ => ⟨P, rho, mu, phi, Fs, Fc, o, ?_⟩
  unfold daRangeDn at q
  rw [cse_bind] at q
  refine cse_imp q (fun d mu1 q v H1 phi1 Fc1 F1 c1 w1 => ⟨P, rho, mu1, phi1, Fs, Fc1, o.cb c1, ?_⟩) fun _ _ q => q
  rw [cse_bind] at q
  refine cse_imp q (fun d2 mu2 q v2 H2 phi2 Fc2 F2 c2 w2 => ⟨P, rho, mu2, phi2, Fs, Fc2, (o.cb c1).cb c2, ?_⟩) fun _ _ q => q.back c1
  rw [cse_bind] at q
  refine cse_imp q (fun d3 mu3 q v3 H3 phi3 Fc3 F3 c3 w3 => ?_) fun _ _ q => q.back (c1.trans c2)
  split at q
  · have r := w1.rep
    cases r
    have r2 := w2.rep
    cases r2
    have r3 := w3.rep
    cases r3
    split at q
    · rename_i hb
      obtain ⟨h1, h2⟩ := small62_iff hb.1
      obtain ⟨h3, h4⟩ := small62_iff hb.2.1
      obtain rfl := hb.2.2
      exact ⟨_, _, _, _, rfl, RgC.neg h1 h2 h3 h4, q _ (_, _, _) H3 phi3 Fc3 ((c1.trans c2).trans c3) .non bnd.nil bnd.nil walks_rangeDn⟩
    · exact q.elim
  · exact q.elim
/-- (0, x), (1, y), .. -/
def enumD (ds : List D) : List D := ds.mapIdx fun i d => .tup [.int (i : Nat), d]
theorem enumD_get {ds : List D} {i : Nat} : (enumD ds)[i]? = ds[i]?.map fun d => .tup [.int (i : Nat), d] := by
  unfold enumD; rw [List.getElem?_mapIdx]
theorem enumD_len {ds : List D} : (enumD ds).length = ds.length := by unfold enumD; simp
theorem walks_enum {G : Gx} {a : Addr} {ds : List D} {F : List Addr} : Walks' G (Ite G.K a) (.ref a, .lst ds, F) (enumD ds) := fun i H phi nt r => by
  cases r with
  | lst h _ r =>
    refine ⟨fun d hd => ?_, fun hl => ⟨_, sqlRd h, by rw [r.length]; rw [enumD_len] at hl; exact hl⟩⟩
    rw [enumD_get] at hd
    cases e : ds[i]? with
    | none => rw [e] at hd; cases hd
    | some d' =>
      rw [e] at hd
      cases hd
      obtain ⟨v, E, h1, h2, h3⟩ := r.get e
      refine ⟨⟨_, v, sqlRd h, h1⟩, fun x H' y => ?_⟩
      obtain ⟨T, x', rfl, hT, rfl, y⟩ := y
      have e := y _ (sqlRd h)
      rw [h1] at e; cases e
      have sm : Same H (upd H T (.tup [.int (i : Nat), v])) := fun b o z => by rw [upd_ne (ne_of_none z hT)]; exact z
      refine ⟨sm, [] ++ (E ++ []), .tup (SqT.of upd_same) (.cons (.int _) (.cons (h2.step (Step.of_same ?_ sm)) .nil)), fun a ha => ?_⟩
      · intro a ha vs z
        obtain ⟨ws, q⟩ := nt a ha
        rcases z with z | ⟨o, z⟩ <;> (rw [q] at z; cases z)
      · simp at ha
        exact h3 a ha
def daEnum (f : DE) : DA := fun rho mu => bind (f rho mu) fun d mu1 => match d with
  | .lst ds => .ok (enumD ds) mu1
  | _ => .bad
theorem pdi_enum {f : DE} {elts : List Expr} {kk : Nat} {tpos : Pos} (hg : Gl X "enumerate") (hm : X.mg "enumerate" = none) (ha : PE X e (dE (gx X) W N g A E fl f)) (hs : starEach [e] X.env = [(false, eval e X.env)] := by rfl) :
    PI X (.Tuple elts kk tpos) (.Call (.Name "enumerate" p) [e] [] pos) (dI (gx X) W N g (al fl A) (al fl E) (daEnum f)) := by
  refine piOf (pi_enum hg hm (pa_cons ha pa_nil (hs.trans rfl)) hs) fun σ H R ⟨P, rho, mu, phi, Fs, Fc, o, q⟩ => ⟨P, rho, mu, phi, Fs, Fc, o, ?_⟩
  unfold daEnum at q
  rw [cse_bind] at q
  refine cse_imp q (fun d mu1 q v H1 phi1 Fc1 F1 c1 w1 => ?_) fun _ _ q => q
  split at q
  · have r := w1.rep
    have rr := r
    cases r with
    | lst h n r => exact ⟨_, _, rfl, sqlRd h, q _ (_, _, _) H1 phi1 Fc1 c1 rr w1.bal w1.bale walks_enum⟩
  · exact q.elim
/-- the signs of a text -/
def signsD (x : Str) : List D := x.cps.toList.map fun c => .str ⟨#[c]⟩
theorem walks_str {G : Gx} {x : Str} : Walks' G (Its x) (.non, .non, []) (signsD x) := fun i H phi _ _ => by
  unfold signsD
  refine ⟨fun d hd => ?_, fun hl => (by have h := hl; simp at h; exact h)⟩
  rw [List.getElem?_map] at hd
  by_cases hi : i < x.cps.size
  · rw [List.getElem?_eq_getElem (by simpa using hi)] at hd
    cases hd
    refine ⟨hi, fun v H' y => ?_⟩
    obtain ⟨rfl, c, hc, rfl⟩ := y
    rw [Array.getElem?_eq_getElem hi] at hc
    cases hc
    exact ⟨Same.refl _, [], by simpa using Rep.str _, fun _ h => nomatch h⟩
  · rw [List.getElem?_eq_none (by simpa using hi)] at hd
    cases hd
def daStr (f : DE) : DA := fun rho mu => bind (f rho mu) fun d mu1 => match d with
  | .str x => .ok (signsD x) mu1
  | _ => .bad
theorem pdi_str {f : DE} (h : PE X e (dE (gx X) W N g A E fl f)) : PI X tg e (dI (gx X) W N g [] [] (daStr f)) := by
  refine piOf (pi_str h) fun σ H R ⟨P, rho, mu, phi, Fs, Fc, o, q⟩ => ⟨P, rho, mu, phi, Fs, Fc, o, ?_⟩
  unfold daStr at q
  rw [cse_bind] at q
  refine cse_imp q (fun d mu1 q v H1 phi1 Fc1 F1 c1 w1 => ?_) fun _ _ q => q
  split at q
  · have r := w1.rep
    cases r
    exact ⟨_, rfl, q _ (_, _, _) H1 phi1 Fc1 c1 .non bnd.nil bnd.nil walks_str⟩
  · exact q.elim
end
end Dv

namespace Dv
open PySem L2

/-! ## comprehensions -/
def wipeR (rho : Rho) : List Nat → Rho
  | [] => rho
  | v :: vs => (wipeR rho vs).set v none
theorem wipeR_len (rho : Rho) : ∀ vs : List Nat, (wipeR rho vs).length = rho.length
  | [] => rfl
  | v :: vs => by unfold wipeR; rw [List.length_set, wipeR_len rho vs]
theorem wipeR_get {rho : Rho} {i : Nat} {x : D} : ∀ {vs : List Nat}, (wipeR rho vs)[i]? = some (some x) → rho[i]? = some (some x) ∧ i ∉ vs
  | [], h => ⟨h, by simp⟩
  | v :: vs, h => by
    unfold wipeR at h
    by_cases hi : v = i
    · subst hi
      by_cases hv : v < (wipeR rho vs).length
      · rw [List.getElem?_set_self hv] at h; cases h
      · rw [List.getElem?_eq_none (by simpa using hv)] at h; cases h
    · rw [List.getElem?_set_ne hi] at h
      obtain ⟨h1, h2⟩ := wipeR_get h
      exact ⟨h1, by simp only [List.mem_cons, not_or]; exact ⟨fun e => hi e.symm, h2⟩⟩
theorem wipeR_out {rho : Rho} {i : Nat} : ∀ {vs : List Nat}, i ∉ vs → (wipeR rho vs)[i]? = rho[i]?
  | [], _ => rfl
  | v :: vs, h => by
    simp only [List.mem_cons, not_or] at h
    unfold wipeR
    rw [List.getElem?_set_ne (Ne.symm h.1)]
    exact wipeR_out h.2
theorem wipeS_out {σ : St} {i : Nat} : ∀ {vs : List Nat}, i ∉ vs → (wipe σ vs)[i]? = σ[i]?
  | [], _ => rfl
  | v :: vs, h => by
    simp only [List.mem_cons, not_or] at h
    unfold wipe
    rw [List.getElem?_set_ne (Ne.symm h.1)]
    exact wipeS_out h.2
theorem wipeS_in {σ : St} {i : Nat} : ∀ {vs : List Nat}, i ∈ vs → i < σ.length → (wipe σ vs)[i]? = some none
  | v :: vs, h, hl => by
    unfold wipe
    by_cases hi : v = i
    · subst hi
      rw [List.getElem?_set_self (by rw [wipe_length]; exact hl)]
    · rw [List.getElem?_set_ne hi]
      exact wipeS_in ((List.mem_cons.mp h).resolve_left fun e => hi e.symm) hl
/-- two states alike but at vs are alike, wiped there -/
theorem wipe_alike {σ τ : St} {vs : List Nat} (hl : σ.length = τ.length) (h : ∀ j, j ∉ vs → σ[j]? = τ[j]?) : wipe σ vs = wipe τ vs := by
  apply List.ext_getElem?
  intro j
  by_cases hj : j ∈ vs
  · by_cases hlt : j < σ.length
    · rw [wipeS_in hj hlt, wipeS_in hj (by omega)]
    · rw [List.getElem?_eq_none (by rw [wipe_length]; omega), List.getElem?_eq_none (by rw [wipe_length]; omega)]
  · rw [wipeS_out hj, wipeS_out hj]; exact h j hj
theorem wipe_wipe {σ : St} {vs : List Nat} : wipe (wipe σ vs) vs = wipe σ vs := wipe_alike (wipe_length σ vs) fun j hj => wipeS_out hj
def wipeF (Fs : Nat → List Addr) (vs : List Nat) : Nat → List Addr := fun j => if j ∈ vs then [] else Fs j
theorem Ok.wipe {G : Gx} {N : Entr} {P : List Pin} {g : Gm} {rho : Rho} {mu : Mu} {σ : St} {H : Hp} {phi : List Addr} {Fs : Nat → List Addr} {Fc : List Addr} (o : Ok G N P g rho mu σ H phi Fs Fc) (vs : List Nat) :
    Ok G N P g (wipeR rho vs) mu (L2.wipe σ vs) H phi (wipeF Fs vs) Fc where
  len := by rw [wipeR_len, wipe_length]; exact o.len
  slot := fun i d e => by
    obtain ⟨h1, h2⟩ := wipeR_get e
    obtain ⟨v, h3, h4⟩ := o.slot i d h1
    exact ⟨v, by rw [wipeS_out h2]; exact h3, by unfold wipeF; rw [if_neg h2]; exact h4⟩
  nil := fun i e => by
    unfold wipeF
    split
    · rfl
    · rename_i h
      exact o.nil i fun d q => e d (by rw [wipeR_out h]; exact q)
  own := fun i a ha => by
    unfold wipeF at ha
    split at ha
    · exact absurd (heldL_sub ha) (by simp)
    · obtain ⟨h1, h2, h3, h4, h5⟩ := o.own i a ha
      refine ⟨h1, h2, h3, fun j hj => ?_, h5⟩
      unfold wipeF
      split
      · simp
      · exact h4 j hj
  top := fun i e d e' => by
    obtain ⟨h1, h2⟩ := wipeR_get e'
    unfold wipeF
    rw [if_neg h2]
    exact o.top i e d h1
  nd := fun i e => by
    unfold wipeF
    split
    · exact List.nodup_nil
    · exact o.nd i e
  pins := o.pins
  cells := o.cells
  step := o.step
  baseS := fun i a ha => by
    unfold wipeF at ha
    split at ha
    · cases ha
    · exact o.baseS i a ha
  baseC := o.baseC

/-- the object at p, a list that nothing hangs on, is changed -/
theorem kpUpd {H : Hp} {phi F : List Addr} {p : Addr} {vs ws : List V} (hp : H p = some (.lst vs)) (hF : p ∉ F) : Kp F H phi (upd H p (.lst ws)) phi :=
  ⟨fun a ha o e _ => by rw [upd_ne (fun z => hF (by rw [← z]; exact ha))]; exact e, fun a ts h => by
    rcases h with h | ⟨o, h⟩
    · exact .inl (by rw [upd_ne (fun z => by rw [z, hp] at h; cases h)]; exact h)
    · exact .inr ⟨o, by rw [upd_ne (fun z => by rw [z, hp] at h; cases h)]; exact h⟩, List.prefix_refl _, fun _ _ _ _ n => n⟩
theorem CellsOk.updL {G : Gx} {H : Hp} {phi : List Addr} {mu : Mu} {Fc : List Addr} (c : CellsOk G H phi mu Fc) {p : Addr} {vs ws : List V} (hp : H p = some (.lst vs)) (h1 : p ∉ phi) (h2 : p ∉ Fc) : CellsOk G (upd H p (.lst ws)) phi mu Fc :=
  ⟨c.nd, c.all.kp (kpUpd hp h2) fun a ha xs e => by rw [upd_ne (fun z => h1 (by rw [← z]; exact ha))]; exact e⟩

def W0 : WX := fun _ _ _ _ => False
def bindN {α β : Type} (o : Out α) (k : α → Mu → Out β) : Out β := match o with
  | .ok a mu => k a mu
  | _ => .bad
theorem cse_bindN {α β : Type} {o : Out α} {k : α → Mu → Out β} {K : β → Mu → Prop} {e e' : Str → Mu → Prop} (h : cse (bindN o k) K e) : cse o (fun a mu => cse (k a mu) K e) e' := by
  cases o with
  | ok a mu => exact h
  | ex c mu => exact h.elim
  | bad => exact h
def lcL (t : Tgt) (ft : DT) (fe : DE) (rho : Rho) : List D → Mu → Out (List D)
  | [], mu => .ok [] mu
  | d :: ds, mu => match t d rho with
    | none => .bad
    | some r => bindN (ft r mu) fun b mu1 => if b = true then bindN (fe r mu1) fun y mu2 => bindN (lcL t ft fe rho ds mu2) fun ys mu3 => .ok (y :: ys) mu3 else lcL t ft fe rho ds mu1
def dLc (own : List Nat) (fi : DA) (t : Tgt) (ft : DT) (fe : DE) : DE := fun rho mu => bind (fi rho mu) fun ds mu1 => if ds.length ≤ 16777216 then bindN (lcL t ft fe (wipeR rho own) ds mu1) fun ys mu2 => .ok (.lst ys) mu2 else .bad
def alc (fl : Nat) (E A : List Nat) : List Nat := if 2 ≤ fl then [] else E ++ A
def dtYes : DT := fun _ mu => .ok true mu
section
variable {X : Cx} {W : WX} {N : Entr} {g g' g1 g2 gL : Gm} {A E Ai Ei A1 A2 E1 E2 : List Nat} {fl fl1 fl2 : Nat} {e a b c tg iter elt : Expr} {es rest ifs : List Expr} {pos p p2 : Pos}
theorem pdts_nil : PTs X [] (dT (gx X) W N g dtYes) := ⟨fun pins s σ H Q I ⟨P, rho, mu, phi, Fs, Fc, o, q⟩ => pts_nil.run pins s σ H Q I (q H phi Fc (.refl o.cells))⟩
theorem pdts_one {f : DT} (h : PT X c (dT (gx X) W N g f)) : PTs X [c] (dT (gx X) W N g f) := pts_one h

/-- the list that is being made -/
structure Acc (G : Gx) (fl : Nat) (H1 : Hp) (Dd : Addr) (H' : Hp) (phi' Fc' : List Addr) (acc : List V) (accd : List D) (Fa : List Addr) : Prop where
  at_ : H' Dd = some (.lst acc)
  nphi : Dd ∉ phi'
  nfc : Dd ∉ Fc'
  reps : Reps G H' phi' acc accd Fa
  nfa : Dd ∉ Fa
  fr : 2 ≤ fl → Fa.Nodup ∧ ∀ a ∈ Fa, H1 a = none ∧ (∃ o, H' a = some o ∧ Mut (some o)) ∧ a ∉ Fc'
theorem Acc.cb {G : Gx} {H1 : Hp} {Dd : Addr} {H' H3 : Hp} {phi' Fc' phi3 Fc3 : List Addr} {mu3 : Mu} {acc : List V} {accd : List D} {Fa : List Addr} (x : Acc G fl H1 Dd H' phi' Fc' acc accd Fa) (c : CB G Fc' H' phi' H3 phi3 mu3 Fc3) : Acc G fl H1 Dd H3 phi3 Fc3 acc accd Fa where
  at_ := c.st.same _ _ x.at_ x.nphi
  nphi := c.st.notin x.at_ x.nphi
  nfc := fun z => (c.bc _ z).elim x.nfc fun e => by rw [x.at_] at e; cases e
  reps := x.reps.step c.st
  nfa := x.nfa
  fr := fun h => by
    obtain ⟨h1, h2⟩ := x.fr h
    refine ⟨h1, fun a ha => ?_⟩
    obtain ⟨g1, ⟨o, g2, g3⟩, g4⟩ := h2 a ha
    exact ⟨g1, ⟨o, c.st.same _ _ g2 (x.reps.on a ha).2, g3⟩, fun z => (c.bc _ z).elim g4 fun e => by rw [g2] at e; cases e⟩
theorem Acc.push {G : Gx} {H1 H3 : Hp} {Dd : Addr} {H' : Hp} {phi' Fc' Fc0 : List Addr} {Fs : Nat → List Addr} {acc : List V} {accd : List D} {Fa F : List Addr} {y : V} {d : D} (x : Acc G fl H1 Dd H' phi' Fc' acc accd Fa)
    (w : Val G g A E fl Fs Fc0 H3 H' phi' Fc' y d F) (hn : Dd ∉ F) (h13 : ∀ a, H3 a = none → H1 a = none) (ht : ∀ a ∈ Fa, ∃ o, H3 a = some o) : Acc G fl H1 Dd (upd H' Dd (.lst (acc ++ [y]))) phi' Fc' (acc ++ [y]) (accd ++ [d]) (Fa ++ F) where
  at_ := upd_same
  nphi := x.nphi
  nfc := x.nfc
  reps := by
    have r := Reps.append (x.reps.kp (kpUpd (ws := acc ++ [y]) x.at_ x.nfa)) (.cons (w.rep.kp (kpUpd (ws := acc ++ [y]) x.at_ hn)) .nil)
    simpa using r
  nfa := fun z => (List.mem_append.mp z).elim x.nfa hn
  fr := fun h => by
    obtain ⟨h1, h2⟩ := x.fr h
    obtain ⟨k1, k2⟩ := w.fr.two h
    refine ⟨List.nodup_append.mpr ⟨h1, k1, fun a ha b hb e => ?_⟩, fun a ha => ?_⟩
    · subst e
      obtain ⟨o, q⟩ := ht a ha
      rw [(k2 a hb).1] at q; cases q
    · rcases List.mem_append.mp ha with ha | ha
      · obtain ⟨g1, ⟨o, g2, g3⟩, g4⟩ := h2 a ha
        exact ⟨g1, ⟨o, by rw [upd_ne (fun z => x.nfa (by rw [← z]; exact ha))]; exact g2, g3⟩, g4⟩
      · obtain ⟨g1, o, g2, g3⟩ := k2 a ha
        exact ⟨h13 a g1, ⟨o, by rw [upd_ne (fun z => hn (by rw [← z]; exact ha))]; exact g2, g3⟩, w.nc a (by unfold flS; rw [if_pos h]; exact ha)⟩
theorem lc_go {fi : DA} {t : Tgt} {tgr : TG} {ft : DT} {fe : DE} {own T : List Nat} (hd : dG (gx X) N (clr g Ei) g2 T t tgr) (hT : ∀ j ∈ T, j ∈ own) {σ : St} {H : Hp} {Q : VK}
    (h : dE (gx X) W N g (alc fl Ei A) (alc fl Ei A) (flL fl) (dLc own fi t ft fe) σ H Q) :
    tLc (dI (gx X) W N g Ai Ei fi) tgr (dT (gx X) W0 N g2 ft) (dE (gx X) W0 N g2 A E fl fe) own σ H Q := by
  obtain ⟨P, rho, mu, phi, Fs, Fc, o, q⟩ := h
  refine ⟨P, rho, mu, phi, Fs, Fc, o, ?_⟩
  unfold dLc at q
  rw [cse_bind] at q
  refine cse_imp q (fun ds mu1 q J p H1 phi1 Fc1 c1 rp bp be wk Dd hD => ?_) fun _ _ q => q
  split at q
  rotate_left
  · exact q.elim
  rename_i hlen
  have o1 := o.cb c1
  have hD0 : H Dd = none := c1.st.free hD
  have nP1 := notin_new c1.ce hD
  have nFc1 : Dd ∉ Fc1 := fun z => by
    obtain ⟨⟨u, hu, _⟩, _⟩ := c1.ce.all.on Dd z
    rw [hD] at hu; cases hu
  have c1b : CB (gx X) Fc1 H1 phi1 (upd H1 Dd (.lst [])) phi1 mu1 Fc1 := (CB.refl c1.ce).upd hD _
  have q := cse_bindN (e' := fun _ _ => False) q
  let Z : Nat → Nat → Hp → Prop := fun i m H' => m = ds.length - i ∧ i ≤ ds.length ∧ ∃ mu' phi' Fc' acc accd Fa, CB (gx X) Fc1 H1 phi1 H' phi' mu' Fc' ∧ Acc (gx X) fl H1 Dd H' phi' Fc' acc accd Fa ∧
    accd.length ≤ i ∧ bnd g Fs Fc H (alc fl Ei A) Fa ∧
    cse (lcL t ft fe (wipeR rho own) (ds.drop i) mu') (fun ys mu2 => okE (gx X) g (alc fl Ei A) (alc fl Ei A) (flL fl) Fs Fc H phi Q (.lst (accd ++ ys)) mu2) (fun _ _ => False)
  refine ⟨Z, ⟨ds.length, by omega, Nat.zero_le _, mu1, phi1, Fc1, [], [], [], c1b, ⟨upd_same, nP1, nFc1, .nil, by simp, fun _ => ⟨List.nodup_nil, fun _ h => nomatch h⟩⟩, Nat.zero_le _, bnd.nil, q⟩, ?_⟩
  rintro i m H' ⟨rfl, hi, mu', phi', Fc', acc, accd, Fa, cb, ac, hal, hbF, q⟩
  have wk1 := wk i H' phi' cb.ce.all.ntup (rp.step cb.st)
  by_cases hlt : i < ds.length
  rotate_left
  · left
    have e : i = ds.length := by omega
    subst e
    rw [List.drop_length] at q
    have q : okE (gx X) g (alc fl Ei A) (alc fl Ei A) (flL fl) Fs Fc H phi Q (.lst (accd ++ [])) mu' := q
    rw [List.append_nil] at q
    refine ⟨wk1.2 (Nat.le_refl _), q (.ref Dd) H' phi' Fc' (Dd :: Fa) (c1.trans cb) ⟨.lst (.inl ac.at_) ac.nphi ac.reps, ?_, hbF, ?_, fun a ha => ?_⟩⟩
    · intro a ha
      rcases List.mem_cons.mp ha with rfl | ha
      · exact .inl hD0
      · exact hbF a ha
    · unfold flL
      split
      · rename_i h2
        obtain ⟨n1, k1⟩ := ac.fr h2
        refine ⟨List.nodup_cons.mpr ⟨ac.nfa, n1⟩, fun a ha => ?_⟩
        rcases List.mem_cons.mp ha with rfl | ha
        · exact ⟨hD0, _, ac.at_, trivial⟩
        · obtain ⟨g1, g2, _⟩ := k1 a ha
          exact ⟨c1.st.free g1, g2⟩
      · exact ⟨rfl, Dd, Fa, rfl, hD0, ac.nfa, _, ac.at_, trivial⟩
    · unfold flL at ha
      split at ha
      · rename_i h2
        rcases List.mem_cons.mp ha with rfl | ha
        · exact ac.nfc
        · exact ((ac.fr h2).2 a ha).2.2
      · rcases List.mem_cons.mp ha with rfl | ha
        · exact ac.nfc
        · cases ha
  · right
    have e1 : ds[i]? = some ds[i] := List.getElem?_eq_getElem hlt
    obtain ⟨go, yl⟩ := wk1.1 _ e1
    refine ⟨go, Z (i + 1) (ds.length - (i + 1)), fun H2 z => ⟨_, by omega, z⟩, fun x H2 y => ?_⟩
    obtain ⟨sm, F, rx, hF⟩ := yl x H2 y
    have cs : CB (gx X) Fc' H' phi' H2 phi' mu' Fc' := (CB.refl cb.ce).same sm
    have cb2 := cb.trans cs
    have ac2 := ac.cb cs
    rw [List.drop_eq_getElem_cons hlt] at q
    unfold lcL at q
    cases et : t ds[i] (wipeR rho own) with
    | none => rw [et] at q; exact q.elim
    | some rho2 =>
      rw [et] at q
      have oW : Ok (gx X) N P (clr g Ei) (wipeR rho own) mu' (wipe σ own) H2 phi' (wipeF Fs own) Fc' := ((o1.cb cb2).weak' (g' := clr g Ei) fun i => by rw [flag_clr]; split; exact .inl rfl; exact .inr rfl).wipe own
      refine hd.2 P _ mu' _ H2 phi' _ Fc' x _ F _ oW rx (fun a ha => o.base be a (hF a ha)) (fun j a ha z => ?_) rho2 et fun σ2 Fs2 o2 k1 k2 k3 => ?_
      · rw [flag_clr] at ha
        split at ha
        · cases ha
        · rename_i hn
          unfold wipeF at ha
          split at ha
          · exact absurd (heldL_sub ha) (by simp)
          · exact o.notHeld be hn a ha (hF a z)
      refine ⟨(wipe_alike (by rw [k3]) fun j hj => (k1 j fun z => hj (hT j z)).2).trans wipe_wipe, P, rho2, mu', phi', Fs2, Fc', o2, ?_⟩
      refine cse_imp (cse_bindN (e' := fun _ _ => False) q) (fun b mu3 q H3 phi3 Fc3 c3 => ?_) fun _ _ q => q.elim
      have cb3 := cb2.trans c3
      have ac3 := ac2.cb c3
      cases b with
      | false =>
        rw [if_neg Bool.false_ne_true] at q
        refine iteF ?_
        exact ⟨rfl, hlt, mu3, phi3, Fc3, acc, accd, Fa, cb3, ac3, by omega, hbF, q⟩
      | true =>
        rw [if_pos rfl] at q
        refine iteT ?_
        refine ⟨P, rho2, mu3, phi3, Fs2, Fc3, o2.cb c3, ?_⟩
        refine cse_imp (cse_bindN (e' := fun _ _ => False) q) (fun d4 mu4 q v4 H4 phi4 Fc4 F4 c4 w4 => ?_) fun _ _ q => q.elim
        have cb4 := cb3.trans c4
        have ac4 := ac3.cb c4
        have hacc : acc.length = accd.length := ac4.reps.length
        refine ⟨acc, ac4.at_, by rw [hacc]; exact Nat.lt_of_lt_of_le (Nat.lt_of_le_of_lt hal hlt) (Nat.le_trans hlen (by decide)), ?_⟩
        -- what the new item hangs on
        have hb4 : ∀ a ∈ F4, H3 a = none ∨ a ∈ Fc3 ∨ (a ∈ elems p.2.1 p.2.2) ∨ ∃ j, a ∈ Fs j ∧ (j ∈ al fl A ∨ j ∈ Ei ∨ a ∉ heldL (flag g j) (Fs j)) := fun a ha => by
          rcases w4.bal a ha with z | z | ⟨j, z1, z2⟩
          · exact .inl z
          · exact .inr (.inl z)
          · right; right
            by_cases hj : j ∈ T
            · exact .inl (hF a (k2 j hj a z1))
            · right
              obtain ⟨e1, _⟩ := k1 j hj
              rw [e1, hd.1 j hj, flag_clr] at z2
              rw [e1] at z1
              unfold wipeF at z1 z2
              split at z1
              · cases z1
              · rename_i hjo
                refine ⟨j, z1, z2.imp id fun z => ?_⟩
                split at z
                · rename_i he; exact .inl he
                · first | exact .inr z | (rw [if_neg hjo] at z; exact .inr z)
        have nD4 : Dd ∉ F4 := fun z => by
          rcases hb4 Dd z with z | z | z | ⟨j, z, _⟩
          · rw [ac3.at_] at z; cases z
          · exact ac3.nfc z
          · obtain ⟨⟨u, hu, _⟩, _⟩ := rp.on Dd (elems_sub z)
            rw [hD] at hu; cases hu
          · obtain ⟨⟨u, hu, _⟩, _⟩ := o1.tracked z
            rw [hD] at hu; cases hu
        have bF4 : bnd g Fs Fc H (alc fl Ei A) F4 := by
          unfold alc
          split
          · rename_i h2
            exact bnd.none fun a ha => c1.st.free (cb3.st.free ((w4.fr.two h2).2 a ha).1)
          · rename_i h2
            intro a ha
            rcases hb4 a ha with z | z | z | ⟨j, z1, z2⟩
            · exact .inl (c1.st.free (cb3.st.free z))
            · exact ((c1.trans cb3).bc a z).elim (fun z => .inr (.inl z)) .inl
            · exact (be.mono fun _ => List.mem_append_left _) a z
            · refine .inr (.inr ⟨j, z1, ?_⟩)
              rcases z2 with z2 | z2 | z2
              · unfold al at z2
                rw [if_neg h2] at z2
                exact .inl (List.mem_append_right _ z2)
              · exact .inl (List.mem_append_left _ z2)
              · exact .inr z2
        have ac5 := ac4.push w4 nD4 (fun a h => cb3.st.free h) fun a ha => by
          obtain ⟨⟨u, hu, _⟩, _⟩ := ac3.reps.on a ha
          exact ⟨u, hu⟩
        refine ⟨rfl, hlt, mu4, phi4, Fc4, acc ++ [v4], accd ++ [d4], Fa ++ F4, ⟨⟨fun a u e n => ?_, cb4.st.pre, cb4.st.new, cb4.st.ntup, fun a h u e => ?_⟩, cb4.ce.updL ac4.at_ ac4.nphi ac4.nfc, cb4.bc⟩, ac5, by simp; omega, hbF.app bF4, ?_⟩
        · rw [upd_ne (ne_of_none e hD)]; exact cb4.st.same a u e n
        · rw [upd_ne (ne_of_none e hD)]; exact cb4.st.cel a h u e
        · refine cse_imp (cse_bindN (e' := fun _ _ => False) q) (fun ys mu5 q => ?_) fun _ _ q => q.elim
          rw [List.append_assoc]
          exact q
/-- [elt for target in iter if ..] -/
theorem pd_lc {fi : DA} {t : Tgt} {tgr : TG} {ft : DT} {fe : DE} {own : List (Str × Nat)} {T : List Nat} {scope : Scope} (hc : X.calm = true) (hN : X.N.Nodup) (hi : PI X tg iter (dI (gx X) W N g Ai Ei fi)) (ok : BlkOk X.N X.env.scope scope own)
    (hg : ∀ (s : Shared) (H : Hp) (C : Addr) (cl : List (Str × Addr)) (fp : List Addr), PG (X.blk s H scope (compEnvC scope cl C X.env) fp) tg tgr) (hd : dG (gx X) N (clr g Ei) g2 T t tgr) (hT : ∀ j ∈ T, j ∈ own.map (·.2))
    (ht : ∀ (s : Shared) (H : Hp) (C : Addr) (cl : List (Str × Addr)) (fp : List Addr), PTs (X.blk s H scope (compEnvC scope cl C X.env) fp) ifs (dT (gx (X.blk s H scope (compEnvC scope cl C X.env) fp)) W0 N g2 ft))
    (he : ∀ (s : Shared) (H : Hp) (C : Addr) (cl : List (Str × Addr)) (fp : List Addr), PE (X.blk s H scope (compEnvC scope cl C X.env) fp) elt (dE (gx (X.blk s H scope (compEnvC scope cl C X.env) fp)) W0 N g2 A E fl fe))
    (hs : ∀ x, foldedSetIterable iter X.env x = pure x := by intro _; rfl) :
    PE X (.ListComp elt [⟨tg, iter, ifs, 0⟩] scope pos) (dE (gx X) W N g (alc fl Ei A) (alc fl Ei A) (flL fl) (dLc (own.map (·.2)) fi t ft fe)) :=
  peOf (pe_lc (tt := dT (gx X) W0 N g2 ft) (te := dE (gx X) W0 N g2 A E fl fe) hc hN hi ok hg ht he hs) fun σ H Q h => lc_go hd hT h
/-- name = [elt for ..], on one line -/
theorem pds_setLc {i : Nat} {y : Str} {py spos : Pos} {fi : DA} {t : Tgt} {tgr : TG} {ft : DT} {fe : DE} {own : List (Str × Nat)} {T : List Nat} {scope : Scope} (hc : X.calm = true) (hN : X.N.Nodup) (hy : X.N[i]? = some y) (hyl : X.env.scope.names.lookup y = some .local)
    (hsw : swapsWith (.ListComp elt [⟨tg, iter, ifs, 0⟩] scope pos) (some (.Name y py)) spos.line X.env = pure true) (hi : PI X tg iter (dI (gx X) W N g Ai Ei fi)) (ok : BlkOk X.N X.env.scope scope own)
    (hg : ∀ (s : Shared) (H : Hp) (C : Addr) (cl : List (Str × Addr)) (fp : List Addr), PG (X.blk s H scope (compEnvC scope cl C X.env) fp) tg tgr) (hd : dG (gx X) N (clr g Ei) g2 T t tgr) (hT : ∀ j ∈ T, j ∈ own.map (·.2))
    (ht : ∀ (s : Shared) (H : Hp) (C : Addr) (cl : List (Str × Addr)) (fp : List Addr), PTs (X.blk s H scope (compEnvC scope cl C X.env) fp) ifs (dT (gx (X.blk s H scope (compEnvC scope cl C X.env) fp)) W0 N g2 ft))
    (he : ∀ (s : Shared) (H : Hp) (C : Addr) (cl : List (Str × Addr)) (fp : List Addr), PE (X.blk s H scope (compEnvC scope cl C X.env) fp) elt (dE (gx (X.blk s H scope (compEnvC scope cl C X.env) fp)) W0 N g2 A E fl fe))
    (hs : ∀ x, foldedSetIterable iter X.env x = pure x := by intro _; rfl) :
    PS X (.Assign [.Name y py] (.ListComp elt [⟨tg, iter, ifs, 0⟩] scope pos) spos) (tAsg (dE (gx X) W N g (alc fl Ei A) (alc fl Ei A) (flL fl) (dLc (own.map (·.2)) fi t ft fe)) (gName i)) :=
  psOf (ps_setLc (tt := dT (gx X) W0 N g2 ft) (te := dE (gx X) W0 N g2 A E fl fe) hc hN hy hyl hsw hi ok hg ht he hs) fun D σ H h => lc_go hd hT h
end
end Dv

namespace Dv
open PySem PySem.Spec PyProof.Rows L2

/-! ## defs and calls -/
abbrev Den := List D → Mu → Out D
/-- a def's promise: by data -/
def spD (G : Gx) (fl n : Nat) (f : Den) : Sp := fun vs H Q E => vs.length = n ∧ ∃ ds mu phi Fc F, Reps G H phi vs ds F ∧ CellsOk G H phi mu Fc ∧ cse (f ds mu)
  (fun d mu' => ∀ v H' phi' Fc' F', CB G Fc H phi H' phi' mu' Fc' → Rep G H' phi' v d F' → (∀ a ∈ F', H a = none ∨ a ∈ F ∨ a ∈ Fc) → Fresh fl H H' d F' → (∀ a ∈ heldL (flS fl) F', a ∉ Fc') → Q v H')
  (fun c mu' => ∀ C H' phi' Fc', G.mg c = some (.ref C) → CB G Fc H phi H' phi' mu' Fc' → E (.ref C) none H')
/-- what a body is worth (b: it may run to its end) -/
def denF (b : Bool) (n m : Nat) (f : DS) : Den := fun ds mu => match f (ds.map some ++ List.replicate (m - n) none) mu with
  | .nx _ mu' => if b = true then .ok .non mu' else .bad
  | .rt d mu' => .ok d mu'
  | .ex c _ mu' => .ex c mu'
  | .bad => .bad
theorem reps_slot {G : Gx} {H : Hp} {phi : List Addr} : ∀ {vs : List V} {ds : List D} {F : List Addr}, Reps G H phi vs ds F → ∃ Fs : Nat → List Addr, (∀ i d, ds[i]? = some d → ∃ v, vs[i]? = some v ∧ Rep G H phi v d (Fs i)) ∧ (∀ i, ds.length ≤ i → Fs i = []) ∧ ∀ i, ∀ a ∈ Fs i, a ∈ F
  | [], [], _, .nil => ⟨fun _ => [], fun i d h => by simp at h, fun _ _ => rfl, fun _ a h => nomatch h⟩
  | v :: vs, d :: ds, _, .cons r s => by
    obtain ⟨Fs, h1, h2, h3⟩ := reps_slot s
    rename_i F E
    refine ⟨fun i => match i with | 0 => F | i + 1 => Fs i, fun i d' h => ?_, fun i h => ?_, fun i a h => ?_⟩
    · cases i with
      | zero => simp at h; subst h; exact ⟨v, by simp, r⟩
      | succ i => simpa using h1 i d' (by simpa using h)
    · cases i with
      | zero => simp at h
      | succ i => exact h2 i (by simpa using h)
    · cases i with
      | zero => exact List.mem_append_left _ h
      | succ i => exact List.mem_append_right _ (h3 i a h)
theorem start_get {Ns : List Str} {vs : List V} {i : Nat} {v : V} (h : vs[i]? = some v) : (L2.start Ns vs)[i]? = some (some v) := by
  unfold L2.start
  have hi := (List.getElem?_eq_some_iff.mp h).1
  rw [List.getElem?_append_left (by simpa using hi), List.getElem?_map, h]
  rfl
theorem rho_get {ds : List D} {m n i : Nat} {d : D} (h : (ds.map some ++ List.replicate (m - n) none)[i]? = some (some d)) : ds[i]? = some d := by
  by_cases hi : i < ds.length
  · rw [List.getElem?_append_left (by simpa using hi), List.getElem?_map, List.getElem?_eq_getElem hi] at h
    rw [List.getElem?_eq_getElem hi]
    simpa using h
  · rw [List.getElem?_append_right (by simpa using hi), List.getElem?_replicate] at h
    split at h <;> cases h
theorem flag_zero {g : Gm} (h : g.all (· == 0) = true) (i : Nat) : flag g i = 0 := by
  unfold flag
  rw [List.getD_eq_getElem?_getD]
  cases e : g[i]? with
  | none => rfl
  | some x =>
    have := List.all_eq_true.mp h x (List.mem_of_getElem? e)
    simpa using this
theorem body_go {G : Gx} {fl n : Nat} {f : DS} {vs : List V} {H : Hp} {Q : VK} {E : XK} {Ns : List Str} {b : Bool} (hb : b = true → fl ≠ 1) (h : spD G fl n (denF b n Ns.length f) vs H Q E) :
    ∃ N : Entr, ∀ g0 g' : Gm, g0.all (· == 0) = true → dS G (fun cls d _ H => E cls d H) N g0 g' fl f { nx := fun _ H' => Q .non H', rt := Q } (L2.start Ns vs) H := by
  obtain ⟨hl, ds, mu, phi, Fc, F, r, c, q⟩ := h
  refine ⟨⟨H, phi, F, Fc⟩, fun g0 g' hg => ?_⟩
  obtain ⟨Fs, s1, s2, s3⟩ := reps_slot r
  have hlen := r.length
  have ok : Ok G ⟨H, phi, F, Fc⟩ [] g0 (ds.map some ++ List.replicate (Ns.length - n) none) mu (L2.start Ns vs) H phi Fs Fc := by
    refine ⟨?_, fun i d e => ?_, fun i e => ?_, fun i a ha => ?_, fun i e => ?_, fun i e => ?_, (fun p hp => nomatch hp), c, Step.refl c.ntup, fun i a ha => Or.inr (Or.inl (s3 i a ha)), fun a ha => Or.inr ha⟩
    · unfold L2.start
      simp [hlen, hl]
      omega
    · obtain ⟨v, h1, h2⟩ := s1 i d (rho_get e)
      exact ⟨v, start_get h1, h2⟩
    · refine s2 i ?_
      by_cases hi : i < ds.length
      · exact absurd (by rw [List.getElem?_append_left (by simpa using hi), List.getElem?_map, List.getElem?_eq_getElem hi]; rfl) (e ds[i])
      · omega
    · rw [flag_zero hg] at ha; cases ha
    · rw [flag_zero hg] at e; cases e
    · rw [flag_zero hg] at e; omega
  refine ⟨[], _, mu, phi, Fs, Fc, ok, ?_⟩
  unfold denF at q
  have cb : ∀ {H' : Hp} {phi' Fc' : List Addr} {mu' : Mu}, Step H phi H' phi' → CellsOk G H' phi' mu' Fc' → (∀ a ∈ Fc', H a = none ∨ a ∈ Fc) → CB G Fc H phi H' phi' mu' Fc' := fun s c b => ⟨s, c, fun a ha => (b a ha).symm⟩
  cases e : f (ds.map some ++ List.replicate (Ns.length - n) none) mu with
  | nx rho' mu' =>
    rw [e] at q
    cases b with
    | false => exact q.elim
    | true =>
      exact fun σ' H' phi' Fs' Fc' o => q .non H' phi' Fc' [] (cb o.step o.cells o.baseC) .non (fun _ h => nomatch h) (by
        match fl, hb rfl with
        | 0, _ => trivial
        | 1, h => exact absurd rfl h
        | 2, _ => exact ⟨List.nodup_nil, fun _ h => nomatch h⟩
        | _ + 3, _ => rfl) fun a h => nomatch heldL_sub h
  | rt d mu' =>
    rw [e] at q
    exact fun v H' phi' Fc' F' st ce bc rp bd fr nc => q v H' phi' Fc' F' (cb st ce bc) rp (fun a ha => bd a ha) fr nc
  | ex cl rho' mu' =>
    rw [e] at q
    exact fun C σ' H' phi' Fs' Fc' m o => q C H' phi' Fc' m (cb o.step o.cells o.baseC)
  | bad => rw [e] at q; exact q
/-- THE RULE: a def by its body -/
theorem def_ok {P : Program} {w : World} {K : PySem.W.Frag} {mg : Str → Option Value} {base : Heap} {x qual : Str} {st : Stmt} {f : Addr} {fd : FuncData} {Ns ps : List Str} {k fl : Nat} {fS : DS} {b : Bool} {g0 g' : Gm}
    (F : Fun K x qual st f fd) (S : FnScope Ns ps (defScope st)) (hb : b = true → fl ≠ 1) (hg : g0.all (· == 0) = true)
    (body : ∀ (cdv : Value) (A : Around) (outer : List Env) (s : Shared) (H : Hp) (E : XK) (N : Entr), Room k (A.deeper (envOfC qual (defScope st) s.heap.objs.size f cdv)) →
      PSs (cxOf (L2.CX P w) P w K mg base Ns qual (defScope st) f cdv A outer s H E) (defBody st) (dS ⟨K, P, w, mg⟩ (fun cls d _ H => E cls d H) N g0 g' fl fS)) :
    FnOk P w K mg base (L2.CX P w) (k + 1) f fd ps (spD ⟨K, P, w, mg⟩ fl ps.length (denF b ps.length Ns.length fS)) :=
  F.okX S (fun vs H Q E h => h.1) fun cdv A outer s H vs Q E hr h => by
    obtain ⟨N, h⟩ := body_go hb h
    exact ⟨_, body cdv A outer s H E N hr, h g0 g' hg⟩
/-- a promise over another, equal den -/
theorem spD_eq {P : Program} {w : World} {K : PySem.W.Frag} {mg : Str → Option Value} {base : Heap} {f : Addr} {fd : FuncData} {ps : List Str} {k fl n : Nat} {G : Gx} {d d' : Den}
    (F : FnOk P w K mg base (L2.CX P w) k f fd ps (spD G fl n d)) (h : ∀ ds mu, ds.length = n → d' ds mu ≠ .bad → d ds mu = d' ds mu) : FnOk P w K mg base (L2.CX P w) k f fd ps (spD G fl n d') :=
  F.imp fun vs H Q E ⟨hl, ds, mu, phi, Fc, F, r, c, q⟩ => ⟨hl, ds, mu, phi, Fc, F, r, c, by
    rw [h ds mu (by rw [← r.length]; exact hl) (fun e => by rw [e] at q; exact q)]
    exact q⟩

section
variable {X : Cx} {W : WX} {N : Entr} {g g' : Gm} {A E A1 A2 E1 E2 : List Nat} {fl fl1 fl2 n k : Nat} {e a b c : Expr} {es rest : List Expr} {pos p : Pos} {f : Addr} {fd : FuncData} {ps : List Str} {x : Str} {den : Den}
def dCall (n : Nat) (den : Den) (fa : DA) : DE := fun rho mu => bind (fa rho mu) fun ds mu1 => if ds.length = n then den ds mu1 else .bad
theorem pd_call {fa : DA} (F : FnOk X.prog X.w X.K X.mg X.base (L2.CX X.prog X.w) k f fd ps (spD (gx X) fl n den)) (hr : Room k X.A) (hg : Gl X x) (hm : X.mg x = some (.ref f)) (hk : PySem.W.keepIn X.K (.ref f) = true) (hb : Binds X.K fd ps []) (tk : Takes X W)
    (ha : PA X (e :: es) (dA (gx X) W N g A fl1 fa)) (hdb : (x == ("__debug__" : Str)) = false := by decide) (he : starEach (e :: es) X.env = (false, eval e X.env) :: starEach es X.env := by rfl) (hpl : (backTo pos (starEach es X.env)).any (·.1) = false := by rfl) :
    PE X (.Call (.Name x p) (e :: es) [] pos) (dE (gx X) W N g (al fl A) (al fl A) fl (dCall n den fa)) := by
  refine peOf (pe_callS F hr hg hm hk hb (fun σ => passAt tk σ) ha hdb he hpl) fun σ H Q ⟨P, rho, mu, phi, Fs, Fc, o, q⟩ => ⟨P, rho, mu, phi, Fs, Fc, o, ?_⟩
  unfold dCall at q
  rw [cse_bind] at q
  refine cse_imp q (fun ds mu1 q vs H1 phi1 Fc1 F1 c1 w1 => ?_) fun _ _ q => q
  split at q
  rotate_left
  · exact q.elim
  rename_i hl
  refine ⟨w1.rep.length.trans hl, ds, mu1, phi1, Fc1, F1, w1.rep, c1.ce, ?_⟩
  refine cse_imp q (fun d mu2 q v H2 phi2 Fc2 F2 c2 r2 b2 f2 n2 => ?_) fun _ _ q => q.back c1
  have c12 := c1.trans c2
  have bb : bnd g Fs Fc H (al fl A) F2 := by
    unfold al
    split
    · rename_i h2
      exact bnd.none fun a ha => c1.st.free ((f2.two h2).2 a ha).1
    · intro a ha
      rcases b2 a ha with z | z | z
      · exact .inl (c1.st.free z)
      · exact w1.bd a z
      · exact (c1.bc a z).elim (fun z => .inr (.inl z)) .inl
  exact q v H2 phi2 Fc2 F2 c12 ⟨r2, bb, bb.sub fun a h => elems_sub h, f2.early fun _ => c1.st.free, n2⟩
/-- raise C('..') -/
def sRaise (c : Str) : DS := fun rho mu => .ex c rho mu
theorem pds_raise {C : Addr} {ex : Expr} {pos' : Pos} (hc : X.calm = true) (tk : Takes X W) (gC : X.mg x = some (.ref C)) (h : PMk X ex (fun _ H Q => Q (.ref C) none H)) : PS X (.Raise (some ex) none pos') (dS (gx X) W N g g' fl (sRaise x)) :=
  psOf (ps_raise hc tk h) fun D σ H ⟨P, rho, mu, phi, Fs, Fc, o, q⟩ => q C σ H phi Fs Fc gC o.zero
end
end Dv

namespace Dv
open PySem PySem.Spec PyProof.Rows L2

/-! ## What the operations are worth -/
section
variable {X : Cx} {N : Entr} {g : Gm} {W : WX} {H : Hp} {phi : List Addr}
theorem nt_ntup {H : Hp} {phi : List Addr} (n : NT H phi) : ∀ a ∈ phi, ∀ vs, ¬ Rd H a (.tup vs) := fun a ha vs h => by
  obtain ⟨xs, e⟩ := n a ha
  rcases h with h | ⟨o, h⟩ <;> (rw [e] at h; cases h)
theorem same_upd {H : Hp} {p : Addr} {o : HO} (hp : H p = none) : Same H (upd H p o) := fun b u e => by rw [upd_ne (ne_of_none e hp)]; exact e
theorem nt_new {H : Hp} {phi : List Addr} (n : NT H phi) {p : Addr} (hp : H p = none) : p ∉ phi := fun z => by
  obtain ⟨vs, e⟩ := n p z
  rw [hp] at e; cases e
theorem nF_new {G : Gx} {H : Hp} {phi : List Addr} {vs : List V} {ds : List D} {F : List Addr} (r : Reps G H phi vs ds F) {p : Addr} (hp : H p = none) : p ∉ F := fun z => by
  obtain ⟨⟨u, hu, _⟩, _⟩ := r.on p z
  rw [hp] at hu; cases hu
/-- a scalar answer -/
theorem Rlt.scal {G : Gx} {B : List Addr} {v : V} {d : D} {Q : VK} (q : Rlt G H phi B 3 d Q) (r : Rep G H phi v d []) : Q v H := q v H [] (Same.refl _) r (fun _ h => nomatch h) rfl
/-- a new list -/
theorem Rlt.newL {G : Gx} {B F : List Addr} {vs : List V} {ds : List D} {Q : VK} (q : Rlt G H phi B 1 (.lst ds) Q) (n : NT H phi) (r : Reps G H phi vs ds F) (hF : ∀ a ∈ F, a ∈ B) : ∀ p, H p = none → Q (.ref p) (upd H p (.lst vs)) := fun p hp =>
  q (.ref p) _ (p :: F) (same_upd hp) (.lst rd_upd (nt_new n hp) (r.step (Step.mkUpd (nt_ntup n) hp _))) (fun a ha => (List.mem_cons.mp ha).elim (fun e => .inl (e ▸ hp)) fun z => .inr (hF a z))
    ⟨rfl, p, F, rfl, hp, nF_new r hp, _, upd_same, trivial⟩
/-- a new list of things without footprint -/
theorem Rlt.newL2 {G : Gx} {B : List Addr} {vs : List V} {ds : List D} {Q : VK} (q : Rlt G H phi B 2 (.lst ds) Q) (n : NT H phi) (r : Reps G H phi vs ds []) : ∀ p, H p = none → Q (.ref p) (upd H p (.lst vs)) := fun p hp =>
  q (.ref p) _ [p] (same_upd hp) (.lst rd_upd (nt_new n hp) (r.step (Step.mkUpd (nt_ntup n) hp _))) (fun a ha => .inl (by rw [List.mem_singleton.mp ha]; exact hp))
    ⟨List.nodup_cons.mpr ⟨by simp, List.nodup_nil⟩, fun a ha => by rw [List.mem_singleton.mp ha]; exact ⟨hp, _, upd_same, trivial⟩⟩
/-- a new tuple -/
theorem Rlt.newT {G : Gx} {B F : List Addr} {vs : List V} {ds : List D} {Q : VK} (q : Rlt G H phi B 0 (.tup ds) Q) (n : NT H phi) (r : Reps G H phi vs ds F) (hF : ∀ a ∈ F, a ∈ B) : ∀ p, H p = none → Q (.ref p) (upd H p (.tup vs)) := fun p hp =>
  q (.ref p) _ F (same_upd hp) (.tup (SqT.of upd_same) (r.step (Step.mkUpd (nt_ntup n) hp _))) (fun a ha => .inr (hF a ha)) trivial

/-! ### whole numbers -/
def oAdd : Op2 := fun a b => match a, b with
  | .int i, .int j => some (.int (i + j))
  | _, _ => none
def oSub : Op2 := fun a b => match a, b with
  | .int i, .int j => some (.int (i - j))
  | _, _ => none
def okMul (i j : Int) : Bool := (decide (-(2 ^ 64) < i) && decide (i < 2 ^ 64)) || (decide (-(2 ^ 64) < j) && decide (j < 2 ^ 64))
def oMul : Op2 := fun a b => match a, b with
  | .int i, .int j => if okMul i j = true then some (.int (i * j)) else none
  | _, _ => none
def oMod : Op2 := fun a b => match a, b with
  | .int i, .int j => if 0 < j then some (.int (i % j)) else none
  | _, _ => none
def oDiv : Op2 := fun a b => match a, b with
  | .int i, .int j => if 0 < j ∧ j < 1073741824 then some (.int (i / j)) else none
  | _, _ => none
def oPow : Op2 := fun a b => match a, b with
  | .int i, .int j => if 0 ≤ j ∧ j ≤ 1000000 ∧ i.natAbs < 2 ^ 64 then some (.int (i ^ j.toNat)) else none
  | _, _ => none
def oShr : Op2 := fun a b => match a, b with
  | .int i, .int j => if 0 ≤ j then some (.int (i / 2 ^ j.toNat)) else none
  | _, _ => none
def oNeg : Op1 := fun a => match a with
  | .int i => some (.int (-i))
  | _ => none
theorem sem_I {C : Int → Int → Prop} {k : Int → Int → Int} {o : Op2} (h : ∀ a b d, o a b = some d → ∃ i j, a = .int i ∧ b = .int j ∧ C i j ∧ d = .int (k i j)) : Sem2 (gx X) (rI C fun i j => .int (k i j)) o 3 := fun H phi x dx Fx y dy Fy d Q n rx ry hd q => by
  obtain ⟨i, j, rfl, rfl, hc, rfl⟩ := h _ _ _ hd
  cases rx
  cases ry
  exact ⟨i, j, rfl, rfl, hc, q.scal (.int _)⟩
theorem sem_I0 {k : Int → Int → Int} {o : Op2} (h : ∀ a b d, o a b = some d → ∃ i j, a = .int i ∧ b = .int j ∧ d = .int (k i j)) : Sem2 (gx X) (rI0 fun i j => .int (k i j)) o 3 := fun H phi x dx Fx y dy Fy d Q n rx ry hd q => by
  obtain ⟨i, j, rfl, rfl, rfl⟩ := h _ _ _ hd
  cases rx
  cases ry
  exact ⟨i, j, rfl, rfl, q.scal (.int _)⟩
theorem sem_add : Sem2 (gx X) (rI0 fun i j => .int (i + j)) oAdd 3 := sem_I0 fun a b d h => by
  unfold oAdd at h; split at h <;> cases h; exact ⟨_, _, rfl, rfl, rfl⟩
theorem sem_sub : Sem2 (gx X) (rI0 fun i j => .int (i - j)) oSub 3 := sem_I0 fun a b d h => by
  unfold oSub at h; split at h <;> cases h; exact ⟨_, _, rfl, rfl, rfl⟩
theorem okMul_iff {i j : Int} (h : okMul i j = true) : CMul i j := by
  unfold okMul at h
  simp only [Bool.or_eq_true, Bool.and_eq_true, decide_eq_true_eq] at h
  exact h
theorem sem_mul : Sem2 (gx X) (rI CMul fun i j => .int (i * j)) oMul 3 := sem_I fun a b d h => by
  unfold oMul at h
  split at h
  · split at h
    · rename_i hc; cases h; exact ⟨_, _, rfl, rfl, okMul_iff hc, rfl⟩
    · cases h
  · cases h
theorem sem_mod : Sem2 (gx X) (rI (fun _ j => 0 < j) fun i j => .int (i % j)) oMod 3 := sem_I fun a b d h => by
  unfold oMod at h
  split at h
  · split at h
    · rename_i hc; cases h; exact ⟨_, _, rfl, rfl, hc, rfl⟩
    · cases h
  · cases h
theorem sem_div : Sem2 (gx X) (rI CDiv fun i j => .int (i / j)) oDiv 3 := sem_I fun a b d h => by
  unfold oDiv at h
  split at h
  · split at h
    · rename_i hc; cases h; exact ⟨_, _, rfl, rfl, hc, rfl⟩
    · cases h
  · cases h
theorem sem_pow : Sem2 (gx X) (rI CPow fun i j => .int (i ^ j.toNat)) oPow 3 := sem_I fun a b d h => by
  unfold oPow at h
  split at h
  · split at h
    · rename_i hc; cases h; exact ⟨_, _, rfl, rfl, hc, rfl⟩
    · cases h
  · cases h
theorem sem_shr : Sem2 (gx X) (rI (fun _ j => 0 ≤ j) fun i j => .int (i / 2 ^ j.toNat)) oShr 3 := sem_I fun a b d h => by
  unfold oShr at h
  split at h
  · split at h
    · rename_i hc; cases h; exact ⟨_, _, rfl, rfl, hc, rfl⟩
    · cases h
  · cases h
theorem sem_neg : Sem1 (gx X) (rU fun i => .int (-i)) oNeg 3 := fun H phi x dx Fx d Q n rx hd q => by
  unfold oNeg at hd
  split at hd
  · cases hd; cases rx; exact ⟨_, rfl, q.scal (.int _)⟩
  · cases hd
/-! ### texts, lists, tuples put together -/
def oCatS : Op2 := fun a b => match a, b with
  | .str x, .str y => if x.length + y.length ≤ 16777216 then some (.str (x ++ y)) else none
  | _, _ => none
theorem sem_catS : Sem2 (gx X) (fun x y H Q => ∃ i j, x = .str i ∧ y = .str j ∧ i.length + j.length ≤ sizeLine ∧ Q (.str (i ++ j)) H) oCatS 3 := fun H phi x dx Fx y dy Fy d Q n rx ry hd q => by
  unfold oCatS at hd
  split at hd
  · split at hd
    · rename_i hc; cases hd; cases rx; cases ry
      exact ⟨_, _, rfl, rfl, hc, q.scal (.str _)⟩
    · cases hd
  · cases hd
theorem lstR {pins : List (Addr × Obj)} {σ : L2.St} {s : Shared} {l : Addr} {xs : List V} (I : Inv X pins σ H s) (hH : Rd H l (.lst xs)) : xs.length ≤ sizeLine ∧ ∃ (its : List Value) (n : Nat), Vals xs its ∧ xs.length = its.length ∧ s.heap.get? l = some { cls := .type "list", data := .seq its.toArray n } := by
  obtain ⟨z, its, n, r, e⟩ := hH.ok I.hok
  exact ⟨z, its, n, r, r.length, e⟩
def rCatR : R2 := fun x y H Q => ∃ l b xs zs, x = .ref l ∧ y = .ref b ∧ Rd H l (.lst xs) ∧ Rd H b (.lst zs) ∧ xs.length + zs.length ≤ sizeLine ∧ ∀ p, H p = none → Q (.ref p) (upd H p (.lst (xs ++ zs)))
theorem op_catR : OpR X (binaryOp .Add) rCatR := by
  intro pins s σ H x y v u Q I rx ry h
  obtain ⟨l, b, xs, zs, rfl, rfl, hH, hB, hz, q⟩ := h
  cases rx
  cases ry
  obtain ⟨z, its, n, r, hl, e⟩ := lstR I hH
  obtain ⟨z2, its2, n2, r2, hl2, e2⟩ := lstR I hB
  refine PySem.P.add_list e e2 ?_ (by rw [List.size_toArray, List.size_toArray]; omega)
  have ea : its.toArray ++ its2.toArray = (its ++ its2).toArray := by simp
  rw [ea]
  exact ⟨.ref _, _, I.lnew (t' := s.toks) (r.append r2) (by rw [List.length_append]; omega), rfl, q _ I.fresh⟩
def oCatL : Op2 := fun a b => match a, b with
  | .lst xs, .lst ys => if xs.length + ys.length ≤ 16777216 then some (.lst (xs ++ ys)) else none
  | _, _ => none
theorem sem_catL : Sem2 (gx X) rCatR oCatL 1 := fun H phi x dx Fx y dy Fy d Q n rx ry hd q => by
  unfold oCatL at hd
  split at hd
  · split at hd
    · rename_i hc
      cases hd
      cases rx with
      | lst h1 n1 r1 =>
        cases ry with
        | lst h2 n2 r2 =>
          refine ⟨_, _, _, _, rfl, rfl, h1, h2, by rw [r1.length, r2.length]; exact hc, q.newL n (r1.append r2) fun a ha => ?_⟩
          exact ha
    · cases hd
  · cases hd
def oCatT : Op2 := fun a b => match a, b with
  | .tup xs, .tup ys => if xs.length + ys.length ≤ 16777216 then some (.tup (xs ++ ys)) else none
  | _, _ => none
theorem sem_catT : Sem2 (gx X) (rCatA X.K) oCatT 0 := fun H phi x dx Fx y dy Fy d Q n rx ry hd q => by
  unfold oCatT at hd
  split at hd
  · split at hd
    · rename_i hc
      cases hd
      have rx0 := rx
      have ry0 := ry
      cases rx with
      | tup h1 r1 =>
        cases ry with
        | tup h2 r2 =>
          refine ⟨_, _, _, _, rfl, rfl, h1, h2, by rw [r1.length, r2.length]; exact hc, fun e => ?_, fun _ e => ?_, fun _ _ => q.newT n (r1.append r2) fun a ha => ?_⟩
          · subst e
            cases r1
            exact q _ _ _ (Same.refl _) ry0 (fun a ha => .inr (List.mem_append_right _ ha)) trivial
          · subst e
            cases r2
            rw [List.append_nil] at q
            exact q _ _ _ (Same.refl _) rx0 (fun a ha => .inr (List.mem_append_left _ ha)) trivial
          · exact ha
    · cases hd
  · cases hd
/-! ### list * int -/
def rRepR : R2 := fun x y H Q => ∃ l k xs, x = .ref l ∧ y = .int k ∧ H l = some (.lst xs) ∧ -(2 ^ 63) ≤ k ∧ k < 2 ^ 63 ∧ xs.length * k.toNat ≤ sizeLine ∧
  ∀ p, H p = none → Q (.ref p) (upd H p (.lst (List.replicate k.toNat xs).flatten))
theorem reps_rep {G : Gx} {vs : List V} {ds : List D} {F : List Addr} (r : Reps G H phi vs ds F) : ∀ k : Nat, ∃ E, Reps G H phi (List.replicate k vs).flatten (List.replicate k ds).flatten E ∧ ∀ a ∈ E, a ∈ F
  | 0 => ⟨[], .nil, fun _ h => nomatch h⟩
  | k + 1 => by
    obtain ⟨E, h1, h2⟩ := reps_rep r k
    refine ⟨F ++ E, ?_, fun a ha => (List.mem_append.mp ha).elim id (h2 a)⟩
    rw [List.replicate_succ, List.flatten_cons, List.replicate_succ, List.flatten_cons]
    exact r.append h1
/-! ### places -/
def atD (xs : List D) (i : Int) : Option D := atI xs i
def oIx : Op2 := fun a b => match a, b with
  | .lst xs, .int i => atI xs i
  | .kls xs, .int i => atI xs i
  | .tup xs, .int i => atI xs i
  | .str z, .int i => if z.length ≤ 16777216 then (atI z.cps.toList i).map fun c => .str ⟨#[c]⟩ else none
  | _, _ => none
theorem reps_atI {G : Gx} {vs : List V} {ds : List D} {F : List Addr} (r : Reps G H phi vs ds F) {i : Int} {d : D} (h : atI ds i = some d) : ∃ v E, atI vs i = some v ∧ Rep G H phi v d E ∧ ∀ a ∈ E, a ∈ F := by
  unfold atI at h ⊢
  rw [r.length]
  cases e : ixN ds.length i with
  | none => rw [e] at h; cases h
  | some j =>
    rw [e] at h
    exact r.get h
theorem sem_ix : Sem2 (gx X) (rIx X.K) oIx 0 := fun H phi x dx Fx y dy Fy d Q n rx ry hd q => by
  unfold oIx at hd
  split at hd
  · cases ry
    cases rx with
    | lst h1 n1 r1 =>
      obtain ⟨v, E, g1, g2, g3⟩ := reps_atI r1 hd
      exact .inl ⟨_, _, _, _, rfl, rfl, sqlRd h1, g1, q v H E (Same.refl _) g2 (fun a ha => .inr (List.mem_append_left _ (g3 a ha))) trivial⟩
  · cases ry
    cases rx with
    | kls h1 r1 =>
      obtain ⟨v, E, g1, g2, g3⟩ := reps_atI r1 hd
      exact .inl ⟨_, _, _, _, rfl, rfl, .inr h1, g1, q v H E (Same.refl _) g2 (fun a ha => nomatch g3 a ha) trivial⟩
  · cases ry
    cases rx with
    | tup h1 r1 =>
      obtain ⟨v, E, g1, g2, g3⟩ := reps_atI r1 hd
      exact .inr (.inl ⟨_, _, _, _, rfl, rfl, h1, g1, q v H E (Same.refl _) g2 (fun a ha => .inr (List.mem_append_left _ (g3 a ha))) trivial⟩)
  · cases ry
    cases rx
    split at hd
    · rename_i hl
      cases e : atI (Str.cps ‹Str›).toList ‹Int› with
      | none => rw [e] at hd; cases hd
      | some c =>
        rw [e] at hd
        cases hd
        exact .inr (.inr ⟨_, _, c, rfl, rfl, hl, e, q _ H [] (Same.refl _) (.str _) (fun _ h => nomatch h) trivial⟩)
    · cases hd
  · cases hd
/-! ### slices -/
def cutD (xs : List D) (lo hi : Option Int) : List D := (xs.drop (HT.sIx xs.length 0 lo)).take (HT.sIx xs.length xs.length hi - HT.sIx xs.length 0 lo)
theorem reps_drop {G : Gx} : ∀ {vs : List V} {ds : List D} {F : List Addr}, Reps G H phi vs ds F → ∀ k : Nat, ∃ E, Reps G H phi (vs.drop k) (ds.drop k) E ∧ ∀ a ∈ E, a ∈ F
  | _, _, _, r, 0 => ⟨_, r, fun _ h => h⟩
  | _, _, _, .nil, _ + 1 => ⟨_, .nil, fun _ h => h⟩
  | _, _, _, .cons r s, k + 1 => let ⟨E, h1, h2⟩ := reps_drop s k; ⟨E, h1, fun a ha => List.mem_append_right _ (h2 a ha)⟩
theorem reps_take {G : Gx} : ∀ {vs : List V} {ds : List D} {F : List Addr}, Reps G H phi vs ds F → ∀ k : Nat, ∃ E, Reps G H phi (vs.take k) (ds.take k) E ∧ ∀ a ∈ E, a ∈ F
  | _, _, _, _, 0 => ⟨_, .nil, fun _ h => nomatch h⟩
  | _, _, _, .nil, _ + 1 => ⟨_, .nil, fun _ h => h⟩
  | _, _, _, .cons r s, k + 1 => let ⟨E, h1, h2⟩ := reps_take s k; ⟨_, .cons r h1, fun a ha => (List.mem_append.mp ha).elim (fun z => List.mem_append_left _ z) fun z => List.mem_append_right _ (h2 a z)⟩
theorem reps_cut {G : Gx} {vs : List V} {ds : List D} {F : List Addr} (r : Reps G H phi vs ds F) (lo hi : Option Int) : ∃ E, Reps G H phi (cutV vs lo hi) (cutD ds lo hi) E ∧ ∀ a ∈ E, a ∈ F := by
  unfold cutV cutD
  rw [r.length]
  obtain ⟨E, h1, h2⟩ := reps_drop r (HT.sIx ds.length 0 lo)
  obtain ⟨E2, h3, h4⟩ := reps_take h1 (HT.sIx ds.length ds.length hi - HT.sIx ds.length 0 lo)
  exact ⟨E2, h3, fun a ha => h2 a (h4 a ha)⟩
def oSlL : OpS := fun d lo hi => match d with
  | .lst xs => some (.lst (cutD xs lo hi))
  | .kls xs => some (.lst (cutD xs lo hi))
  | _ => none
theorem sem_slL : SemS (gx X) (rSlL X.K) oSlL 1 := fun H phi x dx Fx lo hi d Q n rx hd q => by
  unfold oSlL at hd
  split at hd
  · cases hd
    cases rx with
    | lst h1 n1 r1 =>
      obtain ⟨E, g1, g2⟩ := reps_cut r1 lo hi
      exact ⟨_, _, rfl, sqlRd h1, q.newL n g1 g2⟩
  · cases hd
    cases rx with
    | kls h1 r1 =>
      obtain ⟨E, g1, g2⟩ := reps_cut r1 lo hi
      exact ⟨_, _, rfl, .inr h1, q.newL n g1 fun a ha => nomatch g2 a ha⟩
  · cases hd
def oSlT : OpS := fun d lo hi => match d with
  | .tup xs => some (.tup (cutD xs lo hi))
  | _ => none
theorem sem_slT : SemS (gx X) (rSlA X.K) oSlT 0 := fun H phi x dx Fx lo hi d Q n rx hd q => by
  unfold oSlT at hd
  split at hd
  · cases hd
    have rx0 := rx
    cases rx with
    | tup h1 r1 =>
      refine ⟨_, _, rfl, h1, fun ⟨e1, e2⟩ => ?_, fun _ => ?_⟩
      · rw [r1.length] at e1 e2
        have e : cutD ‹List D› lo hi = ‹List D› := by
          unfold cutD
          rw [e1, e2]; simp
        rw [e] at q
        exact q _ _ _ (Same.refl _) rx0 (fun a ha => .inr ha) trivial
      · obtain ⟨E, g1, g2⟩ := reps_cut r1 lo hi
        exact q.newT n g1 g2
  · cases hd
/-! ### comparisons -/
mutual
def toPy : D → PyData
  | .non => .none
  | .bl b => .bool b
  | .int i => .int i
  | .str x => .str x
  | .lst xs => .list (toPys xs)
  | .tup xs => .tuple (toPys xs)
  | .dic _ => .dict []
  | .cell _ => .dict []
  | .kls _ => .dict []
def toPys : List D → List PyData
  | [] => []
  | x :: xs => toPy x :: toPys xs
end
mutual
theorem canLay_in {d : D} (h : (toPy d).canLay0 = true) : ∀ {H : Hp} {phi : List Addr} {G : Gx} {v : V} {F : List Addr}, Rep G H phi v d F → Dp G.K H v (toPy d) := fun {H phi G v F} r => match r with
  | .non => .non
  | .bl b => .bl b
  | .int i => .int i
  | .str x => .str x
  | .lst (ds := ds) h1 n1 r1 => .lst (sqlRd h1) (canLay_ins (ds := ds) (by simpa [toPy, PyData.canLay0] using h) r1)
  | .tup (ds := ds) h1 r1 => .tup h1 (canLay_ins (ds := ds) (by simpa [toPy, PyData.canLay0] using h) r1)
  | .cell _ => by simp [toPy, PyData.canLay0] at h
  | .kls _ _ => by simp [toPy, PyData.canLay0] at h
  | .dicK _ _ _ _ => by simp [toPy, PyData.canLay0] at h
  | .dicT _ _ _ _ _ => by simp [toPy, PyData.canLay0] at h
theorem canLay_ins {ds : List D} (h : PyData.canLayAll0 (toPys ds) = true) : ∀ {H : Hp} {phi : List Addr} {G : Gx} {vs : List V} {F : List Addr}, Reps G H phi vs ds F → DpAll G.K H vs (toPys ds) := fun {H phi G v F} r => match r with
  | .nil => .nil
  | .cons (d := d) (ds := ds) r s => .cons (canLay_in (d := d) (by simp [toPys, PyData.canLayAll0] at h; exact h.1) r) (canLay_ins (ds := ds) (by simp [toPys, PyData.canLayAll0] at h; exact h.2) s)
end
def shp (d : D) : Bool := SeqAt.shaped (toPy d)
theorem shp_dp {d : D} (h : shp d = true) {H : Hp} {phi : List Addr} {G : Gx} {v : V} {F : List Addr} (r : Rep G H phi v d F) : Dp G.K H v (toPy d) := canLay_in (SeqAt.canLay_of_shaped h) r
def oEq : OpB := fun a b => if shp a = true ∧ shp b = true then some (PyData.eqv (toPy a) (toPy b)) else none
def oNe : OpB := fun a b => if shp a = true ∧ shp b = true then some (!PyData.eqv (toPy a) (toPy b)) else none
theorem sem_eq : SemB (gx X) (rEqD X.K) oEq := fun H phi x dx Fx y dy Fy b Q n rx ry hd q => by
  unfold oEq at hd
  split at hd
  · rename_i h; cases hd
    exact ⟨_, _, shp_dp h.1 rx, shp_dp h.2 ry, h.1, h.2, q⟩
  · cases hd
theorem sem_ne : SemB (gx X) (rNeD X.K) oNe := fun H phi x dx Fx y dy Fy b Q n rx ry hd q => by
  unfold oNe at hd
  split at hd
  · rename_i h; cases hd
    exact ⟨_, _, shp_dp h.1 rx, shp_dp h.2 ry, h.1, h.2, q⟩
  · cases hd
def oCmpI (p : Int → Int → Bool) : OpB := fun a b => match a, b with
  | .int i, .int j => some (p i j)
  | _, _ => none
theorem sem_cmpI {p : Int → Int → Bool} : SemB (gx X) (rI0 fun i j => .bl (p i j)) (oCmpI p) := fun H phi x dx Fx y dy Fy b Q n rx ry hd q => by
  unfold oCmpI at hd
  split at hd
  · cases hd; cases rx; cases ry; exact ⟨_, _, rfl, rfl, q⟩
  · cases hd
abbrev oLt : OpB := oCmpI fun i j => decide (i < j)
abbrev oLe : OpB := oCmpI fun i j => decide (i ≤ j)
abbrev oGt : OpB := oCmpI fun i j => decide (j < i)
abbrev oGe : OpB := oCmpI fun i j => decide (j ≤ i)
/-- x is None -/
def oIsN : OpB := fun a b => match b with
  | .non => (match a with | .non => some true | .cell _ => some false | _ => some false)
  | _ => none
def oNotN : OpB := fun a b => (oIsN a b).map (!·)
theorem sem_isN : SemB (gx X) (fun x y H Q => y = .non ∧ Q (.bl (decide (x = .non))) H) oIsN := fun H phi x dx Fx y dy Fy b Q n rx ry hd q => by
  unfold oIsN at hd
  split at hd
  · cases ry
    refine ⟨rfl, ?_⟩
    cases rx <;> (cases hd; exact q)
  · cases hd
theorem sem_notN : SemB (gx X) (fun x y H Q => y = .non ∧ Q (.bl (!decide (x = .non))) H) oNotN := fun H phi x dx Fx y dy Fy b Q n rx ry hd q => by
  unfold oNotN oIsN at hd
  split at hd
  · cases ry
    refine ⟨rfl, ?_⟩
    cases rx <;> (cases hd; exact q)
  · cases hd
/-- x in a list of data -/
def oInL : OpB := fun a b => match b with
  | .lst ys => if shp a = true ∧ shp b = true then some ((toPys ys).any fun z => PyData.eqv z (toPy a)) else none
  | _ => none
def oNotInL : OpB := fun a b => (oInL a b).map (!·)
theorem sem_inL : SemB (gx X) (rInD X.K) oInL := fun H phi x dx Fx y dy Fy b Q n rx ry hd q => by
  unfold oInL at hd
  split at hd
  · split at hd
    · rename_i h; cases hd
      exact ⟨_, _, shp_dp h.1 rx, shp_dp h.2 ry, h.1, h.2, q⟩
    · cases hd
  · cases hd
theorem sem_notInL : SemB (gx X) (rNotInD X.K) oNotInL := fun H phi x dx Fx y dy Fy b Q n rx ry hd q => by
  unfold oNotInL oInL at hd
  split at hd
  · split at hd
    · rename_i h; cases hd
      exact ⟨_, _, shp_dp h.1 rx, shp_dp h.2 ry, h.1, h.2, q⟩
    · cases hd
  · cases hd
/-- x in a tuple of flat things -/
def flatD : D → Bool
  | .non | .bl _ | .int _ | .str _ => true
  | _ => false
def eqF (a b : D) : Bool := PyData.eqv (toPy a) (toPy b)
end
end Dv

namespace Dv
open PySem PySem.Spec PyProof.Rows L2

/-! ## Lists changed in place -/
section
variable {G : Gx} {N : Entr} {P : List Pin} {g g' : Gm} {rho : Rho} {mu : Mu} {σ : L2.St} {H : Hp} {phi : List Addr} {Fs : Nat → List Addr} {Fc : List Addr}
theorem stepUpdL {H0 H : Hp} {phi0 phi : List Addr} (s : Step H0 phi0 H phi) {a : Addr} {o : HO} (h0 : H0 a = none) : Step H0 phi0 (upd H a o) phi :=
  ⟨fun b u e n => by rw [upd_ne (ne_of_none e h0)]; exact s.same b u e n, s.pre, s.new, s.ntup, fun b hb u e => by rw [upd_ne (ne_of_none e h0)]; exact s.cel b hb u e⟩
theorem mutLst {H : Hp} {a : Addr} {vs : List V} (h : Rd H a (.lst vs)) (m : ∃ o, H a = some o ∧ Mut (some o)) : H a = some (.lst vs) := by
  rcases h with h | ⟨o, h⟩
  · exact h
  · obtain ⟨u, e, m⟩ := m
    rw [h] at e; cases e
    exact m.elim
/-- the list of a slot that is its own -/
theorem Ok.ownL (o : Ok G N P g rho mu σ H phi Fs Fc) {i : Nat} {xs : List D} (hi : rho[i]? = some (some (.lst xs))) (hf : 1 ≤ flag g i) :
    ∃ a vs r, σ[i]? = some (some (.ref a)) ∧ Fs i = a :: r ∧ H a = some (.lst vs) ∧ Reps G H phi vs xs r ∧ a ∉ r ∧ a ∉ phi ∧ a ∈ heldL (flag g i) (Fs i) := by
  obtain ⟨v, hv, rp⟩ := o.slot i _ hi
  generalize e : Fs i = F at rp
  cases rp with
  | lst h n r =>
    rename_i a vs E
    have hh : a ∈ heldL (flag g i) (Fs i) := by
      rw [e]
      match q : flag g i, hf with
      | 1, _ => simp [heldL]
      | n + 2, _ => simp [heldL]
    have nr : a ∉ E := by
      by_cases h1 : flag g i = 1
      · obtain ⟨_, x, t, e2, nx⟩ := o.top i h1 _ hi
        rw [e] at e2; cases e2
        exact nx
      · have := o.nd i (by omega)
        rw [e] at this
        exact (List.nodup_cons.mp this).1
    exact ⟨a, vs, E, hv, rfl, mutLst h (o.own i a hh).2.1, r, nr, n, by rw [← e]; exact hh⟩
/-- it is changed -/
theorem Ok.mutL (o : Ok G N P g rho mu σ H phi Fs Fc) {i : Nat} {xs : List D} (hi : rho[i]? = some (some (.lst xs))) {a : Addr} {vs : List V} {r : List Addr} (ha : σ[i]? = some (some (.ref a))) (hF : Fs i = a :: r) (hH : H a = some (.lst vs)) (np : a ∉ phi)
    (hh : a ∈ heldL (flag g i) (Fs i)) {vs' : List V} {ds' : List D} {r' : List Addr} (rp : Reps G H phi vs' ds' r') (b : ∀ x ∈ r', N.H x = none ∨ x ∈ N.Ba ∨ x ∈ N.Bc) (nr : a ∉ r')
    (nh : ∀ j, j ≠ i → ∀ x ∈ heldL (flag g j) (Fs j), x ∉ r') {k : Nat} (hk : k ≤ 1 ∨ (k = 2 ∧ r'.Nodup ∧ ∀ x ∈ r', N.H x = none ∧ (∃ o, H x = some o ∧ Mut (some o)) ∧ x ∉ Fc ∧ (∀ j, j ≠ i → x ∉ Fs j) ∧ ∀ p ∈ P, x ∉ p.2.2)) :
    Ok G N P (setG g i k) (rho.set i (some (.lst ds'))) mu σ (upd H a (.lst vs')) phi (setF Fs i (a :: r')) Fc := by
  obtain ⟨h1, h2, h3, h4, h5⟩ := o.own i a hh
  have hil : i < rho.length := (List.getElem?_eq_some_iff.mp hi).1
  have kp : ∀ {F : List Addr}, a ∉ F → Kp F H phi (upd H a (.lst vs')) phi := fun n => kpUpd hH n
  refine ⟨by rw [List.length_set]; exact o.len, fun j d e => ?_, fun j e => ?_, fun j x hx => ?_, fun j e d' e' => ?_, fun j e => ?_, fun p hp => (o.pins p hp).kp (kp (h5 p hp)), o.cells.updL hH np h3, stepUpdL o.step h1, fun j x hx => ?_, o.baseC⟩
  · by_cases hj : j = i
    · subst hj
      rw [List.getElem?_set_self hil] at e
      cases e
      exact ⟨_, ha, by unfold setF; rw [if_pos rfl]; exact .lst rd_upd np (rp.kp (kp nr))⟩
    · rw [List.getElem?_set_ne (Ne.symm hj)] at e
      obtain ⟨u, g1, g2⟩ := o.slot j d e
      exact ⟨u, g1, by unfold setF; rw [if_neg hj]; exact g2.kp (kp (h4 j hj))⟩
  · by_cases hj : j = i
    · subst hj
      exact absurd (List.getElem?_set_self hil) (e _)
    · unfold setF
      rw [if_neg hj]
      exact o.nil j fun d q => e d (by rw [List.getElem?_set_ne (Ne.symm hj)]; exact q)
  · rw [flag_set] at hx
    have mutU : ∀ {x : Addr}, (∃ o, H x = some o ∧ Mut (some o)) → ∃ o, upd H a (.lst vs') x = some o ∧ Mut (some o) := fun {x} ⟨u, e, m⟩ => by
      by_cases hxa : x = a
      · subst hxa; exact ⟨_, upd_same, trivial⟩
      · exact ⟨u, by rw [upd_ne hxa]; exact e, m⟩
    by_cases hj : j = i
    · subst hj
      rw [if_pos rfl] at hx
      unfold setF at hx
      rw [if_pos rfl] at hx
      have done : x = a → N.H x = none ∧ (∃ o, upd H a (.lst vs') x = some o ∧ Mut (some o)) ∧ x ∉ Fc ∧ (∀ l, l ≠ j → x ∉ setF Fs j (a :: r') l) ∧ ∀ p ∈ P, x ∉ p.2.2 := fun e => by
        subst e
        exact ⟨h1, ⟨_, upd_same, trivial⟩, h3, fun l hl => by unfold setF; rw [if_neg hl]; exact h4 l hl, h5⟩
      split at hx
      · rcases hk with hk | ⟨hk, _, hk2⟩
        · have : x = a := by
            match k, hk, hx with
            | 0, _, hx => cases hx
            | 1, _, hx => exact List.mem_singleton.mp hx
          exact done this
        · subst hk
          rcases List.mem_cons.mp hx with e | hx
          · exact done e
          · obtain ⟨k1, k2, k3, k4, k5⟩ := hk2 x hx
            exact ⟨k1, mutU k2, k3, fun l hl => by unfold setF; rw [if_neg hl]; exact k4 l hl, k5⟩
      · cases hx
    · rw [if_neg hj] at hx
      unfold setF at hx
      rw [if_neg hj] at hx
      obtain ⟨k1, k2, k3, k4, k5⟩ := o.own j x hx
      refine ⟨k1, mutU k2, k3, fun l hl => ?_, k5⟩
      unfold setF
      split
      · rename_i e
        intro z
        rcases List.mem_cons.mp z with z | z
        · subst z; exact h4 j hj (heldL_sub hx)
        · exact nh j hj x hx z
      · exact k4 l hl
  · rw [flag_set] at e
    by_cases hj : j = i
    · subst hj
      rw [List.getElem?_set_self hil] at e'
      cases e'
      exact ⟨rfl, a, r', by unfold setF; rw [if_pos rfl], nr⟩
    · rw [if_neg hj] at e
      rw [List.getElem?_set_ne (Ne.symm hj)] at e'
      unfold setF
      rw [if_neg hj]
      exact o.top j e d' e'
  · rw [flag_set] at e
    unfold setF
    by_cases hj : j = i
    · rw [if_pos hj] at e ⊢
      split at e
      · rcases hk with hk | ⟨_, hk1, _⟩
        · omega
        · exact List.nodup_cons.mpr ⟨nr, hk1⟩
      · omega
    · rw [if_neg hj] at e ⊢
      exact o.nd j e
  · unfold setF at hx
    split at hx
    · rename_i e
      subst e
      rcases List.mem_cons.mp hx with z | z
      · subst z; exact .inl h1
      · exact b x z
    · exact o.baseS j x hx
end
section
variable {X : Cx} {W : WX} {N : Entr} {g g' g1 g2 gL : Gm} {A E A1 A2 E1 E2 : List Nat} {fl fl1 fl2 : Nat} {e a b c : Expr} {es rest : List Expr} {pos cpos apos epos : Pos} {st : Stmt} {o : Expr}
/-! ### x.append(e), x.extend(e), x.clear() -/
def lstAt (rho : Rho) (i : Nat) : Option (List D) := match rho[i]? with
  | some (some (.lst xs)) => some xs
  | _ => none
theorem lstAt_iff {rho : Rho} {i : Nat} {xs : List D} (h : lstAt rho i = some xs) : rho[i]? = some (some (.lst xs)) := by
  unfold lstAt at h
  split at h
  · cases h; assumption
  · cases h
def sApp (i : Nat) (f : DE) : DS := fun rho mu => match lstAt rho i with
  | some xs => sOf f (fun rho d mu => if xs.length < 16777216 then .nx (rho.set i (some (.lst (xs ++ [d])))) mu else .bad) rho mu
  | none => .bad
def flA (x fl : Nat) : Nat := if x = 2 ∧ 2 ≤ fl then 2 else 1
abbrev gApp (g : Gm) (fl : Nat) (A : List Nat) (i : Nat) : Gm := setG (clr g (al fl A)) i (flA (flag g i) fl)
theorem Ok.clr {P : List Pin} {rho : Rho} {mu : Mu} {σ : L2.St} {H : Hp} {phi : List Addr} {Fs : Nat → List Addr} {Fc : List Addr} (o : Ok (gx X) N P g rho mu σ H phi Fs Fc) (A : List Nat) : Ok (gx X) N P (clr g A) rho mu σ H phi Fs Fc :=
  o.weak' fun i => by rw [flag_clr]; split; exact .inl rfl; exact .inr rfl
theorem flag_clr_out {g : Gm} {A : List Nat} {i : Nat} (h : i ∉ A) : flag (clr g A) i = flag g i := by rw [flag_clr, if_neg h]
theorem setG_setG (g : Gm) (i k l : Nat) : setG (setG g i k) i l = setG g i l := by unfold setG; rw [List.set_set]
theorem pds_app {i : Nat} {f : DE} (ho : PE X o (tVar i)) (ha : PE X e (dE (gx X) W N g A E fl1 f)) (hf : 1 ≤ flag g i) (hA : i ∉ al fl1 A)
    (hbase : attributeBase o "append" X.env (eval o X.env) = eval o X.env := by rfl)
    (hfew : ((backTo cpos (starEach [e] X.env)).all (fun x => !x.1) && (backToKw cpos (keywordEach [] X.env)).all (fun x => x.1.isSome) && decide ([e].length + ([] : List Keyword).length + (if ([] : List Keyword).isEmpty then 0 else 1) < 30)) = true := by rfl)
    (hline : (apos.endLine == cpos.line) = true := by rfl) (hs : starEach [e] X.env = (false, eval e X.env) :: starEach [] X.env := by rfl) (hplain : (backTo cpos (starEach [] X.env)).any (·.1) = false := by rfl)
    (hsw : swapsWith (.Call (.Attribute o "append" apos) [e] [] cpos) none epos.line X.env = pure false := by rfl) :
    PS X (.Expr (.Call (.Attribute o "append" apos) [e] [] cpos) epos) (dS (gx X) W N g (gApp g fl1 A i) fl (sApp i f)) := by
  refine psOf (ps_expr (pe_bm PySem.F.plainAttrs_list PySem.F.slot_list_append PySem.F.type_list_append mt_append ho (pa_cons ha pa_nil hs) hbase hfew hline hs hplain) hsw) fun D σ H ⟨P, rho, mu, phi, Fs, Fc, o, q⟩ => ?_
  unfold sApp at q
  cases ei : lstAt rho i with
  | none => rw [ei] at q; exact q.elim
  | some xs =>
    rw [ei] at q
    have hi := lstAt_iff ei
    obtain ⟨a, vs, r, hσ, hF, hH, rp, nr, np, hh⟩ := o.ownL hi hf
    refine ⟨_, hσ, .inl ⟨rfl, _, SqL.of hH⟩, P, rho, mu, phi, Fs, Fc, o, ?_⟩
    refine cse_imp (csS_of q) (fun d mu1 q v H1 phi1 Fc1 F1 c1 w1 => ?_) fun _ _ q => exS_of o q
    split at q
    rotate_left
    · exact q.elim
    rename_i hl
    have o1 := o.cb c1
    have hH1 := c1.st.same _ _ hH np
    have np1 := c1.st.notin hH np
    have rp1 := rp.step c1.st
    have nh : ∀ {j : Nat}, j ∉ al fl1 A → ∀ x ∈ heldL (flag g j) (Fs j), x ∉ F1 := fun hj => o.notHeld w1.bal hj
    have nF : a ∉ F1 := nh hA a hh
    have oC := o1.clr (al fl1 A)
    have hhC : a ∈ heldL (flag (clr g (al fl1 A)) i) (Fs i) := by rw [flag_clr_out hA]; exact hh
    refine ⟨a, vs, v, rfl, rfl, hH1, by rw [rp.length]; exact hl, ?_⟩
    refine q σ _ phi1 _ Fc1 (oC.mutL hi hσ hF hH1 np1 hhC (rp1.append (.cons w1.rep .nil)) (fun x hx => ?_) (fun z => ?_) (fun j hj x hx z => ?_) ?_)
    · rcases List.mem_append.mp hx with hx | hx
      · exact o.baseS i x (by rw [hF]; exact List.mem_cons_of_mem _ hx)
      · rw [List.append_nil] at hx; exact o.base w1.bd x hx
    · rw [List.append_nil] at z
      exact (List.mem_append.mp z).elim nr nF
    · rw [flag_clr] at hx
      split at hx
      · cases hx
      · rename_i hn
        rw [List.append_nil] at z
        rcases List.mem_append.mp z with z | z
        · exact (o.own j x hx).2.2.2.1 i (Ne.symm hj) (by rw [hF]; exact List.mem_cons_of_mem _ z)
        · exact nh hn x hx z
    · unfold flA
      split
      · rename_i h2
        right
        refine ⟨rfl, ?_, ?_⟩
        · rw [List.append_nil]
          have n1 := o.nd i (by omega)
          rw [hF] at n1
          obtain ⟨n2, k2⟩ := w1.fr.two h2.2
          refine List.nodup_append.mpr ⟨(List.nodup_cons.mp n1).2, n2, fun x hx y hy e => ?_⟩
          subst e
          obtain ⟨⟨u, hu, _⟩, _⟩ := rp.on x hx
          rw [(k2 x hy).1] at hu; cases hu
        · intro x hx
          rw [List.append_nil] at hx
          rcases List.mem_append.mp hx with hx | hx
          · have := o1.own i x (by rw [h2.1, hF]; exact List.mem_cons_of_mem _ hx)
            exact this
          · obtain ⟨_, k2⟩ := w1.fr.two h2.2
            obtain ⟨k1, k3⟩ := k2 x hx
            refine ⟨o.step.free k1, k3, w1.nc x (by unfold flS; rw [if_pos h2.2]; exact hx), fun j _ z => ?_, fun p hp z => ?_⟩
            · obtain ⟨⟨u, hu, _⟩, _⟩ := o.tracked z
              rw [k1] at hu; cases hu
            · obtain ⟨⟨u, hu, _⟩, _⟩ := (o.pins p hp).on x z
              rw [k1] at hu; cases hu
      · exact .inl (Nat.le_refl _)
def rExtR : V → List V → Hp → VK → Prop := fun x vs H Q => ∃ l b xs zs, x = .ref l ∧ vs = [.ref b] ∧ H l = some (.lst xs) ∧ Rd H b (.lst zs) ∧ xs.length + zs.length ≤ sizeLine ∧ Q .non (upd H l (.lst (xs ++ zs)))
theorem mt_extR : MtM X "list.extend" rExtR := by
  intro pins s σ H x vs v us Q I rx rv h
  obtain ⟨l, b, xs, zs, rfl, rfl, hH, hB, hz, q⟩ := h
  cases rx
  obtain ⟨u, rfl, ru⟩ := rv.one
  cases ru
  obtain ⟨z, its, n, r, hl, e⟩ := I.lstM hH
  obtain ⟨z2, its2, n2, r2, hl2, e2⟩ := lstR I hB
  have hsz : its.toArray.size + its2.toArray.size ≤ sizeLine := by rw [List.size_toArray, List.size_toArray]; omega
  have hlong : ¬ (!its.toArray.isEmpty && Builtin.List.listTooLong (its.toArray.size + its2.toArray.size)) = true := by
    rw [notLongL hsz, Bool.and_false]
    exact Bool.false_ne_true
  refine call_meets F.slot_list_extend ⟨_, e, rfl⟩ F.entry_list_extend (F.args_list_extend_2 _ _)
    (AutoSeq1.list_extend_list_list_0 l its.toArray n b its2.toArray n2 hlong (by rw [List.size_toArray]; omega) (by omega)) ⟨e, e2, ?_⟩
  refine ⟨.non, _, I.lset (its' := its ++ its2) hH e (by simp) (r.append r2) ?_, rfl, q⟩
  rw [List.length_append]
  omega
def sExt (i : Nat) (f : DE) : DS := fun rho mu => match lstAt rho i with
  | some xs => sOf f (fun rho d mu => match d with
    | .lst ys => if xs.length + ys.length ≤ 16777216 then .nx (rho.set i (some (.lst (xs ++ ys)))) mu else .bad
    | _ => .bad) rho mu
  | none => .bad
abbrev gExt (g : Gm) (fl : Nat) (E : List Nat) (i : Nat) : Gm := setG (clr g (al fl E)) i 1
theorem pds_ext {i : Nat} {f : DE} (ho : PE X o (tVar i)) (ha : PE X e (dE (gx X) W N g A E fl1 f)) (hf : 1 ≤ flag g i) (hA : i ∉ al fl1 E)
    (hbase : attributeBase o "extend" X.env (eval o X.env) = eval o X.env := by rfl)
    (hfew : ((backTo cpos (starEach [e] X.env)).all (fun x => !x.1) && (backToKw cpos (keywordEach [] X.env)).all (fun x => x.1.isSome) && decide ([e].length + ([] : List Keyword).length + (if ([] : List Keyword).isEmpty then 0 else 1) < 30)) = true := by rfl)
    (hline : (apos.endLine == cpos.line) = true := by rfl) (hs : starEach [e] X.env = (false, eval e X.env) :: starEach [] X.env := by rfl) (hplain : (backTo cpos (starEach [] X.env)).any (·.1) = false := by rfl)
    (hsw : swapsWith (.Call (.Attribute o "extend" apos) [e] [] cpos) none epos.line X.env = pure false := by rfl) :
    PS X (.Expr (.Call (.Attribute o "extend" apos) [e] [] cpos) epos) (dS (gx X) W N g (gExt g fl1 E i) fl (sExt i f)) := by
  refine psOf (ps_expr (pe_bm PySem.F.plainAttrs_list PySem.F.slot_list_extend PySem.F.type_list_extend mt_extR ho (pa_cons ha pa_nil hs) hbase hfew hline hs hplain) hsw) fun D σ H ⟨P, rho, mu, phi, Fs, Fc, o, q⟩ => ?_
  unfold sExt at q
  cases ei : lstAt rho i with
  | none => rw [ei] at q; exact q.elim
  | some xs =>
    rw [ei] at q
    have hi := lstAt_iff ei
    obtain ⟨a, vs, r, hσ, hF, hH, rp, nr, np, hh⟩ := o.ownL hi hf
    refine ⟨_, hσ, .inl ⟨rfl, _, SqL.of hH⟩, P, rho, mu, phi, Fs, Fc, o, ?_⟩
    refine cse_imp (csS_of q) (fun d mu1 q v H1 phi1 Fc1 F1 c1 w1 => ?_) fun _ _ q => exS_of o q
    split at q
    rotate_left
    · exact q.elim
    split at q
    rotate_left
    · exact q.elim
    rename_i hl
    have o1 := o.cb c1
    have hH1 := c1.st.same _ _ hH np
    have np1 := c1.st.notin hH np
    have rp1 := rp.step c1.st
    have nh : ∀ {j : Nat}, j ∉ al fl1 E → ∀ x ∈ heldL (flag g j) (Fs j), x ∉ elems _ F1 := fun hj => o.notHeld w1.bale hj
    have nF := nh hA a hh
    have oC := o1.clr (al fl1 E)
    have hhC : a ∈ heldL (flag (clr g (al fl1 E)) i) (Fs i) := by rw [flag_clr_out hA]; exact hh
    have wb := o.base w1.bd
    have rv := w1.rep
    cases rv with
    | lst hb nb rb =>
      rename_i bb ws r2
      refine ⟨a, bb, vs, ws, rfl, rfl, hH1, hb, by rw [rp.length, rb.length]; exact hl, ?_⟩
      refine q σ _ phi1 _ Fc1 (oC.mutL hi hσ hF hH1 np1 hhC (rp1.append rb) (fun x hx => ?_) (fun z => ?_) (fun j hj x hx z => ?_) (.inl (Nat.le_refl _)))
      · rcases List.mem_append.mp hx with hx | hx
        · exact o.baseS i x (by rw [hF]; exact List.mem_cons_of_mem _ hx)
        · exact wb x (List.mem_cons_of_mem _ hx)
      · exact (List.mem_append.mp z).elim nr nF
      · rw [flag_clr] at hx
        split at hx
        · cases hx
        · rename_i hn
          rcases List.mem_append.mp z with z | z
          · exact (o.own j x hx).2.2.2.1 i (Ne.symm hj) (by rw [hF]; exact List.mem_cons_of_mem _ z)
          · exact nh hn x hx z
/-! ### x[i] = e -/
def sSetIx (i : Nat) (f fi : DE) : DS := sOf f fun rho d mu => match lstAt rho i with
  | some xs => sOf fi (fun rho di mu => match di with
    | .int k => (match ixN xs.length k with
      | some j => .nx (rho.set i (some (.lst (xs.set j d)))) mu
      | none => .bad)
    | _ => .bad) rho mu
  | none => .bad
theorem reps_set {G : Gx} {H : Hp} {phi : List Addr} {v : V} {d : D} {Fd : List Addr} (rv : Rep G H phi v d Fd) : ∀ {vs : List V} {ds : List D} {F : List Addr}, Reps G H phi vs ds F → ∀ j : Nat, ∃ E, Reps G H phi (vs.set j v) (ds.set j d) E ∧ ∀ a ∈ E, a ∈ F ∨ a ∈ Fd
  | _, _, _, .nil, _ => ⟨[], .nil, fun _ h => nomatch h⟩
  | _, _, _, .cons r s, 0 => ⟨_, .cons rv s, fun a ha => (List.mem_append.mp ha).elim .inr fun z => .inl (List.mem_append_right _ z)⟩
  | _, _, _, .cons r s, j + 1 => let ⟨E, h1, h2⟩ := reps_set rv s j; ⟨_, .cons r h1, fun a ha => (List.mem_append.mp ha).elim (fun z => .inl (List.mem_append_left _ z)) fun z => (h2 a z).imp (fun z => List.mem_append_right _ z) id⟩
abbrev gSetIx (g : Gm) (fl : Nat) (A : List Nat) (i : Nat) : Gm := setG (clr g (al fl A)) i 1
theorem pds_setIx {i : Nat} {f fi : DE} {x oi : Expr} {spos : Pos} (ho : PE X o (tVar i)) (hi' : PE X oi (dE (gx X) W N g A2 E2 fl2 fi)) (ha : PE X e (dE (gx X) W N g A E fl1 f)) (hf : 1 ≤ flag g i) (hA : i ∉ al fl1 A)
    (hst : PS X st (tAsg (dE (gx X) W N g A E fl1 f) (gSub (tVar i) (dE (gx X) W N g A2 E2 fl2 fi) rSetL))) : PS X st (dS (gx X) W N g (gSetIx g fl1 A i) fl (sSetIx i f fi)) := by
  refine psOf hst fun D σ H ⟨P, rho, mu, phi, Fs, Fc, o, q⟩ => ⟨P, rho, mu, phi, Fs, Fc, o, ?_⟩
  refine cse_imp (csS_of q) (fun d mu1 q v H1 phi1 Fc1 F1 c1 w1 => ?_) fun _ _ q => exS_of o q
  have o1 := o.cb c1
  cases ei : lstAt rho i with
  | none => rw [ei] at q; exact q.elim
  | some xs =>
    rw [ei] at q
    have hi := lstAt_iff ei
    obtain ⟨a, vs, r, hσ, hF, hH, rp, nr, np, hh⟩ := o1.ownL hi hf
    refine ⟨_, hσ, P, rho, mu1, phi1, Fs, Fc1, o1, ?_⟩
    refine cse_imp (csS_of q) (fun di mu2 q vi H2 phi2 Fc2 F2 c2 w2 => ?_) fun _ _ q => exS_of o1 q
    split at q
    rotate_left
    · exact q.elim
    split at q
    rotate_left
    · exact q.elim
    rename_i _ k _ j hj
    have rvi := w2.rep
    cases rvi
    have o2 := o1.cb c2
    have hH2 := c2.st.same _ _ hH np
    have np2 := c2.st.notin hH np
    have rp2 := rp.step c2.st
    have wr := w1.rep.step c2.st
    have nh : ∀ {j : Nat}, j ∉ al fl1 A → ∀ x ∈ heldL (flag g j) (Fs j), x ∉ F1 := fun hj => o.notHeld w1.bal hj
    have nF := nh hA a hh
    have oC := o2.clr (al fl1 A)
    have hhC : a ∈ heldL (flag (clr g (al fl1 A)) i) (Fs i) := by rw [flag_clr_out hA]; exact hh
    obtain ⟨E', re, hE⟩ := reps_set wr rp2 j
    refine ⟨a, vs, k, j, rfl, rfl, hH2, by rw [rp.length]; exact hj, ?_⟩
    refine q σ _ phi2 _ Fc2 (oC.mutL hi hσ hF hH2 np2 hhC re (fun x hx => ?_) (fun z => ?_) (fun j' hj' x hx z => ?_) (.inl (Nat.le_refl _)))
    · rcases hE x hx with hx | hx
      · exact o.baseS i x (by rw [hF]; exact List.mem_cons_of_mem _ hx)
      · exact o.base w1.bd x hx
    · exact (hE a z).elim nr nF
    · rw [flag_clr] at hx
      split at hx
      · cases hx
      · rename_i hn
        rcases hE x z with z | z
        · exact (o.own j' x hx).2.2.2.1 i (Ne.symm hj') (by rw [hF]; exact List.mem_cons_of_mem _ z)
        · exact nh hn x hx z
end
end Dv

namespace Dv
open PySem PySem.Spec PyProof.Rows L2

/-! ### flat data -/
def toV : D → V
  | .bl b => .bl b
  | .int i => .int i
  | .str x => .str x
  | _ => .non
theorem rep_flat {G : Gx} {H : Hp} {phi : List Addr} {v : V} {d : D} {F : List Addr} (r : Rep G H phi v d F) (h : flatD d = true) : v = toV d ∧ F = [] := by
  cases r <;> first | exact ⟨rfl, rfl⟩ | cases h
theorem flat_rep {G : Gx} {H : Hp} {phi : List Addr} {d : D} (h : flatD d = true) : Rep G H phi (toV d) d [] := match d, h with
  | .non, _ => .non
  | .bl b, _ => .bl b
  | .int i, _ => .int i
  | .str x, _ => .str x
theorem reps_flat {G : Gx} {H : Hp} {phi : List Addr} : ∀ {vs : List V} {ds : List D} {F : List Addr}, Reps G H phi vs ds F → ds.all flatD = true → vs = ds.map toV ∧ F = []
  | _, _, _, .nil, _ => ⟨rfl, rfl⟩
  | _, _, _, .cons r s, h => by
    simp only [List.all_cons, Bool.and_eq_true] at h
    obtain ⟨rfl, rfl⟩ := rep_flat r h.1
    obtain ⟨rfl, rfl⟩ := reps_flat s h.2
    exact ⟨rfl, rfl⟩
theorem flat_reps {G : Gx} {H : Hp} {phi : List Addr} : ∀ {ds : List D}, ds.all flatD = true → Reps G H phi (ds.map toV) ds []
  | [], _ => .nil
  | d :: ds, h => by
    simp only [List.all_cons, Bool.and_eq_true] at h
    exact .cons (F := []) (E := []) (flat_rep h.1) (flat_reps h.2)

section
variable {G : Gx} {N : Entr} {P : List Pin} {g g' : Gm} {rho : Rho} {mu : Mu} {σ : L2.St} {H : Hp} {phi : List Addr} {Fs : Nat → List Addr} {Fc : List Addr}
/-- a list within what is a slot's own is changed; less may hang on it -/
theorem Ok.mutN (o : Ok G N P g rho mu σ H phi Fs Fc) {i : Nat} {d d' : D} {v : V} (hi : rho[i]? = some (some d)) (hσ : σ[i]? = some (some v)) (hf : 2 ≤ flag g i) {a : Addr} {vs vs' : List V} (ha : a ∈ Fs i) (hH : H a = some (.lst vs))
    {F' : List Addr} (sub : ∀ x ∈ F', x ∈ Fs i) (nd : F'.Nodup) (rp : Rep G (upd H a (.lst vs')) phi v d' F') : Ok G N P g (rho.set i (some d')) mu σ (upd H a (.lst vs')) phi (setF Fs i F') Fc := by
  have hel : ∀ x ∈ Fs i, x ∈ heldL (flag g i) (Fs i) := fun x hx => by
    obtain ⟨m, e⟩ : ∃ m, flag g i = m + 2 := ⟨flag g i - 2, by omega⟩
    rw [e]; exact hx
  obtain ⟨h1, h2, h3, h4, h5⟩ := o.own i a (hel a ha)
  have np := (o.tracked ha).2
  have hil : i < rho.length := (List.getElem?_eq_some_iff.mp hi).1
  have kp : ∀ {F : List Addr}, a ∉ F → Kp F H phi (upd H a (.lst vs')) phi := fun n => kpUpd hH n
  have mutU : ∀ {x : Addr}, (∃ o, H x = some o ∧ Mut (some o)) → ∃ o, upd H a (.lst vs') x = some o ∧ Mut (some o) := fun {x} ⟨u, e, m⟩ => by
    by_cases hxa : x = a
    · subst hxa; exact ⟨_, upd_same, trivial⟩
    · exact ⟨u, by rw [upd_ne hxa]; exact e, m⟩
  refine ⟨by rw [List.length_set]; exact o.len, fun j e he => ?_, fun j e => ?_, fun j x hx => ?_, fun j e d'' e' => ?_, fun j e => ?_, fun p hp => (o.pins p hp).kp (kp (h5 p hp)), o.cells.updL hH np h3, stepUpdL o.step h1, fun j x hx => ?_, o.baseC⟩
  · by_cases hj : j = i
    · subst hj
      rw [List.getElem?_set_self hil] at he
      cases he
      exact ⟨v, hσ, by unfold setF; rw [if_pos rfl]; exact rp⟩
    · rw [List.getElem?_set_ne (Ne.symm hj)] at he
      obtain ⟨u, g1, g2⟩ := o.slot j e he
      exact ⟨u, g1, by unfold setF; rw [if_neg hj]; exact g2.kp (kp (h4 j hj))⟩
  · by_cases hj : j = i
    · subst hj
      exact absurd (List.getElem?_set_self hil) (e _)
    · unfold setF
      rw [if_neg hj]
      exact o.nil j fun d q => e d (by rw [List.getElem?_set_ne (Ne.symm hj)]; exact q)
  · have hsub : ∀ l y, y ∈ setF Fs i F' l → y ∈ Fs l := fun l y hy => by
      unfold setF at hy
      split at hy
      · rename_i e; subst e; exact sub y hy
      · exact hy
    have hx' : x ∈ heldL (flag g j) (Fs j) := by
      by_cases hj : j = i
      · subst hj
        exact hel x (hsub j x (heldL_sub hx))
      · unfold setF at hx
        rw [if_neg hj] at hx
        exact hx
    obtain ⟨k1, k2, k3, k4, k5⟩ := o.own j x hx'
    exact ⟨k1, mutU k2, k3, fun l hl z => k4 l hl (hsub l x z), k5⟩
  · by_cases hj : j = i
    · subst hj; omega
    · rw [List.getElem?_set_ne (Ne.symm hj)] at e'
      unfold setF
      rw [if_neg hj]
      exact o.top j e d'' e'
  · unfold setF
    split
    · exact nd
    · exact o.nd j e
  · unfold setF at hx
    split at hx
    · rename_i e; subst e; exact o.baseS j x (sub x hx)
    · exact o.baseS j x hx
end
theorem Kp.trans {F : List Addr} {H H1 H2 : Hp} {phi phi1 phi2 : List Addr} (k : Kp F H phi H1 phi1) (l : Kp F H1 phi1 H2 phi2) : Kp F H phi H2 phi2 :=
  ⟨fun a ha o e n => l.at_ a ha o (k.at_ a ha o e n) (k.new a ha o e n), fun a vs h => l.tup a vs (k.tup a vs h), k.pre.trans l.pre, fun a ha o e n => l.new a ha o (k.at_ a ha o e n) (k.new a ha o e n)⟩
/-- one item of a sequence -/
theorem reps_at {G : Gx} {H : Hp} {phi : List Addr} : ∀ {vs : List V} {ds : List D} {F : List Addr} {k : Nat} {d : D}, Reps G H phi vs ds F → ds[k]? = some d → ∃ v F1 Fk F2, vs[k]? = some v ∧ F = F1 ++ (Fk ++ F2) ∧ Rep G H phi v d Fk ∧
    ∀ {H' : Hp} {phi' : List Addr} {d' : D} {Fk' : List Addr}, Kp (F1 ++ F2) H phi H' phi' → Rep G H' phi' v d' Fk' → Reps G H' phi' vs (ds.set k d') (F1 ++ (Fk' ++ F2))
  | _, _, _, _, _, .nil, h => by simp at h
  | _, _, _, 0, _, .cons (v := v) (F := F) (E := E) r s, h => by
    simp at h; subst h
    exact ⟨v, [], F, E, by simp, by simp, r, fun k r' => by
      have := Reps.cons r' (s.kp (k.sub fun a z => by simpa using z))
      simpa using this⟩
  | _, _, _, k + 1, d, .cons (v := v) (F := F) (E := E) r s, h => by
    obtain ⟨u, F1, Fk, F2, h1, h2, h3, h4⟩ := reps_at s (k := k) (d := d) (by simpa using h)
    subst h2
    refine ⟨u, F ++ F1, Fk, F2, by simpa using h1, by simp, h3, fun {H' phi' d' Fk'} kp r' => ?_⟩
    have := Reps.cons (r.kp (kp.sub fun a z => by simp; exact .inl z)) (h4 (kp.sub fun a z => by
      rcases List.mem_append.mp z with z | z
      · simp; exact .inr (.inl z)
      · simp; exact .inr (.inr z)) r')
    simpa using this
section
variable {X : Cx} {W : WX} {N : Entr} {g g' g1 g2 gL : Gm} {A E Ai Ei A1 A2 E1 E2 : List Nat} {fl fl1 fl2 : Nat} {e a b c tg iter elt : Expr} {es rest : List Expr} {pos cpos apos epos ppos : Pos} {st : Stmt} {o : Expr}
/-! ### x[k].append(e), x[k].clear(), x a tuple or list that is its own throughout -/
def mkO (b : Bool) (ds : List D) : D := if b = true then .lst ds else .tup ds
def nestAt (rho : Rho) (i k : Nat) : Option (Bool × List D × List D) := match rho[i]? with
  | some (some (.tup ds)) => (match ds[k]? with
    | some (.lst xs) => some (false, ds, xs)
    | _ => none)
  | some (some (.lst ds)) => (match ds[k]? with
    | some (.lst xs) => some (true, ds, xs)
    | _ => none)
  | _ => none
theorem nestAt_iff {rho : Rho} {i k : Nat} {b : Bool} {ds xs : List D} (h : nestAt rho i k = some (b, ds, xs)) : rho[i]? = some (some (mkO b ds)) ∧ ds[k]? = some (.lst xs) := by
  unfold nestAt at h
  split at h
  · rename_i e1
    split at h
    · rename_i e2
      cases h
      exact ⟨e1, e2⟩
    · cases h
  · rename_i e1
    split at h
    · rename_i e2
      cases h
      exact ⟨e1, e2⟩
    · cases h
  · cases h
theorem Ok.ownT {P : List Pin} {rho : Rho} {mu : Mu} {σ : L2.St} {H : Hp} {phi : List Addr} {Fs : Nat → List Addr} {Fc : List Addr} (o : Ok (gx X) N P g rho mu σ H phi Fs Fc) {i k : Nat} {b : Bool} {ds xs : List D} (h : nestAt rho i k = some (b, ds, xs)) (hf : 2 ≤ flag g i) :
    ∃ p a ws vs, σ[i]? = some (some (.ref p)) ∧ (SqL X.K H p ws ∨ SqT X.K H p ws) ∧ ws[k]? = some (.ref a) ∧ H a = some (.lst vs) ∧ vs.length = xs.length ∧
      ∀ {H1 : Hp} {phi1 : List Addr} {mu1 : Mu} {Fc1 : List Addr}, CB (gx X) Fc H phi H1 phi1 mu1 Fc1 → H1 a = some (.lst vs) ∧ ∀ vs' xs', (∀ {r : List Addr}, a ∉ r → Reps (gx X) H1 phi1 vs xs r → ∃ r', Reps (gx X) H1 phi1 vs' xs' r' ∧ (∀ x ∈ r', x ∈ r) ∧ r'.Sublist r) →
        ∃ Fs', Ok (gx X) N P g (rho.set i (some (mkO b (ds.set k (.lst xs'))))) mu1 σ (upd H1 a (.lst vs')) phi1 Fs' Fc1 := by
  obtain ⟨e1, e2⟩ := nestAt_iff h
  obtain ⟨v, hσ, rp⟩ := o.slot i _ e1
  have nd := o.nd i hf
  have own := o.own i
  have fin : ∀ {p : Addr} {ws : List V} {Fp F0 : List Addr}, v = .ref p → (SqL X.K H p ws ∨ SqT X.K H p ws) → Fs i = Fp ++ F0 → Reps (gx X) H phi ws ds F0 →
      (∀ {H' : Hp} {phi' : List Addr} {ds' : List D} {F' : List Addr}, Kp Fp H phi H' phi' → Reps (gx X) H' phi' ws ds' F' → Rep (gx X) H' phi' v (mkO b ds') (Fp ++ F')) →
      ∃ p a ws vs, σ[i]? = some (some (.ref p)) ∧ (SqL X.K H p ws ∨ SqT X.K H p ws) ∧ ws[k]? = some (.ref a) ∧ H a = some (.lst vs) ∧ vs.length = xs.length ∧
      ∀ {H1 : Hp} {phi1 : List Addr} {mu1 : Mu} {Fc1 : List Addr}, CB (gx X) Fc H phi H1 phi1 mu1 Fc1 → H1 a = some (.lst vs) ∧ ∀ vs' xs', (∀ {r : List Addr}, a ∉ r → Reps (gx X) H1 phi1 vs xs r → ∃ r', Reps (gx X) H1 phi1 vs' xs' r' ∧ (∀ x ∈ r', x ∈ r) ∧ r'.Sublist r) →
        ∃ Fs', Ok (gx X) N P g (rho.set i (some (mkO b (ds.set k (.lst xs'))))) mu1 σ (upd H1 a (.lst vs')) phi1 Fs' Fc1 := by
    intro p ws Fp F0 ev hs eF r mk
    subst ev
    obtain ⟨u, F1, Fk, F2, h1, h2, h3, h4⟩ := reps_at r e2
    subst h2
    cases h3 with
    | lst hl nl rl =>
      rename_i a vs r0
      rw [eF] at nd own
      have hm : a ∈ Fs i := by rw [eF]; simp
      have ha : a ∈ heldL (flag g i) (Fp ++ (F1 ++ (a :: r0 ++ F2))) := by
        obtain ⟨m, e⟩ : ∃ m, flag g i = m + 2 := ⟨flag g i - 2, by omega⟩
        rw [e]; simp [heldL]
      have hH := mutLst hl (own a ha).2.1
      have nd0 := (List.nodup_append.mp nd).2.1
      have np : a ∉ Fp := fun z => (List.nodup_append.mp nd).2.2 a z a (by simp) rfl
      have nr : a ∉ r0 := by
        have := (List.nodup_append.mp nd0).2.1
        have := (List.nodup_append.mp this).1
        exact (List.nodup_cons.mp this).1
      have n1 : a ∉ F1 := fun z => (List.nodup_append.mp nd0).2.2 a z a (by simp) rfl
      have n2 : a ∉ F2 := fun z => by
        have := (List.nodup_append.mp nd0).2.1
        exact (List.nodup_append.mp this).2.2 a (by simp) a z rfl
      refine ⟨p, a, ws, vs, hσ, hs, h1, hH, rl.length, fun {H1 phi1 mu1 Fc1} c => ⟨c.st.same _ _ hH nl, fun vs' xs' hr => ?_⟩⟩
      have hH1 := c.st.same _ _ hH nl
      have nl1 := c.st.notin hH nl
      obtain ⟨r', g1, g2, g3⟩ := hr nr (rl.step c.st)
      have nr' : a ∉ r' := fun z => nr (g2 a z)
      have kpA : ∀ {F : List Addr}, a ∉ F → Kp F H phi (upd H1 a (.lst vs')) phi1 := fun n => (c.st.kp _).trans (kpUpd hH1 n)
      refine ⟨_, (o.cb c).mutN (F' := Fp ++ (F1 ++ (a :: r' ++ F2))) e1 hσ hf hm hH1 (fun x hx => ?_) ?_ ?_⟩
      · rw [eF]
        simp only [List.mem_append, List.mem_cons] at hx ⊢
        rcases hx with hx | hx | (hx | hx) | hx
        · exact .inl hx
        · exact .inr (.inl hx)
        · exact .inr (.inr (.inl (.inl hx)))
        · exact .inr (.inr (.inl (.inr (g2 x hx))))
        · exact .inr (.inr (.inr hx))
      · exact nd.sublist (List.Sublist.append (List.Sublist.refl _) (List.Sublist.append (List.Sublist.refl _) (List.Sublist.append (List.Sublist.cons_cons _ g3) (List.Sublist.refl _))))
      · exact mk (kpA np) (h4 (kpA fun z => (List.mem_append.mp z).elim n1 n2) (.lst rd_upd nl1 (g1.kp (kpUpd hH1 nr'))))
  cases b with
  | false =>
    generalize eF : Fs i = F at rp
    cases rp with
    | tup ht r => exact fin rfl (.inr ht) (Fp := []) eF r fun kp r' => .tup (ht.elim (fun z => .inl (kp.tup _ _ z)) .inr) r'
  | true =>
    generalize eF : Fs i = F at rp
    cases rp with
    | lst hl nl r =>
      rename_i p ws F0
      exact fin rfl (.inl (sqlRd hl)) (Fp := [p]) eF r fun kp r' => .lst (rdImp hl fun o e => kp.at_ _ (by simp) o e nl) (let ⟨o, e⟩ := rdSome hl; kp.new _ (by simp) o e nl) r'
def sNApp (i k : Nat) (f : DE) : DS := fun rho mu => match nestAt rho i k with
  | some (b, ds, xs) => sOf f (fun rho d mu => if xs.length < 16777216 then .nx (rho.set i (some (mkO b (ds.set k (.lst (xs ++ [d])))))) mu else .bad) rho mu
  | none => .bad
def sNClr (i k : Nat) : DS := fun rho mu => match nestAt rho i k with
  | some (b, ds, xs) => .nx (rho.set i (some (mkO b (ds.set k (.lst []))))) mu
  | none => .bad
theorem nix {H : Hp} {p a : Addr} {ws : List V} {k : Nat} {Q : VK} (hs : SqL X.K H p ws ∨ SqT X.K H p ws) (hw : ws[k]? = some (.ref a)) (q : Q (.ref a) H) : rIx X.K (.ref p) (.int (k : Nat)) H Q := by
  rcases hs with hs | hs
  · exact .inl ⟨p, ws, (k : Nat), .ref a, rfl, rfl, hs, atI_nat hw, q⟩
  · exact .inr (.inl ⟨p, ws, (k : Nat), .ref a, rfl, rfl, hs, atI_nat hw, q⟩)
theorem pds_nclr {i k : Nat} (ho : PE X o (tOp (rIx X.K) (tVar i) (tC (.int (k : Nat))))) (hf : 2 ≤ flag g i)
    (hbase : attributeBase o "clear" X.env (eval o X.env) = eval o X.env := by rfl) (hline : (apos.endLine == cpos.line) = true := by rfl)
    (hsw : swapsWith (.Call (.Attribute o "clear" apos) [] [] cpos) none epos.line X.env = pure false := by rfl) :
    PS X (.Expr (.Call (.Attribute o "clear" apos) [] [] cpos) epos) (dS (gx X) W N g g fl (sNClr i k)) := by
  refine psOf (ps_expr (pe_bm0 PySem.F.plainAttrs_list PySem.F.slot_list_clear PySem.F.type_list_clear mt_clear ho hbase hline) hsw) fun D σ H ⟨P, rho, mu, phi, Fs, Fc, o, q⟩ => ?_
  unfold sNClr at q
  cases e : nestAt rho i k with
  | none => rw [e] at q; exact q.elim
  | some y =>
    obtain ⟨b, ds, xs⟩ := y
    rw [e] at q
    obtain ⟨p, a, ws, vs, hσ, hs, hw, hH, hl, go⟩ := o.ownT e hf
    refine ⟨_, hσ, nix hs hw ⟨.inl ⟨rfl, _, SqL.of hH⟩, a, vs, rfl, rfl, hH, ?_⟩⟩
    obtain ⟨_, go⟩ := go (.refl o.cells)
    obtain ⟨Fs', o'⟩ := go [] [] fun {r} _ _ => ⟨[], .nil, (fun _ h => nomatch h), List.nil_sublist _⟩
    exact q σ _ phi Fs' Fc o'
theorem pds_napp {i k : Nat} {f : DE} (ho : PE X o (tOp (rIx X.K) (tVar i) (tC (.int (k : Nat))))) (ha : PE X e (dE (gx X) W N g A E 3 f)) (hf : 2 ≤ flag g i)
    (hbase : attributeBase o "append" X.env (eval o X.env) = eval o X.env := by rfl)
    (hfew : ((backTo cpos (starEach [e] X.env)).all (fun x => !x.1) && (backToKw cpos (keywordEach [] X.env)).all (fun x => x.1.isSome) && decide ([e].length + ([] : List Keyword).length + (if ([] : List Keyword).isEmpty then 0 else 1) < 30)) = true := by rfl)
    (hline : (apos.endLine == cpos.line) = true := by rfl) (hs : starEach [e] X.env = (false, eval e X.env) :: starEach [] X.env := by rfl) (hplain : (backTo cpos (starEach [] X.env)).any (·.1) = false := by rfl)
    (hsw : swapsWith (.Call (.Attribute o "append" apos) [e] [] cpos) none epos.line X.env = pure false := by rfl) :
    PS X (.Expr (.Call (.Attribute o "append" apos) [e] [] cpos) epos) (dS (gx X) W N g g fl (sNApp i k f)) := by
  refine psOf (ps_expr (pe_bm PySem.F.plainAttrs_list PySem.F.slot_list_append PySem.F.type_list_append mt_append ho (pa_cons ha pa_nil hs) hbase hfew hline hs hplain) hsw) fun D σ H ⟨P, rho, mu, phi, Fs, Fc, o, q⟩ => ?_
  unfold sNApp at q
  cases e : nestAt rho i k with
  | none => rw [e] at q; exact q.elim
  | some y =>
    obtain ⟨b, ds, xs⟩ := y
    rw [e] at q
    obtain ⟨p, a, ws, vs, hσ, hs, hw, hH, hl, go⟩ := o.ownT e hf
    refine ⟨_, hσ, nix hs hw ⟨.inl ⟨rfl, _, SqL.of hH⟩, P, rho, mu, phi, Fs, Fc, o, ?_⟩⟩
    refine cse_imp (csS_of q) (fun d mu1 q v H1 phi1 Fc1 F1 c1 w1 => ?_) fun _ _ q => exS_of o q
    split at q
    rotate_left
    · exact q.elim
    rename_i hc
    obtain ⟨hH1, go⟩ := go c1
    have e1 : F1 = [] := w1.fr
    subst e1
    refine ⟨a, vs, v, rfl, rfl, hH1, by rw [hl]; exact hc, ?_⟩
    obtain ⟨Fs', o'⟩ := go (vs ++ [v]) (xs ++ [d]) fun {r} _ rl => ⟨r, by
      have := rl.append (.cons w1.rep .nil)
      simpa using this, fun _ h => h, List.Sublist.refl _⟩
    exact q σ _ phi1 Fs' Fc1 o'
end
end Dv

namespace Dv
open PySem PySem.Spec PyProof.Rows L2

mutual
/-- hangs on nothing -/
def nfD : D → Bool
  | .non | .bl _ | .int _ | .str _ => true
  | .tup ds => nfDs ds
  | _ => false
def nfDs : List D → Bool
  | [] => true
  | d :: ds => nfD d && nfDs ds
end
section
variable {G : Gx} {H : Hp} {phi : List Addr}
mutual
theorem rep_nf : ∀ {v : V} {d : D} {F : List Addr}, Rep G H phi v d F → nfD d = true → F = []
  | _, _, _, .non, _ => rfl
  | _, _, _, .bl _, _ => rfl
  | _, _, _, .int _, _ => rfl
  | _, _, _, .str _, _ => rfl
  | _, _, _, .tup _ r, h => reps_nf r (by simpa [nfD] using h)
  | _, _, _, .lst _ _ _, h => by simp [nfD] at h
  | _, _, _, .cell _, h => by simp [nfD] at h
  | _, _, _, .kls _ _, h => by simp [nfD] at h
  | _, _, _, .dicK _ _ _ _, h => by simp [nfD] at h
  | _, _, _, .dicT _ _ _ _ _, h => by simp [nfD] at h
theorem reps_nf : ∀ {v : List V} {d : List D} {F : List Addr}, Reps G H phi v d F → nfDs d = true → F = []
  | _, _, _, .nil, _ => rfl
  | _, _, _, .cons r s, h => by
    simp only [nfDs, Bool.and_eq_true] at h
    rw [rep_nf r h.1, reps_nf s h.2]; rfl
end
end

section
variable {X : Cx} {W : WX} {N : Entr} {g g' g1 g2 gL : Gm} {A E A1 A2 E1 E2 : List Nat} {fl fl1 fl2 : Nat} {e a b c : Expr} {es rest : List Expr} {pos p cpos apos epos : Pos} {H : Hp} {phi : List Addr} {st : Stmt} {o : Expr}
/-! ### len, list, int, str -/
def oLen : Op1 := fun d => match d with
  | .lst xs => some (.int xs.length)
  | .kls xs => some (.int xs.length)
  | .tup xs => some (.int xs.length)
  | .str x => if x.length ≤ 16777216 then some (.int x.length) else none
  | _ => none
theorem sem_len : Sem1 (gx X) (fun v H Q => (fun xs H Q => ∃ x n, xs = [x] ∧ LenV X.K x H n ∧ Q (.int n) H) [v] H Q) oLen 3 := fun H phi x dx Fx d Q n rx hd q => by
  unfold oLen at hd
  split at hd
  · cases hd
    cases rx with
    | lst h1 n1 r1 => exact ⟨_, _, rfl, .inl ⟨_, sqlRd h1, rfl⟩, by rw [r1.length]; exact q.scal (.int _)⟩
  · cases hd
    cases rx with
    | kls h1 r1 => exact ⟨_, _, rfl, .inl ⟨_, .inr h1, rfl⟩, by rw [r1.length]; exact q.scal (.int _)⟩
  · cases hd
    cases rx with
    | tup h1 r1 => exact ⟨_, _, rfl, .inr ⟨_, h1, rfl⟩, by rw [r1.length]; exact q.scal (.int _)⟩
  · split at hd
    · rename_i h; cases hd; cases rx
      exact ⟨_, _, rfl, ⟨h, rfl⟩, q.scal (.int _)⟩
    · cases hd
  · cases hd
def oList : Op1 := fun d => match d with
  | .lst xs => some (.lst xs)
  | .tup xs => some (.lst xs)
  | _ => none
def oListN : Op1 := fun d => match d with
  | .lst xs => if nfDs xs = true then some (.lst xs) else none
  | .tup xs => if nfDs xs = true then some (.lst xs) else none
  | _ => none
theorem sem_list : Sem1 (gx X) (fun v H Q => (fun xs H Q => ∃ p ys, xs = [.ref p] ∧ (SqL X.K H p ys ∨ SqT X.K H p ys) ∧ ∀ l, H l = none → Q (.ref l) (upd H l (.lst ys))) [v] H Q) oList 1 := fun H phi x dx Fx d Q n rx hd q => by
  unfold oList at hd
  split at hd
  · cases hd
    cases rx with
    | lst h1 n1 r1 => exact ⟨_, _, rfl, .inl (sqlRd h1), q.newL n r1 fun a h => h⟩
  · cases hd
    cases rx with
    | tup h1 r1 => exact ⟨_, _, rfl, .inr h1, q.newL n r1 fun a h => h⟩
  · cases hd
theorem sem_listN : Sem1 (gx X) (fun v H Q => (fun xs H Q => ∃ p ys, xs = [.ref p] ∧ (SqL X.K H p ys ∨ SqT X.K H p ys) ∧ ∀ l, H l = none → Q (.ref l) (upd H l (.lst ys))) [v] H Q) oListN 2 := fun H phi x dx Fx d Q n rx hd q => by
  unfold oListN at hd
  split at hd
  · split at hd
    · rename_i h; cases hd
      cases rx with
      | lst h1 n1 r1 =>
        have e := reps_nf r1 h
        subst e
        exact ⟨_, _, rfl, .inl (sqlRd h1), q.newL2 n r1⟩
    · cases hd
  · split at hd
    · rename_i h; cases hd
      cases rx with
      | tup h1 r1 =>
        have e := reps_nf r1 h
        subst e
        exact ⟨_, _, rfl, .inr h1, q.newL2 n r1⟩
    · cases hd
  · cases hd
def oInt : Op1 := fun d => match d with
  | .int i => some (.int i)
  | .bl k => some (.int (if k then 1 else 0))
  | _ => none
theorem sem_int : Sem1 (gx X) (fun v H Q => (fun xs H Q => (∃ i, xs = [.int i] ∧ Q (.int i) H) ∨ ∃ k, xs = [.bl k] ∧ Q (.int (if k then 1 else 0)) H) [v] H Q) oInt 3 := fun H phi x dx Fx d Q n rx hd q => by
  unfold oInt at hd
  split at hd
  · cases hd; cases rx; exact .inl ⟨_, rfl, q.scal (.int _)⟩
  · cases hd; cases rx; exact .inr ⟨_, rfl, q.scal (.int _)⟩
  · cases hd
def oIntS : Op1 := fun d => match d with
  | .str x => if x.length ≤ 640 then (PySem.intText? x).map .int else none
  | _ => none
theorem sem_intS : Sem1 (gx X) (fun v H Q => (fun xs H Q => ∃ a n, xs = [.str a] ∧ PySem.intText? a = some n ∧ a.length ≤ 640 ∧ Q (.int n) H) [v] H Q) oIntS 3 := fun H phi x dx Fx d Q n rx hd q => by
  unfold oIntS at hd
  split at hd
  · split at hd
    · rename_i h
      cases e : PySem.intText? ‹Str› with
      | none => rw [e] at hd; cases hd
      | some k =>
        rw [e] at hd
        cases hd; cases rx
        exact ⟨_, _, rfl, e, h, q.scal (.int _)⟩
    · cases hd
  · cases hd
def oStr : Op1 := fun d => match d with
  | .int i => if i.natAbs.log2 < 1920 then some (.str (Str.ofString (toString i))) else none
  | _ => none
theorem sem_str : Sem1 (gx X) (fun v H Q => (fun xs H Q => ∃ i : Int, xs = [.int i] ∧ i.natAbs.log2 < 1920 ∧ Q (.str (Str.ofString (toString i))) H) [v] H Q) oStr 3 := fun H phi x dx Fx d Q n rx hd q => by
  unfold oStr at hd
  split at hd
  · split at hd
    · rename_i h; cases hd; cases rx
      exact ⟨_, rfl, h, q.scal (.str _)⟩
    · cases hd
  · cases hd
/-! ### texts -/
def hasS (x y : Str) : Bool := !(Builtin.Str.occurrences y x 0 y.length 1).isEmpty
def oInS : OpB := fun a b => match a, b with
  | .str x, .str y => some (hasS x y)
  | _, _ => none
def oNotInS : OpB := fun a b => match a, b with
  | .str x, .str y => some (!hasS x y)
  | _, _ => none
theorem sem_inS : SemB (gx X) (fun x y H Q => ∃ i j, x = .str i ∧ y = .str j ∧ Q (.bl (!(Builtin.Str.occurrences j i 0 j.length 1).isEmpty)) H) oInS := fun H phi x dx Fx y dy Fy b Q n rx ry hd q => by
  unfold oInS at hd
  split at hd
  · cases hd; cases rx; cases ry; exact ⟨_, _, rfl, rfl, q⟩
  · cases hd
theorem sem_notInS : SemB (gx X) (fun x y H Q => ∃ i j, x = .str i ∧ y = .str j ∧ Q (.bl (!(!(Builtin.Str.occurrences j i 0 j.length 1).isEmpty))) H) oNotInS := fun H phi x dx Fx y dy Fy b Q n rx ry hd q => by
  unfold oNotInS at hd
  split at hd
  · cases hd; cases rx; cases ry; exact ⟨_, _, rfl, rfl, q⟩
  · cases hd
/-- a text, none or once -/
def oMulS : Op2 := fun a b => match a, b with
  | .str x, .int k => if k = 0 then some (.str Str.empty) else if k = 1 then some (.str x) else none
  | _, _ => none
def rMulS : R2 := fun x y H Q => ∃ i k, x = .str i ∧ y = .int k ∧ ((k = 0 ∧ Q (.str Str.empty) H) ∨ (k = 1 ∧ Q (.str i) H))
theorem op_mulS : OpR X (binaryOp .Mult) rMulS := by
  intro pins s σ H x y v u Q I rx ry h
  obtain ⟨i, k, rfl, rfl, h⟩ := h
  obtain ⟨t, rfl⟩ := rx
  obtain ⟨t', rfl⟩ := ry
  rcases h with ⟨rfl, q⟩ | ⟨rfl, q⟩
  · exact PySem.P.mul_str_none (by decide) (by decide) ⟨.str _, H, I.tok _, ⟨_, rfl⟩, q⟩
  · refine PySem.P.mul_str (by decide) (fun _ h => by simp at h) (fun _ h => by simp at h) ?_
    rw [if_neg (by decide), if_pos (by simp)]
    exact ⟨.str _, H, I, ⟨_, rfl⟩, q⟩
theorem sem_mulS : Sem2 (gx X) rMulS oMulS 3 := fun H phi x dx Fx y dy Fy d Q n rx ry hd q => by
  unfold oMulS at hd
  split at hd
  · cases rx; cases ry
    refine ⟨_, _, rfl, rfl, ?_⟩
    split at hd
    · rename_i h; cases hd; exact .inl ⟨h, q.scal (.str _)⟩
    · split at hd
      · rename_i h; cases hd; exact .inr ⟨h, q.scal (.str _)⟩
      · cases hd
  · cases hd
/-- a list times an int -/
theorem op_repR : OpR X (binaryOp .Mult) rRepR := op_rep
def oRep : Op2 := fun a b => match a, b with
  | .lst xs, .int k => if -(2 ^ 63) ≤ k ∧ k < 2 ^ 63 ∧ xs.length * k.toNat ≤ 16777216 then some (.lst (List.replicate k.toNat xs).flatten) else none
  | _, _ => none
def oSlS : OpS := fun d lo hi => match d with
  | .str x => if x.length ≤ 16777216 then some (.str (cutS x lo hi)) else none
  | _ => none
theorem sem_slS : SemS (gx X) rSlS oSlS 3 := fun H phi x dx Fx lo hi d Q n rx hd q => by
  unfold oSlS at hd
  split at hd
  · split at hd
    · rename_i h; cases hd; cases rx
      exact ⟨_, rfl, h, q.scal (.str _)⟩
    · cases hd
  · cases hd
/-- the texts of a list of texts -/
def strsD : List D → Option (List Str)
  | [] => some []
  | .str x :: ds => (strsD ds).map (x :: ·)
  | _ :: _ => none
theorem strsD_rep {G : Gx} : ∀ {vs : List V} {ds : List D} {F : List Addr} {ys : List Str}, Reps G H phi vs ds F → strsD ds = some ys → vs = ys.map V.str
  | _, _, _, ys, .nil, h => by cases h; rfl
  | _, _, _, ys, .cons (d := d) r s, h => by
    cases r <;> unfold strsD at h <;> try (cases h; done)
    cases e : strsD _ with
    | none => rw [e] at h; cases h
    | some zs => rw [e] at h; cases h; rw [strsD_rep s e]; rfl
def oJoin : Op2 := fun a b => match a, b with
  | .str x, .lst ds => match strsD ds with
    | some ys => if (ys.map (·.length)).sum + ys.length * x.length ≤ 16777216 then some (.str (Txt.join x ys)) else none
    | none => none
  | _, _ => none
theorem strs_reps {G : Gx} : ∀ (ys : List Str), Reps G H phi (ys.map V.str) (ys.map D.str) []
  | [] => .nil
  | y :: ys => .cons (F := []) (E := []) (.str y) (strs_reps ys)
def oSplit : Op2 := fun a b => match a, b with
  | .str x, .str y => if (y.length == 0) = false ∧ x.length + 2 ≤ 16777216 then some (.lst ((Txt.split x y).map D.str)) else none
  | _, _ => none
theorem m1_go {r : V → List V → Hp → VK → Prop} {k : Op2} {f1 f2 : DE} (hs : ∀ H phi x dx Fx y dy Fy d Q, NT H phi → Rep (gx X) H phi x dx Fx → Rep (gx X) H phi y dy Fy → k dx dy = some d → Rlt (gx X) H phi (elems dx Fx ++ elems dy Fy) fl d Q → r x [y] H Q)
    (hk : ∀ d1 d2 d, k d1 d2 = some d → ∃ x, d1 = .str x) (hx : ∀ d1, (∀ x, d1 ≠ .str x) → ∀ d2, k d1 d2 = none) {σ : L2.St} {H : Hp} {Q : VK}
    (h : dE (gx X) W N g (al2 fl fl1 fl2 E1 E2) (al2 fl fl1 fl2 E1 E2) fl (fun rho mu => bind (f1 rho mu) fun d mu1 => match d with
      | .str x => bind (f2 rho mu1) fun d2 mu2 => lift (k (.str x) d2) mu2
      | _ => .bad) σ H Q) : tM1 r (dE (gx X) W N g A1 E1 fl1 f1) (dE (gx X) W N g A2 E2 fl2 f2) σ H Q := by
  obtain ⟨P, rho, mu, phi, Fs, Fc, o, q⟩ := h
  refine ⟨P, rho, mu, phi, Fs, Fc, o, ?_⟩
  rw [cse_bind] at q
  refine cse_imp q (fun d mu1 q v H1 phi1 Fc1 F1 c1 v1 => ?_) fun c mu1 q => q
  split at q
  rotate_left
  · exact q.elim
  rename_i x
  have rx := v1.rep
  have ev : v = .str x := by cases rx; rfl
  refine ⟨⟨x, ev⟩, P, rho, mu1, phi1, Fs, Fc1, o.cb c1, ?_⟩
  rw [cse_bind] at q
  refine cse_imp q (fun d2 mu2 q v2 H2 phi2 Fc2 F2 c2 w2 => ?_) fun c mu2 q => q.back c1
  obtain ⟨d', hd, q⟩ := cse_lift q
  refine hs H2 phi2 v (.str x) F1 v2 d2 F2 d' Q c2.ce.all.ntup (v1.rep.step c2.st) w2.rep hd (Rlt.mk q (c1.trans c2) ?_)
  unfold al2 al
  by_cases h : 2 ≤ fl
  · exact .inl h
  · rw [if_neg h]; exact .inr ((v1.bale.mono fun _ => List.mem_append_left _).app ((w2.bale.back c1).mono fun _ => List.mem_append_right _))
def dM1 (k : Op2) (f1 f2 : DE) : DE := fun rho mu => bind (f1 rho mu) fun d mu1 => match d with
      | .str x => bind (f2 rho mu1) fun d2 mu2 => lift (k (.str x) d2) mu2
      | _ => .bad
theorem pd_join {f1 f2 : DE} (ho : PE X o (dE (gx X) W N g A1 E1 fl1 f1)) (he : PE X e (dE (gx X) W N g A2 E2 fl2 f2)) (hs : starEach [e] X.env = [(false, eval e X.env)] := by rfl) (hbase : attributeBase o "join" X.env (eval o X.env) = eval o X.env := by rfl) (hline : (apos.endLine == pos.line) = true := by rfl) :
    PE X (.Call (.Attribute o "join" apos) [e] [] pos) (dE (gx X) W N g [] [] 3 (dM1 oJoin f1 f2)) :=
  peOf (pe_join ho he hs hbase hline) fun σ H Q h => m1_go (fl := 3) (k := oJoin) (fun H phi x dx Fx y dy Fy d Q n rx ry hd q => by
    unfold oJoin at hd
    split at hd
    · rename_i z ds
      cases es : strsD ds with
      | none => rw [es] at hd; cases hd
      | some ys =>
        rw [es] at hd
        simp only at hd
        split at hd
        · rename_i hl
          cases hd
          cases rx
          cases ry with
          | lst h1 n1 r1 =>
            have ev := strsD_rep r1 es
            subst ev
            exact ⟨_, _, ys, rfl, rfl, .inl (sqlRd h1), hl, q.scal (.str _)⟩
        · cases hd
    · cases hd) (fun d1 d2 d h => by
      unfold oJoin at h; split at h
      · exact ⟨_, rfl⟩
      · cases h) (fun d1 h d2 => by
      unfold oJoin; split
      · exact absurd rfl (h _)
      · rfl) h
theorem pd_split {f1 f2 : DE} (ho : PE X o (dE (gx X) W N g A1 E1 fl1 f1)) (he : PE X e (dE (gx X) W N g A2 E2 fl2 f2)) (hs : starEach [e] X.env = [(false, eval e X.env)] := by rfl) (hbase : attributeBase o "split" X.env (eval o X.env) = eval o X.env := by rfl) (hline : (apos.endLine == pos.line) = true := by rfl) :
    PE X (.Call (.Attribute o "split" apos) [e] [] pos) (dE (gx X) W N g [] [] 2 (dM1 oSplit f1 f2)) :=
  peOf (pe_split ho he hs hbase hline) fun σ H Q h => m1_go (fl := 2) (k := oSplit) (fun H phi x dx Fx y dy Fy d Q n rx ry hd q => by
    unfold oSplit at hd
    split at hd
    · split at hd
      · rename_i hc
        cases hd
        cases rx
        cases ry
        refine ⟨_, _, rfl, rfl, hc.1, hc.2, fun p hp => ?_⟩
        exact q.newL2 n (strs_reps _) p hp
      · cases hd
    · cases hd) (fun d1 d2 d h => by
      unfold oSplit at h; split at h
      · exact ⟨_, rfl⟩
      · cases h) (fun d1 h d2 => by
      unfold oSplit; split
      · exact absurd rfl (h _)
      · rfl) h
/-! ### isinstance(x, a built-in type) -/
def tyD : D → Option String
  | .non => some "NoneType"
  | .bl _ => some "bool"
  | .int _ => some "int"
  | .str _ => some "str"
  | .lst _ => some "list"
  | .tup _ => some "tuple"
  | _ => none
def isiD (T : String) (d : D) : Option Bool := match d, T with
  | .bl _, "int" => some true
  | d, T => (tyD d).map fun t => t == T
theorem rep_ty {v : V} {d : D} {F : List Addr} {t : String} (r : Rep (gx X) H phi v d F) (h : tyD d = some t) : TyX X.K H v (.type t) := by
  cases r with
  | non => cases h; exact .base .non
  | bl b => cases h; exact .base (.bl b)
  | int b => cases h; exact .base (.int b)
  | str b => cases h; exact .base (.str b)
  | lst h1 n1 r1 =>
    cases h
    rcases h1 with h1 | ⟨o, h1⟩
    · exact .base (.lst h1)
    · exact .base (.frz h1)
  | tup h1 r1 =>
    cases h
    rcases h1 with (h1 | ⟨o, h1⟩) | ⟨o, its, n, h1, h2, _⟩
    · exact .base (.tup h1)
    · exact .fTuple h1
    · exact .kTuple h1 h2
  | cell _ => cases h
  | kls _ _ => cases h
  | dicK _ _ _ _ => cases h
  | dicT _ _ _ _ _ => cases h
def tysD : List String := ["NoneType", "bool", "int", "str", "list", "tuple"]
def okTy (T : String) : Bool := tysD.all fun t => kitB t T == some (t == T || (t == "bool" && T == "int"))
theorem tyD_in {d : D} {t : String} (h : tyD d = some t) : t ∈ tysD := by
  cases d <;> simp [tyD] at h <;> subst h <;> decide
theorem isi_kit {T : String} (hT : okTy T = true) {d : D} {b : Bool} (h : isiD T d = some b) : ∃ t, tyD d = some t ∧ kitB t T = some b := by
  unfold isiD at h
  split at h
  · cases h
    have := List.all_eq_true.mp hT "bool" (by decide)
    refine ⟨"bool", rfl, ?_⟩
    rw [eq_of_beq this]
    decide
  · rename_i hn
    cases e : tyD d with
    | none => rw [e] at h; cases h
    | some t =>
      rw [e] at h
      cases h
      refine ⟨t, rfl, ?_⟩
      have := List.all_eq_true.mp hT t (tyD_in e)
      rw [eq_of_beq this]
      congr 1
      cases h1 : (t == "bool" && T == "int") with
      | false => rw [Bool.or_false]
      | true =>
        rw [Bool.and_eq_true, beq_iff_eq, beq_iff_eq] at h1
        obtain ⟨rfl, rfl⟩ := h1
        cases d <;> simp [tyD] at e
        exact absurd rfl (hn _ rfl)
def oIsi (T : String) : Op1 := fun d => (isiD T d).map .bl
theorem pd_isi {T : String} {x : Str} {p2 : Pos} {f1 : DE} (hT : okTy T = true) (hg : Gl X "isinstance") (hm : X.mg "isinstance" = none) (hgT : Gl X x) (hmT : X.mg x = none) (hv : bootBuiltins x = some (.type T)) (ha : PE X a (dE (gx X) W N g A1 E1 fl1 f1))
    (hn : x ≠ "__name__" := by decide) (hdb : (x == ("__debug__" : Str)) = false := by decide) (he : starEach [a, .Name x p2] X.env = (false, eval a X.env) :: starEach [.Name x p2] X.env := by rfl) (hpl : (backTo pos (starEach [.Name x p2] X.env)).any (·.1) = false := by rfl) :
    PE X (.Call (.Name "isinstance" p) [a, .Name x p2] [] pos) (dE (gx X) W N g [] [] 3 (dOp1 (oIsi T) f1)) := by
  refine peOf (pe_callB call_isi hg hm rfl (pa_cons ha (pa_cons (pe_bltn hgT hmT hv (v := .ty T) rfl hn hdb) pa_nil) he) (by decide) (by decide) he hpl) fun σ H Q ⟨P, rho, mu, phi, Fs, Fc, o, q⟩ => ⟨P, rho, mu, phi, Fs, Fc, o, ?_⟩
  unfold dOp1 at q
  rw [cse_bind] at q
  refine cse_imp q (fun d mu1 q v H1 phi1 Fc1 F1 c1 v1 => ?_) fun c mu1 q => q
  obtain ⟨d', hd, q⟩ := cse_lift q
  unfold oIsi at hd
  cases e : isiD T d with
  | none => rw [e] at hd; cases hd
  | some b =>
    rw [e] at hd
    cases hd
    obtain ⟨t, h1, h2⟩ := isi_kit hT e
    exact ⟨v, .ty T, .type t, .type T, b, rfl, .ty T, rep_ty v1.rep h1, kit_ty h2, q _ H1 phi1 Fc1 [] c1 (bl_val b)⟩
/-- a value that hangs on nothing -/
def dNf (f : DE) : DE := fun rho mu => bind (f rho mu) fun d mu1 => if nfD d = true then .ok d mu1 else .bad
theorem pd_nf {f : DE} (h : PE X e (dE (gx X) W N g A E fl f)) : PE X e (dE (gx X) W N g [] [] 3 (dNf f)) := by
  refine peOf h fun σ H Q ⟨P, rho, mu, phi, Fs, Fc, o, q⟩ => ⟨P, rho, mu, phi, Fs, Fc, o, ?_⟩
  unfold dNf at q
  rw [cse_bind] at q
  refine cse_imp q (fun d mu1 q v H1 phi1 Fc1 F1 c1 v1 => ?_) fun c mu1 q => q
  split at q
  · rename_i hn
    have e := rep_nf v1.rep hn
    subst e
    exact q v H1 phi1 Fc1 [] c1 (val3 v1.rep)
  · exact q.elim
theorem room65 {k : Nat} {A : Around} (hr : Room k A) : A.units + 65 < cLine := by have := hr.un; omega
/-! ### a list unpacked -/
def tLstN (is : List Nat) : Tgt := fun d rho => match d with
  | .lst ds => tNames is ds rho
  | _ => none
theorem dg_lst {is : List Nat} {tgs : TGs} (h : dGs (gx X) N g (setGs g is) is (tNames is) tgs) : dG (gx X) N g (setGs g is) is (tLstN is) (gLst X.K is.length tgs) := ⟨h.1, fun P rho mu σ H phi Fs Fc v d F Q o r b nh rho' ht q => by
  unfold tLstN at ht
  split at ht
  · cases r with
    | lst h1 n1 r2 => exact ⟨_, _, rfl, sqlRd h1, r2.length.trans (tNames_len ht), h.2 P rho mu σ H phi Fs Fc _ _ _ Q o r2 (fun a ha => b a (List.mem_cons_of_mem _ ha)) (fun j a ha z => nh j a ha (List.mem_cons_of_mem _ z)) rho' ht fun σ' Fs' o' k1 k2 k3 => q σ' Fs' o' k1 (fun j hj a ha => List.mem_cons_of_mem _ (k2 j hj a ha)) k3⟩
  · cases ht⟩
/-- target = e (by names: the flags of what e may hand out are gone) -/
def sTgt (f : DE) (t : Tgt) : DS := sOf f fun rho d mu => match t d rho with
  | some r => .nx r mu
  | none => .bad
theorem pds_tgt {f : DE} {t : Tgt} {tgr : TG} {T : List Nat} (h : PS X st (tAsg (dE (gx X) W N g A E fl1 f) tgr)) (hd : dG (gx X) N (clr g (al fl1 A)) g1 T t tgr) : PS X st (dS (gx X) W N g g1 fl (sTgt f t)) := by
  refine psOf h fun D σ H ⟨P, rho, mu, phi, Fs, Fc, o, q⟩ => ⟨P, rho, mu, phi, Fs, Fc, o, ?_⟩
  refine cse_imp (csS_of q) (fun d mu1 q v H1 phi1 Fc1 F1 c1 w1 => ?_) fun _ _ q => exS_of o q
  have o1 := (o.cb c1).clr (al fl1 A)
  cases et : t d rho with
  | none => rw [et] at q; exact q.elim
  | some r =>
    rw [et] at q
    refine hd.2 P rho mu1 σ H1 phi1 Fs Fc1 v d F1 _ o1 w1.rep (o.base w1.bd) (fun j a ha z => ?_) r et fun σ' Fs' o' _ _ _ => q σ' H1 phi1 Fs' Fc1 o'
    rw [flag_clr] at ha
    split at ha
    · cases ha
    · rename_i hn
      exact o.notHeld w1.bal hn a ha z
end
end Dv

namespace Dv
open PySem PySem.Spec PyProof.Rows L2

/-! ## Defs by names -/
structure DefOk (P : Program) (w : World) (K : PySem.W.Frag) (mg : Str → Option Value) (lev : Nat) (x : Str) (ps : List Str) (fl : Nat) (den : Den) : Prop where
  ex : ∃ fd, Binds K fd ps [] ∧ (∀ (s : Shared) (us : List Value), us.length = ps.length → BindsTo s fd ⟨us, []⟩ (ps.zip us)) ∧ ∀ base, FnOk P w K mg base (L2.CX P w) lev (He.ga K x) fd ps (spD ⟨K, P, w, mg⟩ fl ps.length den)
  kp : PySem.W.keepIn K (.ref (He.ga K x)) = true
  gm : mg x = some (.ref (He.ga K x))
theorem DefOk.eq {P : Program} {w : World} {K : PySem.W.Frag} {mg : Str → Option Value} {lev fl : Nat} {x : Str} {ps : List Str} {den den' : Den} (D : DefOk P w K mg lev x ps fl den) (h : ∀ ds mu, ds.length = ps.length → den' ds mu ≠ .bad → den ds mu = den' ds mu) : DefOk P w K mg lev x ps fl den' :=
  ⟨let ⟨fd, b, b2, F⟩ := D.ex; ⟨fd, b, b2, fun base => spD_eq (F base) h⟩, D.kp, D.gm⟩
/-- a def by its body -/
theorem def_mk {P : Program} {w : World} {K : PySem.W.Frag} {mg : Str → Option Value} {x : Str} {params : Arguments} {body : List Stmt} {scope : Scope} {Ns ps : List Str} {k fl : Nat} {fS : DS} {b : Bool} {g0 g' : Gm}
    (FD : ∃ fd, FunD K x x params body scope [] [] (He.ga K x) fd) (gm : mg x = some (.ref (He.ga K x)))
    (hb2 : ∀ (kV doc pm : Value) (an : Option Addr) (cdv ct : Value) (us : List Value), us.length = ps.length → bindArgs (PySem.W.fnOf x x params body scope .none kV doc pm an cdv ct) ⟨us, []⟩ = pure (ps.zip us))
    (S : FnScope Ns ps scope) (hb : b = true → fl ≠ 1) (hg : g0.all (· == 0) = true)
    (hbody : ∀ (f : Addr) (cdv : Value) (A : Around) (outer : List Env) (s : Shared) (H : Hp) (E : XK) (N : Entr) (base : Heap), Room k (A.deeper (envOfC x scope s.heap.objs.size f cdv)) →
      PSs (cxOf (L2.CX P w) P w K mg base Ns x scope f cdv A outer s H E) body (dS ⟨K, P, w, mg⟩ (fun cls d _ H => E cls d H) N g0 g' fl fS)) :
    DefOk P w K mg (k + 1) x ps fl (denF b ps.length Ns.length fS) := by
  obtain ⟨fd, F⟩ := FD
  refine ⟨⟨fd, F.bindsN hb2, F.bindsA hb2, fun base => ?_⟩, F.kp, gm⟩
  refine F.ok S (fun vs H Q E h => h.1) fun cdv A outer s H vs Q E hr h => ?_
  obtain ⟨N, h⟩ := body_go hb h
  exact ⟨_, hbody _ cdv A outer s H E N base hr, h g0 g' hg⟩
section
variable {X : Cx} {W : WX} {N : Entr} {g g' : Gm} {A E A1 A2 E1 E2 : List Nat} {fl fl1 fl2 k lev : Nat} {e a b c : Expr} {es rest : List Expr} {pos p : Pos} {ps : List Str} {x : Str} {den : Den}
theorem pd_callD {fa : DA} (D : DefOk X.prog X.w X.K X.mg lev x ps fl den) (hr : Room k X.A) (hl : lev ≤ k) (hg : Gl X x) (tk : Takes X W)
    (ha : PA X (e :: es) (dA (gx X) W N g A fl1 fa)) (hdb : (x == ("__debug__" : Str)) = false := by decide) (he : starEach (e :: es) X.env = (false, eval e X.env) :: starEach es X.env := by rfl) (hpl : (backTo pos (starEach es X.env)).any (·.1) = false := by rfl) :
    PE X (.Call (.Name x p) (e :: es) [] pos) (dE (gx X) W N g (al fl A) (al fl A) fl (dCall ps.length den fa)) := by
  obtain ⟨fd, b, _, F⟩ := D.ex
  exact pd_call (F X.base) (hr.mono hl) hg D.gm D.kp b tk ha hdb he hpl
/-- the module's constants -/
theorem pd_globI {i : Int} (hg : Gl X x) (hm : ∃ t, X.mg x = some (.int i t)) (hd : (x == ("__debug__" : Str)) = false := by decide) : PE X (.Name x pos) (dE (gx X) W N g [] [] 3 (dK (.int i))) :=
  let ⟨t, e⟩ := hm; pd_const (v := .int i) (pe_glob hg e ⟨t, rfl⟩ hd) fun _ _ => .int i
theorem pd_globS {z : Str} (hg : Gl X x) (hm : ∃ t, X.mg x = some (.str z t)) (hd : (x == ("__debug__" : Str)) = false := by decide) : PE X (.Name x pos) (dE (gx X) W N g [] [] 3 (dK (.str z))) :=
  let ⟨t, e⟩ := hm; pd_const (v := .str z) (pe_glob hg e ⟨t, rfl⟩ hd) fun _ _ => .str z
/-- raise C('..'), C over ValueError -/
theorem pds_raiseD {m : Str} {j : Nat} {p1 p2 p3 pos' : Pos} (hc : X.calm = true) (tk : Takes X W) (gC : X.mg x = some (.ref (He.ga X.K x))) (ok : (He.Fa.exc x).ok X.K = true) (hg : Gl X x) (hdb : (x == ("__debug__" : Str)) = false := by decide) :
    PS X (.Raise (some (.Call (.Name x p1) [.Constant (.str m) j p2] [] p3)) none pos') (dS (gx X) W N g g' fl (sRaise x)) := by
  obtain ⟨h1, h2, h3, h4⟩ := He.exc_ok ok
  exact pds_raise hc tk gC (pmk_own PySem.F.excBase_ValueError h1 gC h2 (raises_own h3 h4) hg hdb)
/-! ### walks under one name -/
theorem dg_one (i : Nat) : dG (gx X) N g (setG g i 0) [i] (tName i) (gName i) := dg_name
end
/-- the end: a law over a head by facts -/
theorem walk_dv {l : PySem.W.OpenLaw} {n k : Nat} {q : Program} {loose : List Str} {XP : (Str → Option Value) → Heap → Prop} {YP : World → Heap → Prop} {d : DefRec} {x : Str}
    (hn : l.most = some n) (hn2 : n ≤ sizeLine) (hdf : d.params.defaults = []) (hr : Room k callerA)
    (F : ∀ (w : World) (mg : Str → Option Value) (fa : Addr) (h : Heap), YP w h → h.Ns mainGlobals mg → mg d.name = some (.ref fa) →
      ∃ (K : PySem.W.Frag) (fd : FuncData) (sp : Sp), K.In h ∧ (∀ (s : Shared) (u : Value), BindsTo s fd ⟨[u], []⟩ [(x, u)]) ∧
        (∀ (H : Hp) (a : Addr) (ns : List Int), ns.length ≤ n → Only H → SqL K H a (ns.map V.int) → sp [.ref a] H (fun v _ => v = .bl true) fun _ _ _ => False) ∧
        ∀ base : Heap, K.In base → base.Ns mainGlobals mg → FnOk l.prog w K mg base (L2.CX l.prog w) k fa fd [x] sp) :
    PySem.W.WalkO q loose XP YP l.row.toRowW d [] (fun f vs => PySem.call f vs) := by
  refine Att.attach_call hn hdf fun w s₀ s₁ mg mb fa o pm cd doc a vs ns G Y ho hd hcd hmg hobj hints hlen hg => ?_
  obtain ⟨K, fd, sp, KX, hb, hsp, hF⟩ := F w mg fa _ Y G.T.g hmg
  exact law_call KX G.T.g G.T.b G.T.builtins G.T.nolimit hg hobj hints (Nat.le_trans hlen hn2) hr hF hb (fun H hO hS => hsp H a ns hlen hO hS) fun H e s' z => by
    obtain ⟨_, _, _, _, z⟩ := z
    first | exact z.elim | exact z.2.elim | (simp at z) | (obtain ⟨_, z⟩ := z; simp at z)
/-- the law's own promise -/
theorem ints_reps {G : Gx} {H : Hp} {phi : List Addr} : ∀ ns : List Int, Reps G H phi (ns.map V.int) (ns.map D.int) []
  | [] => .nil
  | n :: ns => .cons (F := []) (E := []) (.int n) (ints_reps ns)
/-- the den's answer at both shapes of the script -/
def Right (den : Den) (ns : List Int) : Prop := (∃ mu, den [.lst (ns.map D.int)] [] = .ok (.bl true) mu) ∧ ∃ mu, den [.kls (ns.map D.int)] [] = .ok (.bl true) mu
theorem law_sp {G : Gx} {fl : Nat} {den : Den} {H : Hp} {a : Addr} {ns : List Int} (h : Right den ns) (hS : SqL G.K H a (ns.map V.int)) : spD G fl 1 den [.ref a] H (fun v _ => v = .bl true) fun _ _ _ => False := by
  have c : CellsOk G H [] [] [] := ⟨List.nodup_nil, .nil⟩
  have fin : ∀ {d : D} {F : List Addr}, Rep G H [] (.ref a) d F → (∃ mu, den [d] [] = .ok (.bl true) mu) → spD G fl 1 den [.ref a] H (fun v _ => v = .bl true) fun _ _ _ => False := fun r ⟨mu, e⟩ =>
    ⟨rfl, [_], [], [], [], _, .cons r .nil, c, by
      rw [e]
      intro v H' phi' Fc' F' _ r' _ _ _
      cases r'
      rfl⟩
  rcases hS with hS | hS
  · exact fin (.lst hS (fun h => nomatch h) (ints_reps ns)) h.1
  · exact fin (.kls hS (ints_reps ns)) h.2
end Dv

namespace Dv
open PySem PySem.Spec PyProof.Rows L2

/-- how often a loop may turn -/
def fuel : Nat := 1000000
section
variable {X : Cx} {W : WX} {N : Entr} {g g' g1 g2 gL : Gm} {A E A1 A2 E1 E2 : List Nat} {fl fl1 fl2 : Nat} {e a b c : Expr} {es rest : List Expr} {pos p p2 q cpos apos epos : Pos} {H : Hp} {phi : List Addr} {st : Stmt} {o : Expr}
/-! ### a new list times an int -/
theorem pd_rep {f1 f2 : DE} (hf : fl1 = 1 ∨ fl1 = 2) (ha : PE X a (dE (gx X) W N g A1 E1 fl1 f1)) (hb : PE X b (dE (gx X) W N g A2 E2 fl2 f2)) :
    PE X (.BinOp a .Mult b pos) (dE (gx X) W N g (al2 1 fl1 fl2 E1 E2) (al2 1 fl1 fl2 E1 E2) 1 (dOp2 oRep f1 f2)) := by
  refine peOf (pe_op op_rep ha hb) fun σ H Q ⟨P, rho, mu, phi, Fs, Fc, o, q⟩ => ⟨P, rho, mu, phi, Fs, Fc, o, ?_⟩
  unfold dOp2 at q
  rw [cse_bind] at q
  refine cse_imp q (fun d mu1 q v H1 phi1 Fc1 F1 c1 v1 => ⟨P, rho, mu1, phi1, Fs, Fc1, o.cb c1, ?_⟩) fun c mu1 q => q
  rw [cse_bind] at q
  refine cse_imp q (fun d2 mu2 q v2 H2 phi2 Fc2 F2 c2 w2 => ?_) fun c mu2 q => q.back c1
  obtain ⟨d', hd, q⟩ := cse_lift q
  have rl : Rlt (gx X) H2 phi2 (elems d F1 ++ elems d2 F2) 1 d' Q := Rlt.mk q (c1.trans c2) (.inr (by
    have e : al2 1 fl1 fl2 E1 E2 = al fl1 E1 ++ al fl2 E2 := if_neg (by omega)
    rw [e]
    exact (v1.bale.mono fun _ => List.mem_append_left _).app ((w2.bale.back c1).mono fun _ => List.mem_append_right _)))
  unfold oRep at hd
  split at hd
  · split at hd
    · rename_i hc
      cases hd
      have rx := v1.rep
      have ry := w2.rep
      have fr := v1.fr
      cases ry
      cases rx with
      | lst h1 n1 r1 =>
        rename_i a vs F
        have hm : ∃ o, H1 a = some o ∧ Mut (some o) := by
          rcases hf with rfl | rfl
          · obtain ⟨_, x, t, e, _, _, m⟩ := fr
            cases e; exact m
          · exact (fr.2 a List.mem_cons_self).2
        have hH := c2.st.same _ _ (mutLst h1 hm) n1
        obtain ⟨E, g1, g2⟩ := reps_rep (r1.step c2.st) ‹Int›.toNat
        refine ⟨a, _, vs, rfl, rfl, hH, hc.1, hc.2.1, by rw [r1.length]; exact hc.2.2, rl.newL c2.ce.all.ntup g1 fun x hx => ?_⟩
        exact List.mem_append_left _ (g2 x hx)
    · cases hd
  · cases hd
/-! ### x in a tuple of flat things -/
def inF (a : D) (ys : List D) : Bool := inV (toV a) (ys.map toV)
def oInT : OpB := fun a b => match b with
  | .tup ys => if flatD a = true ∧ ys.all flatD = true then some (inF a ys) else none
  | _ => none
def oNotInT : OpB := fun a b => match b with
  | .tup ys => if flatD a = true ∧ ys.all flatD = true then some (!inF a ys) else none
  | _ => none
theorem flatV_toV {d : D} (h : flatD d = true) : flatV (toV d) = true := by
  cases d <;> first | rfl | cases h
theorem flatVs {ds : List D} (h : ds.all flatD = true) : (ds.map toV).all flatV = true := by
  rw [List.all_map, List.all_eq_true]
  intro d hd
  exact flatV_toV (List.all_eq_true.mp h d hd)
theorem sem_inT : SemB (gx X) (rIn X.K false) oInT := fun H phi x dx Fx y dy Fy b Q n rx ry hd q => by
  unfold oInT at hd
  split at hd
  · split at hd
    · rename_i h; cases hd
      obtain ⟨rfl, _⟩ := rep_flat rx h.1
      cases ry with
      | tup h1 r1 =>
        obtain ⟨rfl, _⟩ := reps_flat r1 h.2
        exact ⟨_, _, rfl, .inr h1, flatV_toV h.1, flatVs h.2, q⟩
    · cases hd
  · cases hd
theorem sem_notInT : SemB (gx X) (rIn X.K true) oNotInT := fun H phi x dx Fx y dy Fy b Q n rx ry hd q => by
  unfold oNotInT at hd
  split at hd
  · split at hd
    · rename_i h; cases hd
      obtain ⟨rfl, _⟩ := rep_flat rx h.1
      cases ry with
      | tup h1 r1 =>
        obtain ⟨rfl, _⟩ := reps_flat r1 h.2
        exact ⟨_, _, rfl, .inr h1, flatV_toV h.1, flatVs h.2, q⟩
    · cases hd
  · cases hd
/-! ### list(range(n)) -/
def dListRg (f : DE) : DE := fun rho mu => bind (f rho mu) fun d m => match d with
  | .int n => if small62 n = true ∧ n ≤ 16777216 then .ok (.lst (intsD 0 n.toNat)) m else .bad
  | _ => .bad
theorem rg_reps {G : Gx} (n : Int) : Reps G H phi (rgV 0 n) (intsD 0 n.toNat) [] := by
  unfold rgV intsD
  rw [Int.sub_zero]
  generalize List.range n.toNat = l
  induction l with
  | nil => exact .nil
  | cons i l ih => exact .cons (F := []) (E := []) (.int _) ih
theorem pd_listRg {f : DE} (hc : X.calm = true) (hg : Gl X "list") (hm : X.mg "list" = none) (hg2 : Gl X "range") (hm2 : X.mg "range" = none) (ha : PE X a (dE (gx X) W N g A1 E1 fl1 f)) (na : starEach [a] X.env = (false, eval a X.env) :: starEach [] X.env := by rfl)
    (nb : starEach [.Call (.Name "range" p2) [a] [] q] X.env = (false, eval (.Call (.Name "range" p2) [a] [] q) X.env) :: starEach [] X.env := by rfl) :
    PE X (.Call (.Name "list" p) [.Call (.Name "range" p2) [a] [] q] [] pos) (dE (gx X) W N g [] [] 2 (dListRg f)) := by
  refine peOf (pe_listRg hc hg hm (prg_1 hg2 hm2 ha na) nb) fun σ H Q ⟨P, rho, mu, phi, Fs, Fc, o, q⟩ => ⟨P, rho, mu, phi, Fs, Fc, o, ?_⟩
  unfold dListRg at q
  rw [cse_bind] at q
  refine cse_imp q (fun d mu1 q v H1 phi1 Fc1 F1 c1 v1 => ?_) fun c mu1 q => q
  split at q
  · split at q
    · rename_i n hn
      have r := v1.rep
      cases r
      obtain ⟨h1, h2⟩ := small62_iff hn.1
      refine ⟨n, rfl, ⟨by decide, by decide, h1, h2, by omega⟩, ?_⟩
      exact (Rlt.mk (B := []) q c1 (.inr bnd.nil)).newL2 c1.ce.all.ntup (rg_reps n)
    · exact q.elim
  · exact q.elim
/-! ### len(set(xs)), tuples of ints -/
def intsOfD : List D → Option (List Int)
  | [] => some []
  | .int i :: ds => (intsOfD ds).map (i :: ·)
  | _ :: _ => none
def keysOfD : List D → Option (List (List Int))
  | [] => some []
  | .tup ds :: r => match intsOfD ds with
    | some k => (keysOfD r).map (k :: ·)
    | none => none
  | _ :: _ => none
/-- how many different ones -/
def nuq {α : Type} [DecidableEq α] : List α → Nat
  | [] => 0
  | x :: xs => if x ∈ xs then nuq xs else nuq xs + 1
def nuL {α : Type} [DecidableEq α] : List α → List α
  | [] => []
  | x :: xs => if x ∈ xs then nuL xs else x :: nuL xs
theorem nuL_mem {α : Type} [DecidableEq α] {x : α} : ∀ {l : List α}, x ∈ nuL l ↔ x ∈ l
  | [] => Iff.rfl
  | y :: l => by
    unfold nuL
    split
    · rename_i h
      rw [nuL_mem (l := l), List.mem_cons]
      exact ⟨.inr, fun z => z.elim (fun e => e ▸ h) id⟩
    · rw [List.mem_cons, List.mem_cons, nuL_mem (l := l)]
theorem nuL_nodup {α : Type} [DecidableEq α] : ∀ l : List α, (nuL l).Nodup
  | [] => List.nodup_nil
  | y :: l => by
    unfold nuL
    split
    · exact nuL_nodup l
    · rename_i h
      exact List.nodup_cons.mpr ⟨fun z => h (nuL_mem.mp z), nuL_nodup l⟩
theorem nuL_len {α : Type} [DecidableEq α] : ∀ l : List α, (nuL l).length = nuq l
  | [] => rfl
  | y :: l => by
    unfold nuL nuq
    split
    · exact nuL_len l
    · rw [List.length_cons, nuL_len l]
theorem nuq_of {α : Type} [DecidableEq α] {l m : List α} (hm : m.Nodup) (h : ∀ x, x ∈ m ↔ x ∈ l) : m.length = nuq l := by
  rw [← nuL_len]
  exact ((List.perm_ext_iff_of_nodup hm (nuL_nodup l)).mpr fun x => (h x).trans nuL_mem.symm).length_eq
theorem nuq_nodup {α : Type} [DecidableEq α] {l : List α} (h : l.Nodup) : nuq l = l.length := (nuq_of h fun _ => Iff.rfl).symm
def oLenSetT : Op1 := fun d => match d with
  | .lst ds => match keysOfD ds with
    | some ks => if ks.length < 64 then some (.int (nuq ks)) else none
    | none => none
  | _ => none
theorem intsOfD_rep {G : Gx} : ∀ {vs : List V} {ds : List D} {F : List Addr} {k : List Int}, Reps G H phi vs ds F → intsOfD ds = some k → vs = k.map V.int
  | _, _, _, _, .nil, h => by cases h; rfl
  | _, _, _, k, .cons (d := d) r s, h => by
    cases r <;> unfold intsOfD at h <;> try (cases h; done)
    cases e : intsOfD _ with
    | none => rw [e] at h; cases h
    | some z => rw [e] at h; cases h; rw [intsOfD_rep s e]; rfl
theorem keysOfD_rep : ∀ {vs : List V} {ds : List D} {F : List Addr} {ks : List (List Int)}, Reps (gx X) H phi vs ds F → keysOfD ds = some ks → ∃ ps : List (Addr × List Int), vs = ps.map (fun p => V.ref p.1) ∧ ps.map (·.2) = ks ∧ ∀ p ∈ ps, SqT X.K H p.1 (p.2.map V.int)
  | _, _, _, _, .nil, h => by cases h; exact ⟨[], rfl, rfl, fun _ h => nomatch h⟩
  | _, _, _, ks, .cons (d := d) r s, h => by
    cases r <;> unfold keysOfD at h <;> try (cases h; done)
    rename_i h1 r1
    cases e : intsOfD _ with
    | none => rw [e] at h; cases h
    | some k =>
      rw [e] at h
      simp only at h
      cases e2 : keysOfD _ with
      | none => rw [e2] at h; cases h
      | some z =>
        rw [e2] at h
        cases h
        obtain ⟨ps, g1, g2, g3⟩ := keysOfD_rep s e2
        refine ⟨(_, k) :: ps, by rw [g1]; rfl, by rw [List.map_cons, g2], fun p hp => ?_⟩
        rcases List.mem_cons.mp hp with rfl | hp
        · rw [← intsOfD_rep r1 e]; exact h1
        · exact g3 p hp
def tLenSetT (K : PySem.W.Frag) (ta : TE) : TE := fun σ H Q => ta σ H fun x H1 => ∃ (l : Addr) (ks : List (Addr × List Int)), x = .ref l ∧ SqL K H1 l (ks.map fun p => V.ref p.1) ∧ (∀ p ∈ ks, SqT K H1 p.1 (p.2.map V.int)) ∧ ks.length < 64 ∧ Q (.int (nuq (ks.map (·.2)))) H1
theorem pe_lenSetT {ta : TE} (hg : Gl X "len") (hm : X.mg "len" = none) (hg2 : Gl X "set") (hm2 : X.mg "set" = none) (ha : PE X a ta) (hu : X.A.units + 64 < cLine) (hc : X.calm = true := by rfl)
    (na : starEach [a] X.env = (false, eval a X.env) :: starEach [] X.env := by rfl) : PE X (.Call (.Name "len" p) [.Call (.Name "set" p2) [a] [] q] [] pos) (tLenSetT X.K ta) := by
  refine ⟨fun pins s σ H Q I h => ?_⟩
  refine Call_ (ld_blt I hg hm boot_len (PyProof.Rows.callWith_builtin1 (PyProof.Rows.args_cons ?_ rfl) rfl rfl))
  refine Call_ (ld_blt I hg2 hm2 boot_set (PyProof.Rows.callWith_type1 (PyProof.Rows.args_cons (thn (ha.run pins s σ H _ I h) fun v s1 ⟨x, H1, I1, r1, q1⟩ => PyProof.Rows.args_nil ?_) na) na rfl))
  obtain ⟨l, ks, rfl, hq, hk, hl, q1⟩ := q1
  cases r1
  obtain ⟨its, r, pl, hz⟩ := I1.list hq
  refine call_set_tups (P := X.prog) (w := X.w) ks (I1.ok.hd hc) pl.isList (by simpa using refs_of_vals r) (fun p hp => I1.isT (hk p hp)) hl (by omega) fun h' tk L es ep t R g k => PyProof.Rows.args_nil ?_
  obtain ⟨o, ho, hex, hd⟩ := R.ob
  have I2 : Inv X pins σ H1 { s1 with heap := h', toks := tk } := I1.kept k
  have hsz := SetTR.size (s := { s1 with heap := h', toks := tk }) R
  have hn : L.length = nuq (ks.map (·.2)) := by
    rw [← nuq_of (m := L.map (·.2)) R.nd fun x => ⟨fun hx => ?_, fun hx => ?_⟩, List.length_map]
    · obtain ⟨p, hp, rfl⟩ := List.mem_map.mp hx
      exact List.mem_map.mpr ⟨p, List.mem_of_mem_take (g.sub p hp), rfl⟩
    · obtain ⟨p, hp, rfl⟩ := List.mem_map.mp hx
      exact g.all p (by rw [List.take_length]; exact hp)
  have hf := R.few
  exact call_len_set ho hex hd (SetTR.fits (s := { s1 with heap := h', toks := tk }) R) (by rw [hsz]; omega) ⟨.int (nuq (ks.map (·.2))), H1, I2.tok _, ⟨_, by rw [hsz, hn]⟩, q1⟩
theorem pd_lenSetT {f : DE} (hg : Gl X "len") (hm : X.mg "len" = none) (hg2 : Gl X "set") (hm2 : X.mg "set" = none) (ha : PE X a (dE (gx X) W N g A1 E1 fl1 f)) (hu : X.A.units + 64 < cLine) (hc : X.calm = true := by rfl)
    (na : starEach [a] X.env = (false, eval a X.env) :: starEach [] X.env := by rfl) : PE X (.Call (.Name "len" p) [.Call (.Name "set" p2) [a] [] q] [] pos) (dE (gx X) W N g [] [] 3 (dOp1 oLenSetT f)) := by
  refine peOf (pe_lenSetT hg hm hg2 hm2 ha hu hc na) fun σ H Q ⟨P, rho, mu, phi, Fs, Fc, o, q⟩ => ⟨P, rho, mu, phi, Fs, Fc, o, ?_⟩
  unfold dOp1 at q
  rw [cse_bind] at q
  refine cse_imp q (fun d mu1 q v H1 phi1 Fc1 F1 c1 v1 => ?_) fun c mu1 q => q
  obtain ⟨d', hd, q⟩ := cse_lift q
  unfold oLenSetT at hd
  split at hd
  · rename_i ds
    cases e : keysOfD ds with
    | none => rw [e] at hd; cases hd
    | some ks =>
      rw [e] at hd
      simp only at hd
      split at hd
      · rename_i hl
        cases hd
        have r := v1.rep
        cases r with
        | lst h1 n1 r1 =>
          obtain ⟨ps, g1, g2, g3⟩ := keysOfD_rep r1 e
          subst g1
          subst g2
          exact ⟨_, ps, rfl, sqlRd h1, g3, by simpa using hl, q _ H1 phi1 Fc1 [] c1 (val3 (.int _))⟩
      · cases hd
  · cases hd
/-! ### sorted(xs), pairs of ints -/
def insP (x : Int × Int) : List (Int × Int) → List (Int × Int)
  | [] => [x]
  | y :: l => if SrtO.lexB y x = true then y :: insP x l else x :: y :: l
def sortP : List (Int × Int) → List (Int × Int)
  | [] => []
  | x :: l => insP x (sortP l)
def Sp2 (l : List (Int × Int)) : Prop := l.Pairwise fun x y => SrtO.lexB y x = false
theorem insP_perm (x : Int × Int) : ∀ l, (insP x l).Perm (x :: l)
  | [] => List.Perm.refl _
  | y :: l => by
    unfold insP
    split
    · exact ((insP_perm x l).cons y).trans (List.Perm.swap x y l)
    · exact List.Perm.refl _
theorem sortP_perm : ∀ l, (sortP l).Perm l
  | [] => List.Perm.refl _
  | x :: l => (insP_perm x (sortP l)).trans ((sortP_perm l).cons x)
theorem lex_tr {x y z : Int × Int} (h1 : SrtO.lexB y x = false) (h2 : SrtO.lexB z y = false) : SrtO.lexB z x = false := by
  rw [SrtO.lexB_no] at *
  omega
theorem insP_sorted (x : Int × Int) : ∀ {l}, Sp2 l → Sp2 (insP x l)
  | [], _ => List.pairwise_singleton _ _
  | y :: l, h => by
    obtain ⟨h1, h2⟩ := List.pairwise_cons.mp h
    unfold insP
    split
    · rename_i hy
      refine List.pairwise_cons.mpr ⟨fun z hz => ?_, insP_sorted x h2⟩
      rcases List.mem_cons.mp ((insP_perm x l).mem_iff.mp hz) with rfl | hz
      · rw [SrtO.lexB_no]
        rw [SrtO.lexB_iff] at hy
        omega
      · exact h1 z hz
    · rename_i hy
      have hy' : SrtO.lexB y x = false := by simpa using hy
      refine List.pairwise_cons.mpr ⟨fun z hz => ?_, h⟩
      rcases List.mem_cons.mp hz with rfl | hz
      · exact hy'
      · exact lex_tr hy' (h1 z hz)
theorem sortP_sorted : ∀ l, Sp2 (sortP l)
  | [] => List.Pairwise.nil
  | x :: l => insP_sorted x (sortP_sorted l)
theorem lex_eq {x y : Int × Int} (h1 : SrtO.lexB y x = false) (h2 : SrtO.lexB x y = false) : x = y := by
  rw [SrtO.lexB_no] at *
  apply Prod.ext <;> omega
theorem sp_uniq : ∀ {l m : List (Int × Int)}, Sp2 l → Sp2 m → l.Perm m → l = m
  | [], m, _, _, h => (List.Perm.eq_nil h.symm).symm
  | x :: l, [], _, _, h => absurd (List.Perm.eq_nil h) (by simp)
  | x :: l, y :: m, hl, hm, h => by
    obtain ⟨a1, a2⟩ := List.pairwise_cons.mp hl
    obtain ⟨b1, b2⟩ := List.pairwise_cons.mp hm
    have e : x = y := by
      have hx : x ∈ y :: m := h.mem_iff.mp List.mem_cons_self
      have hy : y ∈ x :: l := h.mem_iff.mpr List.mem_cons_self
      rcases List.mem_cons.mp hx with e | hx
      · exact e
      · rcases List.mem_cons.mp hy with e | hy
        · exact e.symm
        · exact lex_eq (a1 y hy) (b1 x hx)
    subst e
    rw [sp_uniq a2 b2 h.cons_inv]
theorem sortP_of {l m : List (Int × Int)} (h : Sp2 m) (p : m.Perm l) : m = sortP l := sp_uniq h (sortP_sorted l) (p.trans (sortP_perm l).symm)
theorem sortP_id {l : List (Int × Int)} (h : Sp2 l) : sortP l = l := (sortP_of h (List.Perm.refl _)).symm
theorem sortP_len (l : List (Int × Int)) : (sortP l).length = l.length := (sortP_perm l).length_eq
def rSortedX (K : PySem.W.Frag) : List V → Hp → VK → Prop := fun vs H Q => ∃ (a : Addr) (xps : List (Addr × (Int × Int))), vs = [V.ref a] ∧ SqL K H a (xps.map fun p => V.ref p.1) ∧ (∀ p ∈ xps, SqT K H p.1 [.int p.2.1, .int p.2.2]) ∧
  ∀ (yps : List (Addr × (Int × Int))) (p : Addr), yps.Perm xps → Sp2 (yps.map (·.2)) → H p = none → Q (.ref p) (upd H p (.lst (yps.map fun p => V.ref p.1)))
theorem refs_any {α : Type} {f : α → Addr} : ∀ {ks : List α} {us : List Value}, Vals (ks.map fun p => V.ref (f p)) us → us = ks.map fun p => Value.ref (f p)
  | [], _, .nil => rfl
  | p :: ks, _, .cons r t => by
    cases r
    rw [refs_any t]; rfl
theorem any_refs {α : Type} {f : α → Addr} : ∀ (ks : List α), Vals (ks.map fun p => V.ref (f p)) (ks.map fun p => Value.ref (f p))
  | [] => .nil
  | p :: ks => .cons rfl (any_refs ks)
open Classical in
noncomputable def keyA (K : PySem.W.Frag) (H : Hp) (u : Value) : Int × Int := match u with
  | .ref t => if h : ∃ ij : Int × Int, SqT K H t [.int ij.1, .int ij.2] then choose h else (0, 0)
  | _ => (0, 0)
def adr : Value → Addr
  | .ref t => t
  | _ => 0
theorem cr_sortedX : CallR X (.builtin "sorted") (rSortedX X.K) := by
  intro pins s σ H vs us Q I r h
  obtain ⟨a, xps, rfl, hs, hx, q⟩ := h
  obtain ⟨its, rv, pl, hz⟩ := I.list hs
  obtain ⟨u, rfl, ru⟩ := vals1 r
  cases (show u = Value.ref a from ru)
  have hk : ∀ p ∈ xps, keyA X.K H (.ref p.1) = p.2 := fun p hp => by
    have ex : ∃ ij : Int × Int, SqT X.K H p.1 [.int ij.1, .int ij.2] := ⟨p.2, hx p hp⟩
    have e1 : keyA X.K H (.ref p.1) = Classical.choose ex := dif_pos ex
    have e2 := I.tuple_inj (Classical.choose_spec ex) (hx p hp)
    rw [e1]
    injection e2 with e3 e4
    injection e4 with e5 e6
    injection e3 with e3
    injection e5 with e5
    exact Prod.ext e3 e5
  have ei := refs_any rv
  subst ei
  refine SrtO.sorted_pairsO (k := keyA X.K H) pl.isList (by rw [List.length_map] at hz ⊢; exact hz) (fun v hv => ?_) fun h' d out h1 h2 kp hd hn => ?_
  · obtain ⟨p, hp, rfl⟩ := List.mem_map.mp hv
    obtain ⟨its2, r2, ⟨o, ho, hc, n, ht⟩, _⟩ := I.tuple (hx p hp)
    obtain ⟨u1, u2, rfl, ⟨t1, rfl⟩, ⟨t2, rfl⟩⟩ := vals2 r2
    rw [hk p hp]
    exact ⟨p.1, o, t1, t2, n, rfl, ho, hc, ht⟩
  · obtain ⟨n, hn⟩ := hn
    have pm := h2.perm
    have ro : ∀ v ∈ out, ∃ p ∈ xps, v = .ref p.1 := fun v hv => by
      obtain ⟨p, hp, e⟩ := List.mem_map.mp (pm.mem_iff.mp hv)
      exact ⟨p, hp, e.symm⟩
    have ex : xps = (xps.map fun p => Value.ref p.1).map fun v => (adr v, keyA X.K H v) := by
      rw [List.map_map]
      conv => lhs; rw [← List.map_id xps]
      exact List.map_congr_left fun p hp => by
        show p = (p.1, keyA X.K H (.ref p.1))
        rw [hk p hp]
    have eo : ((out.map fun v => (adr v, keyA X.K H v)).map fun p => Value.ref p.1) = out := by
      rw [List.map_map]
      conv => rhs; rw [← List.map_id out]
      exact List.map_congr_left fun v hv => by
        obtain ⟨p, _, rfl⟩ := ro v hv
        rfl
    have hv : Vals ((out.map fun v => (adr v, keyA X.K H v)).map fun p => V.ref p.1) out := by
      have z := any_refs (f := fun p : Addr × (Int × Int) => p.1) (out.map fun v => (adr v, keyA X.K H v))
      rw [eo] at z
      exact z
    refine ⟨.ref d, upd H d (.lst ((out.map fun v => (adr v, keyA X.K H v)).map fun p => V.ref p.1)), I.laid (t' := s.toks) kp hd ⟨?_, out, n, hv, hn⟩, rfl, q _ d ?_ ?_ (I.hok.fresh hd)⟩
    · rw [List.length_map, List.length_map, pm.length_eq, List.length_map]
      rw [List.length_map] at hz
      exact hz
    · have z := pm.map fun v => (adr v, keyA X.K H v)
      rw [← ex] at z
      exact z
    · unfold Sp2
      rw [List.map_map]
      exact List.pairwise_map.mpr h1
def pD (p : Int × Int) : D := .tup [.int p.1, .int p.2]
def pairD : D → Option (Int × Int)
  | .tup [.int i, .int j] => some (i, j)
  | _ => none
def pairsD : List D → Option (List (Int × Int))
  | [] => some []
  | d :: ds => match pairD d with
    | some p => (pairsD ds).map (p :: ·)
    | none => none
def oSortP : Op1 := fun d => match d with
  | .lst ds => (pairsD ds).map fun ps => .lst ((sortP ps).map pD)
  | _ => none
theorem pairD_iff {d : D} {p : Int × Int} (h : pairD d = some p) : d = pD p := by
  unfold pairD at h
  split at h
  · cases h; rfl
  · cases h
theorem pairsD_map : ∀ ps : List (Int × Int), pairsD (ps.map pD) = some ps
  | [] => rfl
  | p :: ps => by
    show (match pairD (pD p) with | some p => (pairsD (ps.map pD)).map (p :: ·) | none => none) = _
    rw [pairsD_map ps]; rfl
theorem pairsD_rep : ∀ {vs : List V} {ds : List D} {F : List Addr} {ps : List (Int × Int)}, Reps (gx X) H phi vs ds F → pairsD ds = some ps → ∃ xps : List (Addr × (Int × Int)), vs = xps.map (fun p => V.ref p.1) ∧ xps.map (·.2) = ps ∧ ∀ p ∈ xps, SqT X.K H p.1 [.int p.2.1, .int p.2.2]
  | _, _, _, _, .nil, h => by cases h; exact ⟨[], rfl, rfl, fun _ h => nomatch h⟩
  | _, _, _, ps, .cons (d := d) r s, h => by
    unfold pairsD at h
    cases e : pairD d with
    | none => rw [e] at h; cases h
    | some p =>
      rw [e] at h
      simp only at h
      have ed := pairD_iff e
      subst ed
      cases e2 : pairsD _ with
      | none => rw [e2] at h; cases h
      | some z =>
        rw [e2] at h
        cases h
        obtain ⟨xps, g1, g2, g3⟩ := pairsD_rep s e2
        cases r with
        | tup h1 r1 =>
          cases r1 with
          | cons a1 r2 =>
            cases r2 with
            | cons a2 r3 =>
              cases r3
              cases a1
              cases a2
              refine ⟨(_, p) :: xps, by rw [g1]; rfl, by rw [List.map_cons, g2], fun y hy => ?_⟩
              rcases List.mem_cons.mp hy with rfl | hy
              · exact h1
              · exact g3 y hy
theorem pairs_reps : ∀ {xps : List (Addr × (Int × Int))}, (∀ p ∈ xps, SqT X.K H p.1 [.int p.2.1, .int p.2.2]) → Reps (gx X) H phi (xps.map fun p => V.ref p.1) ((xps.map (·.2)).map pD) []
  | [], _ => .nil
  | p :: xps, h => .cons (F := []) (E := []) (.tup (h p List.mem_cons_self) (.cons (F := []) (E := []) (.int _) (.cons (F := []) (E := []) (.int _) .nil))) (pairs_reps fun q hq => h q (List.mem_cons_of_mem _ hq))
theorem sem_sortP : Sem1 (gx X) (fun v H Q => rSortedX X.K [v] H Q) oSortP 2 := fun H phi x dx Fx d Q n rx hd q => by
  unfold oSortP at hd
  split at hd
  · rename_i ds
    cases e : pairsD ds with
    | none => rw [e] at hd; cases hd
    | some ps =>
      rw [e] at hd
      cases hd
      cases rx with
      | lst h1 n1 r1 =>
        obtain ⟨xps, g1, g2, g3⟩ := pairsD_rep r1 e
        subst g1
        refine ⟨_, xps, rfl, sqlRd h1, g3, fun yps p pm so hp => ?_⟩
        have ey : yps.map (·.2) = sortP ps := sortP_of so (by rw [← g2]; exact pm.map _)
        have q : Rlt (gx X) H phi _ 2 (.lst ((sortP ps).map pD)) Q := q
        rw [← ey] at q
        exact q.newL2 n (pairs_reps fun y hy => g3 y (pm.mem_iff.mp hy)) p hp
  · cases hd
end
end Dv

namespace Dv
open PySem PySem.Spec PyProof.Rows L2

/-! ## Reading the denotations -/
section
variable {α β : Type} {rho : Rho} {mu mu1 : Mu}
@[simp] theorem bind_ok (a : α) (k : α → Mu → Out β) : bind (.ok a mu) k = k a mu := Eq.trans rfl rfl
@[simp] theorem bind_ex (c : Str) (k : α → Mu → Out β) : bind (.ex c mu) k = .ex c mu := Eq.trans rfl rfl
@[simp] theorem bind_bad (k : α → Mu → Out β) : bind (.bad : Out α) k = .bad := Eq.trans rfl rfl
@[simp] theorem bindN_ok (a : α) (k : α → Mu → Out β) : bindN (.ok a mu) k = k a mu := Eq.trans rfl rfl
@[simp] theorem lift_some (a : α) : lift (some a) mu = .ok a mu := Eq.trans rfl rfl
@[simp] theorem lift_none : lift (none : Option α) mu = .bad := Eq.trans rfl rfl
def oS (o : Out α) (rho : Rho) (k : α → Mu → OutS) : OutS := match o with
  | .ok a m => k a m
  | .ex c m => .ex c rho m
  | .bad => .bad
@[simp] theorem oS_ok (a : α) (k : α → Mu → OutS) : oS (.ok a mu) rho k = k a mu := Eq.trans rfl rfl
@[simp] theorem oS_ex (c : Str) (k : α → Mu → OutS) : oS (.ex c mu) rho k = .ex c rho mu := Eq.trans rfl rfl
@[simp] theorem oS_bad (k : α → Mu → OutS) : oS (.bad : Out α) rho k = .bad := Eq.trans rfl rfl
theorem sOf_eq (o : Rho → Mu → Out α) (k : Rho → α → Mu → OutS) : sOf o k rho mu = oS (o rho mu) rho (k rho) := by
  unfold sOf oS; cases o rho mu <;> rfl
def thn (o : OutS) (f : DS) : OutS := match o with
  | .nx r m => f r m
  | o => o
@[simp] theorem thn_nx (f : DS) : thn (.nx rho mu) f = f rho mu := Eq.trans rfl rfl
@[simp] theorem thn_rt (d : D) (f : DS) : thn (.rt d mu) f = .rt d mu := Eq.trans rfl rfl
@[simp] theorem thn_ex (c : Str) (f : DS) : thn (.ex c rho mu) f = .ex c rho mu := Eq.trans rfl rfl
@[simp] theorem thn_bad (f : DS) : thn .bad f = .bad := Eq.trans rfl rfl
@[simp] theorem seq_ap (f1 f2 : DS) : sSeq f1 f2 rho mu = thn (f1 rho mu) f2 := by unfold sSeq thn; cases f1 rho mu <;> rfl
@[simp] theorem nil_ap : sNil rho mu = .nx rho mu := Eq.trans rfl rfl
@[simp] theorem if_ap (t : DT) (f1 f2 : DS) : sIf t f1 f2 rho mu = oS (t rho mu) rho fun b m => if b = true then f1 rho m else f2 rho m := sOf_eq _ _
@[simp] theorem drop_ap (f : DE) : sDrop f rho mu = oS (f rho mu) rho fun _ m => .nx rho m := sOf_eq _ _
@[simp] theorem ret_ap (f : DE) : sRet f rho mu = oS (f rho mu) rho fun d m => .rt d m := sOf_eq _ _
@[simp] theorem retN_ap : sRetN rho mu = .rt .non mu := Eq.trans rfl rfl
@[simp] theorem raise_ap (c : Str) : sRaise c rho mu = .ex c rho mu := Eq.trans rfl rfl
@[simp] theorem set_ap (i : Nat) (f : DE) : sSet i f rho mu = oS (f rho mu) rho fun d m => if i < rho.length then .nx (rho.set i (some d)) m else .bad := sOf_eq _ _
@[simp] theorem tgt_ap (f : DE) (t : Tgt) : sTgt f t rho mu = oS (f rho mu) rho fun d m => match t d rho with | some r => .nx r m | none => .bad := sOf_eq _ _
@[simp] theorem for_ap (fi : DA) (t : Tgt) (f : DS) : sFor fi t f rho mu = oS (fi rho mu) rho fun ds m => sForL t f ds rho m := sOf_eq _ _
@[simp] theorem app_ap (i : Nat) (f : DE) : sApp i f rho mu = match lstAt rho i with
  | some xs => oS (f rho mu) rho (fun d m => if xs.length < 16777216 then .nx (rho.set i (some (.lst (xs ++ [d])))) m else .bad)
  | none => .bad := by
  unfold sApp
  cases lstAt rho i with
  | none => rfl
  | some xs => exact sOf_eq _ _
@[simp] theorem napp_ap (i k : Nat) (f : DE) : sNApp i k f rho mu = match nestAt rho i k with
  | some (b, ds, xs) => oS (f rho mu) rho (fun d m => if xs.length < 16777216 then .nx (rho.set i (some (mkO b (ds.set k (.lst (xs ++ [d])))))) m else .bad)
  | none => .bad := by
  unfold sNApp
  cases nestAt rho i k with
  | none => rfl
  | some x => exact sOf_eq _ _
@[simp] theorem nclr_ap (i k : Nat) : sNClr i k rho mu = match nestAt rho i k with
  | some (b, ds, xs) => .nx (rho.set i (some (mkO b (ds.set k (.lst []))))) mu
  | none => .bad := Eq.trans rfl rfl
@[simp] theorem var_ap (i : Nat) : dVar i rho mu = match rho[i]? with | some (some d) => .ok d mu | _ => .bad := Eq.trans rfl rfl
@[simp] theorem k_ap (d : D) : dK d rho mu = .ok d mu := Eq.trans rfl rfl
@[simp] theorem anil_ap : daNil rho mu = .ok [] mu := Eq.trans rfl rfl
@[simp] theorem acons_ap (f : DE) (r : DA) : daCons f r rho mu = bind (f rho mu) fun d m => bind (r rho m) fun ds m2 => .ok (d :: ds) m2 := Eq.trans rfl rfl
@[simp] theorem lst_ap (f : DA) : dLst f rho mu = bind (f rho mu) fun ds m => if ds.length ≤ 1000 then .ok (.lst ds) m else .bad := Eq.trans rfl rfl
@[simp] theorem tup_ap (f : DA) : dTup f rho mu = bind (f rho mu) fun ds m => if ds.length ≤ 1000 then .ok (.tup ds) m else .bad := Eq.trans rfl rfl
@[simp] theorem op1_ap (k : Op1) (f : DE) : dOp1 k f rho mu = bind (f rho mu) fun d m => lift (k d) m := Eq.trans rfl rfl
@[simp] theorem op2_ap (k : Op2) (f1 f2 : DE) : dOp2 k f1 f2 rho mu = bind (f1 rho mu) fun d m => bind (f2 rho m) fun d2 m2 => lift (k d d2) m2 := Eq.trans rfl rfl
@[simp] theorem cmp_ap (k : OpB) (f1 f2 : DE) : dCmp k f1 f2 rho mu = bind (f1 rho mu) fun d m => bind (f2 rho m) fun d2 m2 => lift (k d d2) m2 := Eq.trans rfl rfl
@[simp] theorem not_ap (f : DT) : dNot f rho mu = bind (f rho mu) fun b m => .ok (!b) m := Eq.trans rfl rfl
@[simp] theorem and_ap (f1 f2 : DT) : dAnd f1 f2 rho mu = bind (f1 rho mu) fun b m => if b = true then f2 rho m else .ok false m := Eq.trans rfl rfl
@[simp] theorem or_ap (f1 f2 : DT) : dOr f1 f2 rho mu = bind (f1 rho mu) fun b m => if b = true then .ok true m else f2 rho m := Eq.trans rfl rfl
@[simp] theorem b_ap (f : DE) : dB f rho mu = bind (f rho mu) fun d m => match d with | .bl b => .ok b m | _ => .bad := Eq.trans rfl rfl
@[simp] theorem v_ap (f : DT) : dV f rho mu = bind (f rho mu) fun b m => .ok (.bl b) m := Eq.trans rfl rfl
@[simp] theorem chain_ap (k1 k2 : OpB) (f1 f2 f3 : DE) : dChain k1 k2 f1 f2 f3 rho mu = bind (f1 rho mu) fun x m1 => bind (f2 rho m1) fun y m2 => bind (lift (k1 x y) m2) fun z m3 => if z = true then bind (f3 rho m3) fun w m4 => lift (k2 y w) m4 else .ok false m3 := Eq.trans rfl rfl
@[simp] theorem ifE_ap (t : DT) (f1 f2 : DE) : dIf t f1 f2 rho mu = bind (t rho mu) fun b m => if b = true then f1 rho m else f2 rho m := Eq.trans rfl rfl
@[simp] theorem onone_ap : doNone rho mu = .ok none mu := Eq.trans rfl rfl
@[simp] theorem osome_ap (f : DE) : doSome f rho mu = bind (f rho mu) fun d m => match d with | .int i => .ok (some i) m | _ => .bad := Eq.trans rfl rfl
@[simp] theorem sl_ap (k : OpS) (f : DE) (l h : DO) : dSl k f l h rho mu = bind (f rho mu) fun d m1 => bind (l rho m1) fun lo m2 => bind (h rho m2) fun hi m3 => lift (k d lo hi) m3 := Eq.trans rfl rfl
@[simp] theorem nf_ap (f : DE) : dNf f rho mu = bind (f rho mu) fun d m => if nfD d = true then .ok d m else .bad := Eq.trans rfl rfl
@[simp] theorem call_ap (n : Nat) (den : Den) (fa : DA) : dCall n den fa rho mu = bind (fa rho mu) fun ds m => if ds.length = n then den ds m else .bad := Eq.trans rfl rfl
@[simp] theorem m1_ap (k : Op2) (f1 f2 : DE) : dM1 k f1 f2 rho mu = bind (f1 rho mu) fun d m => match d with | .str x => bind (f2 rho m) fun d2 m2 => lift (k (.str x) d2) m2 | _ => .bad := Eq.trans rfl rfl
@[simp] theorem lc_ap (own : List Nat) (fi : DA) (t : Tgt) (ft : DT) (fe : DE) : dLc own fi t ft fe rho mu = bind (fi rho mu) fun ds m => if ds.length ≤ 16777216 then bindN (lcL t ft fe (wipeR rho own) ds m) fun ys m2 => .ok (.lst ys) m2 else .bad := Eq.trans rfl rfl
@[simp] theorem yes_ap : dtYes rho mu = .ok true mu := Eq.trans rfl rfl
@[simp] theorem seqA_ap (f : DE) : daSeq f rho mu = bind (f rho mu) fun d m => match d with | .lst ds => .ok ds m | _ => .bad := Eq.trans rfl rfl
@[simp] theorem tupA_ap (f : DE) : daTupl f rho mu = bind (f rho mu) fun d m => match d with | .tup ds => .ok ds m | _ => .bad := Eq.trans rfl rfl
@[simp] theorem strA_ap (f : DE) : daStr f rho mu = bind (f rho mu) fun d m => match d with | .str x => .ok (signsD x) m | _ => .bad := Eq.trans rfl rfl
@[simp] theorem enumA_ap (f : DE) : daEnum f rho mu = bind (f rho mu) fun d m => match d with | .lst ds => .ok (enumD ds) m | _ => .bad := Eq.trans rfl rfl
@[simp] theorem wipe_nil : wipeR rho [] = rho := Eq.trans rfl rfl
@[simp] theorem tName_ap (i : Nat) (d : D) : tName i d rho = if i < rho.length then some (rho.set i (some d)) else none := Eq.trans rfl rfl
def fin (b : Bool) (o : OutS) : Out D := match o with
  | .nx _ mu' => if b = true then .ok .non mu' else .bad
  | .rt d mu' => .ok d mu'
  | .ex c _ mu' => .ex c mu'
  | .bad => .bad
@[simp] theorem fin_nx (b : Bool) : fin b (.nx rho mu) = if b = true then .ok .non mu else .bad := Eq.trans rfl rfl
@[simp] theorem fin_rt (b : Bool) (d : D) : fin b (.rt d mu) = .ok d mu := Eq.trans rfl rfl
@[simp] theorem fin_ex (b : Bool) (c : Str) : fin b (.ex c rho mu) = .ex c mu := Eq.trans rfl rfl
theorem den_ap (b : Bool) (n m : Nat) (f : DS) (ds : List D) : denF b n m f ds mu = fin b (f (ds.map some ++ List.replicate (m - n) none) mu) := by
  unfold denF fin
  cases f (ds.map some ++ List.replicate (m - n) none) mu <;> rfl
end
theorem while_ap (t : DT) (f : DS) (n : Nat) (rho : Rho) (mu : Mu) : sWhile t f (n + 1) rho mu = oS (t rho mu) rho fun b m => if b = true then thn (f rho m) (sWhile t f n) else .nx rho m := by
  show sOf t _ rho mu = _
  rw [sOf_eq]
  congr 1
/-! ### walks -/
theorem sForL_inv {t : Tgt} {f : DS} (Inv : List D → Rho → Mu → Prop) (h : ∀ d ds' rho mu, Inv (d :: ds') rho mu → ∃ r, t d rho = some r ∧ ∃ rho' mu', f r mu = .nx rho' mu' ∧ Inv ds' rho' mu') :
    ∀ ds rho mu, Inv ds rho mu → ∃ rho' mu', sForL t f ds rho mu = .nx rho' mu' ∧ Inv [] rho' mu'
  | [], rho, mu, i => ⟨rho, mu, rfl, i⟩
  | d :: ds, rho, mu, i => by
    obtain ⟨r, h1, rho', mu', h2, h3⟩ := h d ds rho mu i
    obtain ⟨rho2, mu2, h4, h5⟩ := sForL_inv Inv h ds rho' mu' h3
    refine ⟨rho2, mu2, ?_, h5⟩
    unfold sForL
    rw [h1]
    simp only [h2, h4]
def nxP (o : OutS) (P : Rho → Mu → Prop) : Prop := match o with
  | .nx r m => P r m
  | _ => False
@[simp] theorem nxP_nx {r : Rho} {m : Mu} {P : Rho → Mu → Prop} : nxP (.nx r m) P = P r m := Eq.trans rfl rfl
theorem nxP_ex {o : OutS} {P : Rho → Mu → Prop} (h : nxP o P) : ∃ r m, o = .nx r m ∧ P r m := by
  cases o <;> first | exact ⟨_, _, rfl, h⟩ | exact h.elim
/-- the same, by reading -/
theorem sForL_invE {t : Tgt} {f : DS} (Inv : List D → Rho → Mu → Prop) (h : ∀ d ds' rho mu, Inv (d :: ds') rho mu → (t d rho).elim False fun r => nxP (f r mu) (Inv ds')) (ds : List D) (rho : Rho) (mu : Mu) (i : Inv ds rho mu) :
    ∃ rho' mu', sForL t f ds rho mu = .nx rho' mu' ∧ Inv [] rho' mu' :=
  sForL_inv Inv (fun d ds' rho mu i => by
    have := h d ds' rho mu i
    cases e : t d rho with
    | none => rw [e] at this; exact this.elim
    | some r =>
      rw [e] at this
      exact ⟨r, rfl, nxP_ex this⟩) ds rho mu i
theorem lcL_eq {t : Tgt} {ft : DT} {fe : DE} {rho : Rho} {mu : Mu} (p : D → Bool) (g : D → D) : ∀ (ds : List D), (∀ d ∈ ds, ∃ r, t d rho = some r ∧ ft r mu = .ok (p d) mu ∧ (p d = true → fe r mu = .ok (g d) mu)) → lcL t ft fe rho ds mu = .ok ((ds.filter p).map g) mu
  | [], _ => rfl
  | d :: ds, h => by
    obtain ⟨r, h1, h2, h3⟩ := h d List.mem_cons_self
    have ih := lcL_eq p g ds fun x hx => h x (List.mem_cons_of_mem _ hx)
    unfold lcL
    rw [h1]
    simp only [h2, bindN_ok]
    cases e : p d with
    | true => simp [h3 e, ih, e]
    | false => simp [ih, e]
theorem lcL_map {t : Tgt} {fe : DE} {rho : Rho} {mu : Mu} (g : D → D) (ds : List D) (h : ∀ d ∈ ds, ∃ r, t d rho = some r ∧ fe r mu = .ok (g d) mu) : lcL t dtYes fe rho ds mu = .ok (ds.map g) mu := by
  have := lcL_eq (ft := dtYes) (fun _ => true) g ds fun d hd => let ⟨r, h1, h2⟩ := h d hd; ⟨r, h1, rfl, fun _ => h2⟩
  rwa [List.filter_eq_self.mpr fun _ _ => rfl] at this
theorem lcL_on {α : Type} {t : Tgt} {ft : DT} {fe : DE} {rho : Rho} {mu : Mu} (f g : α → D) (p : α → Bool) : ∀ (xs : List α), (∀ x ∈ xs, ∃ r, t (f x) rho = some r ∧ ft r mu = .ok (p x) mu ∧ (p x = true → fe r mu = .ok (g x) mu)) → lcL t ft fe rho (xs.map f) mu = .ok ((xs.filter p).map g) mu
  | [], _ => rfl
  | x :: xs, h => by
    obtain ⟨r, h1, h2, h3⟩ := h x List.mem_cons_self
    have ih := lcL_on f g p xs fun y hy => h y (List.mem_cons_of_mem _ hy)
    rw [List.map_cons]
    unfold lcL
    rw [h1]
    simp only [h2, bindN_ok]
    cases e : p x with
    | true => simp [h3 e, ih, e]
    | false => simp [ih, e]
theorem lcL_all {α : Type} {t : Tgt} {fe : DE} {rho : Rho} {mu : Mu} (f g : α → D) (xs : List α) (h : ∀ x ∈ xs, ∃ r, t (f x) rho = some r ∧ fe r mu = .ok (g x) mu) : lcL t dtYes fe rho (xs.map f) mu = .ok (xs.map g) mu := by
  have := lcL_on (ft := dtYes) f g (fun _ => true) xs fun x hx => let ⟨r, h1, h2⟩ := h x hx; ⟨r, h1, rfl, fun _ => h2⟩
  rwa [List.filter_eq_self.mpr fun _ _ => rfl] at this
theorem lcL_none {α : Type} {t : Tgt} {ft : DT} {fe : DE} {rho : Rho} {mu : Mu} (f : α → D) (xs : List α) (h : ∀ x ∈ xs, ∃ r, t (f x) rho = some r ∧ ft r mu = .ok false mu) : lcL t ft fe rho (xs.map f) mu = .ok [] mu := by
  have := lcL_on (ft := ft) (fe := fe) f f (fun _ => false) xs fun x hx => let ⟨r, h1, h2⟩ := h x hx; ⟨r, h1, h2, fun e => nomatch e⟩
  rwa [List.filter_eq_nil_iff.mpr fun _ _ => Bool.false_ne_true] at this
@[simp] theorem wipe_cons (rho : Rho) (v : Nat) (vs : List Nat) : wipeR rho (v :: vs) = (wipeR rho vs).set v none := Eq.trans rfl rfl
@[simp] theorem tNames_nil (rho : Rho) : tNames [] [] rho = some rho := Eq.trans rfl rfl
@[simp] theorem tNames_cons (i : Nat) (is : List Nat) (d : D) (ds : List D) (rho : Rho) : tNames (i :: is) (d :: ds) rho = if i < rho.length then tNames is ds (rho.set i (some d)) else none := Eq.trans rfl rfl
@[simp] theorem tTupN_ap (is : List Nat) (ds : List D) (rho : Rho) : tTupN is (.tup ds) rho = tNames is ds rho := Eq.trans rfl rfl
@[simp] theorem tLstN_ap (is : List Nat) (ds : List D) (rho : Rho) : tLstN is (.lst ds) rho = tNames is ds rho := Eq.trans rfl rfl
theorem lcL_allE {α : Type} {t : Tgt} {fe : DE} {rho : Rho} {mu : Mu} (f g : α → D) (xs : List α) (h : ∀ x ∈ xs, (t (f x) rho).elim False fun r => fe r mu = .ok (g x) mu) : lcL t dtYes fe rho (xs.map f) mu = .ok (xs.map g) mu :=
  lcL_all f g xs fun x hx => by
    have := h x hx
    cases e : t (f x) rho with
    | none => rw [e] at this; exact this.elim
    | some r => rw [e] at this; exact ⟨r, rfl, this⟩
theorem lcL_onE {α : Type} {t : Tgt} {ft : DT} {fe : DE} {rho : Rho} {mu : Mu} (f g : α → D) (p : α → Bool) (xs : List α) (h : ∀ x ∈ xs, (t (f x) rho).elim False fun r => ft r mu = .ok (p x) mu ∧ (p x = true → fe r mu = .ok (g x) mu)) : lcL t ft fe rho (xs.map f) mu = .ok ((xs.filter p).map g) mu :=
  lcL_on f g p xs fun x hx => by
    have := h x hx
    cases e : t (f x) rho with
    | none => rw [e] at this; exact this.elim
    | some r => rw [e] at this; exact ⟨r, rfl, this⟩
theorem lcL_noneE {α : Type} {t : Tgt} {ft : DT} {fe : DE} {rho : Rho} {mu : Mu} (f : α → D) (xs : List α) (h : ∀ x ∈ xs, (t (f x) rho).elim False fun r => ft r mu = .ok false mu) : lcL t ft fe rho (xs.map f) mu = .ok [] mu :=
  lcL_none f xs fun x hx => by
    have := h x hx
    cases e : t (f x) rho with
    | none => rw [e] at this; exact this.elim
    | some r => rw [e] at this; exact ⟨r, rfl, this⟩
/-! ### numbers -/
@[simp] theorem oCmpI_int (p : Int → Int → Bool) (i j : Int) : oCmpI p (.int i) (.int j) = some (p i j) := Eq.trans rfl rfl
@[simp] theorem oAdd_int (i j : Int) : oAdd (.int i) (.int j) = some (.int (i + j)) := Eq.trans rfl rfl
@[simp] theorem oSub_int (i j : Int) : oSub (.int i) (.int j) = some (.int (i - j)) := Eq.trans rfl rfl
@[simp] theorem oNeg_int (i : Int) : oNeg (.int i) = some (.int (-i)) := Eq.trans rfl rfl
theorem oMod_int {i j : Int} (h : 0 < j) : oMod (.int i) (.int j) = some (.int (i % j)) := if_pos h
theorem oDiv_int {i j : Int} (h : 0 < j ∧ j < 1073741824) : oDiv (.int i) (.int j) = some (.int (i / j)) := if_pos h
theorem oMul_int {i j : Int} (h : okMul i j = true) : oMul (.int i) (.int j) = some (.int (i * j)) := if_pos h
theorem oShr_int {i j : Int} (h : 0 ≤ j) : oShr (.int i) (.int j) = some (.int (i / 2 ^ j.toNat)) := if_pos h
theorem okMul_l {i j : Int} (h : -(2 ^ 64) < i ∧ i < 2 ^ 64) : okMul i j = true := by
  unfold okMul
  rw [decide_eq_true h.1, decide_eq_true h.2]; rfl
theorem okMul_r {i j : Int} (h : -(2 ^ 64) < j ∧ j < 2 ^ 64) : okMul i j = true := by
  unfold okMul
  rw [decide_eq_true h.1, decide_eq_true h.2, Bool.and_self, Bool.or_true]
@[simp] theorem oInt_int (i : Int) : oInt (.int i) = some (.int i) := Eq.trans rfl rfl
@[simp] theorem oInt_bl (k : Bool) : oInt (.bl k) = some (.int (if k then 1 else 0)) := Eq.trans rfl rfl
@[simp] theorem oLen_lst (xs : List D) : oLen (.lst xs) = some (.int xs.length) := Eq.trans rfl rfl
@[simp] theorem oLen_kls (xs : List D) : oLen (.kls xs) = some (.int xs.length) := Eq.trans rfl rfl
@[simp] theorem oLen_tup (xs : List D) : oLen (.tup xs) = some (.int xs.length) := Eq.trans rfl rfl
@[simp] theorem oCatL_lst {xs ys : List D} (h : xs.length + ys.length ≤ 16777216) : oCatL (.lst xs) (.lst ys) = some (.lst (xs ++ ys)) := if_pos h
@[simp] theorem oMulS_0 (x : Str) : oMulS (.str x) (.int 0) = some (.str Str.empty) := Eq.trans rfl rfl
@[simp] theorem oMulS_1 (x : Str) : oMulS (.str x) (.int 1) = some (.str x) := Eq.trans rfl rfl
theorem oCatS_str {x y : Str} (h : x.length + y.length ≤ 16777216) : oCatS (.str x) (.str y) = some (.str (x ++ y)) := if_pos h
/-- range(n), small -/
@[simp] theorem range1_ap (f : DE) (rho : Rho) (mu : Mu) : daRange1 f rho mu = bind (f rho mu) fun d m => match d with | .int n => if small62 n = true then .ok (intsD 0 n.toNat) m else .bad | _ => .bad := Eq.trans rfl rfl
/-! ### places -/
theorem oIx_lst {xs : List D} {i : Nat} {d : D} (h : xs[i]? = some d) : oIx (.lst xs) (.int (i : Nat)) = some d := atI_nat h
theorem oIx_lst0 {x : D} {xs : List D} : oIx (.lst (x :: xs)) (.int 0) = some x := oIx_lst (i := 0) rfl
theorem oIx_kls0 {x : D} {xs : List D} : oIx (.kls (x :: xs)) (.int 0) = some x := atI_nat (j := 0) (xs := x :: xs) rfl
theorem oIx_str0 {x : Str} {c : Nat} {r : List Nat} (h : x.cps.toList = c :: r) (hl : x.length ≤ 16777216) : oIx (.str x) (.int 0) = some (.str ⟨#[c]⟩) := by
  show (if _ then _ else _) = _
  rw [if_pos hl, h]
  have e : atI (c :: r) (0 : Int) = some c := atI_nat (j := 0) (xs := c :: r) rfl
  rw [e]; rfl
/-! ### comparisons -/
@[simp] theorem shp_int (i : Int) : shp (.int i) = true := Eq.trans rfl rfl
@[simp] theorem shp_bl (i : Bool) : shp (.bl i) = true := Eq.trans rfl rfl
@[simp] theorem shp_non : shp .non = true := Eq.trans rfl rfl
theorem shp_str {x : Str} (h : PyData.strOk x = true) : shp (.str x) = true := by
  show (PyData.strOk x && decide (0 ≤ 64)) = true
  rw [h]; rfl
@[simp] theorem oEq_int (i j : Int) : oEq (.int i) (.int j) = some (decide (i = j)) := by
  unfold oEq
  rw [if_pos ⟨rfl, rfl⟩]
  rfl
@[simp] theorem oNe_int (i j : Int) : oNe (.int i) (.int j) = some (!decide (i = j)) := by
  unfold oNe
  rw [if_pos ⟨rfl, rfl⟩]
  rfl
theorem oEq_str {x y : Str} (h1 : PyData.strOk x = true) (h2 : PyData.strOk y = true) : oEq (.str x) (.str y) = some (decide (x = y)) := by
  unfold oEq
  rw [if_pos ⟨shp_str h1, shp_str h2⟩]
  show some (x == y) = _
  congr 1
theorem oNe_str {x y : Str} (h1 : PyData.strOk x = true) (h2 : PyData.strOk y = true) : oNe (.str x) (.str y) = some (!decide (x = y)) := by
  unfold oNe
  rw [if_pos ⟨shp_str h1, shp_str h2⟩]
  show some (!(x == y)) = _
  congr 1
theorem oEq_nil {xs : List D} (h : shp (.lst xs) = true) : oEq (.lst xs) (.lst []) = some xs.isEmpty := by
  unfold oEq
  rw [if_pos ⟨h, rfl⟩]
  cases xs <;> rfl
theorem oNe_nil {xs : List D} (h : shp (.lst xs) = true) : oNe (.lst xs) (.lst []) = some (!xs.isEmpty) := by
  unfold oNe
  rw [if_pos ⟨h, rfl⟩]
  cases xs <;> rfl
theorem oEq_self {d : D} (h : shp d = true) : oEq d d = some true := by
  unfold oEq
  rw [if_pos ⟨h, h⟩, PySem.SeqAt.eqv_refl _ (SeqAt.canLay_of_shaped h)]
theorem oNe_self {d : D} (h : shp d = true) : oNe d d = some false := by
  unfold oNe
  rw [if_pos ⟨h, h⟩, PySem.SeqAt.eqv_refl _ (SeqAt.canLay_of_shaped h)]
  rfl
/-- shaped to a depth -/
def shpN (n : Nat) (d : D) : Prop := (toPy d).canLay0 = true ∧ (toPy d).depth ≤ n
theorem shpN.shp {n : Nat} {d : D} (h : shpN n d) (hn : n ≤ 64) : Dv.shp d = true := by
  show ((toPy d).canLay0 && decide ((toPy d).depth ≤ 64)) = true
  rw [h.1, Bool.true_and, decide_eq_true_eq]
  exact Nat.le_trans h.2 hn
theorem shpN_int (n : Nat) (i : Int) : shpN n (.int i) := ⟨rfl, Nat.zero_le _⟩
theorem shpN_str {n : Nat} {x : Str} (h : PyData.strOk x = true) : shpN n (.str x) := ⟨h, Nat.zero_le _⟩
theorem shpN_all {n : Nat} : ∀ {xs : List D}, (∀ x ∈ xs, shpN n x) → PyData.canLayAll0 (toPys xs) = true ∧ PyData.depthAll (toPys xs) ≤ n
  | [], _ => ⟨rfl, Nat.zero_le _⟩
  | x :: xs, h => by
    obtain ⟨h1, h2⟩ := h x List.mem_cons_self
    obtain ⟨h3, h4⟩ := shpN_all fun y hy => h y (List.mem_cons_of_mem _ hy)
    refine ⟨by simp [toPys, PyData.canLayAll0, h1, h3], ?_⟩
    simp only [toPys, PyData.depthAll]
    omega
theorem shpN_lst {n : Nat} {xs : List D} (h : ∀ x ∈ xs, shpN n x) : shpN (n + 1) (.lst xs) := by
  obtain ⟨h1, h2⟩ := shpN_all h
  refine ⟨by simpa [toPy, PyData.canLay0] using h1, ?_⟩
  simp only [toPy, PyData.depth]
  omega
theorem shpN_tup {n : Nat} {xs : List D} (h : ∀ x ∈ xs, shpN n x) : shpN (n + 1) (.tup xs) := by
  obtain ⟨h1, h2⟩ := shpN_all h
  refine ⟨by simpa [toPy, PyData.canLay0] using h1, ?_⟩
  simp only [toPy, PyData.depth]
  omega
end Dv

namespace Dv
open PySem PySem.Spec PyProof.Rows L2 PySem.NumText

/-! ## Numbers written -/
abbrev ptx (x : Str) : List Nat := x.cps.toList
theorem str_ext {x y : Str} (h : ptx x = ptx y) : x = y := by
  cases x with
  | mk a =>
    cases y with
    | mk b =>
      congr 1
      exact Array.toList_inj.mp h
theorem len_ptx (x : Str) : (ptx x).length = x.length := Array.length_toList
@[simp] theorem ptx_app (x y : Str) : ptx (x ++ y) = ptx x ++ ptx y := TL.tl_append x y
def numT (n : Int) : Str := Str.ofString (toString n)
theorem ptx_nat (m : Nat) : ptx (numT (m : Nat)) = (Nat.toDigits 10 m).map Char.toNat := PySem.W.KIN.signs_num m
theorem nat_digits (m : Nat) : AllDigits (ptx (numT (m : Nat))) := by
  intro c hc
  rw [ptx_nat] at hc
  obtain ⟨ch, hch, e⟩ := List.mem_map.mp hc
  have r := digit_range (Nat.isDigit_of_mem_toDigits (by decide) (by decide) hch)
  rw [← e]
  exact r
theorem digits_head : ∀ m : Nat, m ≠ 0 → ∃ c r, (Nat.toDigits 10 m).map Char.toNat = c :: r ∧ c ≠ 48 := fun m => by
  induction m using Nat.strongRecOn with
  | _ m ih =>
    intro hm
    by_cases h : m < 10
    · rw [Nat.toDigits_of_lt_base h]
      have e : ∀ d : Nat, d < 10 → d ≠ 0 → (Nat.digitChar d).toNat ≠ 48 := by decide
      exact ⟨_, [], rfl, e m h hm⟩
    · have hm : m % 10 < 10 := Nat.mod_lt m (by decide)
      have t : Nat.toDigits 10 (m / 10) ++ Nat.toDigits 10 (m % 10) = Nat.toDigits 10 (10 * (m / 10) + m % 10) := Nat.toDigits_append_toDigits (by decide) (by omega) hm
      rw [Nat.div_add_mod] at t
      obtain ⟨c, r, h1, h2⟩ := ih (m / 10) (by omega) (by omega)
      exact ⟨c, r ++ (Nat.toDigits 10 (m % 10)).map Char.toNat, by rw [← t, List.map_append, h1]; rfl, h2⟩
theorem nat_head {m : Nat} (h : m ≠ 0) : ∃ c r, ptx (numT (m : Nat)) = c :: r ∧ c ≠ 48 := by rw [ptx_nat]; exact digits_head m h
theorem num_zero : numT 0 = Str.ofString "0" := by decide
theorem nat_ne (m : Nat) : ptx (numT (m : Nat)) ≠ [] := by
  by_cases h : m = 0
  · subst h
    show ptx (numT 0) ≠ []
    rw [num_zero]; decide
  · obtain ⟨c, r, e, _⟩ := nat_head h
    rw [e]; simp
theorem nat_len {m : Nat} (h : m < 10 ^ 30) : (numT (m : Nat)).length ≤ 30 := toString_length_le (Int.natCast_nonneg m) (by decide) (by exact_mod_cast h)
theorem nat_reads {m : Nat} (h : m < 10 ^ 30) : PySem.intText? (numT (m : Nat)) = some (m : Int) := by
  have e := intText_digits (nat_digits m) (nat_ne m) (Nat.le_trans (nat_len h) (by decide))
  rw [show (numT (m : Nat)).cps.toList = _ from ptx_nat m, PySem.W.KIN.val_back] at e
  exact e
theorem ptx_neg {m : Nat} (h : m ≠ 0) : ptx (numT (-(m : Int))) = 45 :: ptx (numT (m : Nat)) := by
  obtain ⟨k, rfl⟩ : ∃ k, m = k + 1 := ⟨m - 1, by omega⟩
  show ptx (Str.ofString (toString (Int.negSucc k))) = _
  rw [ptx_nat]
  show (Str.ofString ("-" ++ Nat.repr (k + 1))).cps.toList = _
  rw [signs_ofString, String.toList_append, List.map_append, Nat.toList_repr]
  rfl
theorem num_signs (n : Int) : ∀ c ∈ ptx (numT n), c = 45 ∨ (48 ≤ c ∧ c ≤ 57) := by
  intro c hc
  obtain ⟨m, rfl | rfl⟩ := Int.eq_nat_or_neg n
  · exact .inr (nat_digits m c hc)
  · by_cases h : m = 0
    · subst h; exact .inr (nat_digits 0 c hc)
    · rw [ptx_neg h] at hc
      rcases List.mem_cons.mp hc with e | hc
      · exact .inl e
      · exact .inr (nat_digits m c hc)
theorem num_free {k : Nat} (hk : k ≠ 45 ∧ (k < 48 ∨ 57 < k)) (n : Int) : k ∉ ptx (numT n) := fun h => by
  have := num_signs n k h
  omega
def small30 (n : Int) : Prop := n.natAbs < 10 ^ 30
theorem small_log {n : Int} (h : small30 n) : n.natAbs.log2 < 1920 := by
  by_cases h0 : n.natAbs = 0
  · rw [h0]; decide
  · exact (Nat.log2_lt h0).mpr (Nat.lt_trans h (by decide))
theorem num_len {n : Int} (h : small30 n) : (numT n).length ≤ 31 := by
  obtain ⟨m, rfl | rfl⟩ := Int.eq_nat_or_neg n
  · have := nat_len (m := m) (by unfold small30 at h; simpa using h)
    omega
  · by_cases h0 : m = 0
    · subst h0; decide
    · have h' : m < 10 ^ 30 := by unfold small30 at h; simpa using h
      have e := congrArg List.length (ptx_neg h0)
      rw [len_ptx, List.length_cons, len_ptx] at e
      have := nat_len h'
      omega
theorem strOk_of {x : Str} (h : ∀ c ∈ ptx x, c < 1114112) : PyData.strOk x = true := by
  unfold PyData.strOk
  rw [← Array.all_toList, List.all_eq_true]
  intro c hc
  exact decide_eq_true (h c hc)
theorem num_ok (n : Int) : PyData.strOk (numT n) = true := strOk_of fun c hc => by
  have := num_signs n c hc
  omega
theorem num_inj_str {n : Int} {x : Str} {c : Nat} (hc : c ∈ ptx x) (h : c ≠ 45 ∧ (c < 48 ∨ 57 < c)) : numT n ≠ x := fun e => by
  subst e
  exact num_free h n hc
theorem oStr_num {n : Int} (h : small30 n) : oStr (.int n) = some (.str (numT n)) := by
  show (if n.natAbs.log2 < 1920 then _ else _) = _
  rw [if_pos (small_log h)]; rfl
/-! ## Joined and split -/
theorem ptx_join (y : Str) (parts : List Str) : Txt.join y parts = Str.join y parts := TL.join_eq y parts
theorem join_ok {y : Str} (hy : PyData.strOk y = true) : ∀ {xs : List Str}, (∀ x ∈ xs, PyData.strOk x = true) → PyData.strOk (Str.join y xs) = true := by
  have app : ∀ {a b : Str}, PyData.strOk a = true → PyData.strOk b = true → PyData.strOk (a ++ b) = true := fun {a b} ha hb => strOk_of fun c hc => by
    rw [ptx_app] at hc
    have g : ∀ {z : Str}, PyData.strOk z = true → ∀ c ∈ ptx z, c < 1114112 := fun {z} hz c hc => by
      unfold PyData.strOk at hz
      rw [← Array.all_toList, List.all_eq_true] at hz
      exact of_decide_eq_true (hz c hc)
    rcases List.mem_append.mp hc with hc | hc
    · exact g ha c hc
    · exact g hb c hc
  intro xs
  induction xs with
  | nil => intro _; exact (by decide +kernel : PyData.strOk Str.empty = true)
  | cons x xs ih =>
    intro h
    cases xs with
    | nil => exact h x List.mem_cons_self
    | cons z zs => exact app (app (h x List.mem_cons_self) hy) (ih fun w hw => h w (List.mem_cons_of_mem _ hw))
theorem strOk_app {a b : Str} (ha : PyData.strOk a = true) (hb : PyData.strOk b = true) : PyData.strOk (a ++ b) = true := join_ok (y := Str.empty) (by decide +kernel) (xs := [a, b]) (fun x hx => by
    rcases List.mem_cons.mp hx with e | hx
    · rw [e]; exact ha
    · rw [List.mem_singleton.mp hx]; exact hb) |> fun h => by
  have e : Str.join Str.empty [a, b] = a ++ b := str_ext (by
    show ptx (a ++ Str.empty ++ b) = _
    rw [ptx_app, ptx_app, ptx_app]
    show ptx a ++ [] ++ ptx b = _
    rw [List.append_nil])
  rwa [e] at h
theorem join_len {y : Str} (xs : List Str) : (Str.join y xs).length ≤ (xs.map fun z => z.length).sum + xs.length * y.length := by
  induction xs with
  | nil => exact Nat.zero_le _
  | cons x xs ih =>
    cases xs with
    | nil => simp [Str.join]
    | cons z zs =>
      have e : (Str.join y (x :: z :: zs)).length = x.length + y.length + (Str.join y (z :: zs)).length := by
        show (x ++ y ++ Str.join y (z :: zs)).length = _
        rw [← len_ptx, ptx_app, ptx_app, List.length_append, List.length_append, len_ptx, len_ptx, len_ptx]
      rw [e]
      simp only [List.map_cons, List.sum_cons, List.length_cons] at ih ⊢
      have : (zs.length + 1 + 1) * y.length = (zs.length + 1) * y.length + y.length := by rw [Nat.add_mul, Nat.one_mul]
      omega
theorem split_one {y : Str} {s : Nat} {S : List Nat} (ey : ptx y = s :: S) (hk : y.cps.all (· < 256) = true) {x : Str} (h : s ∉ ptx x) : Txt.split x y = [x] := by
  have := TL.split_join (parts := [x]) ey hk (by simp) (by simpa using h)
  exact this
theorem sum_le {α : Type} {f : α → Nat} {k : Nat} : ∀ {xs : List α}, (∀ x ∈ xs, f x ≤ k) → (xs.map f).sum ≤ xs.length * k
  | [], _ => Nat.zero_le _
  | x :: xs, h => by
    have ih := sum_le (f := f) fun z hz => h z (List.mem_cons_of_mem _ hz)
    have := h x List.mem_cons_self
    simp only [List.map_cons, List.sum_cons, List.length_cons]
    rw [Nat.add_mul, Nat.one_mul]
    omega
theorem strsD_map : ∀ xs : List Str, strsD (xs.map D.str) = some xs
  | [] => rfl
  | x :: xs => by
    show (strsD (xs.map D.str)).map (x :: ·) = _
    rw [strsD_map xs]; rfl
theorem oJoin_eq {y : Str} {xs : List Str} (h : (xs.map fun z => z.length).sum + xs.length * y.length ≤ 16777216) : oJoin (D.str y) (D.lst (xs.map D.str)) = some (.str (Str.join y xs)) := by
  show (match strsD (xs.map D.str) with
    | some ys => if (ys.map fun z : Str => z.length).sum + ys.length * y.length ≤ 16777216 then some (D.str (Txt.join y ys)) else none
    | none => none) = _
  rw [strsD_map]
  show (if _ then _ else _) = _
  rw [if_pos h, ptx_join]
theorem oSplit_join {y : Str} {s : Nat} {S : List Nat} (ey : ptx y = s :: S) (hk : y.cps.all (· < 256) = true) {parts : List Str} (hne : parts ≠ []) (hp : ∀ p ∈ parts, s ∉ ptx p) (hl : (Str.join y parts).length + 2 ≤ 16777216) :
    oSplit (.str (Str.join y parts)) (.str y) = some (.lst (parts.map D.str)) := by
  show (if _ then _ else _) = _
  have hy : (y.length == 0) = false := by
    rw [← len_ptx, ey]; rfl
  rw [if_pos ⟨hy, hl⟩, ← ptx_join, TL.split_join ey hk hne hp]
@[simp] theorem nfD_int (i : Int) : nfD (.int i) = true := Eq.trans rfl rfl
@[simp] theorem nfD_str (i : Str) : nfD (.str i) = true := Eq.trans rfl rfl
end Dv

namespace Dv
open PySem PySem.Spec PyProof.Rows L2
/-! ## What the laws' texts have in common -/
@[simp] theorem pow_18 : oPow (.int 10) (.int 18) = some (.int 1000000000000000000) := Eq.trans rfl rfl
@[simp] theorem pow_21 : oPow (.int 10) (.int 21) = some (.int 1000000000000000000000) := Eq.trans rfl rfl
@[simp] theorem pow_228 : oPow (.int 2) (.int 28) = some (.int 268435456) := Eq.trans rfl rfl
/-- the laws' stir -/
def stir (cell k : Int) : Int := if 1000000000000000000 ≤ cell then (cell - 1000000000000000000) / 2 ^ (28 * k).toNat % 268435456 else
  ((((cell + 1013 * k + 1) * 16807 % 2147483647) * ((cell + 1013 * k + 1) * 16807 % 2147483647) % 2147483629) * 39373 % 2147483587) / 8
theorem stir_bd (cell k : Int) : 0 ≤ stir cell k ∧ stir cell k < 268435456 := by
  unfold stir
  split <;> omega
def sStir : DS :=
    (sSeq (sIf (dCmp oGe (dVar 0) (dOp2 oPow (dK (.int 10)) (dK (.int 18))))
    (sRet (dOp2 oMod (dOp2 oShr (dOp2 oSub (dVar 0) (dOp2 oPow (dK (.int 10)) (dK (.int 18)))) (dOp2 oMul (dK (.int 28)) (dVar 1))) (dOp2 oPow (dK (.int 2)) (dK (.int 28)))))
    sNil)
    (sSeq (sSet 2 (dOp2 oMod (dOp2 oMul (dOp2 oAdd (dOp2 oAdd (dVar 0) (dOp2 oMul (dK (.int 1013)) (dVar 1))) (dK (.int 1))) (dK (.int 16807))) (dK (.int 2147483647))))
    (sSeq (sSet 2 (dOp2 oMod (dOp2 oMul (dVar 2) (dVar 2)) (dK (.int 2147483629))))
    (sRet (dOp2 oDiv (dOp2 oMod (dOp2 oMul (dVar 2) (dK (.int 39373))) (dK (.int 2147483587))) (dK (.int 8)))))))
theorem stir_den {cell k : Int} (hk : 0 ≤ k) (mu : Mu) : denF false 2 3 sStir [.int cell, .int k] mu = .ok (.int (stir cell k)) mu := by
  rw [den_ap]
  unfold stir
  have m28 : oMul (.int 28) (.int k) = some (.int (28 * k)) := oMul_int (okMul_l (by decide))
  have m13 : oMul (.int 1013) (.int k) = some (.int (1013 * k)) := oMul_int (okMul_l (by decide))
  have d1 : ∀ i, oMod (.int i) (.int 268435456) = some (.int (i % 268435456)) := fun i => oMod_int (by decide)
  have d2 : ∀ i, oMod (.int i) (.int 2147483647) = some (.int (i % 2147483647)) := fun i => oMod_int (by decide)
  have d3 : ∀ i, oMod (.int i) (.int 2147483629) = some (.int (i % 2147483629)) := fun i => oMod_int (by decide)
  have d4 : ∀ i, oMod (.int i) (.int 2147483587) = some (.int (i % 2147483587)) := fun i => oMod_int (by decide)
  have d8 : ∀ i, oDiv (.int i) (.int 8) = some (.int (i / 8)) := fun i => oDiv_int (by decide)
  have m1 : ∀ i, oMul (.int i) (.int 16807) = some (.int (i * 16807)) := fun i => oMul_int (okMul_r (by decide))
  have m2 : ∀ i, oMul (.int i) (.int 39373) = some (.int (i * 39373)) := fun i => oMul_int (okMul_r (by decide))
  have m3 : ∀ i : Int, oMul (.int (i % 2147483647)) (.int (i % 2147483647)) = some (.int (i % 2147483647 * (i % 2147483647))) := fun i => oMul_int (okMul_l (by omega))
  have sh : ∀ i, oShr (.int i) (.int (28 * k)) = some (.int (i / 2 ^ (28 * k).toNat)) := fun i => oShr_int (by omega)
  by_cases h : 1000000000000000000 ≤ cell
  · simp [sStir, h, m28, sh, d1]
  · simp [sStir, h, m13, m1, d2, m3, d3, m2, d4, d8]
/-- an item of a display -/
theorem oIx_mem {xs : List D} {r : Int} (h : 0 ≤ r ∧ r < xs.length) : ∃ v ∈ xs, oIx (.lst xs) (.int r) = some v := by
  obtain ⟨j, rfl⟩ := Int.eq_ofNat_of_zero_le h.1
  have hj : j < xs.length := by omega
  exact ⟨xs[j], List.getElem_mem hj, oIx_lst (List.getElem?_eq_getElem hj)⟩
theorem intsD_len (lo : Int) (n : Nat) : (intsD lo n).length = n := by unfold intsD; simp
theorem intsD_mem {lo : Int} {n : Nat} {d : D} (h : d ∈ intsD lo n) : ∃ i : Int, d = .int i ∧ lo ≤ i ∧ i < lo + n := by
  unfold intsD at h
  obtain ⟨i, hi, rfl⟩ := List.mem_map.mp h
  have := List.mem_range.mp hi
  exact ⟨_, rfl, by omega, by omega⟩
theorem small62_of {i : Int} (h : -(2 ^ 62) ≤ i ∧ i < 2 ^ 62) : small62 i = true := by
  unfold small62
  rw [decide_eq_true h.1, decide_eq_true h.2]; rfl
theorem cutD_take {α : Type} (f : α → D) (xs : List α) (k : Nat) : cutD (xs.map f) none (some (k : Int)) = (xs.take k).map f := by
  unfold cutD
  rw [HT.sIx_none, HT.sIx_nat, List.drop_zero, Nat.sub_zero, List.length_map, List.map_take]
  by_cases h : k ≤ xs.length
  · rw [Nat.min_eq_left h]
  · rw [Nat.min_eq_right (by omega), List.take_of_length_le (by simp), List.take_of_length_le (by simp; omega)]
theorem nfDs_all {xs : List D} (h : ∀ x ∈ xs, nfD x = true) : nfDs xs = true := by
  induction xs with
  | nil => rfl
  | cons x xs ih =>
    simp only [nfDs, Bool.and_eq_true]
    exact ⟨h x List.mem_cons_self, ih fun y hy => h y (List.mem_cons_of_mem _ hy)⟩
theorem oListN_lst {xs : List D} (h : ∀ x ∈ xs, nfD x = true) : oListN (.lst xs) = some (.lst xs) := if_pos (nfDs_all h)
@[simp] theorem isi_list_lst (xs : List D) : oIsi "list" (.lst xs) = some (.bl true) := Eq.trans rfl rfl
@[simp] theorem isi_bool_int (i : Int) : oIsi "bool" (.int i) = some (.bl false) := Eq.trans rfl rfl
@[simp] theorem isi_tuple_tup (xs : List D) : oIsi "tuple" (.tup xs) = some (.bl true) := Eq.trans rfl rfl
@[simp] theorem isi_str_str (x : Str) : oIsi "str" (.str x) = some (.bl true) := Eq.trans rfl rfl
@[simp] theorem lstAt_lst {rho : Rho} {i : Nat} : lstAt rho i = match rho[i]? with | some (some (.lst xs)) => some xs | _ => none := Eq.trans rfl rfl
end Dv

namespace Dv
open PySem PySem.Spec PyProof.Rows L2

/-! ## [x.pop(e) for k in ..] -/
section
variable {G : Gx} {N : Entr} {P : List Pin} {g g' : Gm} {rho : Rho} {mu : Mu} {σ : L2.St} {H : Hp} {phi : List Addr} {Fs : Nat → List Addr} {Fc : List Addr}
/-- a list that nothing hangs on is changed -/
theorem Ok.other (o : Ok G N P g rho mu σ H phi Fs Fc) {a : Addr} {vs vs' : List V} (hH : H a = some (.lst vs)) (np : a ∉ phi) (nc : a ∉ Fc) (ns : ∀ j, a ∉ Fs j) (nP : ∀ p ∈ P, a ∉ p.2.2) (h0 : N.H a = none) :
    Ok G N P g rho mu σ (upd H a (.lst vs')) phi Fs Fc where
  len := o.len
  slot := fun i d e => let ⟨v, h1, h2⟩ := o.slot i d e; ⟨v, h1, h2.kp (kpUpd hH (ns i))⟩
  nil := o.nil
  own := fun i x hx => by
    obtain ⟨h1, ⟨u, h2, h3⟩, h4⟩ := o.own i x hx
    exact ⟨h1, ⟨u, by rw [upd_ne (fun e => ns i (by rw [← e]; exact heldL_sub hx))]; exact h2, h3⟩, h4⟩
  top := o.top
  nd := o.nd
  pins := fun p hp => (o.pins p hp).kp (kpUpd hH (nP p hp))
  cells := o.cells.updL hH np nc
  step := stepUpdL o.step h0
  baseS := o.baseS
  baseC := o.baseC
end
def in63 (i : Int) : Bool := decide (-(2 ^ 63) ≤ i) && decide (i < 2 ^ 63)
theorem in63_iff {i : Int} (h : in63 i = true) : -(2 ^ 63) ≤ i ∧ i < 2 ^ 63 := by
  unfold in63 at h
  simpa only [Bool.and_eq_true, decide_eq_true_eq] using h
/-- one pop: where, what, what stays -/
def popD (xs : List D) (i : Int) : Option (D × List D) := if in63 i = true ∧ xs.all flatD = true then match seqIndex? i xs.length with
  | some k => (xs[k]?).map fun y => (y, xs.eraseIdx k)
  | none => none
  else none
def popL (t : Tgt) (il : Nat) (own : List Nat) (fe : DE) : List D → Rho → Mu → Out (List D × Rho)
  | [], rho, mu => .ok ([], rho) mu
  | d :: ds, rho, mu => match t d (wipeR rho own) with
    | none => .bad
    | some r => bindN (fe r mu) fun e mu1 => match e, lstAt rho il with
      | .int i, some xs => (match popD xs i with
        | some (y, zs) => bindN (popL t il own fe ds (rho.set il (some (.lst zs))) mu1) fun q mu2 => .ok (y :: q.1, q.2) mu2
        | none => .bad)
      | _, _ => .bad
theorem map_eraseIdx' {α β : Type} (f : α → β) : ∀ (xs : List α) (k : Nat), (xs.map f).eraseIdx k = (xs.eraseIdx k).map f
  | [], _ => rfl
  | _ :: _, 0 => rfl
  | x :: xs, k + 1 => by
    show f x :: (xs.map f).eraseIdx k = f x :: (xs.eraseIdx k).map f
    rw [map_eraseIdx' f xs k]
theorem popD_iff {xs zs : List D} {i : Int} {y : D} (h : popD xs i = some (y, zs)) : (-(2 ^ 63) ≤ i ∧ i < 2 ^ 63) ∧ xs.all flatD = true ∧ ∃ k, seqIndex? i xs.length = some k ∧ xs[k]? = some y ∧ zs = xs.eraseIdx k := by
  unfold popD at h
  split at h
  · rename_i hc
    split at h
    · rename_i k hk
      cases e : xs[k]? with
      | none => rw [e] at h; cases h
      | some z =>
        rw [e] at h
        cases h
        exact ⟨in63_iff hc.1, hc.2, k, hk, e, rfl⟩
    · cases h
  · cases h
section
variable {X : Cx} {W : WX} {N : Entr} {g g' g1 g2 gL : Gm} {A E Ai Ei A1 A2 E1 E2 : List Nat} {fl fl1 fl2 : Nat} {e a b c tg iter elt : Expr} {es rest : List Expr} {pos p p2 cpos apos epos : Pos} {st : Stmt} {o : Expr}
def tPop (il : Nat) (t : TE) : TE := fun σ H Q => ∃ l vs, σ[il]? = some (some (.ref l)) ∧ H l = some (.lst vs) ∧ t σ H fun v H1 => rPopAt (.ref l) [v] H1 Q
theorem pe_popE {il : Nat} {te : TE} (ho : PE X o (tVar il)) (ha : PE X e te)
    (hbase : attributeBase o "pop" X.env (eval o X.env) = eval o X.env := by rfl)
    (hfew : ((backTo cpos (starEach [e] X.env)).all (fun x => !x.1) && (backToKw cpos (keywordEach [] X.env)).all (fun x => x.1.isSome) && decide ([e].length + ([] : List Keyword).length + (if ([] : List Keyword).isEmpty then 0 else 1) < 30)) = true := by rfl)
    (hline : (apos.endLine == cpos.line) = true := by rfl) (hs : starEach [e] X.env = (false, eval e X.env) :: starEach [] X.env := by rfl) (hplain : (backTo cpos (starEach [] X.env)).any (·.1) = false := by rfl) :
    PE X (.Call (.Attribute o "pop" apos) [e] [] cpos) (tPop il te) :=
  peOf (pe_bm PySem.F.plainAttrs_list PySem.F.slot_list_pop PySem.F.type_list_pop mt_popAt ho (pa_cons ha pa_nil hs) hbase hfew hline hs hplain) fun σ H Q ⟨l, vs, hσ, hH, h⟩ => ⟨_, hσ, .inl ⟨rfl, _, SqL.of hH⟩, h⟩
theorem pop_go {ft : DA} {t : Tgt} {tgr : TG} {fe : DE} {own T : List Nat} {il : Nat} (hd : dG (gx X) N (clr g Ai) g2 T t tgr) (hT : ∀ j ∈ T, j ∈ own) (hf : flag (clr g Ai) il = 1 ∨ flag (clr g Ai) il = 2) (hil : il ∉ own) (hA : il ∉ Ai)
    {te : TE} (hte : ∀ {σ : L2.St} {H : Hp} {l : Addr} {vs : List V} {Q : VK}, σ[il]? = some (some (.ref l)) → H l = some (.lst vs) → dE (gx X) W0 N g2 A E 3 fe σ H (fun v H1 => rPopAt (.ref l) [v] H1 Q) → te σ H Q)
    {σ : L2.St} {H : Hp} {Q : VK} {P : List Pin} {rho : Rho} {mu : Mu} {phi : List Addr} {Fs : Nat → List Addr} {Fc : List Addr} (o : Ok (gx X) N P g rho mu σ H phi Fs Fc)
    (q : cse (bind (ft rho mu) fun ds mu1 => if ds.length ≤ 16777216 then bindN (popL t il own fe ds rho mu1) fun r mu2 => .ok r mu2 else .bad)
      (fun (r : List D × Rho) mu2 => ∀ H' phi' Fs' Fc' (Dd : Addr), Ok (gx X) N P (clr g Ai) r.2 mu2 σ H' phi' Fs' Fc' → Rep (gx X) H' phi' (.ref Dd) (.lst r.1) [Dd] → N.H Dd = none → (∃ u, H' Dd = some u ∧ Mut (some u)) → Dd ∉ Fc' → (∀ j, Dd ∉ Fs' j) → (∀ p ∈ P, Dd ∉ p.2.2) → Q (.ref Dd) H')
      (exK (gx X) W Fc σ H phi)) :
    tLc (dI (gx X) W N g Ai Ei ft) tgr (fun σ H Q => Q true H) te own σ H Q := by
  refine ⟨P, rho, mu, phi, Fs, Fc, o, ?_⟩
  rw [cse_bind] at q
  refine cse_imp q (fun ds mu1 q J p H1 phi1 Fc1 c1 rp bp be wk Dd hD => ?_) fun _ _ q => q
  split at q
  rotate_left
  · exact q.elim
  rename_i hlen
  have o1 := o.cb c1
  have nP1 := notin_new c1.ce hD
  have nFc1 : Dd ∉ Fc1 := fun z => by
    obtain ⟨⟨u, hu, _⟩, _⟩ := c1.ce.all.on Dd z
    rw [hD] at hu; cases hu
  have hD0 : N.H Dd = none := o1.step.free hD
  have nS : ∀ j, Dd ∉ Fs j := fun j z => by
    obtain ⟨⟨u, hu, _⟩, _⟩ := o1.tracked z
    rw [hD] at hu; cases hu
  have nPn : ∀ x ∈ p :: P, Dd ∉ x.2.2 := fun x hx z => by
    rcases List.mem_cons.mp hx with rfl | hx
    · obtain ⟨⟨u, hu, _⟩, _⟩ := rp.on Dd z
      rw [hD] at hu; cases hu
    · obtain ⟨⟨u, hu, _⟩, _⟩ := (o1.pins x hx).on Dd z
      rw [hD] at hu; cases hu
  have oP : Ok (gx X) N (p :: P) (clr g Ai) rho mu1 σ H1 phi1 Fs Fc1 := (o1.clr Ai).pin rp fun i x hx => by
    rw [flag_clr] at hx
    split at hx
    · cases hx
    · rename_i hn
      exact o.notHeld bp hn x hx
  have c1b : CB (gx X) Fc1 H1 phi1 (upd H1 Dd (.lst [])) phi1 mu1 Fc1 := (CB.refl c1.ce).upd hD _
  have q := cse_bindN (e' := fun _ _ => False) q
  have basep := o.base bp
  let Z : Nat → Nat → Hp → Prop := fun i m H' => m = ds.length - i ∧ i ≤ ds.length ∧ ∃ rho' mu' phi' Fs' Fc' acc accd, Ok (gx X) N (p :: P) (clr g Ai) rho' mu' σ H' phi' Fs' Fc' ∧ H' Dd = some (.lst acc) ∧ Dd ∉ phi' ∧ Dd ∉ Fc' ∧ (∀ j, Dd ∉ Fs' j) ∧
    acc = accd.map toV ∧ accd.all flatD = true ∧ accd.length ≤ i ∧
    cse (popL t il own fe (ds.drop i) rho' mu') (fun (r : List D × Rho) mu2 => ∀ H' phi' Fs' Fc' (Dd : Addr), Ok (gx X) N P (clr g Ai) r.2 mu2 σ H' phi' Fs' Fc' → Rep (gx X) H' phi' (.ref Dd) (.lst (accd ++ r.1)) [Dd] → N.H Dd = none → (∃ u, H' Dd = some u ∧ Mut (some u)) → Dd ∉ Fc' → (∀ j, Dd ∉ Fs' j) → (∀ p ∈ P, Dd ∉ p.2.2) → Q (.ref Dd) H') (fun _ _ => False)
  refine ⟨Z, ⟨ds.length, by omega, Nat.zero_le _, rho, mu1, phi1, Fs, Fc1, [], [], oP.cb c1b, upd_same, nP1, nFc1, nS, rfl, rfl, Nat.zero_le _, q⟩, ?_⟩
  rintro i m H' ⟨rfl, hi, rho', mu', phi', Fs', Fc', acc, accd, ok, hDa, hDp, hDc, hDs, hacc, hfl, hal, q⟩
  have wk1 := wk i H' phi' ok.cells.all.ntup (ok.pins p List.mem_cons_self)
  by_cases hlt : i < ds.length
  rotate_left
  · left
    have e : i = ds.length := by omega
    subst e
    rw [List.drop_length] at q
    refine ⟨wk1.2 (Nat.le_refl _), ?_⟩
    have q : ∀ H' phi' Fs' Fc' (Dd : Addr), Ok (gx X) N P (clr g Ai) rho' mu' σ H' phi' Fs' Fc' → Rep (gx X) H' phi' (.ref Dd) (.lst (accd ++ [])) [Dd] → N.H Dd = none → (∃ u, H' Dd = some u ∧ Mut (some u)) → Dd ∉ Fc' → (∀ j, Dd ∉ Fs' j) → (∀ p ∈ P, Dd ∉ p.2.2) → Q (.ref Dd) H' := q
    rw [List.append_nil] at q
    exact q H' phi' Fs' Fc' Dd ok.unpin (.lst (.inl hDa) hDp (by rw [hacc]; exact flat_reps hfl)) hD0 ⟨_, hDa, trivial⟩ hDc hDs fun x hx => nPn x (List.mem_cons_of_mem _ hx)
  · right
    have e1 : ds[i]? = some ds[i] := List.getElem?_eq_getElem hlt
    obtain ⟨go, yl⟩ := wk1.1 _ e1
    refine ⟨go, Z (i + 1) (ds.length - (i + 1)), fun H2 z => ⟨_, by omega, z⟩, fun x H2 y => ?_⟩
    obtain ⟨sm, F, rx, hF⟩ := yl x H2 y
    have cs : CB (gx X) Fc' H' phi' H2 phi' mu' Fc' := (CB.refl ok.cells).same sm
    have ok2 := ok.cb cs
    have hDa2 := sm _ _ hDa
    rw [List.drop_eq_getElem_cons hlt] at q
    unfold popL at q
    cases et : t ds[i] (wipeR rho' own) with
    | none => rw [et] at q; exact q.elim
    | some rho2 =>
      rw [et] at q
      have oW := ok2.wipe own
      refine hd.2 (p :: P) _ mu' _ H2 phi' _ Fc' x _ F _ oW rx (fun a ha => basep a (elems_sub (hF a ha))) (fun j a ha z => ?_) rho2 et fun σ2 Fs2 o2 k1 k2 k3 => ?_
      · unfold wipeF at ha
        split at ha
        · exact absurd (heldL_sub ha) (by simp)
        · exact (ok2.own j a ha).2.2.2.2 p List.mem_cons_self (elems_sub (hF a z))
      refine ⟨(wipe_alike (by rw [k3]) fun j hj => (k1 j fun z => hj (hT j z)).2).trans wipe_wipe, ?_⟩
      show (if true = true then _ else _)
      rw [if_pos rfl]
      have q := cse_bindN (e' := fun _ _ => False) q
      cases ex : lstAt rho' il with
      | none =>
        exfalso
        cases ee : fe rho2 mu' with
        | ok d m => rw [ee, ex] at q; cases d <;> exact q
        | ex c m => rw [ee] at q; exact q
        | bad => rw [ee] at q; exact q
      | some xs =>
        have hx := lstAt_iff ex
        have hf1 : 1 ≤ flag (clr g Ai) il := by omega
        obtain ⟨l, vs, r, hσ, hFl, hH, rpl, nr, np, hh⟩ := ok2.ownL hx hf1
        have hT' : il ∉ T := fun z => hil (hT il z)
        have hσ2 : σ2[il]? = some (some (.ref l)) := by rw [(k1 il hT').2, wipeS_out hil]; exact hσ
        refine hte hσ2 hH ⟨p :: P, rho2, mu', phi', Fs2, Fc', o2, ?_⟩
        refine cse_imp q (fun d mu3 q v H3 phi3 Fc3 F3 c3 v3 => ?_) fun _ _ q => q.elim
        rw [ex] at q
        cases d with
        | int i' =>
          simp only at q
          cases epd : popD xs i' with
          | none => rw [epd] at q; exact q.elim
          | some yz =>
            obtain ⟨y', zs⟩ := yz
            rw [epd] at q
            have q := cse_bindN (e' := fun _ _ => False) q
            obtain ⟨hb, hfx, k, hk, hy, rfl⟩ := popD_iff epd
            obtain ⟨rfl, rfl⟩ := reps_flat rpl hfx
            have hvr := v3.rep
            cases hvr
            have ok3 := ok2.cb c3
            have hH3 := c3.st.same _ _ hH np
            have np3 := c3.st.notin hH np
            have hDa3 := c3.st.same _ _ hDa2 hDp
            have hDp3 := c3.st.notin hDa2 hDp
            have hDc3 : Dd ∉ Fc3 := fun z => (c3.bc _ z).elim hDc fun e => by rw [hDa2] at e; cases e
            have yf : flatD y' = true := List.all_eq_true.mp hfx y' (List.mem_of_getElem? hy)
            have zf : (xs.eraseIdx k).all flatD = true := List.all_eq_true.mpr fun z hz => List.all_eq_true.mp hfx z (List.mem_of_mem_eraseIdx hz)
            have nDl : Dd ≠ l := fun e => hDs il (by rw [hFl, e]; exact List.mem_cons_self)
            refine ⟨l, xs.map toV, i', k, toV y', rfl, rfl, hH3, hb.1, hb.2, by rw [List.length_map]; exact hk, by rw [List.getElem?_map, hy]; rfl, acc, by rw [upd_ne nDl]; exact hDa3, ?_, ?_⟩
            · rw [hacc, List.length_map]
              have : accd.length < 16777216 := by omega
              exact this
            have ew : (xs.map toV).eraseIdx k = (xs.eraseIdx k).map toV := map_eraseIdx' toV xs k
            rw [ew]
            have okM := ok3.mutL (k := flag (clr g Ai) il) (r' := []) hx hσ hFl hH3 np3 hh (flat_reps zf) (fun x h => nomatch h) (fun h => nomatch h) (fun _ _ _ _ h => nomatch h) (by
              rcases hf with e | e
              · exact .inl (by omega)
              · exact .inr ⟨e, List.nodup_nil, fun _ h => nomatch h⟩)
            have okM2 := okM.weak' (g' := clr g Ai) fun j => .inr (by
              rw [flag_set]
              by_cases hj : j = il
              · subst hj
                rw [if_pos rfl]
                split
                · rfl
                · rename_i hlg
                  have : flag (clr g Ai) j = 0 := by
                    unfold flag
                    rw [List.getD_eq_getElem?_getD, List.getElem?_eq_none (by omega)]
                    rfl
                  omega
              · rw [if_neg hj])
            have nsM : ∀ j, Dd ∉ setF Fs' il [l] j := fun j z => by
              unfold setF at z
              split at z
              · exact nDl (List.mem_singleton.mp z)
              · exact hDs j z
            have okF := okM2.other (vs' := acc ++ [toV y']) (by rw [upd_ne nDl]; exact hDa3) hDp3 hDc3 nsM nPn hD0
            refine ⟨rfl, hlt, _, mu3, phi3, _, Fc3, acc ++ [toV y'], accd ++ [y'], okF, upd_same, hDp3, hDc3, nsM, by rw [hacc, List.map_append]; rfl, by rw [List.all_append, hfl]; simp [yf], by simp; omega, ?_⟩
            refine cse_imp q (fun r mu4 q => ?_) fun _ _ q => q
            have q : ∀ H' phi' Fs' Fc' (Dd : Addr), Ok (gx X) N P (clr g Ai) r.2 mu4 σ H' phi' Fs' Fc' → Rep (gx X) H' phi' (.ref Dd) (.lst (accd ++ y' :: r.1)) [Dd] → N.H Dd = none → (∃ u, H' Dd = some u ∧ Mut (some u)) → Dd ∉ Fc' → (∀ j, Dd ∉ Fs' j) → (∀ p ∈ P, Dd ∉ p.2.2) → Q (.ref Dd) H' := q
            rw [List.append_assoc]
            exact q
        | _ => exact q.elim
def oPop (t : Tgt) (il : Nat) (own : List Nat) (ft : DA) (fe : DE) (rho : Rho) (mu : Mu) : Out (List D × Rho) := bind (ft rho mu) fun ds mu1 => if ds.length ≤ 16777216 then bindN (popL t il own fe ds rho mu1) fun r mu2 => .ok r mu2 else .bad
/-- y = [x.pop(e) for ..], on one line -/
def sPopSet (iy : Nat) (t : Tgt) (il : Nat) (own : List Nat) (ft : DA) (fe : DE) : DS := sOf (oPop t il own ft fe) fun _ r mu => if iy < r.2.length then .nx (r.2.set iy (some (.lst r.1))) mu else .bad
theorem pds_popSet {iy : Nat} {y : Str} {py spos : Pos} {ft : DA} {t : Tgt} {tgr : TG} {fe : DE} {own : List (Str × Nat)} {T : List Nat} {scope : Scope} {il : Nat} (hc : X.calm = true) (hN : X.N.Nodup) (hy : X.N[iy]? = some y) (hyl : X.env.scope.names.lookup y = some .local)
    (hsw : swapsWith (.ListComp elt [⟨tg, iter, [], 0⟩] scope pos) (some (.Name y py)) spos.line X.env = pure true) (hi : PI X tg iter (dI (gx X) W N g Ai Ei ft)) (ok : BlkOk X.N X.env.scope scope own)
    (hg : ∀ (s : Shared) (H : Hp) (C : Addr) (cl : List (Str × Addr)) (fp : List Addr), PG (X.blk s H scope (compEnvC scope cl C X.env) fp) tg tgr) (hd : dG (gx X) N (clr g Ai) g2 T t tgr) (hT : ∀ j ∈ T, j ∈ own.map (·.2))
    (he : ∀ (s : Shared) (H : Hp) (C : Addr) (cl : List (Str × Addr)) (fp : List Addr), PE (X.blk s H scope (compEnvC scope cl C X.env) fp) elt (tPop il (dE (gx (X.blk s H scope (compEnvC scope cl C X.env) fp)) W0 N g2 A E 3 fe)))
    (hf : flag (clr g Ai) il = 1 ∨ flag (clr g Ai) il = 2) (hil : il ∉ own.map (·.2)) (hA : il ∉ Ai)
    (hs : ∀ x, foldedSetIterable iter X.env x = pure x := by intro _; rfl) :
    PS X (.Assign [.Name y py] (.ListComp elt [⟨tg, iter, [], 0⟩] scope pos) spos) (dS (gx X) W N g (setG (clr g Ai) iy 2) fl (sPopSet iy t il (own.map (·.2)) ft fe)) := by
  refine psOf (ps_setLc (tt := fun σ H Q => Q true H) (te := tPop il (dE (gx X) W0 N g2 A E 3 fe)) hc hN hy hyl hsw hi ok hg (fun _ _ _ _ _ => pts_nil) he hs) fun D σ H ⟨P, rho, mu, phi, Fs, Fc, o, q⟩ => ?_
  refine pop_go hd hT hf hil hA (fun hσ hH h => ⟨_, _, hσ, hH, h⟩) o (W := W) ?_
  unfold sPopSet at q
  show cse (oPop t il (own.map (·.2)) ft fe rho mu) _ _
  refine cse_imp (csS_of q) (fun r mu2 q H' phi' Fs' Fc' Dd o' rp h0 hm hc hs hp => ?_) fun _ _ q => exS_of o q
  split at q
  · rename_i hi
    refine q _ H' phi' _ Fc' (o'.set hi rp (fun a ha => .inl (by rw [List.mem_singleton.mp ha]; exact h0)) (fun j _ a ha z => ?_) (fun a ha => ?_) (fun h => nomatch h) fun _ => List.nodup_cons.mpr ⟨by simp, List.nodup_nil⟩)
    · rw [List.mem_singleton.mp z] at ha
      exact hs j (heldL_sub ha)
    · rw [List.mem_singleton.mp ha]
      exact ⟨h0, hm, hc, fun j _ => hs j, hp⟩
  · exact q.elim
/-- return [x.pop(e) for ..] -/
def sPopRet (t : Tgt) (il : Nat) (own : List Nat) (ft : DA) (fe : DE) : DS := sOf (oPop t il own ft fe) fun _ r mu => .rt (.lst r.1) mu
theorem pds_popRet {spos : Pos} {ft : DA} {t : Tgt} {tgr : TG} {fe : DE} {own : List (Str × Nat)} {T : List Nat} {scope : Scope} {il : Nat} (hc : X.calm = true) (hN : X.N.Nodup)
    (hi : PI X tg iter (dI (gx X) W N g Ai Ei ft)) (ok : BlkOk X.N X.env.scope scope own)
    (hg : ∀ (s : Shared) (H : Hp) (C : Addr) (cl : List (Str × Addr)) (fp : List Addr), PG (X.blk s H scope (compEnvC scope cl C X.env) fp) tg tgr) (hd : dG (gx X) N (clr g Ai) g2 T t tgr) (hT : ∀ j ∈ T, j ∈ own.map (·.2))
    (he : ∀ (s : Shared) (H : Hp) (C : Addr) (cl : List (Str × Addr)) (fp : List Addr), PE (X.blk s H scope (compEnvC scope cl C X.env) fp) elt (tPop il (dE (gx (X.blk s H scope (compEnvC scope cl C X.env) fp)) W0 N g2 A E 3 fe)))
    (hf : flag (clr g Ai) il = 1 ∨ flag (clr g Ai) il = 2) (hil : il ∉ own.map (·.2)) (hA : il ∉ Ai) (hfl : fle fl 2 = true)
    (hs : ∀ x, foldedSetIterable iter X.env x = pure x := by intro _; rfl) :
    PS X (.Return (some (.ListComp elt [⟨tg, iter, [], 0⟩] scope pos)) spos) (dS (gx X) W N g g' fl (sPopRet t il (own.map (·.2)) ft fe)) := by
  refine psOf (ps_ret (pe_lc (tt := fun σ H Q => Q true H) (te := tPop il (dE (gx X) W0 N g2 A E 3 fe)) hc hN hi ok hg (fun _ _ _ _ _ => pts_nil) he hs)) fun D σ H ⟨P, rho, mu, phi, Fs, Fc, o, q⟩ => ?_
  refine pop_go hd hT hf hil hA (fun hσ hH h => ⟨_, _, hσ, hH, h⟩) o (W := W) ?_
  unfold sPopRet at q
  show cse (oPop t il (own.map (·.2)) ft fe rho mu) _ _
  refine cse_imp (csS_of q) (fun r mu2 q H' phi' Fs' Fc' Dd o' rp h0 hm hc hs hp => ?_) fun _ _ q => exS_of o q
  exact q (.ref Dd) H' phi' Fc' [Dd] o'.step o'.cells o'.baseC rp (fun a ha => .inl (by rw [List.mem_singleton.mp ha]; exact h0)) (Fresh.le (fl := 2) ⟨List.nodup_cons.mpr ⟨by simp, List.nodup_nil⟩, fun a ha => by rw [List.mem_singleton.mp ha]; exact ⟨h0, hm⟩⟩ hfl) fun a ha => by rw [List.mem_singleton.mp (heldL_sub ha)]; exact hc
end
end Dv

namespace Dv
open PySem PySem.Spec PyProof.Rows L2
/-! ## A head's facts, with a test of one's own -/
def SaysX (fa : List He.Fa) (fn : List He.DefD) (ex : PySem.W.Frag → Bool) (K : PySem.W.Frag) : Prop := (ex K, He.obsD fa fn K) = (true, He.valD fn)
def obsX (n : Nat) (fa : List He.Fa) (fn : List He.DefD) (ex : PySem.W.Frag → Bool) (g : Addr → Option Obj) : Bool × He.AlD := (ex (He.frG g (He.asD g n)), He.obsD fa fn (He.frG g (He.asD g n)))
def hookX (n : Nat) (fa : List He.Fa) (fn : List He.DefD) (ex : PySem.W.Frag → Bool) : PySem.W.Hook where
  α := Bool × He.AlD
  obs := fun s => obsX n fa fn ex s.heap.get?
  val := fun _ => (true, He.valD fn)
  says := fun _ h => ∃ K : PySem.W.Frag, K.In h ∧ SaysX fa fn ex K
  of := fun _ _ e => ⟨_, He.frG_in, e⟩
  keeps := fun _ _ _ ⟨K, hin, says⟩ kp => ⟨K, PySem.W.Frag.In.keeps hin kp, says⟩
theorem obsX_eq {n : Nat} {fa : List He.Fa} {fn : List He.DefD} {ex : PySem.W.Frag → Bool} {look : Addr → Option Obj} {s : Shared} (h : ∀ a, look a = s.heap.get? a) : obsX n fa fn ex look = (hookX n fa fn ex).obs s := by
  have same : look = s.heap.get? := funext h
  rw [same]; rfl
theorem SaysX.d {fa : List He.Fa} {fn : List He.DefD} {ex : PySem.W.Frag → Bool} {K : PySem.W.Frag} (c : SaysX fa fn ex K) : He.SaysD fa fn K := congrArg (fun z : Bool × He.AlD => z.2) c
theorem SaysX.x {fa : List He.Fa} {fn : List He.DefD} {ex : PySem.W.Frag → Bool} {K : PySem.W.Frag} (c : SaysX fa fn ex K) : ex K = true := congrArg (fun z : Bool × He.AlD => z.1) c
section
variable {X : Cx} {W : WX} {N : Entr} {g : Gm} {pos : Pos} {x : Str}
/-- a tuple of texts that is the module's own -/
theorem pd_globT {zs : List Str} (hg : Gl X x) (hm : X.mg x = some (.ref (He.ga X.K x))) (ht : He.tupB X.K x (zs.map He.Dv.str) = true) (hd : (x == ("__debug__" : Str)) = false := by decide) :
    PE X (.Name x pos) (dE (gx X) W N g [] [] 3 (dK (.tup (zs.map D.str)))) :=
  pd_const (v := .ref (He.ga X.K x)) (pe_glob hg hm rfl hd) fun H phi => by
    have z := He.tupB_ok ht H
    rw [List.map_map] at z
    exact .tup z (strs_reps zs)
end
/-! ## A list that is its own throughout, taken as one whose top is -/
section
variable {G : Gx} {N : Entr} {P : List Pin} {g g' : Gm} {rho : Rho} {mu : Mu} {σ : L2.St} {H : Hp} {phi : List Addr} {Fs : Nat → List Addr} {Fc : List Addr}
theorem Ok.top1 (o : Ok G N P g rho mu σ H phi Fs Fc) {i : Nat} {xs : List D} (hx : rho[i]? = some (some (.lst xs))) (hf : flag g i = 2) : Ok G N P (setG g i 1) rho mu σ H phi Fs Fc where
  len := o.len
  slot := o.slot
  nil := o.nil
  own := fun j a ha => by
    rw [flag_set] at ha
    by_cases hj : j = i
    · subst hj
      rw [if_pos rfl] at ha
      split at ha
      · exact o.own j a (by rw [hf]; exact heldL_sub ha)
      · cases ha
    · rw [if_neg hj] at ha
      exact o.own j a ha
  top := fun j e d hd => by
    rw [flag_set] at e
    by_cases hj : j = i
    · subst hj
      rw [hx] at hd
      cases hd
      obtain ⟨a, vs, r, _, hF, _, _, nr, _, _⟩ := o.ownL hx (by omega)
      exact ⟨rfl, a, r, hF, nr⟩
    · rw [if_neg hj] at e
      exact o.top j e d hd
  nd := fun j e => by
    rw [flag_set] at e
    by_cases hj : j = i
    · subst hj
      exact o.nd j (by omega)
    · rw [if_neg hj] at e
      exact o.nd j e
  pins := o.pins
  cells := o.cells
  step := o.step
  baseS := o.baseS
  baseC := o.baseC
end
def sTop (i : Nat) (f : DS) : DS := sSeq f fun rho mu => match lstAt rho i with
  | some _ => .nx rho mu
  | none => .bad
theorem pds_top {X : Cx} {W : WX} {N : Entr} {g g' : Gm} {fl i : Nat} {st : Stmt} {f : DS} (h : PS X st (dS (gx X) W N g g' fl f)) (hf : flag g' i = 2) : PS X st (dS (gx X) W N g (setG g' i 1) fl (sTop i f)) := by
  refine psOf h fun D σ H ⟨P, rho, mu, phi, Fs, Fc, o, q⟩ => ⟨P, rho, mu, phi, Fs, Fc, o, ?_⟩
  refine csS_imp (csS_seq q) (fun r m q σ' H' phi' Fs' Fc' o' => ?_) (fun _ _ q => q) fun _ _ _ q => q
  cases e : lstAt r i with
  | none => rw [e] at q; exact q.elim
  | some xs =>
    rw [e] at q
    exact q σ' H' phi' Fs' Fc' (o'.top1 (lstAt_iff e) hf)
end Dv

namespace Dv
open PySem PySem.Spec PyProof.Rows L2
/-! ## Reading: the rest -/
theorem eqv_int (i j : Int) : PyData.eqv (.int i) (.int j) = decide (i = j) := by
  show (i == j) = _
  rfl
theorem toPys_int (xs : List Int) (a : Int) : ((toPys (xs.map D.int)).any fun z => PyData.eqv z (.int a)) = decide (a ∈ xs) := by
  induction xs with
  | nil => rfl
  | cons x xs ih =>
    show (PyData.eqv (.int x) (.int a) || _) = _
    rw [ih, eqv_int]
    by_cases h : x = a
    · subst h; simp
    · rw [decide_eq_false h, Bool.false_or]
      have : (a ∈ x :: xs) ↔ a ∈ xs := by
        rw [List.mem_cons]
        exact ⟨fun z => z.elim (fun e => absurd e.symm h) id, .inr⟩
      simp only [this]
theorem shp_ints (xs : List Int) : shp (.lst (xs.map D.int)) = true := (shpN_lst (n := 0) fun d hd => by
  obtain ⟨n, _, rfl⟩ := List.mem_map.mp hd
  exact shpN_int 0 n).shp (by decide)
theorem oInL_int (a : Int) (xs : List Int) : oInL (.int a) (.lst (xs.map D.int)) = some (decide (a ∈ xs)) := by
  show (if _ then _ else _) = _
  rw [if_pos ⟨rfl, shp_ints xs⟩]
  exact congrArg some (toPys_int xs a)
@[simp] theorem rg_ap (f : DE) (rho : Rho) (mu : Mu) : dListRg f rho mu = bind (f rho mu) fun d m => match d with | .int n => if small62 n = true ∧ n ≤ 16777216 then .ok (.lst (intsD 0 n.toNat)) m else .bad | _ => .bad := Eq.trans rfl rfl
@[simp] theorem range2_ap (f1 f2 : DE) (rho : Rho) (mu : Mu) : daRange2 f1 f2 rho mu = bind (f1 rho mu) fun d m1 => bind (f2 rho m1) fun d2 m2 => match d, d2 with | .int i, .int j => if small62 i = true ∧ small62 j = true then .ok (intsD i (j - i).toNat) m2 else .bad | _, _ => .bad := Eq.trans rfl rfl
@[simp] theorem top_ap (i : Nat) (f : DS) (rho : Rho) (mu : Mu) : sTop i f rho mu = thn (f rho mu) fun rho mu => match lstAt rho i with | some _ => .nx rho mu | none => .bad := seq_ap _ _
@[simp] theorem popSet_ap (iy : Nat) (t : Tgt) (il : Nat) (own : List Nat) (ft : DA) (fe : DE) (rho : Rho) (mu : Mu) : sPopSet iy t il own ft fe rho mu = oS (oPop t il own ft fe rho mu) rho fun r m => if iy < r.2.length then .nx (r.2.set iy (some (.lst r.1))) m else .bad := sOf_eq _ _
theorem intsD_map (lo : Int) (n : Nat) : intsD lo n = ((List.range n).map fun i => lo + (i : Nat)).map D.int := by
  unfold intsD
  rw [List.map_map]
  rfl
theorem keysOfD_pairs (ws : List (Int × Int)) : keysOfD (ws.map pD) = some (ws.map fun w => [w.1, w.2]) := by
  induction ws with
  | nil => rfl
  | cons w ws ih =>
    show (match intsOfD [.int w.1, .int w.2] with | some k => (keysOfD (ws.map pD)).map (k :: ·) | none => none) = _
    rw [ih]
    rfl
theorem oLenSetT_nodup {ws : List (Int × Int)} (h : ws.Nodup) (hl : ws.length < 64) : oLenSetT (.lst (ws.map pD)) = some (.int ws.length) := by
  show (match keysOfD (ws.map pD) with | some ks => if ks.length < 64 then some (D.int (nuq ks)) else none | none => none) = _
  rw [keysOfD_pairs]
  show (if _ then _ else _) = _
  rw [if_pos (by rw [List.length_map]; exact hl), nuq_nodup, List.length_map]
  refine List.Pairwise.map _ (fun a b hab e => hab ?_) h
  have h1 := (List.cons.inj e).1
  have h2 := (List.cons.inj (List.cons.inj e).2).1
  exact Prod.ext h1 h2
theorem oSortP_sorted {ws : List (Int × Int)} : oSortP (.lst (ws.map pD)) = some (.lst ((sortP ws).map pD)) := by
  show (pairsD (ws.map pD)).map _ = _
  rw [pairsD_map]; rfl
end Dv

namespace Lb
open PySem PySem.Spec PyProof.Rows L2 Dv
def S_is_way : DS :=
    (sSeq (sTgt (dVar 1) (tTupN [2, 3]))
    (sRet (dV (dAnd (dB (dV (dChain oLe oLt (dOp1 oNeg (dK (.int 1))) (dVar 2) (dVar 0)))) (dB (dV (dAnd (dB (dV (dOr (dB (dV (dCmp oEq (dVar 3) (dK (.int (-2)))))) (dB (dV (dChain oLe oLt (dK (.int 0)) (dVar 3) (dVar 0))))))) (dB (dV (dCmp oNe (dVar 2) (dVar 3)))))))))))
def V_is_way : Den := denF false 2 4 S_is_way
def L3_leads_round : DS :=
    (sSeq (sSet 3 (dOp1 oLen (dVar 2)))
    (sSeq (sSet 4 (dLc [5, 6] (daSeq (dVar 1)) (tTupN [5, 6]) (dCmp oInL (dVar 5) (dVar 2)) (dNf (dVar 6))))
    (sSet 2 (dLc [7] (daSeq (dVar 2)) (tName 7) (dCmp oInL (dVar 7) (dVar 4)) (dNf (dVar 7))))))
def S_leads_round : DS :=
    (sSeq (sSet 2 (dListRg (dVar 0)))
    (sSeq (sSet 3 (dOp1 oNeg (dK (.int 1))))
    (sSeq (sWhile (dCmp oNe (dOp1 oLen (dVar 2)) (dVar 3)) L3_leads_round fuel)
    (sRet (dV (dCmp oNe (dVar 2) (dLst daNil)))))))
def V_leads_round : Den := denF false 2 8 S_leads_round
def S_net_of : DS :=
    (sSeq (sIf (dCmp oNe (dLc [2] (daSeq (dVar 0)) (tName 2) (dCmp oNotInT (dVar 2) (dTup (daCons (dK (.str "pile")) (daCons (dK (.str "line")) daNil)))) (dNf (dVar 2))) (dLst daNil))
    (sRaise "NoNet")
    sNil)
    (sSeq (sIf (dCmp oNe (dLc [3] (daSeq (dVar 1)) (tName 3) (dNot (dB (dCall 2 V_is_way (daCons (dOp1 oLen (dVar 0)) (daCons (dVar 3) daNil))))) (dNf (dVar 3))) (dLst daNil))
    (sRaise "NoNet")
    sNil)
    (sSeq (sIf (dOr (dCmp oNe (dOp1 oLenSetT (dVar 1)) (dOp1 oLen (dVar 1))) (dB (dCall 2 V_leads_round (daCons (dOp1 oLen (dVar 0)) (daCons (dVar 1) daNil)))))
    (sRaise "NoNet")
    sNil)
    (sRet (dTup (daCons (dOp1 oListN (dVar 0)) (daCons (dOp1 oSortP (dVar 1)) daNil)))))))
def V_net_of : Den := denF false 2 4 S_net_of
def S_moved_by : DS :=
    (sSeq (sIf (dCmp oLt (dVar 1) (dK (.int 0)))
    (sRet (dNf (dVar 1)))
    sNil)
    (sRet (dOp2 oAdd (dVar 1) (dVar 0))))
def V_moved_by : Den := denF false 2 2 S_moved_by
def S_ways_moved : DS :=
    (sRet (dLc [2, 3] (daSeq (dOp2 oIx (dVar 0) (dK (.int 1)))) (tTupN [2, 3]) dtYes (dTup (daCons (dCall 2 V_moved_by (daCons (dVar 1) (daCons (dVar 2) daNil))) (daCons (dCall 2 V_moved_by (daCons (dVar 1) (daCons (dVar 3) daNil))) daNil)))))
def V_ways_moved : Den := denF false 2 4 S_ways_moved
def L3_nets_behind : DS :=
    (sSet 3 (dOp2 oCatL (dVar 3) (dLc [5] (daSeq (dVar 2)) (tName 5) (dCmp oEq (dOp2 oIx (dVar 5) (dK (.int 0))) (dK (.int (-1)))) (dNf (dTup (daCons (dVar 4) (daCons (dOp2 oIx (dVar 5) (dK (.int 1))) daNil)))))))
def S_nets_behind : DS :=
    (sSeq (sSet 2 (dCall 2 V_ways_moved (daCons (dVar 1) (daCons (dOp1 oLen (dOp2 oIx (dVar 0) (dK (.int 0)))) daNil))))
    (sSeq (sSet 3 (dOp2 oCatL (dLc [5] (daSeq (dOp2 oIx (dVar 0) (dK (.int 1)))) (tName 5) (dCmp oNe (dOp2 oIx (dVar 5) (dK (.int 1))) (dK (.int (-2)))) (dNf (dVar 5))) (dLc [5] (daSeq (dVar 2)) (tName 5) (dCmp oNe (dOp2 oIx (dVar 5) (dK (.int 0))) (dK (.int (-1)))) (dNf (dVar 5)))))
    (sSeq (sFor (daSeq (dLc [5] (daSeq (dOp2 oIx (dVar 0) (dK (.int 1)))) (tName 5) (dCmp oEq (dOp2 oIx (dVar 5) (dK (.int 1))) (dK (.int (-2)))) (dNf (dOp2 oIx (dVar 5) (dK (.int 0)))))) (tName 4) L3_nets_behind)
    (sRet (dCall 2 V_net_of (daCons (dOp2 oCatL (dOp2 oIx (dVar 0) (dK (.int 0))) (dOp2 oIx (dVar 1) (dK (.int 0)))) (daCons (dVar 3) daNil)))))))
def V_nets_behind : Den := denF false 2 6 S_nets_behind
def S__law_stir : DS :=
    (sSeq (sIf (dCmp oGe (dVar 0) (dOp2 oPow (dK (.int 10)) (dK (.int 18))))
    (sRet (dOp2 oMod (dOp2 oShr (dOp2 oSub (dVar 0) (dOp2 oPow (dK (.int 10)) (dK (.int 18)))) (dOp2 oMul (dK (.int 28)) (dVar 1))) (dOp2 oPow (dK (.int 2)) (dK (.int 28)))))
    sNil)
    (sSeq (sSet 2 (dOp2 oMod (dOp2 oMul (dOp2 oAdd (dOp2 oAdd (dVar 0) (dOp2 oMul (dK (.int 1013)) (dVar 1))) (dK (.int 1))) (dK (.int 16807))) (dK (.int 2147483647))))
    (sSeq (sSet 2 (dOp2 oMod (dOp2 oMul (dVar 2) (dVar 2)) (dK (.int 2147483629))))
    (sRet (dOp2 oDiv (dOp2 oMod (dOp2 oMul (dVar 2) (dK (.int 39373))) (dK (.int 2147483587))) (dK (.int 8)))))))
def V__law_stir : Den := denF false 2 3 S__law_stir
def L9__law_net : DS :=
    (sSet 7 (dOp2 oCatL (dVar 7) (dOp2 oRep (dLst (daCons (dTup (daCons (dVar 9) (daCons (dOp2 oIx (dVar 5) (dVar 10)) daNil))) daNil)) (dOp1 oInt (dV (dCmp oEq (dOp2 oMod (dCall 2 V__law_stir (daCons (dVar 0) (daCons (dOp2 oAdd (dOp2 oAdd (dOp2 oAdd (dVar 1) (dK (.int 30))) (dOp2 oMul (dK (.int 7)) (dVar 8))) (dVar 10)) daNil))) (dK (.int 2))) (dK (.int 0))))))))
def L6__law_net : DS :=
    (sSeq (sSet 7 (dOp2 oCatL (dVar 7) (dOp2 oRep (dLst (daCons (dTup (daCons (dOp1 oNeg (dK (.int 1))) (daCons (dVar 9) daNil))) daNil)) (dOp1 oInt (dV (dCmp oGt (dOp2 oMod (dCall 2 V__law_stir (daCons (dVar 0) (daCons (dOp2 oAdd (dOp2 oAdd (dVar 1) (dK (.int 16))) (dVar 8)) daNil))) (dK (.int 3))) (dK (.int 0))))))))
    (sSeq (sSet 7 (dOp2 oCatL (dVar 7) (dOp2 oRep (dLst (daCons (dTup (daCons (dVar 9) (daCons (dOp1 oNeg (dK (.int 2))) daNil))) daNil)) (dOp1 oInt (dV (dCmp oGt (dOp2 oMod (dCall 2 V__law_stir (daCons (dVar 0) (daCons (dOp2 oAdd (dOp2 oAdd (dVar 1) (dK (.int 23))) (dVar 8)) daNil))) (dK (.int 3))) (dK (.int 0))))))))
    (sFor (daRange2 (dOp2 oAdd (dVar 8) (dK (.int 1))) (dVar 3)) (tName 10) L9__law_net)))
def S__law_net : DS :=
    (sSeq (sSet 3 (dOp2 oMod (dCall 2 V__law_stir (daCons (dVar 0) (daCons (dVar 1) daNil))) (dOp2 oAdd (dVar 2) (dK (.int 1)))))
    (sSeq (sSet 4 (dListRg (dVar 3)))
    (sSeq (sPopSet 5 (tName 11) 4 [11] (daRange1 (dVar 3)) (dOp2 oMod (dCall 2 V__law_stir (daCons (dVar 0) (daCons (dOp2 oAdd (dOp2 oAdd (dVar 1) (dK (.int 1))) (dVar 11)) daNil))) (dOp1 oLen (dVar 4))))
    (sSeq (sSet 6 (dLc [11] (daRange1 (dVar 3)) (tName 11) dtYes (dNf (dOp2 oIx (dLst (daCons (dK (.str "pile")) (daCons (dK (.str "line")) daNil))) (dOp2 oMod (dCall 2 V__law_stir (daCons (dVar 0) (daCons (dOp2 oAdd (dOp2 oAdd (dVar 1) (dK (.int 8))) (dVar 11)) daNil))) (dK (.int 2)))))))
    (sSeq (sSet 7 (dOp2 oRep (dLst (daCons (dTup (daCons (dOp1 oNeg (dK (.int 1))) (daCons (dOp1 oNeg (dK (.int 2))) daNil))) daNil)) (dOp1 oInt (dV (dCmp oEq (dOp2 oMod (dCall 2 V__law_stir (daCons (dVar 0) (daCons (dOp2 oAdd (dVar 1) (dK (.int 15))) daNil))) (dK (.int 4))) (dK (.int 0)))))))
    (sSeq (sFor (daEnum (dVar 5)) (tTupN [8, 9]) L6__law_net)
    (sRet (dTup (daCons (dVar 6) (daCons (dOp1 oSortP (dVar 7)) daNil))))))))))
def V__law_net : Den := denF false 3 12 S__law_net
def S__law_later : DS :=
    (sRet (dOp2 oAdd (dVar 0) (dOp2 oMul (dVar 1) (dOp1 oInt (dV (dCmp oGe (dVar 0) (dK (.int 0))))))))
def V__law_later : Den := denF false 2 2 S__law_later
def L3__law_behind : DS :=
    (sIf (dCmp oNe (dVar 5) (dOp1 oNeg (dK (.int 2))))
    (sApp 3 (dNf (dTup (daCons (dVar 4) (daCons (dVar 5) daNil)))))
    (sSet 3 (dOp2 oCatL (dVar 3) (dLc [6, 7] (daSeq (dOp2 oIx (dVar 1) (dK (.int 1)))) (tTupN [6, 7]) (dCmp oEq (dVar 6) (dOp1 oNeg (dK (.int 1)))) (dNf (dTup (daCons (dVar 4) (daCons (dCall 2 V__law_later (daCons (dVar 7) (daCons (dVar 2) daNil))) daNil))))))))
def S__law_behind : DS :=
    (sSeq (sSet 2 (dOp1 oLen (dOp2 oIx (dVar 0) (dK (.int 0)))))
    (sSeq (sTop 3 (sSet 3 (dLst daNil)))
    (sSeq (sFor (daSeq (dOp2 oIx (dVar 0) (dK (.int 1)))) (tTupN [4, 5]) L3__law_behind)
    (sSeq (sSet 3 (dOp2 oCatL (dVar 3) (dLc [6, 7] (daSeq (dOp2 oIx (dVar 1) (dK (.int 1)))) (tTupN [6, 7]) (dCmp oNe (dVar 6) (dOp1 oNeg (dK (.int 1)))) (dTup (daCons (dCall 2 V__law_later (daCons (dVar 6) (daCons (dVar 2) daNil))) (daCons (dCall 2 V__law_later (daCons (dVar 7) (daCons (dVar 2) daNil))) daNil))))))
    (sRet (dTup (daCons (dOp2 oCatL (dOp2 oIx (dVar 0) (dK (.int 0))) (dOp2 oIx (dVar 1) (dK (.int 0)))) (daCons (dOp1 oSortP (dVar 3)) daNil))))))))
def V__law_behind : Den := denF false 2 8 S__law_behind
def S__law_copy : DS :=
    (sRet (dTup (daCons (dOp1 oListN (dOp2 oIx (dVar 0) (dK (.int 0)))) (daCons (dOp1 oListN (dOp2 oIx (dVar 0) (dK (.int 1)))) daNil))))
def V__law_copy : Den := denF false 1 1 S__law_copy
def L5__law_is_net : DS :=
    (sIf (dOr (dNot (dB (dOp1 (oIsi "tuple") (dVar 2)))) (dOr (dB (dOp1 (oIsi "bool") (dOp2 oIx (dVar 2) (dK (.int 0))))) (dB (dOp1 (oIsi "bool") (dOp2 oIx (dVar 2) (dK (.int 1)))))))
    (sRet (dK (.bl false)))
    sNil)
def S__law_is_net : DS :=
    (sSeq (sIf (dOr (dNot (dB (dOp1 (oIsi "tuple") (dVar 0)))) (dCmp oNe (dVar 0) (dVar 1)))
    (sRet (dK (.bl false)))
    sNil)
    (sSeq (sIf (dOr (dNot (dB (dOp1 (oIsi "list") (dOp2 oIx (dVar 0) (dK (.int 0)))))) (dNot (dB (dOp1 (oIsi "list") (dOp2 oIx (dVar 0) (dK (.int 1)))))))
    (sRet (dK (.bl false)))
    sNil)
    (sSeq (sFor (daSeq (dOp2 oIx (dVar 0) (dK (.int 1)))) (tName 2) L5__law_is_net)
    (sRet (dK (.bl true))))))
def V__law_is_net : Den := denF false 2 3 S__law_is_net
def S_end_text : DS :=
    (sSeq (sIf (dCmp oEq (dVar 0) (dK (.int (-1))))
    (sRet (dK (.str "in")))
    sNil)
    (sSeq (sIf (dCmp oEq (dVar 0) (dK (.int (-2))))
    (sRet (dK (.str "out")))
    sNil)
    (sRet (dOp1 oStr (dVar 0)))))
def V_end_text : Den := denF false 1 1 S_end_text
def S_way_text : DS :=
    (sRet (dOp2 oCatS (dOp2 oCatS (dCall 1 V_end_text (daCons (dOp2 oIx (dVar 0) (dK (.int 0))) daNil)) (dK (.str ">"))) (dCall 1 V_end_text (daCons (dOp2 oIx (dVar 0) (dK (.int 1))) daNil))))
def V_way_text : Den := denF false 1 1 S_way_text
def S_listed : DS :=
    (sSeq (sIf (dCmp oEq (dVar 0) (dLst daNil))
    (sRet (dK (.str "-")))
    sNil)
    (sRet (dM1 oJoin (dVar 1) (dVar 0))))
def V_listed : Den := denF false 2 2 S_listed
def S_net_text : DS :=
    (sSeq (sTgt (dVar 0) (tTupN [1, 2]))
    (sSeq (sSet 3 (dM1 oJoin (dK (.str "")) (dLc [4] (daSeq (dVar 1)) (tName 4) dtYes (dOp2 oCatS (dVar 4) (dK (.str ","))))))
    (sSeq (sIf (dCmp oEq (dVar 1) (dLst daNil))
    (sSet 3 (dK (.str "-")))
    sNil)
    (sRet (dOp2 oCatS (dOp2 oCatS (dVar 3) (dK (.str " "))) (dCall 2 V_listed (daCons (dLc [5] (daSeq (dVar 2)) (tName 5) dtYes (dCall 1 V_way_text (daCons (dVar 5) daNil))) (daCons (dK (.str ",")) daNil))))))))
def V_net_text : Den := denF false 1 6 S_net_text
def S_figures_told : DS :=
    (sSeq (sIf (dOr (dNot (dChain oLe oLe (dK (.int 1)) (dOp1 oLen (dVar 0)) (dK (.int 30)))) (dCmp oNe (dLc [1] (daStr (dVar 0)) (tName 1) (dCmp oNotInS (dVar 1) (dK (.str "0123456789"))) (dNf (dVar 1))) (dLst daNil)))
    (sRaise "NoText")
    sNil)
    (sSeq (sIf (dAnd (dCmp oEq (dOp2 oIx (dVar 0) (dK (.int 0))) (dK (.str "0"))) (dCmp oNe (dVar 0) (dK (.str "0"))))
    (sRaise "NoText")
    sNil)
    (sRet (dOp1 oIntS (dVar 0)))))
def V_figures_told : Den := denF false 1 2 S_figures_told
def S_way_told : DS :=
    (sSeq (sSet 1 (dM1 oSplit (dVar 0) (dK (.str ">"))))
    (sSeq (sIf (dCmp oNe (dOp1 oLen (dVar 1)) (dK (.int 2)))
    (sRaise "NoText")
    sNil)
    (sSeq (sSet 2 (dK (.int (-1))))
    (sSeq (sIf (dCmp oNe (dOp2 oIx (dVar 1) (dK (.int 0))) (dK (.str "in")))
    (sSet 2 (dCall 1 V_figures_told (daCons (dOp2 oIx (dVar 1) (dK (.int 0))) daNil)))
    sNil)
    (sSeq (sSet 3 (dK (.int (-2))))
    (sSeq (sIf (dCmp oNe (dOp2 oIx (dVar 1) (dK (.int 1))) (dK (.str "out")))
    (sSet 3 (dCall 1 V_figures_told (daCons (dOp2 oIx (dVar 1) (dK (.int 1))) daNil)))
    sNil)
    (sRet (dNf (dTup (daCons (dVar 2) (daCons (dVar 3) daNil)))))))))))
def V_way_told : Den := denF false 1 4 S_way_told
def S_parts_told : DS :=
    (sSeq (sIf (dCmp oEq (dVar 0) (dK (.str "-")))
    (sRet (dLst daNil))
    sNil)
    (sRet (dM1 oSplit (dVar 0) (dVar 1))))
def V_parts_told : Den := denF false 2 2 S_parts_told
def S_stations_told : DS :=
    (sSeq (sIf (dCmp oEq (dVar 0) (dK (.str "-")))
    (sRet (dLst daNil))
    sNil)
    (sSeq (sSet 1 (dM1 oSplit (dVar 0) (dK (.str ","))))
    (sSeq (sIf (dOr (dCmp oNe (dOp2 oIx (dVar 1) (dOp1 oNeg (dK (.int 1)))) (dK (.str ""))) (dOr (dCmp oNe (dLc [2] (daSeq (dSl oSlL (dVar 1) doNone (doSome (dOp1 oNeg (dK (.int 1)))))) (tName 2) (dCmp oNotInT (dVar 2) (dK (.tup ((["pile", "line"] : List Str).map D.str)))) (dNf (dVar 2))) (dLst daNil)) (dCmp oLt (dOp1 oLen (dVar 1)) (dK (.int 2)))))
    (sRaise "NoText")
    sNil)
    (sRet (dSl oSlL (dVar 1) doNone (doSome (dOp1 oNeg (dK (.int 1)))))))))
def V_stations_told : Den := denF false 1 3 S_stations_told
def S_read_net : DS :=
    (sSeq (sSet 1 (dM1 oSplit (dVar 0) (dK (.str " "))))
    (sSeq (sIf (dCmp oNe (dOp1 oLen (dVar 1)) (dK (.int 2)))
    (sRaise "NoText")
    sNil)
    (sSeq (sSet 2 (dCall 1 V_stations_told (daCons (dOp2 oIx (dVar 1) (dK (.int 0))) daNil)))
    (sRet (dCall 2 V_net_of (daCons (dVar 2) (daCons (dLc [3] (daSeq (dCall 2 V_parts_told (daCons (dOp2 oIx (dVar 1) (dK (.int 1))) (daCons (dK (.str ",")) daNil)))) (tName 3) dtYes (dCall 1 V_way_told (daCons (dVar 3) daNil))) daNil)))))))
def V_read_net : Den := denF false 1 4 S_read_net
def S__law_end : DS :=
    (sRet (dNf (dIf (dCmp oLt (dVar 0) (dK (.int 0))) (dOp2 oIx (dLst (daCons (dK (.str "out")) (daCons (dK (.str "in")) daNil))) (dOp2 oAdd (dVar 0) (dK (.int 2)))) (dOp1 oStr (dVar 0)))))
def V__law_end : Den := denF false 1 1 S__law_end
def S__law_way : DS :=
    (sRet (dOp2 oCatS (dOp2 oCatS (dCall 1 V__law_end (daCons (dOp2 oIx (dVar 0) (dK (.int 0))) daNil)) (dK (.str ">"))) (dCall 1 V__law_end (daCons (dOp2 oIx (dVar 0) (dK (.int 1))) daNil))))
def V__law_way : Den := denF false 1 1 S__law_way
def S__law_net_text : DS :=
    (sSeq (sSet 1 (dOp2 oCatS (dM1 oJoin (dK (.str "")) (dLc [2] (daSeq (dOp2 oIx (dVar 0) (dK (.int 0)))) (tName 2) dtYes (dOp2 oCatS (dVar 2) (dK (.str ","))))) (dOp2 oMulS (dK (.str "-")) (dOp1 oInt (dV (dCmp oEq (dOp2 oIx (dVar 0) (dK (.int 0))) (dLst daNil)))))))
    (sRet (dOp2 oCatS (dOp2 oCatS (dOp2 oCatS (dVar 1) (dK (.str " "))) (dM1 oJoin (dK (.str ",")) (dLc [3] (daSeq (dOp2 oIx (dVar 0) (dK (.int 1)))) (tName 3) dtYes (dCall 1 V__law_way (daCons (dVar 3) daNil))))) (dOp2 oMulS (dK (.str "-")) (dOp1 oInt (dV (dCmp oEq (dOp2 oIx (dVar 0) (dK (.int 1))) (dLst daNil))))))))
def V__law_net_text : Den := denF false 1 4 S__law_net_text
def S_row_text : DS :=
    (sRet (dCall 2 V_listed (daCons (dLc [1] (daSeq (dVar 0)) (tName 1) dtYes (dOp1 oStr (dVar 1))) (daCons (dK (.str " ")) daNil))))
def V_row_text : Den := denF false 1 2 S_row_text
def S_doing_text : DS :=
    (sRet (dCall 2 V_listed (daCons (dLc [1] (daSeq (dVar 0)) (tName 1) dtYes (dCall 1 V_way_text (daCons (dVar 1) daNil))) (daCons (dK (.str " ")) daNil))))
def V_doing_text : Den := denF false 1 2 S_doing_text
def S_number_told : DS :=
    (sSeq (sIf (dAnd (dCmp oEq (dSl oSlS (dVar 0) doNone (doSome (dK (.int 1)))) (dK (.str "-"))) (dCmp oNe (dVar 0) (dK (.str "-0"))))
    (sRet (dOp1 oNeg (dCall 1 V_figures_told (daCons (dSl oSlS (dVar 0) (doSome (dK (.int 1))) doNone) daNil))))
    sNil)
    (sRet (dCall 1 V_figures_told (daCons (dVar 0) daNil))))
def V_number_told : Den := denF false 1 1 S_number_told
def S_read_row : DS :=
    (sRet (dLc [1] (daSeq (dCall 2 V_parts_told (daCons (dVar 0) (daCons (dK (.str " ")) daNil)))) (tName 1) dtYes (dCall 1 V_number_told (daCons (dVar 1) daNil))))
def V_read_row : Den := denF false 1 2 S_read_row
def S_read_doing : DS :=
    (sRet (dLc [1] (daSeq (dCall 2 V_parts_told (daCons (dVar 0) (daCons (dK (.str " ")) daNil)))) (tName 1) dtYes (dCall 1 V_way_told (daCons (dVar 1) daNil))))
def V_read_doing : Den := denF false 1 2 S_read_doing
def L2__law_any_row : DS :=
    (sSeq (sSet 4 (dCall 2 V__law_stir (daCons (dVar 0) (daCons (dOp2 oAdd (dOp2 oAdd (dVar 1) (dK (.int 1))) (dVar 3)) daNil))))
    (sSeq (sSet 5 (dOp2 oIx (dLst (daCons (dOp2 oMod (dOp2 oDiv (dVar 4) (dK (.int 8))) (dK (.int 10))) (daCons (dOp2 oDiv (dVar 4) (dK (.int 8))) (daCons (dOp2 oAdd (dOp2 oMul (dVar 4) (dOp2 oPow (dK (.int 10)) (dK (.int 21)))) (dK (.int 7))) daNil)))) (dOp2 oMod (dVar 4) (dK (.int 3)))))
    (sApp 2 (dNf (dOp2 oIx (dLst (daCons (dVar 5) (daCons (dOp2 oSub (dK (.int 0)) (dVar 5)) daNil))) (dOp2 oMod (dOp2 oDiv (dVar 4) (dK (.int 4))) (dK (.int 2))))))))
def S__law_any_row : DS :=
    (sSeq (sSet 2 (dLst daNil))
    (sSeq (sFor (daRange1 (dOp2 oMod (dCall 2 V__law_stir (daCons (dVar 0) (daCons (dVar 1) daNil))) (dK (.int 13)))) (tName 3) L2__law_any_row)
    (sRet (dVar 2))))
def V__law_any_row : Den := denF false 2 6 S__law_any_row
def L2__law_any_doing : DS :=
    (sSeq (sSet 4 (dCall 2 V__law_stir (daCons (dVar 0) (daCons (dOp2 oAdd (dOp2 oAdd (dVar 1) (dK (.int 1))) (dVar 3)) daNil))))
    (sSeq (sSet 5 (dOp2 oIx (dLst (daCons (dOp1 oNeg (dK (.int 1))) (daCons (dOp2 oMod (dOp2 oDiv (dVar 4) (dK (.int 16))) (dK (.int 6))) (daCons (dOp2 oMod (dOp2 oDiv (dVar 4) (dK (.int 16))) (dK (.int 6))) (daCons (dOp2 oMul (dVar 4) (dOp2 oPow (dK (.int 10)) (dK (.int 21)))) daNil))))) (dOp2 oMod (dVar 4) (dK (.int 4)))))
    (sApp 2 (dNf (dTup (daCons (dVar 5) (daCons (dOp2 oIx (dLst (daCons (dOp1 oNeg (dK (.int 2))) (daCons (dOp2 oMod (dOp2 oDiv (dVar 4) (dK (.int 128))) (dK (.int 6))) (daCons (dOp2 oMod (dOp2 oDiv (dVar 4) (dK (.int 128))) (dK (.int 6))) (daCons (dVar 4) daNil))))) (dOp2 oMod (dOp2 oDiv (dVar 4) (dK (.int 4))) (dK (.int 4)))) daNil)))))))
def S__law_any_doing : DS :=
    (sSeq (sSet 2 (dLst daNil))
    (sSeq (sFor (daRange1 (dOp2 oMod (dCall 2 V__law_stir (daCons (dVar 0) (daCons (dVar 1) daNil))) (dK (.int 13)))) (tName 3) L2__law_any_doing)
    (sRet (dVar 2))))
def V__law_any_doing : Den := denF false 2 6 S__law_any_doing
def L2__law_long : DS :=
    (sSeq (sSet 3 (dCall 2 V__law_stir (daCons (dVar 0) (daCons (dOp2 oAdd (dK (.int 401)) (dVar 2)) daNil))))
    (sApp 1 (dOp2 oMul (dOp2 oIx (dLst (daCons (dOp2 oMod (dOp2 oDiv (dVar 3) (dK (.int 8))) (dK (.int 10))) (daCons (dOp2 oDiv (dVar 3) (dK (.int 8))) daNil))) (dOp2 oMod (dVar 3) (dK (.int 2)))) (dOp2 oIx (dLst (daCons (dK (.int 1)) (daCons (dOp1 oNeg (dK (.int 1))) daNil))) (dOp2 oMod (dOp2 oDiv (dVar 3) (dK (.int 2))) (dK (.int 2)))))))
def L6__law_long : DS :=
    (sSeq (sSet 3 (dCall 2 V__law_stir (daCons (dVar 0) (daCons (dOp2 oAdd (dK (.int 701)) (dVar 2)) daNil))))
    (sApp 4 (dNf (dTup (daCons (dOp2 oIx (dLst (daCons (dOp1 oNeg (dK (.int 1))) (daCons (dOp2 oMod (dOp2 oDiv (dVar 3) (dK (.int 16))) (dK (.int 12))) daNil))) (dOp2 oMod (dVar 3) (dK (.int 2)))) (daCons (dOp2 oIx (dLst (daCons (dOp1 oNeg (dK (.int 2))) (daCons (dOp2 oMod (dOp2 oDiv (dVar 3) (dK (.int 256))) (dK (.int 12))) daNil))) (dOp2 oMod (dOp2 oDiv (dVar 3) (dK (.int 2))) (dK (.int 2)))) daNil))))))
def S__law_long : DS :=
    (sSeq (sSet 1 (dLst daNil))
    (sSeq (sFor (daRange1 (dOp2 oAdd (dK (.int 40)) (dOp2 oMod (dCall 2 V__law_stir (daCons (dVar 0) (daCons (dK (.int 400)) daNil))) (dK (.int 261))))) (tName 2) L2__law_long)
    (sSeq (sSet 4 (dLst daNil))
    (sSeq (sFor (daRange1 (dOp2 oAdd (dK (.int 60)) (dOp2 oMod (dCall 2 V__law_stir (daCons (dVar 0) (daCons (dK (.int 399)) daNil))) (dK (.int 25))))) (tName 2) L6__law_long)
    (sRet (dLst (daCons (dVar 1) (daCons (dVar 4) daNil))))))))
def V__law_long : Den := denF false 1 5 S__law_long
def S__law_is_doing : DS :=
    (sSeq (sIf (dOr (dNot (dB (dOp1 (oIsi "list") (dVar 0)))) (dOr (dCmp oNe (dVar 0) (dVar 1)) (dCmp oNe (dLc [2] (daSeq (dVar 0)) (tName 2) (dNot (dB (dOp1 (oIsi "tuple") (dVar 2)))) (dNf (dVar 2))) (dLst daNil))))
    (sRet (dK (.bl false)))
    sNil)
    (sRet (dV (dCmp oEq (dLc [3, 4] (daSeq (dVar 0)) (tTupN [3, 4]) (dOr (dB (dOp1 (oIsi "bool") (dVar 3))) (dB (dOp1 (oIsi "bool") (dVar 4)))) (dK (.int 1))) (dLst daNil)))))
def V__law_is_doing : Den := denF false 2 5 S__law_is_doing
def S__law_is_row : DS :=
    (sRet (dV (dAnd (dB (dOp1 (oIsi "list") (dVar 0))) (dB (dV (dAnd (dB (dV (dCmp oEq (dVar 0) (dVar 1)))) (dB (dV (dCmp oEq (dLc [2] (daSeq (dVar 0)) (tName 2) (dB (dOp1 (oIsi "bool") (dVar 2))) (dK (.int 1))) (dLst daNil))))))))))
def V__law_is_row : Den := denF false 2 3 S__law_is_row
def L4__law_right : DS :=
    (sSeq (sSet 5 (dLst (daCons (dCall 1 V_row_text (daCons (dOp2 oIx (dVar 3) (dK (.int 0))) daNil)) (daCons (dCall 1 V_doing_text (daCons (dOp2 oIx (dVar 3) (dK (.int 1))) daNil)) daNil))))
    (sSeq (sIf (dOr (dCmp oNe (dVar 5) (dVar 2)) (dCmp oNe (dVar 3) (dLst (daCons (dVar 0) (daCons (dVar 1) daNil)))))
    (sRet (dK (.bl false)))
    sNil)
    (sSeq (sSet 6 (dLst (daCons (dCall 1 V_read_row (daCons (dOp2 oIx (dVar 2) (dK (.int 0))) daNil)) (daCons (dCall 1 V_read_doing (daCons (dOp2 oIx (dVar 2) (dK (.int 1))) daNil)) daNil))))
    (sSeq (sIf (dOr (dNot (dB (dCall 2 V__law_is_row (daCons (dOp2 oIx (dVar 6) (dK (.int 0))) (daCons (dVar 0) daNil))))) (dNot (dB (dCall 2 V__law_is_doing (daCons (dOp2 oIx (dVar 6) (dK (.int 1))) (daCons (dVar 1) daNil))))))
    (sRet (dK (.bl false)))
    sNil)
    (sSeq (sNApp 6 0 (dK (.int 5)))
    (sNApp 6 1 (dTup (daCons (dOp1 oNeg (dK (.int 1))) (daCons (dOp1 oNeg (dK (.int 2))) daNil)))))))))
def S__law_right : DS :=
    (sSeq (sSet 2 (dLst (daCons (dOp2 oCatS (dM1 oJoin (dK (.str " ")) (dLc [7] (daSeq (dVar 0)) (tName 7) dtYes (dOp1 oStr (dVar 7)))) (dOp2 oMulS (dK (.str "-")) (dOp1 oInt (dV (dCmp oEq (dVar 0) (dLst daNil)))))) daNil)))
    (sSeq (sApp 2 (dOp2 oCatS (dM1 oJoin (dK (.str " ")) (dLc [8] (daSeq (dVar 1)) (tName 8) dtYes (dCall 1 V__law_way (daCons (dVar 8) daNil)))) (dOp2 oMulS (dK (.str "-")) (dOp1 oInt (dV (dCmp oEq (dVar 1) (dLst daNil)))))))
    (sSeq (sSet 3 (dLst (daCons (dOp1 oListN (dVar 0)) (daCons (dOp1 oListN (dVar 1)) daNil))))
    (sSeq (sFor (daRange1 (dK (.int 2))) (tName 4) L4__law_right)
    (sRet (dK (.bl true)))))))
def V__law_right : Den := denF false 2 9 S__law_right
end Lb

namespace Lb
open PySem PySem.Spec PyProof.Rows L2 Dv
/-! ## The plain law -/
def endT (n : Int) : Str := if n = -1 then "in" else if n = -2 then "out" else numT n
theorem ok_in : PyData.strOk ("in" : Str) = true := by decide +kernel
theorem ok_out : PyData.strOk ("out" : Str) = true := by decide +kernel
theorem ok_gt : PyData.strOk (">" : Str) = true := by decide +kernel
theorem ok_sp : PyData.strOk (" " : Str) = true := by decide +kernel
theorem ok_dash : PyData.strOk ("-" : Str) = true := by decide +kernel
theorem v_end_text {n : Int} (h : small30 n) (mu : Mu) : V_end_text [.int n] mu = .ok (.str (endT n)) mu := by
  unfold V_end_text endT
  rw [den_ap]
  by_cases h1 : n = -1
  · simp [S_end_text, h1]
  · by_cases h2 : n = -2
    · simp [S_end_text, h1, h2]
    · simp [S_end_text, h1, h2, oStr_num h]
theorem end_ok (n : Int) : PyData.strOk (endT n) = true := by
  unfold endT
  split
  · exact ok_in
  · split
    · exact ok_out
    · exact num_ok n
theorem end_len {n : Int} (h : small30 n) : (endT n).length ≤ 31 := by
  unfold endT
  split
  · decide
  · split
    · decide
    · exact num_len h
def wayT (a b : Int) : Str := endT a ++ ">" ++ endT b
theorem v_way_text {a b : Int} (ha : small30 a) (hb : small30 b) (mu : Mu) : V_way_text [.tup [.int a, .int b]] mu = .ok (.str (wayT a b)) mu := by
  unfold V_way_text
  rw [den_ap]
  have e0 : oIx (.tup [.int a, .int b]) (.int 0) = some (.int a) := rfl
  have e1 : oIx (.tup [.int a, .int b]) (.int 1) = some (.int b) := rfl
  have l1 := end_len ha
  have l2 := end_len hb
  have l3 : (endT a ++ (">" : Str)).length = (endT a).length + 1 := by rw [← len_ptx, ptx_app, List.length_append, len_ptx]; rfl
  have c1 : oCatS (.str (endT a)) (.str ">") = some (.str (endT a ++ ">")) := by
    show (if _ then _ else _) = _
    rw [if_pos (by show (endT a).length + 1 ≤ _; omega)]
  have c2 : oCatS (.str (endT a ++ ">")) (.str (endT b)) = some (.str (wayT a b)) := by
    show (if _ then _ else _) = _
    rw [if_pos (by rw [l3]; omega)]; rfl
  simp [S_way_text, e0, e1, v_end_text ha, v_end_text hb, c1, c2]
def listT (xs : List Str) : Str := if xs = [] then "-" else Str.join " " xs
theorem v_listed {xs : List Str} (hx : ∀ x ∈ xs, PyData.strOk x = true ∧ x.length ≤ 63) (hl : xs.length ≤ 1000) (mu : Mu) : V_listed [.lst (xs.map D.str), .str " "] mu = .ok (.str (listT xs)) mu := by
  unfold V_listed
  rw [den_ap]
  have hs : shp (.lst (xs.map D.str)) = true := (shpN_lst (n := 0) fun d hd => by
    obtain ⟨x, hx', rfl⟩ := List.mem_map.mp hd
    exact shpN_str (hx x hx').1).shp (by decide)
  have e := oEq_nil hs
  unfold listT
  by_cases h : xs = []
  · subst h
    simp [S_listed, oEq_nil (xs := []) rfl]
  · have he : (xs.map D.str).isEmpty = false := by cases xs <;> simp at h ⊢
    have hj : oJoin (.str " ") (.lst (xs.map D.str)) = some (.str (Str.join " " xs)) := oJoin_eq (by
      have := sum_le (f := fun z : Str => z.length) (k := 63) fun x hx' => (hx x hx').2
      have e1 : (" " : Str).length = 1 := rfl
      rw [e1]; omega)
    simp [S_listed, e, he, hj, h]
/-! ### texts -/
def rowT (ns : List Int) : Str := listT (ns.map numT)
def okRow (ns : List Int) : Prop := ns.length ≤ 1000 ∧ ∀ n ∈ ns, small30 n
theorem v_row_text {ns : List Int} (h : okRow ns) (mu : Mu) : V_row_text [.lst (ns.map D.int)] mu = .ok (.str (rowT ns)) mu := by
  unfold V_row_text
  rw [den_ap]
  have hlc : lcL (tName 1) dtYes (dOp1 oStr (dVar 1)) [some (.lst (ns.map D.int)), none] (ns.map D.int) mu = .ok (ns.map fun n => D.str (numT n)) mu :=
    lcL_allE (fun n => D.int n) (fun n => D.str (numT n)) ns fun n hn => by simp [oStr_num (h.2 n hn)]
  have e : (ns.map fun n => D.str (numT n)) = (ns.map numT).map D.str := by rw [List.map_map]; rfl
  rw [e] at hlc
  have hv := v_listed (xs := ns.map numT) (fun x hx => by
    obtain ⟨n, hn, rfl⟩ := List.mem_map.mp hx
    exact ⟨num_ok n, Nat.le_trans (num_len (h.2 n hn)) (by decide)⟩) (by rw [List.length_map]; exact h.1) mu
  have hz : ns.length ≤ 16777216 := Nat.le_trans h.1 (by decide)
  simp [-List.map_map, S_row_text, hlc, hz, hv, rowT]
/-- a way -/
abbrev Way := Int × Int
def wD (w : Way) : D := .tup [.int w.1, .int w.2]
def okWay (w : Way) : Prop := (w.1 = -1 ∨ 0 ≤ w.1) ∧ (w.2 = -2 ∨ 0 ≤ w.2) ∧ small30 w.1 ∧ small30 w.2
def okDoing (ws : List Way) : Prop := ws.length ≤ 1000 ∧ ∀ w ∈ ws, okWay w
def wT (w : Way) : Str := wayT w.1 w.2
def doingT (ws : List Way) : Str := listT (ws.map wT)
theorem way_len {w : Way} (h : okWay w) : (wT w).length ≤ 63 := by
  have l1 := end_len h.2.2.1
  have l2 := end_len h.2.2.2
  unfold wT wayT
  rw [← len_ptx, ptx_app, ptx_app, List.length_append, List.length_append, len_ptx, len_ptx, len_ptx]
  have : (">" : Str).length = 1 := rfl
  omega
theorem way_ok (w : Way) : PyData.strOk (wT w) = true := strOk_app (strOk_app (end_ok _) ok_gt) (end_ok _)
theorem v_doing_text {ws : List Way} (h : okDoing ws) (mu : Mu) : V_doing_text [.lst (ws.map wD)] mu = .ok (.str (doingT ws)) mu := by
  unfold V_doing_text
  rw [den_ap]
  have hlc : lcL (tName 1) dtYes (dCall 1 V_way_text (daCons (dVar 1) daNil)) [some (.lst (ws.map wD)), none] (ws.map wD) mu = .ok (ws.map fun w => D.str (wT w)) mu :=
    lcL_allE wD (fun w => D.str (wT w)) ws fun w hw => by
      have := h.2 w hw
      simp [wD, v_way_text this.2.2.1 this.2.2.2]; rfl
  have e : (ws.map fun w => D.str (wT w)) = (ws.map wT).map D.str := by rw [List.map_map]; rfl
  rw [e] at hlc
  have hv := v_listed (xs := ws.map wT) (fun x hx => by
    obtain ⟨w, hw, rfl⟩ := List.mem_map.mp hx
    exact ⟨way_ok w, way_len (h.2 w hw)⟩) (by rw [List.length_map]; exact h.1) mu
  have hz : ws.length ≤ 16777216 := Nat.le_trans h.1 (by decide)
  simp [-List.map_map, S_doing_text, hlc, hz, hv, doingT]
/-! ### reading -/
theorem figs : ptx ("0123456789" : Str) = [48, 49, 50, 51, 52, 53, 54, 55, 56, 57] := by decide +kernel
theorem has_fig {c : Nat} (h : 48 ≤ c ∧ c ≤ 57) : hasS ⟨#[c]⟩ "0123456789" = true := by
  unfold hasS
  rw [StrLaws.found_one, decide_eq_true_eq]
  show c ∈ ptx _
  rw [figs]
  simp
  omega
theorem one_ok {c : Nat} (h : c < 1114112) : PyData.strOk ⟨#[c]⟩ = true := strOk_of fun d hd => by
  simp at hd; omega
theorem v_figures {m : Nat} (h : m < 10 ^ 30) (mu : Mu) : V_figures_told [.str (numT (m : Nat))] mu = .ok (.int m) mu := by
  unfold V_figures_told
  rw [den_ap]
  have hl := nat_len h
  have hd := nat_digits m
  have hne := nat_ne m
  have hr := nat_reads h
  have hpos : 1 ≤ (numT (m : Nat)).length := by
    rw [← len_ptx]
    exact List.length_pos_iff.mpr hne
  have hlen : oLen (.str (numT (m : Nat))) = some (.int ((numT (m : Nat)).length : Nat)) := by
    show (if _ then _ else _) = _
    rw [if_pos (by omega)]
  have c1 : (1 : Int) ≤ ((numT (m : Nat)).length : Nat) := by omega
  have c2 : (((numT (m : Nat)).length : Nat) : Int) ≤ 30 := by omega
  have hch : ∀ c ∈ ptx (numT (m : Nat)), 48 ≤ c ∧ c ≤ 57 := hd
  have hlc : lcL (tName 1) (dCmp oNotInS (dVar 1) (dK (.str "0123456789"))) (dNf (dVar 1)) [some (.str (numT (m : Nat))), none] (signsD (numT (m : Nat))) mu = .ok [] mu :=
    lcL_noneE (fun c => D.str ⟨#[c]⟩) _ fun c hc => by simp [oNotInS, has_fig (hch c hc)]
  have hsl : (signsD (numT (m : Nat))).length ≤ 16777216 := by
    unfold signsD
    rw [List.length_map]
    show (ptx _).length ≤ _
    rw [len_ptx]; omega
  have hi : oIntS (.str (numT (m : Nat))) = some (.int m) := by
    show (if _ then _ else _) = _
    rw [if_pos (by omega), hr]; rfl
  have hnil : oNe (.lst []) (.lst []) = some false := by rw [oNe_nil (xs := []) rfl]; rfl
  have z0 : PyData.strOk ("0" : Str) = true := by decide +kernel
  by_cases hm : m = 0
  · subst hm
    have e : numT ((0 : Nat) : Int) = "0" := num_zero
    have hx : oIx (.str (numT ((0 : Nat) : Int))) (.int 0) = some (.str "0") := by
      rw [e]; exact oIx_str0 (c := 48) (r := []) (by decide +kernel) (by decide)
    have hq : oEq (.str "0") (.str "0") = some true := by rw [oEq_str z0 z0]; simp
    have hq2 : oNe (.str (numT ((0 : Nat) : Int))) (.str "0") = some false := by rw [e, oNe_str z0 z0]; simp
    simp only [Int.natCast_zero] at *
    simp [S_figures_told, hlen, c1, c2, hlc, hsl, hnil, hx, hq, hq2, hi]
  · obtain ⟨c, r, e, hc⟩ := nat_head hm
    have hc2 := hch c (by rw [e]; exact List.mem_cons_self)
    have hx : oIx (.str (numT (m : Nat))) (.int 0) = some (.str ⟨#[c]⟩) := oIx_str0 e (by omega)
    have hq : oEq (.str ⟨#[c]⟩) (.str "0") = some false := by
      rw [oEq_str (one_ok (by omega)) z0]
      congr 1
      refine decide_eq_false fun q => hc ?_
      have q2 : ptx ⟨#[c]⟩ = ptx ("0" : Str) := congrArg ptx q
      have q3 : ptx ("0" : Str) = [48] := by decide +kernel
      rw [q3] at q2
      exact (List.cons.inj q2).1
    simp [S_figures_told, hlen, c1, c2, hlc, hsl, hnil, hx, hq, hi]
theorem z_dash0 : PyData.strOk ("-0" : Str) = true := by decide +kernel
theorem cut_head {x : Str} {c : Nat} {r : List Nat} (h : x.cps.toList = c :: r) : cutS x none (some 1) = ⟨#[c]⟩ := by
  have hl : x.length = r.length + 1 := by rw [← len_ptx]; show x.cps.toList.length = _; rw [h]; rfl
  have e1 : HT.sIx x.length 0 none = 0 := rfl
  have e2 : HT.sIx x.length x.length (some 1) = 1 := by
    unfold HT.sIx
    simp
    omega
  unfold cutS
  rw [e1, e2, h]
  rfl
theorem cut_tail {x : Str} {c : Nat} {r : List Nat} (h : x.cps.toList = c :: r) : cutS x (some 1) none = ⟨r.toArray⟩ := by
  have hl : x.length = r.length + 1 := by rw [← len_ptx]; show x.cps.toList.length = _; rw [h]; rfl
  have e1 : HT.sIx x.length x.length none = x.length := rfl
  have e2 : HT.sIx x.length 0 (some 1) = 1 := by
    unfold HT.sIx
    simp
    omega
  unfold cutS
  rw [e1, e2, h, hl]
  simp
theorem v_number {n : Int} (h : small30 n) (mu : Mu) : V_number_told [.str (numT n)] mu = .ok (.int n) mu := by
  unfold V_number_told
  rw [den_ap]
  have hl := num_len h
  have hsl : ∀ lo hi, oSlS (.str (numT n)) lo hi = some (.str (cutS (numT n) lo hi)) := fun lo hi => if_pos (by omega)
  have ed : ptx ("-" : Str) = [45] := by decide +kernel
  obtain ⟨m, rfl | rfl⟩ := Int.eq_nat_or_neg n
  · have h' : m < 10 ^ 30 := by unfold small30 at h; simpa using h
    obtain ⟨c, r, e⟩ : ∃ c r, ptx (numT (m : Nat)) = c :: r := by
      cases e : ptx (numT (m : Nat)) with
      | nil => exact absurd e (nat_ne m)
      | cons c r => exact ⟨c, r, rfl⟩
    have hc := nat_digits m c (by show c ∈ ptx (numT (m : Nat)); rw [e]; exact List.mem_cons_self)
    have hq : oEq (.str ⟨#[c]⟩) (.str "-") = some false := by
      rw [oEq_str (one_ok (by omega)) ok_dash]
      congr 1
      refine decide_eq_false fun q => ?_
      have q2 : ptx ⟨#[c]⟩ = ptx ("-" : Str) := congrArg ptx q
      rw [ed] at q2
      have q3 := (List.cons.inj q2).1
      omega
    simp [S_number_told, hsl, cut_head e, hq, v_figures h']
  · by_cases hm : m = 0
    · subst hm
      have e : ptx (numT (-((0 : Nat) : Int))) = [48] := by decide +kernel
      have hq : oEq (.str ⟨#[48]⟩) (.str "-") = some false := by
        rw [oEq_str (one_ok (by omega)) ok_dash]
        congr 1
      have hv := v_figures (m := 0) (by decide) mu
      simp only [Int.natCast_zero, Int.neg_zero] at *
      simp [S_number_told, hsl, cut_head e, hq, hv]
    · have h' : m < 10 ^ 30 := by unfold small30 at h; simpa using h
      have e := ptx_neg hm
      have hq : oEq (.str ⟨#[45]⟩) (.str "-") = some true := by
        rw [oEq_str (one_ok (by omega)) ok_dash]
        congr 1
      have hq2 : oNe (.str (numT (-(m : Int)))) (.str "-0") = some true := by
        rw [oNe_str (num_ok _) z_dash0]
        congr 1
        rw [Bool.not_eq_true', decide_eq_false_iff_not]
        intro q
        have q2 : ptx (numT (-(m : Int))) = ptx ("-0" : Str) := congrArg ptx q
        have e0 : ptx ("-0" : Str) = [45, 48] := by decide +kernel
        obtain ⟨c, r, e1, hc⟩ := nat_head hm
        rw [e0, e, e1] at q2
        exact hc (List.cons.inj (List.cons.inj q2).2).1
      have et : (⟨(ptx (numT (m : Nat))).toArray⟩ : Str) = numT (m : Nat) := str_ext (by simp)
      have hv := v_figures h' mu
      simp [S_number_told, hsl, cut_head e, cut_tail e, et, hq, hq2, hv]
theorem end_free {k : Nat} (hk : k = 62 ∨ k = 32) (n : Int) : k ∉ ptx (endT n) := by
  unfold endT
  split
  · have e : ptx ("in" : Str) = [105, 110] := by decide +kernel
    rw [e]; simp; omega
  · split
    · have e : ptx ("out" : Str) = [111, 117, 116] := by decide +kernel
      rw [e]; simp; omega
    · exact num_free (by omega) n
theorem v_way_told {w : Way} (h : okWay w) (mu : Mu) : V_way_told [.str (wT w)] mu = .ok (wD w) mu := by
  obtain ⟨a, b⟩ := w
  obtain ⟨ha, hb, sa, sb⟩ := h
  simp only at ha hb sa sb
  unfold V_way_told
  rw [den_ap]
  have hj : Str.join ">" [endT a, endT b] = wT (a, b) := rfl
  have hs : oSplit (.str (wT (a, b))) (.str ">") = some (.lst [.str (endT a), .str (endT b)]) := by
    rw [← hj]
    refine oSplit_join (s := 62) (S := []) (by decide +kernel) (by decide +kernel) (by simp) (fun p hp => ?_) ?_
    · rcases List.mem_cons.mp hp with e | hp
      · rw [e]; exact end_free (.inl rfl) a
      · rw [List.mem_singleton.mp hp]; exact end_free (.inl rfl) b
    · rw [hj]
      have := way_len (w := (a, b)) ⟨ha, hb, sa, sb⟩
      omega
  have i0 : oIx (.lst [.str (endT a), .str (endT b)]) (.int 0) = some (.str (endT a)) := rfl
  have i1 : oIx (.lst [.str (endT a), .str (endT b)]) (.int 1) = some (.str (endT b)) := rfl
  have qa : oNe (.str (endT a)) (.str "in") = some (!decide (a = -1)) := by
    rw [oNe_str (end_ok a) ok_in]
    rcases ha with ha | ha
    · subst ha; rfl
    · have e : endT a = numT a := by unfold endT; rw [if_neg (by omega), if_neg (by omega)]
      rw [e, decide_eq_false (num_inj_str (c := 105) (by decide +kernel) (by omega)), decide_eq_false (by omega)]
  have qb : oNe (.str (endT b)) (.str "out") = some (!decide (b = -2)) := by
    rw [oNe_str (end_ok b) ok_out]
    rcases hb with hb | hb
    · subst hb; rfl
    · have e : endT b = numT b := by unfold endT; rw [if_neg (by omega), if_neg (by omega)]
      rw [e, decide_eq_false (num_inj_str (c := 111) (by decide +kernel) (by omega)), decide_eq_false (by omega)]
  have fa : a ≠ -1 → V_figures_told [.str (endT a)] mu = .ok (.int a) mu := fun hn => by
    obtain ⟨m, rfl⟩ := Int.eq_ofNat_of_zero_le (ha.resolve_left hn)
    have e : endT (m : Int) = numT (m : Nat) := by unfold endT; rw [if_neg (by omega), if_neg (by omega)]
    rw [e]
    exact v_figures (by unfold small30 at sa; simpa using sa) mu
  have fb : b ≠ -2 → V_figures_told [.str (endT b)] mu = .ok (.int b) mu := fun hn => by
    obtain ⟨m, rfl⟩ := Int.eq_ofNat_of_zero_le (hb.resolve_left hn)
    have e : endT (m : Int) = numT (m : Nat) := by unfold endT; rw [if_neg (by omega), if_neg (by omega)]
    rw [e]
    exact v_figures (by unfold small30 at sb; simpa using sb) mu
  by_cases ca : a = -1
  · have qa' : oNe (.str (endT a)) (.str "in") = some false := by rw [qa, decide_eq_true ca]; rfl
    by_cases cb : b = -2
    · have qb' : oNe (.str (endT b)) (.str "out") = some false := by rw [qb, decide_eq_true cb]; rfl
      refine Eq.trans (b := .ok (.tup [.int (-1), .int (-2)]) mu) ?_ (by simp [wD, ca, cb])
      simp [S_way_told, hs, i0, i1, qa', qb', nfD, nfDs]
    · have qb' : oNe (.str (endT b)) (.str "out") = some true := by rw [qb, decide_eq_false cb]; rfl
      refine Eq.trans (b := .ok (.tup [.int (-1), .int b]) mu) ?_ (by simp [wD, ca])
      simp [S_way_told, hs, i0, i1, qa', qb', fb cb, nfD, nfDs]
  · have qa' : oNe (.str (endT a)) (.str "in") = some true := by rw [qa, decide_eq_false ca]; rfl
    by_cases cb : b = -2
    · have qb' : oNe (.str (endT b)) (.str "out") = some false := by rw [qb, decide_eq_true cb]; rfl
      refine Eq.trans (b := .ok (.tup [.int a, .int (-2)]) mu) ?_ (by simp [wD, cb])
      simp [S_way_told, hs, i0, i1, qa', qb', fa ca, nfD, nfDs]
    · have qb' : oNe (.str (endT b)) (.str "out") = some true := by rw [qb, decide_eq_false cb]; rfl
      refine Eq.trans (b := .ok (.tup [.int a, .int b]) mu) ?_ (by simp [wD])
      simp [S_way_told, hs, i0, i1, qa', qb', fa ca, fb cb, nfD, nfDs]
theorem v_parts {parts : List Str} (hp : ∀ p ∈ parts, 32 ∉ ptx p ∧ p ≠ "-" ∧ PyData.strOk p = true ∧ p.length ≤ 63) (hl : parts.length ≤ 1000) (mu : Mu) : V_parts_told [.str (listT parts), .str " "] mu = .ok (.lst (parts.map D.str)) mu := by
  unfold V_parts_told
  rw [den_ap]
  unfold listT
  by_cases h : parts = []
  · subst h
    have hq : oEq (.str "-") (.str "-") = some true := oEq_self (shp_str ok_dash)
    simp [S_parts_told, hq]
  · rw [if_neg h]
    have hb : (Str.join " " parts).length + 2 ≤ 16777216 := by
      have h1 := join_len (y := " ") parts
      have h2 := sum_le (f := fun z : Str => z.length) (k := 63) fun x hx' => (hp x hx').2.2.2
      have e1 : (" " : Str).length = 1 := rfl
      rw [e1] at h1
      omega
    have es : ptx (" " : Str) = 32 :: [] := by decide +kernel
    have hs := oSplit_join es (by decide +kernel) h (fun p hp' => (hp p hp').1) hb
    have hq : oEq (.str (Str.join " " parts)) (.str "-") = some false := by
      rw [oEq_str (join_ok ok_sp fun x hx => (hp x hx).2.2.1) ok_dash]
      congr 1
      refine decide_eq_false fun q => ?_
      have h1 := TL.split_join (parts := parts) es (by decide +kernel) h fun p hp' => (hp p hp').1
      rw [ptx_join, q, split_one es (by decide +kernel) (by decide +kernel)] at h1
      exact (hp "-" (by rw [← h1]; exact List.mem_singleton.mpr rfl)).2.1 rfl
    simp [S_parts_told, hq, hs]
theorem v_read_row {ns : List Int} (h : okRow ns) (mu : Mu) : V_read_row [.str (rowT ns)] mu = .ok (.lst (ns.map D.int)) mu := by
  unfold V_read_row
  rw [den_ap]
  have hv := v_parts (parts := ns.map numT) (fun p hp => by
    obtain ⟨n, hn, rfl⟩ := List.mem_map.mp hp
    refine ⟨num_free (by omega) n, fun e => ?_, num_ok n, Nat.le_trans (num_len (h.2 n hn)) (by decide)⟩
    have q : ptx (numT n) = [45] := by rw [e]; decide +kernel
    obtain ⟨m, rfl | rfl⟩ := Int.eq_nat_or_neg n
    · have := nat_digits m 45 (by show 45 ∈ ptx (numT (m : Nat)); rw [q]; simp)
      omega
    · by_cases hm : m = 0
      · subst hm
        exact absurd q (by decide +kernel)
      · rw [ptx_neg hm] at q
        exact nat_ne m (List.cons.inj q).2) (by rw [List.length_map]; exact h.1) mu
  have e : (ns.map numT).map D.str = ns.map fun n => D.str (numT n) := by rw [List.map_map]; rfl
  have hlc : lcL (tName 1) dtYes (dCall 1 V_number_told (daCons (dVar 1) daNil)) [some (.str (rowT ns)), none] (ns.map fun n => D.str (numT n)) mu = .ok (ns.map D.int) mu :=
    lcL_allE (fun n => D.str (numT n)) D.int ns fun n hn => by simp [v_number (h.2 n hn)]
  rw [e] at hv
  have hz : ns.length ≤ 16777216 := Nat.le_trans h.1 (by decide)
  unfold rowT at hlc ⊢
  simp [-List.map_map, S_read_row, hv, hlc, hz]
theorem v_read_doing {ws : List Way} (h : okDoing ws) (mu : Mu) : V_read_doing [.str (doingT ws)] mu = .ok (.lst (ws.map wD)) mu := by
  unfold V_read_doing
  rw [den_ap]
  have hv := v_parts (parts := ws.map wT) (fun p hp => by
    obtain ⟨w, hw, rfl⟩ := List.mem_map.mp hp
    have e62 : 62 ∈ ptx (wT w) := by
      unfold wT wayT
      rw [ptx_app, ptx_app]
      have : ptx (">" : Str) = [62] := by decide +kernel
      rw [this]; simp
    refine ⟨?_, fun e => ?_, way_ok w, way_len (h.2 w hw)⟩
    · unfold wT wayT
      rw [ptx_app, ptx_app]
      have e : ptx (">" : Str) = [62] := by decide +kernel
      rw [e]
      simp only [List.mem_append, List.mem_singleton, not_or]
      exact ⟨⟨end_free (.inr rfl) _, by omega⟩, end_free (.inr rfl) _⟩
    · rw [e] at e62
      have q : ptx ("-" : Str) = [45] := by decide +kernel
      rw [q] at e62; simp at e62) (by rw [List.length_map]; exact h.1) mu
  have e : (ws.map wT).map D.str = ws.map fun w => D.str (wT w) := by rw [List.map_map]; rfl
  have hlc : lcL (tName 1) dtYes (dCall 1 V_way_told (daCons (dVar 1) daNil)) [some (.str (doingT ws)), none] (ws.map fun w => D.str (wT w)) mu = .ok (ws.map wD) mu :=
    lcL_allE (fun w => D.str (wT w)) wD ws fun w hw => by simp [v_way_told (h.2 w hw)]
  rw [e] at hv
  have hz : ws.length ≤ 16777216 := Nat.le_trans h.1 (by decide)
  unfold doingT at hlc ⊢
  simp [-List.map_map, S_read_doing, hv, hlc, hz]
/-! ### the law's own texts -/
theorem v_stir {c k : Int} (hk : 0 ≤ k) (mu : Mu) : V__law_stir [.int c, .int k] mu = .ok (.int (stir c k)) mu := stir_den hk mu
theorem v_lend {n : Int} (h : n = -1 ∨ n = -2 ∨ 0 ≤ n) (hs : small30 n) (mu : Mu) : V__law_end [.int n] mu = .ok (.str (endT n)) mu := by
  unfold V__law_end
  rw [den_ap]
  rcases h with rfl | rfl | h
  · have e : oIx (.lst [.str "out", .str "in"]) (.int 1) = some (.str "in") := rfl
    have e2 : endT (-1) = "in" := rfl
    simp [S__law_end, e, e2]
  · have e : oIx (.lst [.str "out", .str "in"]) (.int 0) = some (.str "out") := rfl
    have e2 : endT (-2) = "out" := rfl
    simp [S__law_end, e, e2]
  · have e : endT n = numT n := by unfold endT; rw [if_neg (by omega), if_neg (by omega)]
    have h' : ¬ n < 0 := by omega
    simp [S__law_end, e, h', oStr_num hs]
theorem v_lway {w : Way} (h : okWay w) (mu : Mu) : V__law_way [wD w] mu = .ok (.str (wT w)) mu := by
  obtain ⟨a, b⟩ := w
  obtain ⟨ha, hb, sa, sb⟩ := h
  simp only at ha hb sa sb
  unfold V__law_way
  rw [den_ap]
  have e0 : oIx (wD (a, b)) (.int 0) = some (.int a) := rfl
  have e1 : oIx (wD (a, b)) (.int 1) = some (.int b) := rfl
  have l1 := end_len sa
  have l2 := end_len sb
  have l3 : (endT a ++ (">" : Str)).length = (endT a).length + 1 := by rw [← len_ptx, ptx_app, List.length_append, len_ptx]; rfl
  have c1 : oCatS (.str (endT a)) (.str ">") = some (.str (endT a ++ ">")) := oCatS_str (by show (endT a).length + 1 ≤ _; omega)
  have c2 : oCatS (.str (endT a ++ ">")) (.str (endT b)) = some (.str (wT (a, b))) := by
    rw [oCatS_str (by rw [l3]; omega)]; rfl
  simp [S__law_way, e0, e1, v_lend (n := a) (by omega) sa, v_lend (n := b) (by omega) sb, c1, c2]
theorem pick {xs : List Int} {r : Int} (h : 0 ≤ r ∧ r < xs.length) : ∃ v ∈ xs, oIx (.lst (xs.map D.int)) (.int r) = some (.int v) := by
  obtain ⟨d, hd, e⟩ := oIx_mem (xs := xs.map D.int) (r := r) (by rw [List.length_map]; exact h)
  obtain ⟨v, hv, rfl⟩ := List.mem_map.mp hd
  exact ⟨v, hv, e⟩
theorem shp_row (ns : List Int) : shpN 1 (.lst (ns.map D.int)) := shpN_lst fun d hd => by
  obtain ⟨n, _, rfl⟩ := List.mem_map.mp hd
  exact shpN_int 0 n
theorem shp_doing (ws : List Way) : shpN 2 (.lst (ws.map wD)) := shpN_lst fun d hd => by
  obtain ⟨w, _, rfl⟩ := List.mem_map.mp hd
  refine shpN_tup fun e he => ?_
  rcases List.mem_cons.mp he with rfl | he
  · exact shpN_int 0 _
  · rw [List.mem_singleton.mp he]; exact shpN_int 0 _
theorem nil_eq : oEq (.lst []) (.lst []) = some true := by rw [oEq_nil (xs := []) rfl]; rfl
theorem nil_ne : oNe (.lst []) (.lst []) = some false := by rw [oNe_nil (xs := []) rfl]; rfl
def dash (b : Bool) : Str := if b = true then "-" else Str.empty
theorem app_empty (x : Str) : x ++ Str.empty = x := str_ext (by
  rw [ptx_app]
  show ptx x ++ [] = _
  rw [List.append_nil])
theorem dash_cat {xs : List Str} (hl : (Str.join " " xs).length ≤ 1000000) : oCatS (.str (Str.join " " xs)) (.str (dash xs.isEmpty)) = some (.str (listT xs)) := by
  have hd : ∀ b, (dash b).length ≤ 1 := fun b => by cases b <;> decide
  rw [oCatS_str (by have := hd xs.isEmpty; omega)]
  unfold listT
  cases xs with
  | nil => rfl
  | cons x xs =>
    rw [if_neg (by simp)]
    show some (D.str (Str.join " " (x :: xs) ++ Str.empty)) = _
    rw [app_empty]
theorem dash_mul (b : Bool) : oMulS (.str "-") (.int (if b = true then 1 else 0)) = some (.str (dash b)) := by cases b <;> rfl
theorem listT_ok {xs : List Str} (h : ∀ x ∈ xs, PyData.strOk x = true) : PyData.strOk (listT xs) = true := by
  unfold listT
  split
  · exact ok_dash
  · exact join_ok ok_sp h
end Lb

namespace Lb
open PySem PySem.Spec PyProof.Rows L2 Dv
/-! ## Nets -/
def isWay (n : Int) (w : Way) : Prop := -1 ≤ w.1 ∧ w.1 < n ∧ (w.2 = -2 ∨ (0 ≤ w.2 ∧ w.2 < n)) ∧ w.1 ≠ w.2
theorem v_is_way {n : Int} {w : Way} (h : isWay n w) (mu : Mu) : V_is_way [.int n, wD w] mu = .ok (.bl true) mu := by
  obtain ⟨a, b⟩ := w
  obtain ⟨h1, h2, h3, h4⟩ := h
  simp only at h1 h2 h3 h4
  unfold V_is_way
  rw [den_ap]
  rcases h3 with h3 | ⟨h3, h5⟩
  · simp [S_is_way, wD, h1, h2, h3]
    intro e; exact h4 (e.trans h3.symm)
  · by_cases hb : b = -2
    · omega
    · simp [S_is_way, wD, h1, h2, h3, h5, hb, h4]
theorem wD_pD : wD = pD := rfl
/-- one round of leads_round -/
def ends (ws : List Way) (left : List Int) : List Int := (ws.filter fun w => decide (w.1 ∈ left)).map (·.2)
def rnd (ws : List Way) (left : List Int) : List Int := left.filter fun x => decide (x ∈ ends ws left)
theorem round_step {ws : List Way} {left : List Int} {nD : D} {x3 x4 x5 x6 x7 : Option D} (hl : ws.length ≤ 1000) (hl2 : left.length ≤ 1000) (mu : Mu) :
    L3_leads_round [some nD, some (.lst (ws.map wD)), some (.lst (left.map D.int)), x3, x4, x5, x6, x7] mu =
      .nx [some nD, some (.lst (ws.map wD)), some (.lst ((rnd ws left).map D.int)), some (.int left.length), some (.lst ((ends ws left).map D.int)), x5, x6, x7] mu := by
  have h1 : lcL (tTupN [5, 6]) (dCmp oInL (dVar 5) (dVar 2)) (dNf (dVar 6)) [some nD, some (.lst (ws.map wD)), some (.lst (left.map D.int)), some (.int left.length), x4, none, none, x7] (ws.map wD) mu = .ok ((ends ws left).map D.int) mu := by
    have := lcL_onE (t := tTupN [5, 6]) (ft := dCmp oInL (dVar 5) (dVar 2)) (fe := dNf (dVar 6)) (rho := [some nD, some (.lst (ws.map wD)), some (.lst (left.map D.int)), some (.int left.length), x4, none, none, x7]) (mu := mu) wD (fun w => D.int w.2) (fun w => decide (w.1 ∈ left)) ws fun w hw => by
      simp [wD, oInL_int]
    rw [this]
    unfold ends
    rw [List.map_map]; rfl
  have h2 : lcL (tName 7) (dCmp oInL (dVar 7) (dVar 4)) (dNf (dVar 7)) [some nD, some (.lst (ws.map wD)), some (.lst (left.map D.int)), some (.int left.length), some (.lst ((ends ws left).map D.int)), x5, x6, none] (left.map D.int) mu = .ok ((rnd ws left).map D.int) mu :=
    lcL_onE D.int D.int (fun x => decide (x ∈ ends ws left)) left fun x hx => by simp [oInL_int]
  have z1 : ws.length ≤ 16777216 := Nat.le_trans hl (by decide)
  have z2 : left.length ≤ 16777216 := Nat.le_trans hl2 (by decide)
  simp [L3_leads_round, h1, h2, z1, z2]
/-- no ways round about, by a rank -/
def Acyc (ws : List Way) : Prop := ∃ rank : Int → Nat, ∀ w ∈ ws, 0 ≤ w.1 → 0 ≤ w.2 → rank w.1 < rank w.2
theorem least {rank : Int → Nat} : ∀ {l : List Int}, l ≠ [] → ∃ x ∈ l, ∀ y ∈ l, rank x ≤ rank y
  | [], h => absurd rfl h
  | [x], _ => ⟨x, List.mem_singleton.mpr rfl, fun y hy => by rw [List.mem_singleton.mp hy]; exact Nat.le_refl _⟩
  | x :: y :: l, _ => by
    obtain ⟨z, hz, h⟩ := least (l := y :: l) (by simp)
    by_cases hc : rank x ≤ rank z
    · refine ⟨x, List.mem_cons_self, fun w hw => ?_⟩
      rcases List.mem_cons.mp hw with rfl | hw
      · exact Nat.le_refl _
      · exact Nat.le_trans hc (h w hw)
    · refine ⟨z, List.mem_cons_of_mem _ hz, fun w hw => ?_⟩
      rcases List.mem_cons.mp hw with rfl | hw
      · omega
      · exact h w hw
theorem rnd_less {ws : List Way} (ha : Acyc ws) {left : List Int} (hp : ∀ x ∈ left, 0 ≤ x) (hn : left ≠ []) : (rnd ws left).length < left.length := by
  obtain ⟨rank, hr⟩ := ha
  obtain ⟨x, hx, hm⟩ := least (rank := rank) hn
  have no : x ∉ ends ws left := fun z => by
    obtain ⟨w, hw, e⟩ := List.mem_map.mp z
    obtain ⟨hw, hd⟩ := List.mem_filter.mp hw
    have h1 := of_decide_eq_true hd
    have h2 := hr w hw (hp _ h1) (by rw [e]; exact hp x hx)
    have h3 := hm _ h1
    rw [e] at h2
    omega
  unfold rnd
  refine Nat.lt_of_le_of_ne (List.length_filter_le _ _) fun e => ?_
  have := List.filter_eq_self.mp (List.Sublist.eq_of_length List.filter_sublist e)
  exact no (of_decide_eq_true (this x hx))
theorem round_loop {ws : List Way} (ha : Acyc ws) (hl : ws.length ≤ 1000) {nD : D} (mu : Mu) : ∀ (k : Nat) (left : List Int) (last : Int) (x4 x5 x6 x7 : Option D) (m : Nat), left.length ≤ k → k ≤ 1000 → k + 2 ≤ m → (∀ x ∈ left, 0 ≤ x) → ((left.length : Nat) : Int) ≠ last →
    ∃ y3 y4 y5 y6 y7, sWhile (dCmp oNe (dOp1 oLen (dVar 2)) (dVar 3)) L3_leads_round m [some nD, some (.lst (ws.map wD)), some (.lst (left.map D.int)), some (.int last), x4, x5, x6, x7] mu =
      .nx [some nD, some (.lst (ws.map wD)), some (.lst []), y3, y4, y5, y6, y7] mu := fun k => by
  induction k with
  | zero =>
    intro left last x4 x5 x6 x7 m h1 _ hm hp hd
    have e : left = [] := List.eq_nil_of_length_eq_zero (by omega)
    subst e
    obtain ⟨m, rfl⟩ : ∃ j, m = j + 2 := ⟨m - 2, by omega⟩
    have st := round_step (ws := ws) (left := []) (nD := nD) (x3 := some (.int last)) (x4 := x4) (x5 := x5) (x6 := x6) (x7 := x7) hl (by simp) mu
    have e : rnd ws [] = [] := rfl
    rw [e] at st
    have hd' : ¬ (0 : Int) = last := by simpa using hd
    simp only [List.map_nil] at st
    refine ⟨some (.int 0), some (.lst ((ends ws []).map D.int)), x5, x6, x7, ?_⟩
    rw [while_ap]
    simp [hd', st]
    rw [while_ap]
    simp
  | succ k ih =>
    intro left last x4 x5 x6 x7 m h1 hk hm hp hd
    obtain ⟨m, rfl⟩ : ∃ j, m = j + 1 := ⟨m - 1, by omega⟩
    have st := round_step (ws := ws) (left := left) (nD := nD) (x3 := some (.int last)) (x4 := x4) (x5 := x5) (x6 := x6) (x7 := x7) hl (by omega) mu
    by_cases hn : left = []
    · subst hn
      obtain ⟨m, rfl⟩ : ∃ j, m = j + 1 := ⟨m - 1, by omega⟩
      have e : rnd ws [] = [] := rfl
      rw [e] at st
      have hd' : ¬ (0 : Int) = last := by simpa using hd
      simp only [List.map_nil] at st
      refine ⟨some (.int 0), some (.lst ((ends ws []).map D.int)), x5, x6, x7, ?_⟩
      rw [while_ap]
      simp [hd', st]
      rw [while_ap]
      simp
    · have hless := rnd_less ha hp hn
      obtain ⟨y3, y4, y5, y6, y7, e⟩ := ih (rnd ws left) left.length (some (.lst ((ends ws left).map D.int))) x5 x6 x7 m (by omega) (by omega) (by omega) (fun x hx => hp x (List.mem_filter.mp hx).1) (by omega)
      refine ⟨y3, y4, y5, y6, y7, ?_⟩
      rw [while_ap]
      simp [hd, st, e]
theorem fuel_ok : 902 ≤ fuel := by unfold fuel; decide
theorem v_leads_round {n : Nat} {ws : List Way} (ha : Acyc ws) (hl : ws.length ≤ 1000) (hn : n ≤ 900) (mu : Mu) : V_leads_round [.int n, .lst (ws.map wD)] mu = .ok (.bl false) mu := by
  unfold V_leads_round
  rw [den_ap]
  unfold S_leads_round
  have hm := fuel_ok
  generalize fuel = m at hm ⊢
  have hs : small62 (n : Int) = true := small62_of (by omega)
  have e1 : intsD 0 n = ((List.range n).map fun i => (0 : Int) + (i : Nat)).map D.int := intsD_map 0 n
  obtain ⟨y3, y4, y5, y6, y7, e⟩ := round_loop ha hl (nD := .int n) mu n ((List.range n).map fun i => (0 : Int) + (i : Nat)) (-1) none none none none m (by simp) (by omega) (by omega) (fun x hx => by
    obtain ⟨i, _, rfl⟩ := List.mem_map.mp hx
    omega) (by simp)
  rw [← e1] at e
  have hz : (n : Int) ≤ 16777216 := by omega
  simp [hs, hz, e, nil_ne]
/-- a net -/
structure OkNet (st : List Str) (ws : List Way) : Prop where
  wd : ∀ s ∈ st, s = "pile" ∨ s = "line"
  n : st.length ≤ 900
  ways : ∀ w ∈ ws, isWay st.length w
  nd : ws.Nodup
  few : ws.length < 64
  ac : Acyc ws
theorem in_words {s : Str} (h : s = "pile" ∨ s = "line") : oNotInT (.str s) (.tup [.str "pile", .str "line"]) = some false := by
  rcases h with rfl | rfl <;> decide +kernel
theorem shp_strs {xs : List Str} (h : ∀ x ∈ xs, PyData.strOk x = true) : shpN 1 (.lst (xs.map D.str)) := shpN_lst fun d hd => by
  obtain ⟨x, hx, rfl⟩ := List.mem_map.mp hd
  exact shpN_str (h x hx)
theorem oListN_strs (xs : List Str) : oListN (.lst (xs.map D.str)) = some (.lst (xs.map D.str)) := oListN_lst fun d hd => by
  obtain ⟨n, _, rfl⟩ := List.mem_map.mp hd
  rfl
theorem oListN_ways (ws : List Way) : oListN (.lst (ws.map wD)) = some (.lst (ws.map wD)) := oListN_lst fun d hd => by
  obtain ⟨n, _, rfl⟩ := List.mem_map.mp hd
  rfl
theorem v_net_of {st : List Str} {ws : List Way} (h : OkNet st ws) (mu : Mu) : V_net_of [.lst (st.map D.str), .lst (ws.map wD)] mu = .ok (.tup [.lst (st.map D.str), .lst ((sortP ws).map wD)]) mu := by
  unfold V_net_of
  rw [den_ap]
  have h1 : lcL (tName 2) (dCmp oNotInT (dVar 2) (dTup (daCons (dK (.str "pile")) (daCons (dK (.str "line")) daNil)))) (dNf (dVar 2)) [some (.lst (st.map D.str)), some (.lst (ws.map wD)), none, none] (st.map D.str) mu = .ok [] mu :=
    lcL_noneE D.str st fun s hs => by simp [in_words (h.wd s hs)]
  have h2 : lcL (tName 3) (dNot (dB (dCall 2 V_is_way (daCons (dOp1 oLen (dVar 0)) (daCons (dVar 3) daNil))))) (dNf (dVar 3)) [some (.lst (st.map D.str)), some (.lst (ws.map wD)), none, none] (ws.map wD) mu = .ok [] mu :=
    lcL_noneE wD ws fun w hw => by simp [v_is_way (h.ways w hw)]
  have h3 : oLenSetT (.lst (ws.map wD)) = some (.int ws.length) := oLenSetT_nodup h.nd h.few
  have h4 := v_leads_round h.ac (Nat.le_trans (Nat.le_of_lt h.few) (by decide)) h.n mu
  have h5 : oSortP (.lst (ws.map wD)) = some (.lst ((sortP ws).map wD)) := oSortP_sorted
  have z1 : st.length ≤ 16777216 := Nat.le_trans h.n (by decide)
  have z2 : ws.length ≤ 16777216 := Nat.le_trans (Nat.le_of_lt h.few) (by decide)
  simp [S_net_of, h1, h2, h3, h4, h5, z1, z2, nil_ne, oListN_strs]
end Lb

namespace Lb
open PySem PySem.Spec PyProof.Rows L2 Dv
/-! ## Nets written -/
def listC (y : Str) (xs : List Str) : Str := if xs = [] then "-" else Str.join y xs
structure Sep (y : Str) (s : Nat) : Prop where
  p : ptx y = [s]
  ok : PyData.strOk y = true
  sm : y.cps.all (· < 256) = true
  nd : s ∉ ptx ("-" : Str)
theorem sep_c : Sep "," 44 := ⟨by decide +kernel, by decide +kernel, by decide +kernel, by decide +kernel⟩
theorem sep_s : Sep " " 32 := ⟨by decide +kernel, by decide +kernel, by decide +kernel, by decide +kernel⟩
theorem Sep.len {y : Str} {s : Nat} (h : Sep y s) : y.length = 1 := by rw [← len_ptx, h.p]; rfl
theorem v_listedC {y : Str} {s : Nat} (hy : Sep y s) {xs : List Str} (hx : ∀ x ∈ xs, PyData.strOk x = true ∧ x.length ≤ 63) (hl : xs.length ≤ 1000) (mu : Mu) : V_listed [.lst (xs.map D.str), .str y] mu = .ok (.str (listC y xs)) mu := by
  unfold V_listed
  rw [den_ap]
  have hs : shp (.lst (xs.map D.str)) = true := (shp_strs fun x hx' => (hx x hx').1).shp (by decide)
  have e := oEq_nil hs
  unfold listC
  by_cases h : xs = []
  · subst h
    simp [S_listed, nil_eq]
  · have he : (xs.map D.str).isEmpty = false := by cases xs <;> simp at h ⊢
    have hj : oJoin (.str y) (.lst (xs.map D.str)) = some (.str (Str.join y xs)) := oJoin_eq (by
      have := sum_le (f := fun z : Str => z.length) (k := 63) fun x hx' => (hx x hx').2
      rw [hy.len]; omega)
    simp [S_listed, e, he, hj, h]
theorem v_partsC {y : Str} {s : Nat} (hy : Sep y s) {parts : List Str} (hp : ∀ p ∈ parts, s ∉ ptx p ∧ p ≠ "-" ∧ PyData.strOk p = true ∧ p.length ≤ 63) (hl : parts.length ≤ 1000) (mu : Mu) : V_parts_told [.str (listC y parts), .str y] mu = .ok (.lst (parts.map D.str)) mu := by
  unfold V_parts_told
  rw [den_ap]
  unfold listC
  by_cases h : parts = []
  · subst h
    have hq : oEq (.str "-") (.str "-") = some true := oEq_self (shp_str ok_dash)
    simp [S_parts_told, hq]
  · rw [if_neg h]
    have hb : (Str.join y parts).length + 2 ≤ 16777216 := by
      have h1 := join_len (y := y) parts
      have h2 := sum_le (f := fun z : Str => z.length) (k := 63) fun x hx' => (hp x hx').2.2.2
      rw [hy.len] at h1
      omega
    have hs := oSplit_join hy.p hy.sm h (fun p hp' => (hp p hp').1) hb
    have hq : oEq (.str (Str.join y parts)) (.str "-") = some false := by
      rw [oEq_str (join_ok hy.ok fun x hx => (hp x hx).2.2.1) ok_dash]
      congr 1
      refine decide_eq_false fun q => ?_
      have h1 := TL.split_join (parts := parts) hy.p hy.sm h fun p hp' => (hp p hp').1
      rw [ptx_join, q, split_one hy.p hy.sm hy.nd] at h1
      exact (hp "-" (by rw [← h1]; exact List.mem_singleton.mpr rfl)).2.1 rfl
    simp [S_parts_told, hq, hs]
/-- the stations' text -/
def comma (s : Str) : Str := s ++ ","
def stT (st : List Str) : Str := if st = [] then "-" else Str.join "" (st.map comma)
def wsT (ws : List Way) : Str := listC "," (ws.map wT)
def netT (st : List Str) (ws : List Way) : Str := stT st ++ " " ++ wsT ws
theorem okEmpty : PyData.strOk ("" : Str) = true := by decide +kernel
theorem join_snoc : ∀ st : List Str, Str.join "" (st.map comma) = Str.join "," (st ++ [("" : Str)])
  | [] => rfl
  | [s] => by
    show s ++ "," = s ++ "," ++ ""
    refine str_ext ?_
    rw [ptx_app, ptx_app, ptx_app]
    have : ptx ("" : Str) = [] := by decide +kernel
    rw [this, List.append_nil]
  | s :: t :: r => by
    have ih := join_snoc (t :: r)
    show s ++ "," ++ "" ++ Str.join "" ((t :: r).map comma) = s ++ "," ++ Str.join "," ((t :: r) ++ [("" : Str)])
    rw [ih]
    refine str_ext ?_
    simp only [ptx_app]
    have : ptx ("" : Str) = [] := by decide +kernel
    rw [this, List.append_nil]
theorem wd_facts {s : Str} (h : s = "pile" ∨ s = "line") : PyData.strOk s = true ∧ s.length = 4 ∧ 44 ∉ ptx s ∧ 32 ∉ ptx s ∧ 45 ∉ ptx s := by
  rcases h with rfl | rfl <;> decide +kernel
theorem st_join_len {st : List Str} (h : ∀ s ∈ st, s = "pile" ∨ s = "line") (hn : st.length ≤ 900) : (Str.join "" (st.map comma)).length ≤ 10000 := by
  have h1 := join_len (y := "") (st.map comma)
  have h2 := sum_le (f := fun z : Str => z.length) (xs := st.map comma) (k := 5) fun x hx => by
    obtain ⟨s, hs, rfl⟩ := List.mem_map.mp hx
    show (s ++ ",").length ≤ 5
    rw [← len_ptx, ptx_app, List.length_append, len_ptx, (wd_facts (h s hs)).2.1]
    decide
  have e : ("" : Str).length = 0 := rfl
  rw [e, List.length_map] at h1
  rw [List.length_map] at h2
  omega
theorem ws_len {ws : List Way} (h : ∀ w ∈ ws, okWay w) (hl : ws.length ≤ 1000) : (wsT ws).length ≤ 100000 := by
  unfold wsT listC
  split
  · decide
  · have h1 := join_len (y := ",") (ws.map wT)
    have h2 := sum_le (f := fun z : Str => z.length) (xs := ws.map wT) (k := 63) fun x hx => by
      obtain ⟨w, hw, rfl⟩ := List.mem_map.mp hx
      exact way_len (h w hw)
    have e : ("," : Str).length = 1 := rfl
    rw [e, List.length_map] at h1
    rw [List.length_map] at h2
    omega
theorem comma_map (st : List Str) : (st.map fun s => D.str (comma s)) = (st.map comma).map D.str := by rw [List.map_map]; rfl
theorem oCat_comma {s : Str} (h : s = "pile" ∨ s = "line") : oCatS (.str s) (.str ",") = some (.str (comma s)) := oCatS_str (by
  rw [(wd_facts h).2.1]
  decide)
theorem st_join_o {st : List Str} (h : ∀ s ∈ st, s = "pile" ∨ s = "line") (hn : st.length ≤ 900) : oJoin (.str "") (.lst ((st.map comma).map D.str)) = some (.str (Str.join "" (st.map comma))) := oJoin_eq (by
  have h2 := sum_le (f := fun z : Str => z.length) (xs := st.map comma) (k := 5) fun x hx => by
    obtain ⟨s, hs, rfl⟩ := List.mem_map.mp hx
    show (s ++ ",").length ≤ 5
    rw [← len_ptx, ptx_app, List.length_append, len_ptx, (wd_facts (h s hs)).2.1]
    decide
  have e : ("" : Str).length = 0 := rfl
  rw [e]
  rw [List.length_map] at h2
  omega)
theorem way_ok_of {n : Nat} {w : Way} (h : isWay n w) (hn : n ≤ 900) : okWay w := by
  obtain ⟨h1, h2, h3, h4⟩ := h
  refine ⟨by omega, by omega, ?_, ?_⟩ <;> (unfold small30; omega)
theorem cat3 {a b : Str} (ha : a.length ≤ 20000) (hb : b.length ≤ 200000) : oCatS (.str a) (.str " ") = some (.str (a ++ " ")) ∧ oCatS (.str (a ++ " ")) (.str b) = some (.str (a ++ " " ++ b)) := by
  have e : (a ++ (" " : Str)).length = a.length + 1 := by rw [← len_ptx, ptx_app, List.length_append, len_ptx]; rfl
  exact ⟨oCatS_str (by show a.length + 1 ≤ _; omega), oCatS_str (by rw [e]; omega)⟩
theorem shp_ways (ws : List Way) : shp (.lst (ws.map wD)) = true := (shp_doing ws).shp (by decide)
theorem v_net_text {st : List Str} {ws : List Way} (h : OkNet st ws) (mu : Mu) : V_net_text [.tup [.lst (st.map D.str), .lst (ws.map wD)]] mu = .ok (.str (netT st ws)) mu := by
  unfold V_net_text
  rw [den_ap]
  have ow : ∀ w ∈ ws, okWay w := fun w hw => way_ok_of (h.ways w hw) h.n
  have lw : ws.length ≤ 1000 := Nat.le_trans (Nat.le_of_lt h.few) (by decide)
  have h1 : lcL (tName 4) dtYes (dOp2 oCatS (dVar 4) (dK (.str ","))) [some (.tup [.lst (st.map D.str), .lst (ws.map wD)]), some (.lst (st.map D.str)), some (.lst (ws.map wD)), none, none, none] (st.map D.str) mu = .ok ((st.map comma).map D.str) mu := by
    rw [← comma_map]
    exact lcL_allE D.str (fun s => D.str (comma s)) st fun s hs => by simp [oCat_comma (h.wd s hs)]
  have h2 : ∀ x3, lcL (tName 5) dtYes (dCall 1 V_way_text (daCons (dVar 5) daNil)) [some (.tup [.lst (st.map D.str), .lst (ws.map wD)]), some (.lst (st.map D.str)), some (.lst (ws.map wD)), x3, none, none] (ws.map wD) mu = .ok ((ws.map wT).map D.str) mu := fun x3 => by
    have e : (ws.map fun w => D.str (wT w)) = (ws.map wT).map D.str := by rw [List.map_map]; rfl
    rw [← e]
    exact lcL_allE wD (fun w => D.str (wT w)) ws fun w hw => by
      have := ow w hw
      simp [wD, v_way_text this.2.2.1 this.2.2.2]; rfl
  have h3 := v_listedC sep_c (xs := ws.map wT) (fun x hx => by
    obtain ⟨w, hw, rfl⟩ := List.mem_map.mp hx
    exact ⟨way_ok w, way_len (ow w hw)⟩) (by rw [List.length_map]; exact lw) mu
  have hj := st_join_o h.wd h.n
  have q : oEq (.lst (st.map D.str)) (.lst []) = some st.isEmpty := by rw [oEq_nil ((shp_strs fun s hs => (wd_facts (h.wd s hs)).1).shp (by decide)), List.isEmpty_map]
  have z1 : st.length ≤ 16777216 := Nat.le_trans h.n (by decide)
  have z2 : ws.length ≤ 16777216 := Nat.le_trans lw (by decide)
  have l1 := st_join_len h.wd h.n
  have l2 := ws_len ow lw
  by_cases hs : st = []
  · subst hs
    obtain ⟨c1, c2⟩ := cat3 (a := "-") (b := wsT ws) (by decide) (by omega)
    have e : netT [] ws = "-" ++ " " ++ wsT ws := rfl
    rw [e]
    have q2 : oEq (.lst []) (.lst []) = some true := nil_eq
    have hj' : oJoin (.str "") (.lst []) = some (.str (Str.join "" [])) := hj
    simp only [List.map_nil] at h1 h2
    unfold wsT at c2 ⊢
    simp [-List.map_map, S_net_text, h1, h2, h3, hj', q2, c1, c2, z2]
  · obtain ⟨c1, c2⟩ := cat3 (a := stT st) (b := wsT ws) (by unfold stT; rw [if_neg hs]; omega) (by omega)
    have e : stT st = Str.join "" (st.map comma) := by unfold stT; rw [if_neg hs]
    have he : st.isEmpty = false := by cases st <;> simp at hs ⊢
    unfold netT
    rw [e] at c1 c2 ⊢
    unfold wsT at c2 ⊢
    simp [-List.map_map, S_net_text, h1, h2, h3, hj, q, he, c1, c2, z1, z2]
end Lb

namespace Lb
open PySem PySem.Spec PyProof.Rows L2 Dv
theorem dash_len (b : Bool) : (dash b).length ≤ 1 := by cases b <;> decide
theorem stT_cat {st : List Str} (hl : (Str.join "" (st.map comma)).length ≤ 10000) : oCatS (.str (Str.join "" (st.map comma))) (.str (dash st.isEmpty)) = some (.str (stT st)) := by
  rw [oCatS_str (by have := dash_len st.isEmpty; omega)]
  unfold stT
  cases st with
  | nil => rfl
  | cons x xs =>
    rw [if_neg (by simp)]
    show some (D.str (_ ++ Str.empty)) = _
    rw [app_empty]
theorem listC_cat {y : Str} {xs : List Str} (hl : (Str.join y xs).length ≤ 100000) {a : Str} (ha : a.length ≤ 20000) : oCatS (.str (a ++ Str.join y xs)) (.str (dash xs.isEmpty)) = some (.str (a ++ listC y xs)) := by
  have e : (a ++ Str.join y xs).length = a.length + (Str.join y xs).length := by rw [← len_ptx, ptx_app, List.length_append, len_ptx, len_ptx]
  rw [oCatS_str (by have := dash_len xs.isEmpty; omega)]
  unfold listC
  cases xs with
  | nil =>
    rw [if_pos rfl]
    congr 2
  | cons x xs =>
    rw [if_neg (by simp)]
    show some (D.str (_ ++ Str.empty)) = _
    rw [app_empty]
theorem v_lnet_text {st : List Str} {ws : List Way} (h : OkNet st ws) (mu : Mu) : V__law_net_text [.tup [.lst (st.map D.str), .lst (ws.map wD)]] mu = .ok (.str (netT st ws)) mu := by
  unfold V__law_net_text
  rw [den_ap]
  have ow : ∀ w ∈ ws, okWay w := fun w hw => way_ok_of (h.ways w hw) h.n
  have lw : ws.length ≤ 1000 := Nat.le_trans (Nat.le_of_lt h.few) (by decide)
  have h1 : lcL (tName 2) dtYes (dOp2 oCatS (dVar 2) (dK (.str ","))) [some (.tup [.lst (st.map D.str), .lst (ws.map wD)]), none, none, none] (st.map D.str) mu = .ok ((st.map comma).map D.str) mu := by
    rw [← comma_map]
    exact lcL_allE D.str (fun s => D.str (comma s)) st fun s hs => by simp [oCat_comma (h.wd s hs)]
  have h2 : ∀ x1, lcL (tName 3) dtYes (dCall 1 V__law_way (daCons (dVar 3) daNil)) [some (.tup [.lst (st.map D.str), .lst (ws.map wD)]), x1, none, none] (ws.map wD) mu = .ok ((ws.map wT).map D.str) mu := fun x1 => by
    have e : (ws.map fun w => D.str (wT w)) = (ws.map wT).map D.str := by rw [List.map_map]; rfl
    rw [← e]
    exact lcL_allE wD (fun w => D.str (wT w)) ws fun w hw => by simp [v_lway (ow w hw)]
  have hj := st_join_o h.wd h.n
  have b2 : ((ws.map wT).map fun z => z.length).sum + (ws.map wT).length * ("," : Str).length ≤ 100000 := by
    have h2 := sum_le (f := fun z : Str => z.length) (xs := ws.map wT) (k := 63) fun x hx => by
      obtain ⟨w, hw, rfl⟩ := List.mem_map.mp hx
      exact way_len (ow w hw)
    have e : ("," : Str).length = 1 := rfl
    rw [e]
    rw [List.length_map] at h2 ⊢
    omega
  have hj2 : oJoin (.str ",") (.lst ((ws.map wT).map D.str)) = some (.str (Str.join "," (ws.map wT))) := oJoin_eq (by omega)
  have jl := Nat.le_trans (join_len (y := ",") (ws.map wT)) b2
  have q1 : oEq (.lst (st.map D.str)) (.lst []) = some st.isEmpty := by rw [oEq_nil ((shp_strs fun s hs => (wd_facts (h.wd s hs)).1).shp (by decide)), List.isEmpty_map]
  have q2 : oEq (.lst (ws.map wD)) (.lst []) = some ws.isEmpty := by rw [oEq_nil (shp_ways ws), List.isEmpty_map]
  have z1 : st.length ≤ 16777216 := Nat.le_trans h.n (by decide)
  have z2 : ws.length ≤ 16777216 := Nat.le_trans lw (by decide)
  have l1 := st_join_len h.wd h.n
  have ls : (stT st).length ≤ 10000 := by
    unfold stT
    split
    · decide
    · exact l1
  have c0 := stT_cat l1
  have c1 := (cat3 (a := stT st) (b := "") (by omega) (by decide)).1
  have c2 := (cat3 (a := stT st) (b := Str.join "," (ws.map wT)) (by omega) (by omega)).2
  have ls2 : (stT st ++ (" " : Str)).length ≤ 20000 := by rw [← len_ptx, ptx_app, List.length_append, len_ptx]; show _ + 1 ≤ _; omega
  have c3 := listC_cat (y := ",") (xs := ws.map wT) jl ls2
  rw [List.isEmpty_map] at c3
  have i0 : ∀ a b : D, oIx (.tup [a, b]) (.int 0) = some a := fun a b => rfl
  have i1 : ∀ a b : D, oIx (.tup [a, b]) (.int 1) = some b := fun a b => rfl
  unfold netT wsT
  simp [-List.map_map, -List.isEmpty_iff, S__law_net_text, h1, h2, hj, hj2, q1, q2, z1, z2, dash_mul, c0, c1, c2, c3, i0, i1]
theorem neg1 {xs : List D} {y : D} : oIx (.lst (xs ++ [y])) (.int (-1)) = some y := by
  have e : ixN (xs ++ [y]).length (-1) = some xs.length := by
    unfold ixN
    rw [if_neg (by omega), List.length_append, List.length_singleton]
    split
    · congr 1; omega
    · omega
  show (ixN (xs ++ [y]).length (-1)).bind _ = _
  rw [e]
  simp
theorem cut_last {xs : List D} {y : D} : oSlL (.lst (xs ++ [y])) none (some (-1)) = some (.lst xs) := by
  show some (D.lst (Dv.cutD (xs ++ [y]) none (some (-1)))) = _
  unfold Dv.cutD
  have e : HT.sIx (xs ++ [y]).length (xs ++ [y]).length (some (-1)) = xs.length := by
    unfold HT.sIx
    simp
    omega
  rw [e, HT.sIx_none, List.drop_zero, Nat.sub_zero, List.take_left' rfl]
theorem v_stations {st : List Str} (h : ∀ s ∈ st, s = "pile" ∨ s = "line") (hn : st.length ≤ 900) (mu : Mu) : V_stations_told [.str (stT st)] mu = .ok (.lst (st.map D.str)) mu := by
  unfold V_stations_told
  rw [den_ap]
  by_cases hs : st = []
  · subst hs
    have hq : oEq (.str "-") (.str "-") = some true := oEq_self (shp_str ok_dash)
    have e : stT [] = "-" := rfl
    rw [e]
    simp [S_stations_told, hq]
  · have e : stT st = Str.join "," (st ++ [("" : Str)]) := by unfold stT; rw [if_neg hs, join_snoc]
    have fr : ∀ p ∈ st ++ [("" : Str)], 44 ∉ ptx p := fun p hp => by
      rcases List.mem_append.mp hp with hp | hp
      · exact (wd_facts (h p hp)).2.2.1
      · rw [List.mem_singleton.mp hp]; decide +kernel
    have hl := st_join_len h hn
    rw [join_snoc] at hl
    have hsp : oSplit (.str (stT st)) (.str ",") = some (.lst (st.map D.str ++ [.str ""])) := by
      rw [e, oSplit_join sep_c.p sep_c.sm (by simp) fr (by omega), List.map_append]
      rfl
    have hq : oEq (.str (stT st)) (.str "-") = some false := by
      have ok : PyData.strOk (stT st) = true := by
        rw [e]
        refine join_ok sep_c.ok fun x hx => ?_
        rcases List.mem_append.mp hx with hx | hx
        · exact (wd_facts (h x hx)).1
        · rw [List.mem_singleton.mp hx]; exact okEmpty
      rw [oEq_str ok ok_dash]
      congr 1
      refine decide_eq_false fun q => ?_
      have h1 := TL.split_join (parts := st ++ [("" : Str)]) sep_c.p sep_c.sm (by simp) fr
      rw [ptx_join, ← e, q, split_one sep_c.p sep_c.sm sep_c.nd] at h1
      have h2 := congrArg List.length h1
      rw [List.length_append, List.length_singleton, List.length_singleton] at h2
      cases st with
      | nil => exact hs rfl
      | cons x xs => simp at h2
    have q1 : oNe (.str "") (.str "") = some false := oNe_self (shp_str okEmpty)
    have h1 : ∀ x1, lcL (tName 2) (dCmp oNotInT (dVar 2) (dK (.tup [.str "pile", .str "line"]))) (dNf (dVar 2)) [some (.str (stT st)), x1, none] (st.map D.str) mu = .ok [] mu := fun x1 =>
      lcL_noneE D.str st fun s hs' => by
        have := in_words (h s hs')
        simp [this]
    have z1 : st.length ≤ 16777216 := Nat.le_trans hn (by decide)
    have hlen : ¬ ((st.length : Int) + 1 < 2) := by
      have : 1 ≤ st.length := List.length_pos_iff.mpr hs
      omega
    simp [S_stations_told, hq, hsp, neg1, q1, cut_last, h1, z1, nil_ne, hlen]
theorem v_read_net {st : List Str} {ws : List Way} (h : OkNet st ws) (mu : Mu) : V_read_net [.str (netT st ws)] mu = .ok (.tup [.lst (st.map D.str), .lst ((sortP ws).map wD)]) mu := by
  unfold V_read_net
  rw [den_ap]
  have ow : ∀ w ∈ ws, okWay w := fun w hw => way_ok_of (h.ways w hw) h.n
  have lw : ws.length ≤ 1000 := Nat.le_trans (Nat.le_of_lt h.few) (by decide)
  have fs : 32 ∉ ptx (stT st) := by
    unfold stT
    split
    · decide +kernel
    · have key : ∀ xs : List Str, (∀ s ∈ xs, s = "pile" ∨ s = "line") → 32 ∉ ptx (Str.join "" (xs.map comma)) := fun xs => by
        induction xs with
        | nil => intro _; decide +kernel
        | cons x xs ih =>
          intro hx
          have hc : 32 ∉ ptx (comma x) := by
            unfold comma
            rw [ptx_app, List.mem_append, not_or]
            exact ⟨(wd_facts (hx x List.mem_cons_self)).2.2.2.1, by decide +kernel⟩
          cases xs with
          | nil => exact hc
          | cons y ys =>
            show 32 ∉ ptx (comma x ++ "" ++ Str.join "" ((y :: ys).map comma))
            rw [ptx_app, ptx_app, List.mem_append, List.mem_append, not_or, not_or]
            exact ⟨⟨hc, by decide +kernel⟩, ih fun s hs => hx s (List.mem_cons_of_mem _ hs)⟩
      exact key st h.wd
  have fw1 : ∀ w ∈ ws, 32 ∉ ptx (wT w) ∧ 44 ∉ ptx (wT w) ∧ 62 ∈ ptx (wT w) := fun w hw => by
    have e : ptx (">" : Str) = [62] := by decide +kernel
    have f44 : ∀ n, 44 ∉ ptx (endT n) := fun n => by
      unfold endT
      split
      · decide +kernel
      · split
        · decide +kernel
        · exact num_free (by omega) n
    unfold wT wayT
    rw [ptx_app, ptx_app, e]
    simp only [List.mem_append, List.mem_singleton, not_or]
    exact ⟨⟨⟨end_free (.inr rfl) _, by omega⟩, end_free (.inr rfl) _⟩, ⟨⟨f44 _, by omega⟩, f44 _⟩, .inl (.inr trivial)⟩
  have fw : 32 ∉ ptx (wsT ws) := by
    unfold wsT listC
    split
    · decide +kernel
    · have key : ∀ xs : List Str, (∀ x ∈ xs, 32 ∉ ptx x) → 32 ∉ ptx (Str.join "," xs) := fun xs => by
        induction xs with
        | nil => intro _; decide +kernel
        | cons x xs ih =>
          intro hx
          cases xs with
          | nil => exact hx x List.mem_cons_self
          | cons y ys =>
            show 32 ∉ ptx (x ++ "," ++ Str.join "," (y :: ys))
            rw [ptx_app, ptx_app, List.mem_append, List.mem_append, not_or, not_or]
            exact ⟨⟨hx x List.mem_cons_self, by decide +kernel⟩, ih fun s hs => hx s (List.mem_cons_of_mem _ hs)⟩
      refine key _ fun x hx => ?_
      obtain ⟨w, hw, rfl⟩ := List.mem_map.mp hx
      exact (fw1 w hw).1
  have l1 : (stT st).length ≤ 10000 := by
    unfold stT
    split
    · decide
    · exact st_join_len h.wd h.n
  have l2 := ws_len ow lw
  have hj : Str.join " " [stT st, wsT ws] = netT st ws := rfl
  have hs : oSplit (.str (netT st ws)) (.str " ") = some (.lst [.str (stT st), .str (wsT ws)]) := by
    rw [← hj]
    refine oSplit_join sep_s.p sep_s.sm (by simp) (fun p hp => ?_) ?_
    · rcases List.mem_cons.mp hp with e | hp
      · rw [e]; exact fs
      · rw [List.mem_singleton.mp hp]; exact fw
    · have h1 := join_len (y := " ") [stT st, wsT ws]
      have e : (" " : Str).length = 1 := rfl
      rw [e] at h1
      simp at h1
      omega
  have i0 : ∀ a b : D, oIx (.lst [a, b]) (.int 0) = some a := fun a b => rfl
  have i1 : ∀ a b : D, oIx (.lst [a, b]) (.int 1) = some b := fun a b => rfl
  have hp := v_partsC sep_c (parts := ws.map wT) (fun p hp => by
    obtain ⟨w, hw, rfl⟩ := List.mem_map.mp hp
    refine ⟨(fw1 w hw).2.1, fun e => ?_, way_ok w, way_len (ow w hw)⟩
    have := (fw1 w hw).2.2
    rw [e] at this
    exact absurd this (by decide +kernel)) (by rw [List.length_map]; exact lw) mu
  have e : (ws.map wT).map D.str = ws.map fun w => D.str (wT w) := by rw [List.map_map]; rfl
  rw [e] at hp
  have hlc : ∀ x1 x2, lcL (tName 3) dtYes (dCall 1 V_way_told (daCons (dVar 3) daNil)) [some (.str (netT st ws)), x1, x2, none] (ws.map fun w => D.str (wT w)) mu = .ok (ws.map wD) mu := fun x1 x2 =>
    lcL_allE (fun w => D.str (wT w)) wD ws fun w hw => by simp [v_way_told (ow w hw)]
  have z2 : ws.length ≤ 16777216 := Nat.le_trans lw (by decide)
  have hst := v_stations h.wd h.n mu
  have hnet := v_net_of h mu
  unfold wsT at hs
  simp [-List.map_map, S_read_net, hs, i0, i1, hst, hp, hlc, z2, hnet]
theorem v_copy (st : List Str) (ws : List Way) (mu : Mu) : V__law_copy [.tup [.lst (st.map D.str), .lst (ws.map wD)]] mu = .ok (.tup [.lst (st.map D.str), .lst (ws.map wD)]) mu := by
  unfold V__law_copy
  rw [den_ap]
  have i0 : ∀ a b : D, oIx (.tup [a, b]) (.int 0) = some a := fun a b => rfl
  have i1 : ∀ a b : D, oIx (.tup [a, b]) (.int 1) = some b := fun a b => rfl
  simp [S__law_copy, i0, i1, oListN_strs, oListN_ways]
theorem shp_net {st : List Str} (h : ∀ s ∈ st, s = "pile" ∨ s = "line") (ws : List Way) : shpN 3 (.tup [.lst (st.map D.str), .lst (ws.map wD)]) := shpN_tup fun d hd => by
  rcases List.mem_cons.mp hd with rfl | hd
  · have := shp_strs fun s hs => (wd_facts (h s hs)).1
    exact ⟨this.1, Nat.le_trans this.2 (by decide)⟩
  · rw [List.mem_singleton.mp hd]
    exact shp_doing ws
theorem v_is_net {st : List Str} (h : ∀ s ∈ st, s = "pile" ∨ s = "line") (ws : List Way) (mu : Mu) : V__law_is_net [.tup [.lst (st.map D.str), .lst (ws.map wD)], .tup [.lst (st.map D.str), .lst (ws.map wD)]] mu = .ok (.bl true) mu := by
  unfold V__law_is_net
  rw [den_ap]
  have i0 : ∀ a b : D, oIx (.tup [a, b]) (.int 0) = some a := fun a b => rfl
  have i1 : ∀ a b : D, oIx (.tup [a, b]) (.int 1) = some b := fun a b => rfl
  have q := oNe_self ((shp_net h ws).shp (by decide))
  obtain ⟨rho', mu', h1, x2, rfl, rfl, _⟩ := sForL_invE (t := tName 2) (f := L5__law_is_net) (fun rem rho m => ∃ x2 : Option D, m = mu ∧ rho = [some (.tup [.lst (st.map D.str), .lst (ws.map wD)]), some (.tup [.lst (st.map D.str), .lst (ws.map wD)]), x2] ∧ ∀ d ∈ rem, ∃ w, d = wD w) (fun d ds' rho m hh => by
    obtain ⟨x2, rfl, rfl, hw⟩ := hh
    obtain ⟨w, rfl⟩ := hw _ List.mem_cons_self
    have e0 : oIx (wD w) (.int 0) = some (.int w.1) := rfl
    have e1 : oIx (wD w) (.int 1) = some (.int w.2) := rfl
    have e2 : oIsi "tuple" (wD w) = some (.bl true) := rfl
    simp [L5__law_is_net, e0, e1, e2]
    exact fun d hd => by
      obtain ⟨w, e⟩ := hw d (List.mem_cons_of_mem _ hd)
      exact ⟨w.1, w.2, e⟩) (ws.map wD) _ mu ⟨none, rfl, rfl, fun d hd => by
      obtain ⟨w, _, rfl⟩ := List.mem_map.mp hd
      exact ⟨w, rfl⟩⟩
  simp [S__law_is_net, q, i0, i1, h1]
end Lb

namespace Lb
open PySem PySem.Spec PyProof.Rows L2 Dv
/-! ## The laws' own nets -/
theorem v_stirL {c k : Int} (hk : 0 ≤ k) (mu : Mu) : V__law_stir [.int c, .int k] mu = .ok (.int (stir c k)) mu := stir_den hk mu
theorem seq_at {r : Int} {n : Nat} (h : 0 ≤ r ∧ r < n) : seqIndex? r n = some r.toNat := (ixN_seq (by
  unfold ixN
  rw [if_pos h.1, if_pos (by omega)])).1
theorem flat_ints (xs : List Int) : (xs.map D.int).all flatD = true := by
  rw [List.all_map, List.all_eq_true]
  intro x _
  rfl
theorem popD_ints {xs : List Int} {r : Int} (h : 0 ≤ r ∧ r < xs.length) (hl : xs.length ≤ 1000) : ∃ v, xs[r.toNat]? = some v ∧ popD (xs.map D.int) r = some (.int v, (xs.eraseIdx r.toNat).map D.int) := by
  have hk : r.toNat < xs.length := by omega
  refine ⟨xs[r.toNat], List.getElem?_eq_getElem hk, ?_⟩
  unfold popD
  have h1 : in63 r = true := by
    unfold in63
    rw [decide_eq_true (by omega), decide_eq_true (by omega)]; rfl
  rw [if_pos ⟨h1, flat_ints xs⟩, List.length_map, seq_at h]
  simp only [List.getElem?_map, List.getElem?_eq_getElem hk, Option.map_some]
  rw [map_eraseIdx']
theorem erase_perm {xs : List Int} {k : Nat} {v : Int} (h : xs[k]? = some v) : (v :: xs.eraseIdx k).Perm xs := by
  induction xs generalizing k with
  | nil => simp at h
  | cons x xs ih =>
    cases k with
    | zero =>
      simp at h
      subst h
      exact List.Perm.refl _
    | succ k =>
      have h' : xs[k]? = some v := by simpa using h
      exact (List.Perm.swap x v _).trans ((ih h').cons x)
abbrev feN : DE := dOp2 oMod (dCall 2 V__law_stir (daCons (dVar 0) (daCons (dOp2 oAdd (dOp2 oAdd (dVar 1) (dK (.int 1))) (dVar 11)) daNil))) (dOp1 oLen (dVar 4))
theorem pop_net (cell : Int) {base : Int} (hb : 0 ≤ base) (dm dn : D) (mu : Mu) : ∀ (js xs : List Int), js.length = xs.length → xs.length ≤ 1000 → (∀ j ∈ js, 0 ≤ j) →
    ∃ ys : List Int, ys.Perm xs ∧ popL (tName 11) 4 [11] feN (js.map D.int) [some (.int cell), some (.int base), some dm, some dn, some (.lst (xs.map D.int)), none, none, none, none, none, none, none] mu =
      .ok (ys.map D.int, [some (.int cell), some (.int base), some dm, some dn, some (.lst []), none, none, none, none, none, none, none]) mu := fun js => by
  induction js with
  | nil =>
    intro xs h _ _
    have e : xs = [] := List.eq_nil_of_length_eq_zero h.symm
    subst e
    exact ⟨[], List.Perm.refl _, rfl⟩
  | cons j js ih =>
    intro xs h hl hj
    have hj0 := hj j List.mem_cons_self
    have hx : 0 < xs.length := by rw [← h]; simp
    have hr : 0 ≤ stir cell (base + 1 + j) % (xs.length : Int) ∧ stir cell (base + 1 + j) % (xs.length : Int) < xs.length := ⟨Int.emod_nonneg _ (by omega), Int.emod_lt_of_pos _ (by omega)⟩
    obtain ⟨v, hv, hp⟩ := popD_ints hr hl
    have pm := erase_perm hv
    have hlen : js.length = (xs.eraseIdx (stir cell (base + 1 + j) % (xs.length : Int)).toNat).length := by
      have := pm.length_eq
      simp only [List.length_cons] at this h
      omega
    obtain ⟨ys, hy, e⟩ := ih _ hlen (by rw [← hlen]; simp only [List.length_cons] at h; omega) fun i hi => hj i (List.mem_cons_of_mem _ hi)
    refine ⟨v :: ys, (hy.cons v).trans pm, ?_⟩
    have hs := v_stirL (c := cell) (k := base + 1 + j) (by omega) mu
    have hmod : oMod (.int (stir cell (base + 1 + j))) (.int xs.length) = some (.int (stir cell (base + 1 + j) % (xs.length : Int))) := oMod_int (by omega)
    rw [List.map_cons]
    unfold popL
    simp [hs, hmod]
    simp only [hp]
    simp [e]
/-! ### the ways -/
def posOf : List Int → Int → Nat
  | [], _ => 0
  | x :: xs, v => if x = v then 0 else posOf xs v + 1
theorem posOf_get : ∀ {ys : List Int} {p : Nat}, ys.Nodup → p < ys.length → posOf ys (ys.getD p 0) = p
  | [], _, _, h => by simp at h
  | y :: ys, 0, _, _ => by
    show (if y = y then 0 else _) = 0
    rw [if_pos rfl]
  | y :: ys, p + 1, hn, h => by
    obtain ⟨h1, h2⟩ := List.nodup_cons.mp hn
    have hp : p < ys.length := by simpa using h
    have e : (y :: ys).getD (p + 1) 0 = ys.getD p 0 := rfl
    rw [e]
    have hm : ys.getD p 0 ∈ ys := by
      rw [List.getD_eq_getElem?_getD, List.getElem?_eq_getElem hp]
      exact List.getElem_mem hp
    unfold posOf
    rw [if_neg (fun z => h1 (by rw [z]; exact hm)), posOf_get h2 hp]
def cod (ys : List Int) (w : Way) : Nat := if w.1 = -1 then (if w.2 = -2 then 0 else 1 + posOf ys w.2 * 10) else (if w.2 = -2 then 2 + posOf ys w.1 * 10 else 3 + posOf ys w.1 * 10 + posOf ys w.2)
def ValW (ys : List Int) (w : Way) : Prop := isWay ys.length w ∧ (0 ≤ w.1 → 0 ≤ w.2 → posOf ys w.1 < posOf ys w.2)
structure GoodC (ys : List Int) (C : Nat) (acc : List Way) : Prop where
  nd : acc.Nodup
  len : acc.length ≤ C
  all : ∀ w ∈ acc, cod ys w < C ∧ ValW ys w
theorem GoodC.mono {ys : List Int} {C D : Nat} {acc : List Way} (g : GoodC ys C acc) (h : C ≤ D) : GoodC ys D acc := ⟨g.nd, Nat.le_trans g.len h, fun w hw => ⟨Nat.lt_of_lt_of_le (g.all w hw).1 h, (g.all w hw).2⟩⟩
def opt (b : Bool) (w : Way) : List Way := if b = true then [w] else []
theorem GoodC.add {ys : List Int} {C : Nat} {acc : List Way} (g : GoodC ys C acc) {w : Way} (h : C ≤ cod ys w) (hv : ValW ys w) (b : Bool) : GoodC ys (cod ys w + 1) (acc ++ opt b w) := by
  cases b with
  | false =>
    have e : acc ++ opt false w = acc := List.append_nil _
    rw [e]
    exact g.mono (by omega)
  | true =>
    refine ⟨List.nodup_append.mpr ⟨g.nd, List.nodup_cons.mpr ⟨by simp, List.nodup_nil⟩, fun x hx y hy e => ?_⟩, ?_, fun x hx => ?_⟩
    · rw [List.mem_singleton.mp hy] at e
      subst e
      have := (g.all x hx).1
      omega
    · have := g.len
      show (acc ++ [w]).length ≤ _
      simp
      omega
    · rcases List.mem_append.mp hx with hx | hx
      · exact ⟨by have := (g.all x hx).1; omega, (g.all x hx).2⟩
      · rw [List.mem_singleton.mp hx]
        exact ⟨by omega, hv⟩
theorem rep1 (d : D) (b : Bool) : oRep (.lst [d]) (.int (if b = true then 1 else 0)) = some (.lst (if b = true then [d] else [])) := by cases b <;> rfl
theorem repP (d : D) (P : Prop) [Decidable P] : oRep (.lst [d]) (.int (if P then 1 else 0)) = some (.lst (if decide P = true then [d] else [])) := by
  by_cases h : P
  · rw [if_pos h, decide_eq_true h]; rfl
  · rw [if_neg h, decide_eq_false h]; rfl
theorem opt_map (b : Bool) (w : Way) : (if b = true then [wD w] else []) = (opt b w).map wD := by cases b <;> rfl
theorem cat_opt {acc : List Way} (h : acc.length ≤ 100) (b : Bool) (w : Way) : oCatL (.lst (acc.map wD)) (.lst (if b = true then [wD w] else [])) = some (.lst ((acc ++ opt b w).map wD)) := by
  rw [opt_map, oCatL_lst (by
    rw [List.length_map, List.length_map]
    have : (opt b w).length ≤ 1 := by
      cases b
      · exact Nat.zero_le _
      · exact Nat.le_refl _
    omega), ← List.map_append]
section
variable {ys : List Int} (hn : ys.Nodup) (hr : ∀ y ∈ ys, 0 ≤ y ∧ y < (ys.length : Int))
theorem get_mem {p : Nat} (hp : p < ys.length) : ys.getD p 0 ∈ ys := by
  rw [List.getD_eq_getElem?_getD, List.getElem?_eq_getElem hp]
  exact List.getElem_mem hp
theorem w1_ok (hn : ys.Nodup) (hr : ∀ y ∈ ys, 0 ≤ y ∧ y < (ys.length : Int)) {p : Nat} (hp : p < ys.length) : cod ys (-1, ys.getD p 0) = 1 + p * 10 ∧ ValW ys (-1, ys.getD p 0) := by
  have h := hr _ (get_mem hp)
  refine ⟨?_, ⟨⟨Int.le_refl _, (by show (-1 : Int) < (ys.length : Int); omega), .inr h, (by show (-1 : Int) ≠ ys.getD p 0; omega)⟩, fun z => by simp at z⟩⟩
  unfold cod
  show (if (-1 : Int) = -1 then (if ys.getD p 0 = -2 then 0 else 1 + posOf ys (ys.getD p 0) * 10) else _) = _
  rw [if_pos rfl, if_neg (by omega), posOf_get hn hp]
theorem w2_ok (hn : ys.Nodup) (hr : ∀ y ∈ ys, 0 ≤ y ∧ y < (ys.length : Int)) {p : Nat} (hp : p < ys.length) : cod ys (ys.getD p 0, -2) = 2 + p * 10 ∧ ValW ys (ys.getD p 0, -2) := by
  have h := hr _ (get_mem hp)
  refine ⟨?_, ⟨⟨by simp only; omega, h.2, .inl rfl, by simp only; omega⟩, fun _ z => by simp at z⟩⟩
  unfold cod
  show (if ys.getD p 0 = -1 then _ else (if (-2 : Int) = -2 then 2 + posOf ys (ys.getD p 0) * 10 else _)) = _
  rw [if_neg (by omega), if_pos rfl, posOf_get hn hp]
theorem w3_ok (hn : ys.Nodup) (hr : ∀ y ∈ ys, 0 ≤ y ∧ y < (ys.length : Int)) {p q : Nat} (hq : q < ys.length) (hpq : p < q) : cod ys (ys.getD p 0, ys.getD q 0) = 3 + p * 10 + q ∧ ValW ys (ys.getD p 0, ys.getD q 0) := by
  have h := hr _ (get_mem (p := p) (by omega))
  have h2 := hr _ (get_mem hq)
  have e1 := posOf_get hn (p := p) (by omega)
  have e2 := posOf_get hn hq
  refine ⟨?_, ⟨⟨by simp only; omega, h.2, .inr h2, fun e => ?_⟩, fun _ _ => by simp only; omega⟩⟩
  · unfold cod
    simp only
    rw [if_neg (by omega), if_neg (by omega), e1, e2]
  · simp only at e
    rw [e] at e1
    omega
end
theorem inner (cell : Int) {base : Int} (hb : 0 ≤ base) {ys : List Int} (hn : ys.Nodup) (hr : ∀ y ∈ ys, 0 ≤ y ∧ y < (ys.length : Int)) (h6 : ys.length ≤ 6) {i : Nat} (hi : i < ys.length) (dm dn d4 d6 : D) (x10 : Option D) (mu : Mu) {acc : List Way} (g : GoodC ys (3 + i * 10 + (i + 1)) acc) :
    ∃ acc' y10, GoodC ys (1 + (i + 1) * 10) acc' ∧ sForL (tName 10) L9__law_net ((List.range' (i + 1) (ys.length - (i + 1))).map fun p => D.int (p : Nat)) [some (.int cell), some (.int base), some dm, some dn, some d4, some (.lst (ys.map D.int)), some d6, some (.lst (acc.map wD)), some (.int i), some (.int (ys.getD i 0)), x10, none] mu =
      .nx [some (.int cell), some (.int base), some dm, some dn, some d4, some (.lst (ys.map D.int)), some d6, some (.lst (acc'.map wD)), some (.int i), some (.int (ys.getD i 0)), y10, none] mu := by
  obtain ⟨Inv, hI⟩ : ∃ I : List D → Rho → Mu → Prop, I = fun rem rho m => ∃ (j : Nat) (acc : List Way) (x10 : Option D), m = mu ∧ rho = [some (.int cell), some (.int base), some dm, some dn, some d4, some (.lst (ys.map D.int)), some d6, some (.lst (acc.map wD)), some (.int i), some (.int (ys.getD i 0)), x10, none] ∧
      (i + 1 ≤ j ∧ j + rem.length = ys.length ∧ rem = (List.range' j rem.length).map fun p => D.int (p : Nat)) ∧ GoodC ys (3 + i * 10 + j) acc := ⟨_, rfl⟩
  obtain ⟨rho', mu', h1, hfin⟩ := sForL_invE (t := tName 10) (f := L9__law_net) Inv (fun d ds' rho m hh => by
    rw [hI] at hh
    obtain ⟨j, acc, x10, rfl, rfl, ⟨hj, hjl, hrem⟩, g⟩ := hh
    have e : (d :: ds').length = ds'.length + 1 := rfl
    rw [e, List.range'_succ, List.map_cons] at hrem
    obtain ⟨rfl, htl⟩ := List.cons.inj hrem
    have hjn : j < ys.length := by simp at hjl; omega
    obtain ⟨hc, hv⟩ := w3_ok hn hr hjn (p := i) (by omega)
    have sb := stir_bd cell (base + 30 + 7 * (i : Int) + j)
    have vs := v_stirL (c := cell) (k := base + 30 + 7 * (i : Int) + j) (by omega) m
    generalize stir cell (base + 30 + 7 * (i : Int) + j) = s at sb vs
    have d1 : oMod (.int s) (.int 2) = some (.int (s % 2)) := oMod_int (by decide)
    have d2 : oMul (.int 7) (.int (i : Int)) = some (.int (7 * (i : Int))) := oMul_int (okMul_l (by decide))
    have ix : oIx (.lst (ys.map D.int)) (.int (j : Nat)) = some (.int (ys.getD j 0)) := oIx_lst (by
      rw [List.getElem?_map, List.getElem?_eq_getElem hjn, List.getD_eq_getElem?_getD, List.getElem?_eq_getElem hjn]; rfl)
    have g2 := g.add (w := (ys.getD i 0, ys.getD j 0)) (by omega) hv (decide (s % 2 = 0))
    rw [hc] at g2
    have hl := g.len
    have rp := repP (.tup [.int (ys.getD i 0), .int (ys.getD j 0)]) (s % 2 = 0)
    have ct' : oCatL (.lst (acc.map wD)) (.lst (if decide (s % 2 = 0) = true then [D.tup [.int (ys.getD i 0), .int (ys.getD j 0)]] else [])) = some (.lst ((acc ++ opt (decide (s % 2 = 0)) (ys.getD i 0, ys.getD j 0)).map wD)) := cat_opt (acc := acc) (by omega) (decide (s % 2 = 0)) (ys.getD i 0, ys.getD j 0)
    have goal : Inv ds' [some (.int cell), some (.int base), some dm, some dn, some d4, some (.lst (ys.map D.int)), some d6, some (.lst ((acc ++ opt (decide (s % 2 = 0)) (ys.getD i 0, ys.getD j 0)).map wD)), some (.int i), some (.int (ys.getD i 0)), some (.int j), none] m := by
      rw [hI]
      exact ⟨j + 1, _, _, rfl, rfl, ⟨by omega, by simp at hjl; omega, htl⟩, g2.mono (by omega)⟩
    generalize (acc ++ opt (decide (s % 2 = 0)) (ys.getD i 0, ys.getD j 0)).map wD = acc2 at ct' goal
    generalize (if decide (s % 2 = 0) = true then [D.tup [.int (ys.getD i 0), .int (ys.getD j 0)]] else []) = added at rp ct'
    generalize ys.getD i 0 = a at *
    generalize ys.getD j 0 = b at *
    simp [L9__law_net, vs, d1, d2, ix, rp, ct']
    exact goal) ((List.range' (i + 1) (ys.length - (i + 1))).map fun p => D.int (p : Nat)) _ mu (by rw [hI]; exact ⟨i + 1, acc, x10, rfl, rfl, ⟨Nat.le_refl _, by simp; omega, by simp⟩, g⟩)
  rw [hI] at hfin
  obtain ⟨j, acc', y10, rfl, rfl, hj, g'⟩ := hfin
  exact ⟨acc', y10, g'.mono (by simp at hj; omega), h1⟩
theorem enumD_ints (ys : List Int) : enumD (ys.map D.int) = (List.range' 0 ys.length).map fun p => D.tup [.int (p : Nat), .int (ys.getD p 0)] := by
  refine List.ext_getElem? fun i => ?_
  rw [enumD_get, List.getElem?_map, List.getElem?_map]
  by_cases hi : i < ys.length
  · rw [List.getElem?_eq_getElem hi, List.getElem?_range' hi]
    simp [hi]
  · rw [List.getElem?_eq_none (by omega), List.getElem?_eq_none (by simp; omega)]
    rfl
theorem intsD_range' (lo n : Nat) : intsD (lo : Int) n = (List.range' lo n).map fun p => D.int (p : Nat) := by
  unfold intsD
  rw [List.range'_eq_map_range, List.map_map]
  refine List.map_congr_left fun i _ => ?_
  show D.int ((lo : Int) + (i : Nat)) = D.int ((lo + i : Nat) : Int)
  rw [Int.natCast_add]
theorem outer (cell : Int) {base : Int} (hb : 0 ≤ base) {ys : List Int} (hn : ys.Nodup) (hr : ∀ y ∈ ys, 0 ≤ y ∧ y < (ys.length : Int)) (h6 : ys.length ≤ 6) (dm d4 d6 : D) (mu : Mu) {acc : List Way} (g : GoodC ys 1 acc) :
    ∃ acc' y8 y9 y10, GoodC ys (1 + ys.length * 10) acc' ∧ sForL (tTupN [8, 9]) L6__law_net (enumD (ys.map D.int)) [some (.int cell), some (.int base), some dm, some (.int ys.length), some d4, some (.lst (ys.map D.int)), some d6, some (.lst (acc.map wD)), none, none, none, none] mu =
      .nx [some (.int cell), some (.int base), some dm, some (.int ys.length), some d4, some (.lst (ys.map D.int)), some d6, some (.lst (acc'.map wD)), y8, y9, y10, none] mu := by
  rw [enumD_ints]
  obtain ⟨Inv, hI⟩ : ∃ I : List D → Rho → Mu → Prop, I = fun rem rho m => ∃ (i : Nat) (acc : List Way) (x8 x9 x10 : Option D), m = mu ∧ rho = [some (.int cell), some (.int base), some dm, some (.int ys.length), some d4, some (.lst (ys.map D.int)), some d6, some (.lst (acc.map wD)), x8, x9, x10, none] ∧
      (i + rem.length = ys.length ∧ rem = (List.range' i rem.length).map fun p => D.tup [.int (p : Nat), .int (ys.getD p 0)]) ∧ GoodC ys (1 + i * 10) acc := ⟨_, rfl⟩
  obtain ⟨rho', mu', h1, hfin⟩ := sForL_invE (t := tTupN [8, 9]) (f := L6__law_net) Inv (fun d ds' rho m hh => by
    rw [hI] at hh
    obtain ⟨i, acc, x8, x9, x10, rfl, rfl, ⟨hil, hrem⟩, g⟩ := hh
    have e : (d :: ds').length = ds'.length + 1 := rfl
    rw [e, List.range'_succ, List.map_cons] at hrem
    obtain ⟨rfl, htl⟩ := List.cons.inj hrem
    have hi : i < ys.length := by simp at hil; omega
    obtain ⟨hc1, hv1⟩ := w1_ok hn hr hi
    obtain ⟨hc2, hv2⟩ := w2_ok hn hr hi
    have sb := stir_bd cell (base + 16 + i)
    have vs := v_stirL (c := cell) (k := base + 16 + i) (by omega) m
    generalize stir cell (base + 16 + i) = s at sb vs
    have sb' := stir_bd cell (base + 23 + i)
    have vs' := v_stirL (c := cell) (k := base + 23 + i) (by omega) m
    generalize stir cell (base + 23 + i) = s' at sb' vs'
    have d1 : ∀ z, oMod (.int z) (.int 3) = some (.int (z % 3)) := fun z => oMod_int (by decide)
    have hl := g.len
    have g1 := g.add (w := (-1, ys.getD i 0)) (by omega) hv1 (decide (0 < s % 3))
    rw [hc1] at g1
    have hl1 := g1.len
    have g2 := g1.add (w := (ys.getD i 0, -2)) (by omega) hv2 (decide (0 < s' % 3))
    rw [hc2] at g2
    have rp1 := repP (.tup [.int (-1), .int (ys.getD i 0)]) (0 < s % 3)
    have rp2 := repP (.tup [.int (ys.getD i 0), .int (-2)]) (0 < s' % 3)
    have ct1 : oCatL (.lst (acc.map wD)) (.lst (if decide (0 < s % 3) = true then [D.tup [.int (-1), .int (ys.getD i 0)]] else [])) = some (.lst ((acc ++ opt (decide (0 < s % 3)) (-1, ys.getD i 0)).map wD)) := cat_opt (acc := acc) (by omega) (decide (0 < s % 3)) (-1, ys.getD i 0)
    generalize hacc1 : acc ++ opt (decide (0 < s % 3)) (-1, ys.getD i 0) = acc1 at g1 g2 ct1 hl1
    have ct2 : oCatL (.lst (acc1.map wD)) (.lst (if decide (0 < s' % 3) = true then [D.tup [.int (ys.getD i 0), .int (-2)]] else [])) = some (.lst ((acc1 ++ opt (decide (0 < s' % 3)) (ys.getD i 0, -2)).map wD)) := cat_opt (acc := acc1) (by omega) (decide (0 < s' % 3)) (ys.getD i 0, -2)
    generalize acc1 ++ opt (decide (0 < s' % 3)) (ys.getD i 0, -2) = acc2 at g2 ct2
    obtain ⟨acc3, y10, g3, hin⟩ := inner cell hb hn hr h6 hi dm (.int ys.length) d4 d6 x10 m (acc := acc2) (g2.mono (by omega))
    have hrg : intsD ((i : Int) + 1) ((ys.length : Int) - ((i : Int) + 1)).toNat = (List.range' (i + 1) (ys.length - (i + 1))).map fun p => D.int (p : Nat) := by
      have e1 : ((i : Int) + 1) = ((i + 1 : Nat) : Int) := by omega
      have e2 : ((ys.length : Int) - ((i : Int) + 1)).toNat = ys.length - (i + 1) := by omega
      rw [e2, e1, intsD_range']
    have s1 : small62 ((i : Int) + 1) = true := small62_of (by omega)
    have s2 : small62 (ys.length : Int) = true := small62_of (by omega)
    have goal : Inv ds' [some (.int cell), some (.int base), some dm, some (.int ys.length), some d4, some (.lst (ys.map D.int)), some d6, some (.lst (acc3.map wD)), some (.int i), some (.int (ys.getD i 0)), y10, none] m := by
      rw [hI]
      exact ⟨i + 1, _, _, _, _, rfl, rfl, ⟨by simp at hil; omega, htl⟩, g3⟩
    generalize (if decide (0 < s % 3) = true then [D.tup [.int (-1), .int (ys.getD i 0)]] else []) = added1 at rp1 ct1
    generalize (if decide (0 < s' % 3) = true then [D.tup [.int (ys.getD i 0), .int (-2)]] else []) = added2 at rp2 ct2
    rw [← hrg] at hin
    generalize ys.getD i 0 = a at *
    simp [L6__law_net, vs, vs', d1, rp1, rp2, ct1, ct2, s1, s2, hin]
    exact goal) ((List.range' 0 ys.length).map fun p => D.tup [.int (p : Nat), .int (ys.getD p 0)]) _ mu (by rw [hI]; exact ⟨0, acc, none, none, none, rfl, rfl, ⟨by simp, by simp⟩, g⟩)
  rw [hI] at hfin
  obtain ⟨i, acc', y8, y9, y10, rfl, rfl, hi, g'⟩ := hfin
  exact ⟨acc', y8, y9, y10, g'.mono (by simp at hi; omega), h1⟩
theorem v_law_net (cell : Int) {base most : Int} (hb : 0 ≤ base) (hm : 0 ≤ most ∧ most ≤ 6) (mu : Mu) : ∃ st ws, OkNet st ws ∧ Sp2 ws ∧ V__law_net [.int cell, .int base, .int most] mu = .ok (.tup [.lst (st.map D.str), .lst (ws.map wD)]) mu := by
  have sb := stir_bd cell base
  have hmr : 0 ≤ stir cell base % (most + 1) ∧ stir cell base % (most + 1) ≤ 6 := ⟨Int.emod_nonneg _ (by omega), by
    have := Int.emod_lt_of_pos (stir cell base) (show 0 < most + 1 by omega)
    omega⟩
  have dm : oMod (.int (stir cell base)) (.int (most + 1)) = some (.int (stir cell base % (most + 1))) := oMod_int (by omega)
  obtain ⟨n, hn⟩ := Int.eq_ofNat_of_zero_le hmr.1
  rw [hn] at dm hmr
  have h6 : n ≤ 6 := by omega
  obtain ⟨ys, hp, hpop⟩ := pop_net cell hb (.int most) (.int n) mu ((List.range n).map fun i => (0 : Int) + (i : Nat)) ((List.range n).map fun i => (0 : Int) + (i : Nat)) rfl (by simp; omega) (fun j hj => by
    obtain ⟨i, _, rfl⟩ := List.mem_map.mp hj
    omega)
  have hyl : ys.length = n := by rw [hp.length_eq]; simp
  have hnd : ys.Nodup := hp.nodup_iff.mpr (by
    refine List.Pairwise.map _ (fun a b hab e => hab ?_) List.nodup_range
    omega)
  have hr : ∀ y ∈ ys, 0 ≤ y ∧ y < (ys.length : Int) := fun y hy => by
    obtain ⟨i, hi, rfl⟩ := List.mem_map.mp (hp.mem_iff.mp hy)
    have := List.mem_range.mp hi
    rw [hyl]
    omega
  rw [← intsD_map] at hpop
  have vs15 := v_stirL (c := cell) (k := base + 15) (by omega) mu
  generalize stir cell (base + 15) = s15 at vs15
  have d4 : oMod (.int s15) (.int 4) = some (.int (s15 % 4)) := oMod_int (by decide)
  have rp := repP (.tup [.int (-1), .int (-2)]) (s15 % 4 = 0)
  have g0 : GoodC ys 1 (opt (decide (s15 % 4 = 0)) (-1, -2)) := by
    cases decide (s15 % 4 = 0) with
    | false => exact ⟨List.nodup_nil, Nat.zero_le _, fun w h => nomatch h⟩
    | true =>
      refine ⟨List.nodup_cons.mpr ⟨by simp, List.nodup_nil⟩, Nat.le_refl _, fun w h => ?_⟩
      rw [List.mem_singleton.mp h]
      refine ⟨(by show cod ys (-1, -2) < 1; unfold cod; simp), ⟨⟨Int.le_refl _, (by show (-1 : Int) < (ys.length : Int); omega), .inl rfl, by decide⟩, fun z => by simp at z⟩⟩
  have om : (if decide (s15 % 4 = 0) = true then [D.tup [.int (-1), .int (-2)]] else []) = (opt (decide (s15 % 4 = 0)) (-1, -2)).map wD := opt_map (decide (s15 % 4 = 0)) (-1, -2)
  rw [om] at rp
  let pk : Int → Str := fun j => if stir cell (base + 8 + j) % 2 = 0 then "pile" else "line"
  have hst : lcL (tName 11) dtYes (dNf (dOp2 oIx (dLst (daCons (dK (.str "pile")) (daCons (dK (.str "line")) daNil))) (dOp2 oMod (dCall 2 V__law_stir (daCons (dVar 0) (daCons (dOp2 oAdd (dOp2 oAdd (dVar 1) (dK (.int 8))) (dVar 11)) daNil))) (dK (.int 2)))))
      [some (.int cell), some (.int base), some (.int most), some (.int n), some (.lst []), some (.lst (ys.map D.int)), none, none, none, none, none, none] (intsD 0 n) mu = .ok ((((List.range n).map fun i => (0 : Int) + (i : Nat)).map pk).map D.str) mu := by
    rw [intsD_map, List.map_map (g := D.str)]
    refine lcL_allE D.int (D.str ∘ pk) _ fun j hj => ?_
    obtain ⟨i, _, rfl⟩ := List.mem_map.mp hj
    have vs := v_stirL (c := cell) (k := base + 8 + ((0 : Int) + (i : Nat))) (by omega) mu
    have d2 : oMod (.int (stir cell (base + 8 + ((0 : Int) + (i : Nat))))) (.int 2) = some (.int (stir cell (base + 8 + ((0 : Int) + (i : Nat))) % 2)) := oMod_int (by decide)
    have ix : oIx (.lst [.str "pile", .str "line"]) (.int (stir cell (base + 8 + ((0 : Int) + (i : Nat))) % 2)) = some (.str (pk ((0 : Int) + (i : Nat)))) := by
      have : stir cell (base + 8 + ((0 : Int) + (i : Nat))) % 2 = 0 ∨ stir cell (base + 8 + ((0 : Int) + (i : Nat))) % 2 = 1 := by omega
      rcases this with h | h
      · have e : pk ((0 : Int) + (i : Nat)) = "pile" := if_pos h
        rw [e, h]; rfl
      · have e : pk ((0 : Int) + (i : Nat)) = "line" := if_neg (by omega)
        rw [e, h]; rfl
    generalize (0 : Int) + (i : Nat) = j at *
    simp [vs, d2, ix]
  have hwd : ∀ s ∈ (((List.range n).map fun i => (0 : Int) + (i : Nat)).map pk), s = "pile" ∨ s = "line" := fun s hs => by
    obtain ⟨j, _, rfl⟩ := List.mem_map.mp hs
    by_cases h : stir cell (base + 8 + j) % 2 = 0
    · exact .inl (if_pos h)
    · exact .inr (if_neg h)
  have hstl : (((List.range n).map fun i => (0 : Int) + (i : Nat)).map pk).length = n := by simp
  generalize (((List.range n).map fun i => (0 : Int) + (i : Nat)).map pk) = st at hst hwd hstl
  obtain ⟨acc, y8, y9, y10, g, ho⟩ := outer cell hb hnd hr (by omega) (.int most) (.lst []) (.lst (st.map D.str)) mu g0
  rw [hyl] at ho g
  have hal := g.len
  refine ⟨st, sortP acc, ⟨hwd, by omega, fun w hw => ?_, ?_, by rw [sortP_len]; omega, ⟨posOf ys, fun w hw => ?_⟩⟩, sortP_sorted acc, ?_⟩
  · have := ((g.all w ((sortP_perm acc).mem_iff.mp hw)).2).1
    rw [hyl] at this
    rw [hstl]
    exact this
  · exact (sortP_perm acc).nodup_iff.mpr g.nd
  · exact ((g.all w ((sortP_perm acc).mem_iff.mp hw)).2).2
  unfold V__law_net
  rw [den_ap]
  have hso : oSortP (.lst (acc.map wD)) = some (.lst ((sortP acc).map wD)) := oSortP_sorted
  have s62 : small62 (n : Int) = true := small62_of (by omega)
  have z1 : (n : Int) ≤ 16777216 := by omega
  have z2 : n ≤ 16777216 := by omega
  have z3 : (intsD 0 n).length = n := intsD_len 0 n
  have ge : stir cell base % (most + 1) = (n : Int) := hn
  have vs0 := v_stirL (c := cell) (k := base) hb mu
  generalize stir cell base = s0 at dm vs0
  simp [S__law_net, oPop, vs0, dm, s62, z1, z2, z3, hpop, hst, vs15, d4, rp, ho, hso]
end Lb

namespace K75
open PySem PySem.Spec PyProof.Rows L2 Dv
def top (i : Nat) : Stmt := PySem.Challenge.pw_pilenets_k75_nets_written.main.body.getD i (.Pass ⟨0, 0, 0, 0⟩)
/-! is_way -/
abbrev s_is_way : Stmt := top 6
abbrev n_is_way : List Str := ["many", "way", "a", "b"]
theorem sc_is_way : FnScope n_is_way ["many", "way"] (defScope s_is_way) := ⟨rfl, rfl, rfl, by decide +kernel, rfl, by decide +kernel, by decide +kernel⟩
abbrev V_is_way : Den := Lb.V_is_way
/-! leads_round -/
abbrev s_leads_round : Stmt := top 7
abbrev n_leads_round : List Str := ["many", "ways", "left", "last", "ends", "a", "b", "station"]
theorem sc_leads_round : FnScope n_leads_round ["many", "ways"] (defScope s_leads_round) := ⟨rfl, rfl, rfl, by decide +kernel, rfl, by decide +kernel, by decide +kernel⟩
abbrev V_leads_round : Den := Lb.V_leads_round
/-! net_of -/
abbrev s_net_of : Stmt := top 8
abbrev n_net_of : List Str := ["stations", "ways", "word", "way"]
theorem sc_net_of : FnScope n_net_of ["stations", "ways"] (defScope s_net_of) := ⟨rfl, rfl, rfl, by decide +kernel, rfl, by decide +kernel, by decide +kernel⟩
abbrev V_net_of : Den := Lb.V_net_of
/-! end_text -/
abbrev s_end_text : Stmt := top 16
abbrev n_end_text : List Str := ["place"]
theorem sc_end_text : FnScope n_end_text ["place"] (defScope s_end_text) := ⟨rfl, rfl, rfl, by decide +kernel, rfl, by decide +kernel, by decide +kernel⟩
abbrev V_end_text : Den := Lb.V_end_text
/-! way_text -/
abbrev s_way_text : Stmt := top 17
abbrev n_way_text : List Str := ["way"]
theorem sc_way_text : FnScope n_way_text ["way"] (defScope s_way_text) := ⟨rfl, rfl, rfl, by decide +kernel, rfl, by decide +kernel, by decide +kernel⟩
abbrev V_way_text : Den := Lb.V_way_text
/-! listed -/
abbrev s_listed : Stmt := top 18
abbrev n_listed : List Str := ["words", "between"]
theorem sc_listed : FnScope n_listed ["words", "between"] (defScope s_listed) := ⟨rfl, rfl, rfl, by decide +kernel, rfl, by decide +kernel, by decide +kernel⟩
abbrev V_listed : Den := Lb.V_listed
/-! net_text -/
abbrev s_net_text : Stmt := top 19
abbrev n_net_text : List Str := ["net", "stations", "ways", "ahead", "word", "way"]
theorem sc_net_text : FnScope n_net_text ["net"] (defScope s_net_text) := ⟨rfl, rfl, rfl, by decide +kernel, rfl, by decide +kernel, by decide +kernel⟩
abbrev V_net_text : Den := Lb.V_net_text
/-! figures_told -/
abbrev s_figures_told : Stmt := top 20
abbrev n_figures_told : List Str := ["word", "sign"]
theorem sc_figures_told : FnScope n_figures_told ["word"] (defScope s_figures_told) := ⟨rfl, rfl, rfl, by decide +kernel, rfl, by decide +kernel, by decide +kernel⟩
abbrev V_figures_told : Den := Lb.V_figures_told
/-! way_told -/
abbrev s_way_told : Stmt := top 21
abbrev n_way_told : List Str := ["text", "ends", "a", "b"]
theorem sc_way_told : FnScope n_way_told ["text"] (defScope s_way_told) := ⟨rfl, rfl, rfl, by decide +kernel, rfl, by decide +kernel, by decide +kernel⟩
abbrev V_way_told : Den := Lb.V_way_told
/-! parts_told -/
abbrev s_parts_told : Stmt := top 22
abbrev n_parts_told : List Str := ["text", "between"]
theorem sc_parts_told : FnScope n_parts_told ["text", "between"] (defScope s_parts_told) := ⟨rfl, rfl, rfl, by decide +kernel, rfl, by decide +kernel, by decide +kernel⟩
abbrev V_parts_told : Den := Lb.V_parts_told
/-! stations_told -/
abbrev s_stations_told : Stmt := top 23
abbrev n_stations_told : List Str := ["text", "words", "word"]
theorem sc_stations_told : FnScope n_stations_told ["text"] (defScope s_stations_told) := ⟨rfl, rfl, rfl, by decide +kernel, rfl, by decide +kernel, by decide +kernel⟩
abbrev V_stations_told : Den := Lb.V_stations_told
/-! read_net -/
abbrev s_read_net : Stmt := top 24
abbrev n_read_net : List Str := ["text", "parts", "stations", "part"]
theorem sc_read_net : FnScope n_read_net ["text"] (defScope s_read_net) := ⟨rfl, rfl, rfl, by decide +kernel, rfl, by decide +kernel, by decide +kernel⟩
abbrev V_read_net : Den := Lb.V_read_net
/-! _law_stir -/
abbrev s__law_stir : Stmt := top 26
abbrev n__law_stir : List Str := ["cell", "k", "number"]
theorem sc__law_stir : FnScope n__law_stir ["cell", "k"] (defScope s__law_stir) := ⟨rfl, rfl, rfl, by decide +kernel, rfl, by decide +kernel, by decide +kernel⟩
abbrev V__law_stir : Den := Lb.V__law_stir
/-! _law_net -/
abbrev s__law_net : Stmt := top 27
abbrev n__law_net : List Str := ["cell", "base", "most", "many", "left", "order", "stations", "ways", "i", "a", "j", "k"]
theorem sc__law_net : FnScope n__law_net ["cell", "base", "most"] (defScope s__law_net) := ⟨rfl, rfl, rfl, by decide +kernel, rfl, by decide +kernel, by decide +kernel⟩
abbrev V__law_net : Den := Lb.V__law_net
/-! _law_copy -/
abbrev s__law_copy : Stmt := top 28
abbrev n__law_copy : List Str := ["net"]
theorem sc__law_copy : FnScope n__law_copy ["net"] (defScope s__law_copy) := ⟨rfl, rfl, rfl, by decide +kernel, rfl, by decide +kernel, by decide +kernel⟩
abbrev V__law_copy : Den := Lb.V__law_copy
/-! _law_is_net -/
abbrev s__law_is_net : Stmt := top 29
abbrev n__law_is_net : List Str := ["found", "due", "way"]
theorem sc__law_is_net : FnScope n__law_is_net ["found", "due"] (defScope s__law_is_net) := ⟨rfl, rfl, rfl, by decide +kernel, rfl, by decide +kernel, by decide +kernel⟩
abbrev V__law_is_net : Den := Lb.V__law_is_net
/-! _law_end -/
abbrev s__law_end : Stmt := top 30
abbrev n__law_end : List Str := ["place"]
theorem sc__law_end : FnScope n__law_end ["place"] (defScope s__law_end) := ⟨rfl, rfl, rfl, by decide +kernel, rfl, by decide +kernel, by decide +kernel⟩
abbrev V__law_end : Den := Lb.V__law_end
/-! _law_way -/
abbrev s__law_way : Stmt := top 31
abbrev n__law_way : List Str := ["way"]
theorem sc__law_way : FnScope n__law_way ["way"] (defScope s__law_way) := ⟨rfl, rfl, rfl, by decide +kernel, rfl, by decide +kernel, by decide +kernel⟩
abbrev V__law_way : Den := Lb.V__law_way
/-! _law_net_text -/
abbrev s__law_net_text : Stmt := top 32
abbrev n__law_net_text : List Str := ["net", "ahead", "word", "way"]
theorem sc__law_net_text : FnScope n__law_net_text ["net"] (defScope s__law_net_text) := ⟨rfl, rfl, rfl, by decide +kernel, rfl, by decide +kernel, by decide +kernel⟩
abbrev V__law_net_text : Den := Lb.V__law_net_text
/-! law -/
abbrev s_law : Stmt := top 33
abbrev n_law : List Str := ["script", "cells", "cell", "net", "due", "handed", "turn", "told", "found"]
theorem sc_law : FnScope n_law ["script"] (defScope s_law) := ⟨rfl, rfl, rfl, by decide +kernel, rfl, by decide +kernel, by decide +kernel⟩
def L8_law : DS :=
    (sSeq (sSet 7 (dCall 1 V_net_text (daCons (dVar 5) daNil)))
    (sSeq (sIf (dOr (dNot (dB (dOp1 (oIsi "str") (dVar 7)))) (dOr (dCmp oNe (dVar 7) (dVar 4)) (dCmp oNe (dVar 5) (dVar 3))))
    (sRet (dK (.bl false)))
    sNil)
    (sSeq (sSet 8 (dCall 1 V_read_net (daCons (dVar 4) daNil)))
    (sSeq (sIf (dNot (dB (dCall 2 V__law_is_net (daCons (dVar 8) (daCons (dVar 3) daNil)))))
    (sRet (dK (.bl false)))
    sNil)
    (sSeq (sNApp 8 0 (dK (.str "line")))
    (sNClr 8 1))))))
def L4_law : DS :=
    (sSeq (sSet 3 (dCall 3 V__law_net (daCons (dVar 2) (daCons (dK (.int 0)) (daCons (dK (.int 6)) daNil)))))
    (sSeq (sSet 4 (dCall 1 V__law_net_text (daCons (dVar 3) daNil)))
    (sSeq (sSet 5 (dCall 1 V__law_copy (daCons (dVar 3) daNil)))
    (sFor (daRange1 (dK (.int 2))) (tName 6) L8_law))))
def S_law : DS :=
    (sSeq (sSet 1 (dSl oSlL (dVar 0) doNone (doSome (dK (.int 12)))))
    (sSeq (sIf (dCmp oEq (dVar 1) (dLst daNil))
    (sTop 1 (sSet 1 (dLst (daCons (dK (.int 0)) daNil))))
    sNil)
    (sSeq (sFor (daSeq (dVar 1)) (tName 2) L4_law)
    (sRet (dV (dAnd (dB (dV (dCmp oEq (dCall 1 V_net_text (daCons (dTup (daCons (dLst daNil) (daCons (dLst daNil) daNil))) daNil)) (dK (.str "- -"))))) (dB (dV (dCmp oEq (dCall 1 V_read_net (daCons (dK (.str "- in>out")) daNil)) (dTup (daCons (dLst daNil) (daCons (dLst (daCons (dTup (daCons (dOp1 oNeg (dK (.int 1))) (daCons (dOp1 oNeg (dK (.int 2))) daNil))) daNil)) daNil))))))))))))
def V_law : Den := denF false 1 9 S_law
/-! ### the head: facts by names -/
def d_is_way : He.DefD := ⟨("is_way", none), "is_way", "is_way", defArgs s_is_way, defBody s_is_way, defScope s_is_way, [], []⟩
def d_leads_round : He.DefD := ⟨("leads_round", none), "leads_round", "leads_round", defArgs s_leads_round, defBody s_leads_round, defScope s_leads_round, [], []⟩
def d_net_of : He.DefD := ⟨("net_of", none), "net_of", "net_of", defArgs s_net_of, defBody s_net_of, defScope s_net_of, [], []⟩
def d_end_text : He.DefD := ⟨("end_text", none), "end_text", "end_text", defArgs s_end_text, defBody s_end_text, defScope s_end_text, [], []⟩
def d_way_text : He.DefD := ⟨("way_text", none), "way_text", "way_text", defArgs s_way_text, defBody s_way_text, defScope s_way_text, [], []⟩
def d_listed : He.DefD := ⟨("listed", none), "listed", "listed", defArgs s_listed, defBody s_listed, defScope s_listed, [], []⟩
def d_net_text : He.DefD := ⟨("net_text", none), "net_text", "net_text", defArgs s_net_text, defBody s_net_text, defScope s_net_text, [], []⟩
def d_figures_told : He.DefD := ⟨("figures_told", none), "figures_told", "figures_told", defArgs s_figures_told, defBody s_figures_told, defScope s_figures_told, [], []⟩
def d_way_told : He.DefD := ⟨("way_told", none), "way_told", "way_told", defArgs s_way_told, defBody s_way_told, defScope s_way_told, [], []⟩
def d_parts_told : He.DefD := ⟨("parts_told", none), "parts_told", "parts_told", defArgs s_parts_told, defBody s_parts_told, defScope s_parts_told, [], []⟩
def d_stations_told : He.DefD := ⟨("stations_told", none), "stations_told", "stations_told", defArgs s_stations_told, defBody s_stations_told, defScope s_stations_told, [], []⟩
def d_read_net : He.DefD := ⟨("read_net", none), "read_net", "read_net", defArgs s_read_net, defBody s_read_net, defScope s_read_net, [], []⟩
def d__law_stir : He.DefD := ⟨("_law_stir", none), "_law_stir", "_law_stir", defArgs s__law_stir, defBody s__law_stir, defScope s__law_stir, [], []⟩
def d__law_net : He.DefD := ⟨("_law_net", none), "_law_net", "_law_net", defArgs s__law_net, defBody s__law_net, defScope s__law_net, [], []⟩
def d__law_copy : He.DefD := ⟨("_law_copy", none), "_law_copy", "_law_copy", defArgs s__law_copy, defBody s__law_copy, defScope s__law_copy, [], []⟩
def d__law_is_net : He.DefD := ⟨("_law_is_net", none), "_law_is_net", "_law_is_net", defArgs s__law_is_net, defBody s__law_is_net, defScope s__law_is_net, [], []⟩
def d__law_end : He.DefD := ⟨("_law_end", none), "_law_end", "_law_end", defArgs s__law_end, defBody s__law_end, defScope s__law_end, [], []⟩
def d__law_way : He.DefD := ⟨("_law_way", none), "_law_way", "_law_way", defArgs s__law_way, defBody s__law_way, defScope s__law_way, [], []⟩
def d__law_net_text : He.DefD := ⟨("_law_net_text", none), "_law_net_text", "_law_net_text", defArgs s__law_net_text, defBody s__law_net_text, defScope s__law_net_text, [], []⟩
def d_law : He.DefD := ⟨("law", none), "law", "law", defArgs s_law, defBody s_law, defScope s_law, [], []⟩
def fn : List He.DefD := [d_is_way, d_leads_round, d_net_of, d_end_text, d_way_text, d_listed, d_net_text, d_figures_told, d_way_told, d_parts_told, d_stations_told, d_read_net, d__law_stir, d__law_net, d__law_copy, d__law_is_net, d__law_end, d__law_way, d__law_net_text, d_law]
def fa : List He.Fa := [.int "OUT_nets" (-2), .glo "is_way", .free "list", .free "range", .free "len", .glo "leads_round", .exc "NoNet", .glo "NoNet", .free "set", .free "sorted", .glo "net_of", .int "IN" (-1), .int "OUT_texts" (-2), .free "str", .glo "end_text", .glo "way_text", .str "NONE" "-", .glo "listed", .glo "net_text", .int "MOST_FIGURES" 30, .str "FIGURES" "0123456789", .exc "NoText", .glo "NoText", .free "int", .glo "figures_told", .glo "way_told", .glo "parts_told", .glo "WORDS", .glo "stations_told", .glo "read_net", .glo "_law_stir", .free "enumerate", .glo "_law_net", .glo "_law_copy", .free "isinstance", .free "tuple", .free "bool", .glo "_law_is_net", .glo "_law_end", .glo "_law_way", .glo "_law_net_text", .glo "law"]
def ex (K : PySem.W.Frag) : Bool := He.tupB K "WORDS" (((["pile", "line"] : List Str)).map He.Dv.str)
structure Tx (K : PySem.W.Frag) (mg : Str → Option Value) (h : Heap) : Prop where
  X : K.In h
  G : h.Ns mainGlobals mg
  z : Dv.SaysX fa fn ex K
theorem Tx.c {K : PySem.W.Frag} {mg : Str → Option Value} {h : Heap} (T : Tx K mg h) : He.SaysD fa fn K := T.z.d
section
variable {K : PySem.W.Frag} {mg : Str → Option Value} {h : Heap}
theorem m_OUT_nets (T : Tx K mg h) : ∃ t, mg "OUT_nets" = some (.int (-2) t) := He.int_ok T.X T.G (T.c.fact 0 (f := .int "OUT_nets" (-2)) rfl)
theorem m_is_way (T : Tx K mg h) : mg "is_way" = some (.ref (He.ga K "is_way")) := He.glo_ok T.X T.G (T.c.fact 1 (f := .glo "is_way") rfl)
theorem m_list (T : Tx K mg h) : mg "list" = none := He.free_ok T.X T.G (T.c.fact 2 (f := .free "list") rfl)
theorem m_range (T : Tx K mg h) : mg "range" = none := He.free_ok T.X T.G (T.c.fact 3 (f := .free "range") rfl)
theorem m_len (T : Tx K mg h) : mg "len" = none := He.free_ok T.X T.G (T.c.fact 4 (f := .free "len") rfl)
theorem m_leads_round (T : Tx K mg h) : mg "leads_round" = some (.ref (He.ga K "leads_round")) := He.glo_ok T.X T.G (T.c.fact 5 (f := .glo "leads_round") rfl)
theorem x_NoNet (T : Tx K mg h) : (He.Fa.exc "NoNet").ok K = true := T.c.fact 6 (f := .exc "NoNet") rfl
theorem m_NoNet (T : Tx K mg h) : mg "NoNet" = some (.ref (He.ga K "NoNet")) := He.glo_ok T.X T.G (T.c.fact 7 (f := .glo "NoNet") rfl)
theorem m_set (T : Tx K mg h) : mg "set" = none := He.free_ok T.X T.G (T.c.fact 8 (f := .free "set") rfl)
theorem m_sorted (T : Tx K mg h) : mg "sorted" = none := He.free_ok T.X T.G (T.c.fact 9 (f := .free "sorted") rfl)
theorem m_net_of (T : Tx K mg h) : mg "net_of" = some (.ref (He.ga K "net_of")) := He.glo_ok T.X T.G (T.c.fact 10 (f := .glo "net_of") rfl)
theorem m_IN (T : Tx K mg h) : ∃ t, mg "IN" = some (.int (-1) t) := He.int_ok T.X T.G (T.c.fact 11 (f := .int "IN" (-1)) rfl)
theorem m_OUT_texts (T : Tx K mg h) : ∃ t, mg "OUT_texts" = some (.int (-2) t) := He.int_ok T.X T.G (T.c.fact 12 (f := .int "OUT_texts" (-2)) rfl)
theorem m_str (T : Tx K mg h) : mg "str" = none := He.free_ok T.X T.G (T.c.fact 13 (f := .free "str") rfl)
theorem m_end_text (T : Tx K mg h) : mg "end_text" = some (.ref (He.ga K "end_text")) := He.glo_ok T.X T.G (T.c.fact 14 (f := .glo "end_text") rfl)
theorem m_way_text (T : Tx K mg h) : mg "way_text" = some (.ref (He.ga K "way_text")) := He.glo_ok T.X T.G (T.c.fact 15 (f := .glo "way_text") rfl)
theorem m_NONE (T : Tx K mg h) : ∃ t, mg "NONE" = some (.str "-" t) := He.str_ok T.X T.G (T.c.fact 16 (f := .str "NONE" "-") rfl)
theorem m_listed (T : Tx K mg h) : mg "listed" = some (.ref (He.ga K "listed")) := He.glo_ok T.X T.G (T.c.fact 17 (f := .glo "listed") rfl)
theorem m_net_text (T : Tx K mg h) : mg "net_text" = some (.ref (He.ga K "net_text")) := He.glo_ok T.X T.G (T.c.fact 18 (f := .glo "net_text") rfl)
theorem m_MOST_FIGURES (T : Tx K mg h) : ∃ t, mg "MOST_FIGURES" = some (.int 30 t) := He.int_ok T.X T.G (T.c.fact 19 (f := .int "MOST_FIGURES" 30) rfl)
theorem m_FIGURES (T : Tx K mg h) : ∃ t, mg "FIGURES" = some (.str "0123456789" t) := He.str_ok T.X T.G (T.c.fact 20 (f := .str "FIGURES" "0123456789") rfl)
theorem x_NoText (T : Tx K mg h) : (He.Fa.exc "NoText").ok K = true := T.c.fact 21 (f := .exc "NoText") rfl
theorem m_NoText (T : Tx K mg h) : mg "NoText" = some (.ref (He.ga K "NoText")) := He.glo_ok T.X T.G (T.c.fact 22 (f := .glo "NoText") rfl)
theorem m_int (T : Tx K mg h) : mg "int" = none := He.free_ok T.X T.G (T.c.fact 23 (f := .free "int") rfl)
theorem m_figures_told (T : Tx K mg h) : mg "figures_told" = some (.ref (He.ga K "figures_told")) := He.glo_ok T.X T.G (T.c.fact 24 (f := .glo "figures_told") rfl)
theorem m_way_told (T : Tx K mg h) : mg "way_told" = some (.ref (He.ga K "way_told")) := He.glo_ok T.X T.G (T.c.fact 25 (f := .glo "way_told") rfl)
theorem m_parts_told (T : Tx K mg h) : mg "parts_told" = some (.ref (He.ga K "parts_told")) := He.glo_ok T.X T.G (T.c.fact 26 (f := .glo "parts_told") rfl)
theorem m_WORDS (T : Tx K mg h) : mg "WORDS" = some (.ref (He.ga K "WORDS")) := He.glo_ok T.X T.G (T.c.fact 27 (f := .glo "WORDS") rfl)
theorem m_stations_told (T : Tx K mg h) : mg "stations_told" = some (.ref (He.ga K "stations_told")) := He.glo_ok T.X T.G (T.c.fact 28 (f := .glo "stations_told") rfl)
theorem m_read_net (T : Tx K mg h) : mg "read_net" = some (.ref (He.ga K "read_net")) := He.glo_ok T.X T.G (T.c.fact 29 (f := .glo "read_net") rfl)
theorem m__law_stir (T : Tx K mg h) : mg "_law_stir" = some (.ref (He.ga K "_law_stir")) := He.glo_ok T.X T.G (T.c.fact 30 (f := .glo "_law_stir") rfl)
theorem m_enumerate (T : Tx K mg h) : mg "enumerate" = none := He.free_ok T.X T.G (T.c.fact 31 (f := .free "enumerate") rfl)
theorem m__law_net (T : Tx K mg h) : mg "_law_net" = some (.ref (He.ga K "_law_net")) := He.glo_ok T.X T.G (T.c.fact 32 (f := .glo "_law_net") rfl)
theorem m__law_copy (T : Tx K mg h) : mg "_law_copy" = some (.ref (He.ga K "_law_copy")) := He.glo_ok T.X T.G (T.c.fact 33 (f := .glo "_law_copy") rfl)
theorem m_isinstance (T : Tx K mg h) : mg "isinstance" = none := He.free_ok T.X T.G (T.c.fact 34 (f := .free "isinstance") rfl)
theorem m_tuple (T : Tx K mg h) : mg "tuple" = none := He.free_ok T.X T.G (T.c.fact 35 (f := .free "tuple") rfl)
theorem m_bool (T : Tx K mg h) : mg "bool" = none := He.free_ok T.X T.G (T.c.fact 36 (f := .free "bool") rfl)
theorem m__law_is_net (T : Tx K mg h) : mg "_law_is_net" = some (.ref (He.ga K "_law_is_net")) := He.glo_ok T.X T.G (T.c.fact 37 (f := .glo "_law_is_net") rfl)
theorem m__law_end (T : Tx K mg h) : mg "_law_end" = some (.ref (He.ga K "_law_end")) := He.glo_ok T.X T.G (T.c.fact 38 (f := .glo "_law_end") rfl)
theorem m__law_way (T : Tx K mg h) : mg "_law_way" = some (.ref (He.ga K "_law_way")) := He.glo_ok T.X T.G (T.c.fact 39 (f := .glo "_law_way") rfl)
theorem m__law_net_text (T : Tx K mg h) : mg "_law_net_text" = some (.ref (He.ga K "_law_net_text")) := He.glo_ok T.X T.G (T.c.fact 40 (f := .glo "_law_net_text") rfl)
theorem m_law (T : Tx K mg h) : mg "law" = some (.ref (He.ga K "law")) := He.glo_ok T.X T.G (T.c.fact 41 (f := .glo "law") rfl)
theorem t_WORDS (T : Tx K mg h) : He.tupB K "WORDS" (((["pile", "line"] : List Str)).map He.Dv.str) = true := T.z.x
end
end K75

namespace K75
open PySem PySem.Spec PyProof.Rows L2 Dv
theorem ok_is_way {P : Program} {w : World} {K : PySem.W.Frag} {mg : Str → Option Value} {h : Heap} (T : Tx K mg h) : DefOk P w K mg 1 "is_way" ["many", "way"] 3 V_is_way :=
  def_mk (Ns := n_is_way) (ps := ["many", "way"]) (k := 0) (g0 := [0, 0, 0, 0]) (g' := []) (b := false) (T.c.def_ 0 (d := d_is_way) rfl) (m_is_way T) (fun _ _ _ _ _ _ us hl => match us, hl with | [_, _], _ => rfl) sc_is_way (by decide) rfl fun f cdv A outer s H E N base hr =>
    (pds_cons (pd_weak (g2 := [0, 0, 0, 0]) (pds_tgt (ps_asg (pd_var (pv 1)) (pg_tup rfl (pgs_cons (pg_name (i := 2) sc_is_way.nd rfl (Or.inl rfl)) (pgs_cons (pg_name (i := 3) sc_is_way.nd rfl (Or.inl rfl)) pgs_nil)))) (dg_tup (dgs_cons (dgs_cons dgs_nil)))) (by decide))
    (pds_one (pds_ret (pd_and (pd_chain op_le op_lt sem_cmpI sem_cmpI (pd_un un_neg sem_neg pd_int) (pd_var (pv 2)) (pd_var (pv 0))) (pd_and (pd_or (pd_cmp (op_eqD hr.units) sem_eq (pd_var (pv 3)) (pd_globI rfl (m_OUT_nets T)) (nomark _)) (pd_one (pd_chain op_le op_lt sem_cmpI sem_cmpI pd_int (pd_var (pv 3)) (pd_var (pv 0))))) (pd_one (pd_cmp (op_neD hr.units) sem_ne (pd_var (pv 2)) (pd_var (pv 3)) (nomark _))))) (by decide))))
theorem ok_leads_round {P : Program} {w : World} {K : PySem.W.Frag} {mg : Str → Option Value} {h : Heap} (T : Tx K mg h) : DefOk P w K mg 1 "leads_round" ["many", "ways"] 3 V_leads_round :=
  def_mk (Ns := n_leads_round) (ps := ["many", "ways"]) (k := 0) (g0 := [0, 0, 0, 0, 0, 0, 0, 0]) (g' := []) (b := false) (T.c.def_ 1 (d := d_leads_round) rfl) (m_leads_round T) (fun _ _ _ _ _ _ us hl => match us, hl with | [_, _], _ => rfl) sc_leads_round (by decide) rfl fun f cdv A outer s H E N base hr =>
    (pds_cons (pd_weak (g2 := [0, 0, 2, 0, 0, 0, 0, 0]) (pds_set (ps_set (i := 2) sc_leads_round.nd rfl (Or.inr rfl) (pd_listRg rfl rfl (m_list T) rfl (m_range T) (pd_var (pv 0))))) (by decide))
    (pds_cons (pd_weak (g2 := [0, 0, 2, 2, 0, 0, 0, 0]) (pds_set (ps_set (i := 3) sc_leads_round.nd rfl (Or.inl rfl) (pd_un un_neg sem_neg pd_int))) (by decide))
    (pds_cons (pds_while (n := fuel) (passes_of rfl) (pdt_cmp (op_neD hr.units) sem_ne (pd_call1 call_len sem_len rfl (m_len T) rfl (pd_var (pv 2))) (pd_var (pv 3)) (nomark _)) (pds_weak (g2 := [0, 0, 2, 2, 0, 0, 0, 0]) (pds_cons (pd_weak (g2 := [0, 0, 2, 2, 0, 0, 0, 0]) (pds_set (ps_set (i := 3) sc_leads_round.nd rfl (Or.inl rfl) (pd_call1 call_len sem_len rfl (m_len T) rfl (pd_var (pv 2))))) (by decide))
    (pds_cons (pd_weak (g2 := [0, 0, 2, 2, 2, 0, 0, 0]) (pds_set (ps_set (i := 4) sc_leads_round.nd rfl (Or.inr rfl) (pd_lc (own := [("a", 5), ("b", 6)]) rfl sc_leads_round.nd (pdi_list (pd_var (pv 1))) (blkOk_by (own := [("a", 5), ("b", 6)]) (N := n_leads_round) (sc := defScope s_leads_round) (by decide +kernel)) (fun _ _ _ _ _ => (pg_tup rfl (pgs_cons (pg_name (i := 5) sc_leads_round.nd rfl (Or.inl rfl)) (pgs_cons (pg_name (i := 6) sc_leads_round.nd rfl (Or.inl rfl)) pgs_nil)))) (dg_tup (dgs_cons (dgs_cons dgs_nil))) (by decide) (fun _ _ _ _ _ => (pdts_one (pdt_cmp (op_inD (room65 hr)) sem_inL (pd_var (pv 5)) (pd_var (pv 2)) rfl))) (fun _ _ _ _ _ => (pd_nf (pd_var (pv 6))))))) (by decide))
    (pds_one (pd_weak (g2 := [0, 0, 2, 2, 2, 0, 0, 0]) (pds_set (ps_set (i := 2) sc_leads_round.nd rfl (Or.inr rfl) (pd_lc (own := [("station", 7)]) rfl sc_leads_round.nd (pdi_list (pd_var (pv 2))) (blkOk_by (own := [("station", 7)]) (N := n_leads_round) (sc := defScope s_leads_round) (by decide +kernel)) (fun _ _ _ _ _ => (pg_name (i := 7) sc_leads_round.nd rfl (Or.inl rfl))) (dg_one 7) (by decide) (fun _ _ _ _ _ => (pdts_one (pdt_cmp (op_inD (room65 hr)) sem_inL (pd_var (pv 7)) (pd_var (pv 4)) rfl))) (fun _ _ _ _ _ => (pd_nf (pd_var (pv 7))))))) (by decide))))) (by decide)))
    (pds_one (pds_ret (pd_cmp (op_neD hr.units) sem_ne (pd_var (pv 2)) (pd_lst pda_nil) (nomark _)) (by decide))))))
theorem ok_net_of {P : Program} {w : World} {K : PySem.W.Frag} {mg : Str → Option Value} {h : Heap} (T : Tx K mg h) : DefOk P w K mg 2 "net_of" ["stations", "ways"] 2 V_net_of :=
  def_mk (Ns := n_net_of) (ps := ["stations", "ways"]) (k := 1) (g0 := [0, 0, 0, 0]) (g' := []) (b := false) (T.c.def_ 2 (d := d_net_of) rfl) (m_net_of T) (fun _ _ _ _ _ _ us hl => match us, hl with | [_, _], _ => rfl) sc_net_of (by decide) rfl fun f cdv A outer s H E N base hr =>
    (pds_cons (pds_if (pdt_cmp (op_neD hr.units) sem_ne (pd_lc (own := [("word", 2)]) rfl sc_net_of.nd (pdi_list (pd_var (pv 0))) (blkOk_by (own := [("word", 2)]) (N := n_net_of) (sc := defScope s_net_of) (by decide +kernel)) (fun _ _ _ _ _ => (pg_name (i := 2) sc_net_of.nd rfl (Or.inl rfl))) (dg_one 2) (by decide) (fun _ _ _ _ _ => (pdts_one (pdt_cmp op_notIn_seq sem_notInT (pd_var (pv 2)) (pd_tup (pda_cons pd_str (pda_cons pd_str pda_nil))) rfl))) (fun _ _ _ _ _ => (pd_nf (pd_var (pv 2))))) (pd_lst pda_nil) (nomark _))
    (pds_one (pds_raiseD rfl (takes_of rfl rfl rfl rfl) (m_NoNet T) (x_NoNet T) rfl))
    pds_nil)
    (pds_cons (pds_if (pdt_cmp (op_neD hr.units) sem_ne (pd_lc (own := [("way", 3)]) rfl sc_net_of.nd (pdi_list (pd_var (pv 1))) (blkOk_by (own := [("way", 3)]) (N := n_net_of) (sc := defScope s_net_of) (by decide +kernel)) (fun _ _ _ _ _ => (pg_name (i := 3) sc_net_of.nd rfl (Or.inl rfl))) (dg_one 3) (by decide) (fun _ _ _ _ _ => (pdts_one (pdt_not (pdt_val (pd_callD (ok_is_way T) hr (by decide) rfl takes0 (pda_cons (pd_call1 call_len sem_len rfl (m_len T) rfl (pd_var (pv 0))) (pda_cons (pd_var (pv 3)) pda_nil))))))) (fun _ _ _ _ _ => (pd_nf (pd_var (pv 3))))) (pd_lst pda_nil) (nomark _))
    (pds_one (pds_raiseD rfl (takes_of rfl rfl rfl rfl) (m_NoNet T) (x_NoNet T) rfl))
    pds_nil)
    (pds_cons (pds_if (PW.pt (pdw_or (pdt_cmp (op_neD hr.units) sem_ne (pd_lenSetT rfl (m_len T) rfl (m_set T) (pd_var (pv 1)) hr.units) (pd_call1 call_len sem_len rfl (m_len T) rfl (pd_var (pv 1))) (nomark _)) (pdw_one' (pdt_val (pd_callD (ok_leads_round T) hr (by decide) rfl (takes_of rfl rfl rfl rfl) (pda_cons (pd_call1 call_len sem_len rfl (m_len T) rfl (pd_var (pv 0))) (pda_cons (pd_var (pv 1)) pda_nil)))))))
    (pds_one (pds_raiseD rfl (takes_of rfl rfl rfl rfl) (m_NoNet T) (x_NoNet T) rfl))
    pds_nil)
    (pds_one (pds_ret (pd_tup (pda_cons (pd_ty1 call_list_of sem_listN rfl (m_list T) rfl (pd_var (pv 0))) (pda_cons (pd_call1 cr_sortedX sem_sortP rfl (m_sorted T) rfl (pd_var (pv 1))) pda_nil))) (by decide))))))
theorem ok_end_text {P : Program} {w : World} {K : PySem.W.Frag} {mg : Str → Option Value} {h : Heap} (T : Tx K mg h) : DefOk P w K mg 1 "end_text" ["place"] 3 V_end_text :=
  def_mk (Ns := n_end_text) (ps := ["place"]) (k := 0) (g0 := [0]) (g' := []) (b := false) (T.c.def_ 3 (d := d_end_text) rfl) (m_end_text T) (fun _ _ _ _ _ _ us hl => match us, hl with | [_], _ => rfl) sc_end_text (by decide) rfl fun f cdv A outer s H E N base hr =>
    (pds_cons (pds_if (pdt_cmp (op_eqD hr.units) sem_eq (pd_var (pv 0)) (pd_globI rfl (m_IN T)) (nomark _))
    (pds_one (pds_ret pd_str (by decide)))
    pds_nil)
    (pds_cons (pds_if (pdt_cmp (op_eqD hr.units) sem_eq (pd_var (pv 0)) (pd_globI rfl (m_OUT_texts T)) (nomark _))
    (pds_one (pds_ret pd_str (by decide)))
    pds_nil)
    (pds_one (pds_ret (pd_ty1 call_str_int sem_str rfl (m_str T) rfl (pd_var (pv 0))) (by decide)))))
theorem ok_way_text {P : Program} {w : World} {K : PySem.W.Frag} {mg : Str → Option Value} {h : Heap} (T : Tx K mg h) : DefOk P w K mg 2 "way_text" ["way"] 3 V_way_text :=
  def_mk (Ns := n_way_text) (ps := ["way"]) (k := 1) (g0 := [0]) (g' := []) (b := false) (T.c.def_ 4 (d := d_way_text) rfl) (m_way_text T) (fun _ _ _ _ _ _ us hl => match us, hl with | [_], _ => rfl) sc_way_text (by decide) rfl fun f cdv A outer s H E N base hr =>
    (pds_one (pds_ret (pd_bin op_add_str sem_catS (pd_bin op_add_str sem_catS (pd_callD (ok_end_text T) hr (by decide) rfl (takes_of rfl rfl rfl rfl) (pda_cons (pd_ix ix_seq sem_ix (pd_var (pv 0)) pd_int (fun _ _ => rfl)) pda_nil)) pd_str) (pd_callD (ok_end_text T) hr (by decide) rfl (takes_of rfl rfl rfl rfl) (pda_cons (pd_ix ix_seq sem_ix (pd_var (pv 0)) pd_int (fun _ _ => rfl)) pda_nil))) (by decide)))
theorem ok_listed {P : Program} {w : World} {K : PySem.W.Frag} {mg : Str → Option Value} {h : Heap} (T : Tx K mg h) : DefOk P w K mg 1 "listed" ["words", "between"] 3 V_listed :=
  def_mk (Ns := n_listed) (ps := ["words", "between"]) (k := 0) (g0 := [0, 0]) (g' := []) (b := false) (T.c.def_ 5 (d := d_listed) rfl) (m_listed T) (fun _ _ _ _ _ _ us hl => match us, hl with | [_, _], _ => rfl) sc_listed (by decide) rfl fun f cdv A outer s H E N base hr =>
    (pds_cons (pds_if (pdt_cmp (op_eqD hr.units) sem_eq (pd_var (pv 0)) (pd_lst pda_nil) (nomark _))
    (pds_one (pds_ret (pd_globS rfl (m_NONE T)) (by decide)))
    pds_nil)
    (pds_one (pds_ret (pd_join (pd_var (pv 1)) (pd_var (pv 0))) (by decide))))
theorem ok_net_text {P : Program} {w : World} {K : PySem.W.Frag} {mg : Str → Option Value} {h : Heap} (T : Tx K mg h) : DefOk P w K mg 3 "net_text" ["net"] 3 V_net_text :=
  def_mk (Ns := n_net_text) (ps := ["net"]) (k := 2) (g0 := [0, 0, 0, 0, 0, 0]) (g' := []) (b := false) (T.c.def_ 6 (d := d_net_text) rfl) (m_net_text T) (fun _ _ _ _ _ _ us hl => match us, hl with | [_], _ => rfl) sc_net_text (by decide) rfl fun f cdv A outer s H E N base hr =>
    (pds_cons (pd_weak (g2 := [0, 0, 0, 0, 0, 0]) (pds_tgt (ps_asg (pd_var (pv 0)) (pg_tup rfl (pgs_cons (pg_name (i := 1) sc_net_text.nd rfl (Or.inl rfl)) (pgs_cons (pg_name (i := 2) sc_net_text.nd rfl (Or.inl rfl)) pgs_nil)))) (dg_tup (dgs_cons (dgs_cons dgs_nil)))) (by decide))
    (pds_cons (pd_weak (g2 := [0, 0, 0, 2, 0, 0]) (pds_set (ps_set (i := 3) sc_net_text.nd rfl (Or.inl rfl) (pd_join pd_str (pd_lc (own := [("word", 4)]) rfl sc_net_text.nd (pdi_list (pd_var (pv 1))) (blkOk_by (own := [("word", 4)]) (N := n_net_text) (sc := defScope s_net_text) (by decide +kernel)) (fun _ _ _ _ _ => (pg_name (i := 4) sc_net_text.nd rfl (Or.inl rfl))) (dg_one 4) (by decide) (fun _ _ _ _ _ => pdts_nil) (fun _ _ _ _ _ => (pd_bin op_add_str sem_catS (pd_var (pv 4)) pd_str)))))) (by decide))
    (pds_cons (pds_if (pdt_cmp (op_eqD hr.units) sem_eq (pd_var (pv 1)) (pd_lst pda_nil) (nomark _))
    (pds_one (pd_weak (g2 := [0, 0, 0, 2, 0, 0]) (pds_set (ps_set (i := 3) sc_net_text.nd rfl (Or.inl rfl) (pd_globS rfl (m_NONE T)))) (by decide)))
    pds_nil)
    (pds_one (pds_ret (pd_bin op_add_str sem_catS (pd_bin op_add_str sem_catS (pd_var (pv 3)) pd_str) (pd_callD (ok_listed T) hr (by decide) rfl (takes_of rfl rfl rfl rfl) (pda_cons (pd_lc (own := [("way", 5)]) rfl sc_net_text.nd (pdi_list (pd_var (pv 2))) (blkOk_by (own := [("way", 5)]) (N := n_net_text) (sc := defScope s_net_text) (by decide +kernel)) (fun _ _ _ _ _ => (pg_name (i := 5) sc_net_text.nd rfl (Or.inl rfl))) (dg_one 5) (by decide) (fun _ _ _ _ _ => pdts_nil) (fun _ _ _ _ _ => (pd_callD (ok_way_text T) hr (by decide) rfl takes0 (pda_cons (pd_var (pv 5)) pda_nil)))) (pda_cons pd_str pda_nil)))) (by decide))))))
theorem ok_figures_told {P : Program} {w : World} {K : PySem.W.Frag} {mg : Str → Option Value} {h : Heap} (T : Tx K mg h) : DefOk P w K mg 1 "figures_told" ["word"] 3 V_figures_told :=
  def_mk (Ns := n_figures_told) (ps := ["word"]) (k := 0) (g0 := [0, 0]) (g' := []) (b := false) (T.c.def_ 7 (d := d_figures_told) rfl) (m_figures_told T) (fun _ _ _ _ _ _ us hl => match us, hl with | [_], _ => rfl) sc_figures_told (by decide) rfl fun f cdv A outer s H E N base hr =>
    (pds_cons (pds_if (PW.pt (pdw_or (pdt_not (pdt_chain op_le op_le sem_cmpI sem_cmpI pd_int (pd_call1 call_len sem_len rfl (m_len T) rfl (pd_var (pv 0))) (pd_globI rfl (m_MOST_FIGURES T)))) (pdw_one' (pdt_cmp (op_neD hr.units) sem_ne (pd_lc (own := [("sign", 1)]) rfl sc_figures_told.nd (pdi_str (pd_var (pv 0))) (blkOk_by (own := [("sign", 1)]) (N := n_figures_told) (sc := defScope s_figures_told) (by decide +kernel)) (fun _ _ _ _ _ => (pg_name (i := 1) sc_figures_told.nd rfl (Or.inl rfl))) (dg_one 1) (by decide) (fun _ _ _ _ _ => (pdts_one (pdt_cmp op_notIn_str sem_notInS (pd_var (pv 1)) (pd_globS rfl (m_FIGURES T)) rfl))) (fun _ _ _ _ _ => (pd_nf (pd_var (pv 1))))) (pd_lst pda_nil) (nomark _)))))
    (pds_one (pds_raiseD rfl (takes_of rfl rfl rfl rfl) (m_NoText T) (x_NoText T) rfl))
    pds_nil)
    (pds_cons (pds_if (PW.pt (pdw_and (pdt_cmp (op_eqD hr.units) sem_eq (pd_ix ix_seq sem_ix (pd_var (pv 0)) pd_int (fun _ _ => rfl)) pd_str (nomark _)) (pdw_one (pdt_cmp (op_neD hr.units) sem_ne (pd_var (pv 0)) pd_str (nomark _)))))
    (pds_one (pds_raiseD rfl (takes_of rfl rfl rfl rfl) (m_NoText T) (x_NoText T) rfl))
    pds_nil)
    (pds_one (pds_ret (pd_ty1 call_int_str sem_intS rfl (m_int T) rfl (pd_var (pv 0))) (by decide)))))
theorem ok_way_told {P : Program} {w : World} {K : PySem.W.Frag} {mg : Str → Option Value} {h : Heap} (T : Tx K mg h) : DefOk P w K mg 2 "way_told" ["text"] 3 V_way_told :=
  def_mk (Ns := n_way_told) (ps := ["text"]) (k := 1) (g0 := [0, 0, 0, 0]) (g' := []) (b := false) (T.c.def_ 8 (d := d_way_told) rfl) (m_way_told T) (fun _ _ _ _ _ _ us hl => match us, hl with | [_], _ => rfl) sc_way_told (by decide) rfl fun f cdv A outer s H E N base hr =>
    (pds_cons (pd_weak (g2 := [0, 2, 0, 0]) (pds_set (ps_set (i := 1) sc_way_told.nd rfl (Or.inl rfl) (pd_split (pd_var (pv 0)) pd_str))) (by decide))
    (pds_cons (pds_if (pdt_cmp (op_neD hr.units) sem_ne (pd_call1 call_len sem_len rfl (m_len T) rfl (pd_var (pv 1))) pd_int (nomark _))
    (pds_one (pds_raiseD rfl (takes_of rfl rfl rfl rfl) (m_NoText T) (x_NoText T) rfl))
    pds_nil)
    (pds_cons (pd_weak (g2 := [0, 2, 2, 0]) (pds_set (ps_set (i := 2) sc_way_told.nd rfl (Or.inl rfl) (pd_globI rfl (m_IN T)))) (by decide))
    (pds_cons (pds_if (pdt_cmp (op_neD hr.units) sem_ne (pd_ix ix_seq sem_ix (pd_var (pv 1)) pd_int (fun _ _ => rfl)) pd_str (nomark _))
    (pds_one (pd_weak (g2 := [0, 2, 2, 0]) (pds_set (ps_set (i := 2) sc_way_told.nd rfl (Or.inl rfl) (pd_callD (ok_figures_told T) hr (by decide) rfl (takes_of rfl rfl rfl rfl) (pda_cons (pd_ix ix_seq sem_ix (pd_var (pv 1)) pd_int (fun _ _ => rfl)) pda_nil)))) (by decide)))
    pds_nil)
    (pds_cons (pd_weak (g2 := [0, 2, 2, 2]) (pds_set (ps_set (i := 3) sc_way_told.nd rfl (Or.inl rfl) (pd_globI rfl (m_OUT_texts T)))) (by decide))
    (pds_cons (pds_if (pdt_cmp (op_neD hr.units) sem_ne (pd_ix ix_seq sem_ix (pd_var (pv 1)) pd_int (fun _ _ => rfl)) pd_str (nomark _))
    (pds_one (pd_weak (g2 := [0, 2, 2, 2]) (pds_set (ps_set (i := 3) sc_way_told.nd rfl (Or.inl rfl) (pd_callD (ok_figures_told T) hr (by decide) rfl (takes_of rfl rfl rfl rfl) (pda_cons (pd_ix ix_seq sem_ix (pd_var (pv 1)) pd_int (fun _ _ => rfl)) pda_nil)))) (by decide)))
    pds_nil)
    (pds_one (pds_ret (pd_nf (pd_tup (pda_cons (pd_var (pv 2)) (pda_cons (pd_var (pv 3)) pda_nil)))) (by decide)))))))))
theorem ok_parts_told {P : Program} {w : World} {K : PySem.W.Frag} {mg : Str → Option Value} {h : Heap} (T : Tx K mg h) : DefOk P w K mg 1 "parts_told" ["text", "between"] 2 V_parts_told :=
  def_mk (Ns := n_parts_told) (ps := ["text", "between"]) (k := 0) (g0 := [0, 0]) (g' := []) (b := false) (T.c.def_ 9 (d := d_parts_told) rfl) (m_parts_told T) (fun _ _ _ _ _ _ us hl => match us, hl with | [_, _], _ => rfl) sc_parts_told (by decide) rfl fun f cdv A outer s H E N base hr =>
    (pds_cons (pds_if (pdt_cmp (op_eqD hr.units) sem_eq (pd_var (pv 0)) (pd_globS rfl (m_NONE T)) (nomark _))
    (pds_one (pds_ret (pd_lst pda_nil) (by decide)))
    pds_nil)
    (pds_one (pds_ret (pd_split (pd_var (pv 0)) (pd_var (pv 1))) (by decide))))
theorem ok_stations_told {P : Program} {w : World} {K : PySem.W.Frag} {mg : Str → Option Value} {h : Heap} (T : Tx K mg h) : DefOk P w K mg 1 "stations_told" ["text"] 0 V_stations_told :=
  def_mk (Ns := n_stations_told) (ps := ["text"]) (k := 0) (g0 := [0, 0, 0]) (g' := []) (b := false) (T.c.def_ 10 (d := d_stations_told) rfl) (m_stations_told T) (fun _ _ _ _ _ _ us hl => match us, hl with | [_], _ => rfl) sc_stations_told (by decide) rfl fun f cdv A outer s H E N base hr =>
    (pds_cons (pds_if (pdt_cmp (op_eqD hr.units) sem_eq (pd_var (pv 0)) (pd_globS rfl (m_NONE T)) (nomark _))
    (pds_one (pds_ret (pd_lst pda_nil) (by decide)))
    pds_nil)
    (pds_cons (pd_weak (g2 := [0, 2, 0]) (pds_set (ps_set (i := 1) sc_stations_told.nd rfl (Or.inl rfl) (pd_split (pd_var (pv 0)) pd_str))) (by decide))
    (pds_cons (pds_if (PW.pt (pdw_or (pdt_cmp (op_neD hr.units) sem_ne (pd_ix ix_seq sem_ix (pd_var (pv 1)) (pd_un un_neg sem_neg pd_int) (fun _ _ => rfl)) pd_str (nomark _)) (pdw_or (pdt_cmp (op_neD hr.units) sem_ne (pd_lc (own := [("word", 2)]) rfl sc_stations_told.nd (pdi_list (pd_slice sl_list sem_slL (pd_var (pv 1)) pdo_none (pdo_some (pd_un un_neg sem_neg pd_int)))) (blkOk_by (own := [("word", 2)]) (N := n_stations_told) (sc := defScope s_stations_told) (by decide +kernel)) (fun _ _ _ _ _ => (pg_name (i := 2) sc_stations_told.nd rfl (Or.inl rfl))) (dg_one 2) (by decide) (fun _ _ _ _ _ => (pdts_one (pdt_cmp op_notIn_seq sem_notInT (pd_var (pv 2)) (pd_globT (zs := ["pile", "line"]) rfl (m_WORDS T) (t_WORDS T)) rfl))) (fun _ _ _ _ _ => (pd_nf (pd_var (pv 2))))) (pd_lst pda_nil) (nomark _)) (pdw_one' (pdt_cmp op_lt sem_cmpI (pd_call1 call_len sem_len rfl (m_len T) rfl (pd_var (pv 1))) pd_int (nomark _))))))
    (pds_one (pds_raiseD rfl (takes_of rfl rfl rfl rfl) (m_NoText T) (x_NoText T) rfl))
    pds_nil)
    (pds_one (pds_ret (pd_slice sl_list sem_slL (pd_var (pv 1)) pdo_none (pdo_some (pd_un un_neg sem_neg pd_int))) (by decide))))))
theorem ok_read_net {P : Program} {w : World} {K : PySem.W.Frag} {mg : Str → Option Value} {h : Heap} (T : Tx K mg h) : DefOk P w K mg 3 "read_net" ["text"] 2 V_read_net :=
  def_mk (Ns := n_read_net) (ps := ["text"]) (k := 2) (g0 := [0, 0, 0, 0]) (g' := []) (b := false) (T.c.def_ 11 (d := d_read_net) rfl) (m_read_net T) (fun _ _ _ _ _ _ us hl => match us, hl with | [_], _ => rfl) sc_read_net (by decide) rfl fun f cdv A outer s H E N base hr =>
    (pds_cons (pd_weak (g2 := [0, 2, 0, 0]) (pds_set (ps_set (i := 1) sc_read_net.nd rfl (Or.inl rfl) (pd_split (pd_var (pv 0)) pd_str))) (by decide))
    (pds_cons (pds_if (pdt_cmp (op_neD hr.units) sem_ne (pd_call1 call_len sem_len rfl (m_len T) rfl (pd_var (pv 1))) pd_int (nomark _))
    (pds_one (pds_raiseD rfl (takes_of rfl rfl rfl rfl) (m_NoText T) (x_NoText T) rfl))
    pds_nil)
    (pds_cons (pd_weak (g2 := [0, 0, 0, 0]) (pds_set (ps_set (i := 2) sc_read_net.nd rfl (Or.inl rfl) (pd_callD (ok_stations_told T) hr (by decide) rfl (takes_of rfl rfl rfl rfl) (pda_cons (pd_ix ix_seq sem_ix (pd_var (pv 1)) pd_int (fun _ _ => rfl)) pda_nil)))) (by decide))
    (pds_one (pds_ret (pd_callD (ok_net_of T) hr (by decide) rfl (takes_of rfl rfl rfl rfl) (pda_cons (pd_var (pv 2)) (pda_cons (pd_lc (own := [("part", 3)]) rfl sc_read_net.nd (pdi_list (pd_callD (ok_parts_told T) hr (by decide) rfl (takes_of rfl rfl rfl rfl) (pda_cons (pd_ix ix_seq sem_ix (pd_var (pv 1)) pd_int (fun _ _ => rfl)) (pda_cons pd_str pda_nil)))) (blkOk_by (own := [("part", 3)]) (N := n_read_net) (sc := defScope s_read_net) (by decide +kernel)) (fun _ _ _ _ _ => (pg_name (i := 3) sc_read_net.nd rfl (Or.inl rfl))) (dg_one 3) (by decide) (fun _ _ _ _ _ => pdts_nil) (fun _ _ _ _ _ => (pd_callD (ok_way_told T) hr (by decide) rfl takes0 (pda_cons (pd_var (pv 3)) pda_nil)))) pda_nil))) (by decide))))))
theorem ok__law_stir {P : Program} {w : World} {K : PySem.W.Frag} {mg : Str → Option Value} {h : Heap} (T : Tx K mg h) : DefOk P w K mg 1 "_law_stir" ["cell", "k"] 3 V__law_stir :=
  def_mk (Ns := n__law_stir) (ps := ["cell", "k"]) (k := 0) (g0 := [0, 0, 0]) (g' := []) (b := false) (T.c.def_ 12 (d := d__law_stir) rfl) (m__law_stir T) (fun _ _ _ _ _ _ us hl => match us, hl with | [_, _], _ => rfl) sc__law_stir (by decide) rfl fun f cdv A outer s H E N base hr =>
    (pds_cons (pds_if (pdt_cmp op_ge sem_cmpI (pd_var (pv 0)) (pd_bin op_pow sem_pow pd_int pd_int) (nomark _))
    (pds_one (pds_ret (pd_bin op_mod sem_mod (pd_bin op_shr sem_shr (pd_bin op_sub sem_sub (pd_var (pv 0)) (pd_bin op_pow sem_pow pd_int pd_int)) (pd_bin op_mul sem_mul pd_int (pd_var (pv 1)))) (pd_bin op_pow sem_pow pd_int pd_int)) (by decide)))
    pds_nil)
    (pds_cons (pd_weak (g2 := [0, 0, 2]) (pds_set (ps_set (i := 2) sc__law_stir.nd rfl (Or.inl rfl) (pd_bin op_mod sem_mod (pd_bin op_mul sem_mul (pd_bin op_add sem_add (pd_bin op_add sem_add (pd_var (pv 0)) (pd_bin op_mul sem_mul pd_int (pd_var (pv 1)))) pd_int) pd_int) pd_int))) (by decide))
    (pds_cons (pd_weak (g2 := [0, 0, 2]) (pds_set (ps_set (i := 2) sc__law_stir.nd rfl (Or.inl rfl) (pd_bin op_mod sem_mod (pd_bin op_mul sem_mul (pd_var (pv 2)) (pd_var (pv 2))) pd_int))) (by decide))
    (pds_one (pds_ret (pd_bin op_fdiv sem_div (pd_bin op_mod sem_mod (pd_bin op_mul sem_mul (pd_var (pv 2)) pd_int) pd_int) pd_int) (by decide))))))
theorem ok__law_net {P : Program} {w : World} {K : PySem.W.Frag} {mg : Str → Option Value} {h : Heap} (T : Tx K mg h) : DefOk P w K mg 2 "_law_net" ["cell", "base", "most"] 0 V__law_net :=
  def_mk (Ns := n__law_net) (ps := ["cell", "base", "most"]) (k := 1) (g0 := [0, 0, 0, 0, 0, 0, 0, 0, 0, 0, 0, 0]) (g' := []) (b := false) (T.c.def_ 13 (d := d__law_net) rfl) (m__law_net T) (fun _ _ _ _ _ _ us hl => match us, hl with | [_, _, _], _ => rfl) sc__law_net (by decide) rfl fun f cdv A outer s H E N base hr =>
    (pds_cons (pd_weak (g2 := [0, 0, 0, 2, 0, 0, 0, 0, 0, 0, 0, 0]) (pds_set (ps_set (i := 3) sc__law_net.nd rfl (Or.inl rfl) (pd_bin op_mod sem_mod (pd_callD (ok__law_stir T) hr (by decide) rfl (takes_of rfl rfl rfl rfl) (pda_cons (pd_var (pv 0)) (pda_cons (pd_var (pv 1)) pda_nil))) (pd_bin op_add sem_add (pd_var (pv 2)) pd_int)))) (by decide))
    (pds_cons (pd_weak (g2 := [0, 0, 0, 2, 2, 0, 0, 0, 0, 0, 0, 0]) (pds_set (ps_set (i := 4) sc__law_net.nd rfl (Or.inr rfl) (pd_listRg rfl rfl (m_list T) rfl (m_range T) (pd_var (pv 3))))) (by decide))
    (pds_cons (pd_weak (g2 := [0, 0, 0, 2, 2, 2, 0, 0, 0, 0, 0, 0]) (pds_popSet (iy := 5) (own := [("k", 11)]) rfl sc__law_net.nd rfl rfl (sw_true rfl rfl rfl (by decide +kernel)) (pdi_range1 rfl (m_range T) (pd_var (pv 3))) (blkOk_by (own := [("k", 11)]) (N := n__law_net) (sc := defScope s__law_net) (by decide +kernel)) (fun _ _ _ _ _ => (pg_name (i := 11) sc__law_net.nd rfl (Or.inl rfl))) (dg_one 11) (by decide) (fun _ _ _ _ _ => (pe_popE (pv 4) (pd_bin op_mod sem_mod (pd_callD (ok__law_stir T) hr (by decide) rfl takes0 (pda_cons (pd_var (pv 0)) (pda_cons (pd_bin op_add sem_add (pd_bin op_add sem_add (pd_var (pv 1)) pd_int) (pd_var (pv 11))) pda_nil))) (pd_call1 call_len sem_len rfl (m_len T) rfl (pd_var (pv 4)))))) (by decide) (by decide) (by decide)) (by decide))
    (pds_cons (pd_weak (g2 := [0, 0, 0, 2, 2, 2, 2, 0, 0, 0, 0, 0]) (pds_set (pds_setLc (i := 6) (own := [("k", 11)]) rfl sc__law_net.nd rfl rfl (sw_true rfl rfl rfl (by decide +kernel)) (pdi_range1 rfl (m_range T) (pd_var (pv 3))) (blkOk_by (own := [("k", 11)]) (N := n__law_net) (sc := defScope s__law_net) (by decide +kernel)) (fun _ _ _ _ _ => (pg_name (i := 11) sc__law_net.nd rfl (Or.inl rfl))) (dg_one 11) (by decide) (fun _ _ _ _ _ => pdts_nil) (fun _ _ _ _ _ => (pd_nf (pd_ix ix_seq sem_ix (pd_lst (pda_cons pd_str (pda_cons pd_str pda_nil))) (pd_bin op_mod sem_mod (pd_callD (ok__law_stir T) hr (by decide) rfl takes0 (pda_cons (pd_var (pv 0)) (pda_cons (pd_bin op_add sem_add (pd_bin op_add sem_add (pd_var (pv 1)) pd_int) (pd_var (pv 11))) pda_nil))) pd_int) (fun _ _ => rfl)))))) (by decide))
    (pds_cons (pd_weak (g2 := [0, 0, 0, 2, 2, 2, 2, 1, 0, 0, 0, 0]) (pds_set (ps_set (i := 7) sc__law_net.nd rfl (Or.inl rfl) (pd_rep (by decide) (pd_lst (pda_cons (pd_tup (pda_cons (pd_un un_neg sem_neg pd_int) (pda_cons (pd_un un_neg sem_neg pd_int) pda_nil))) pda_nil)) (pd_ty1 call_int1 sem_int rfl (m_int T) rfl (pd_cmp (op_eqD hr.units) sem_eq (pd_bin op_mod sem_mod (pd_callD (ok__law_stir T) hr (by decide) rfl (takes_of rfl rfl rfl rfl) (pda_cons (pd_var (pv 0)) (pda_cons (pd_bin op_add sem_add (pd_var (pv 1)) pd_int) pda_nil))) pd_int) pd_int (nomark _)))))) (by decide))
    (pds_cons (pds_for (gL := [0, 0, 0, 2, 2, 0, 2, 1, 0, 0, 0, 0]) (passes_of rfl) rfl (pdi_enum rfl (m_enumerate T) (pd_var (pv 5))) (pg_tup rfl (pgs_cons (pg_name (i := 8) sc__law_net.nd rfl (Or.inl rfl)) (pgs_cons (pg_name (i := 9) sc__law_net.nd rfl (Or.inl rfl)) pgs_nil))) (dg_tup (dgs_cons (dgs_cons dgs_nil))) (pds_cons (pd_weak (g2 := [0, 0, 0, 2, 2, 0, 2, 1, 0, 0, 0, 0]) (pds_set (ps_set (i := 7) sc__law_net.nd rfl (Or.inl rfl) (pd_bin op_catR sem_catL (pd_var (pv 7)) (pd_rep (by decide) (pd_lst (pda_cons (pd_tup (pda_cons (pd_un un_neg sem_neg pd_int) (pda_cons (pd_var (pv 9)) pda_nil))) pda_nil)) (pd_ty1 call_int1 sem_int rfl (m_int T) rfl (pd_cmp op_gt sem_cmpI (pd_bin op_mod sem_mod (pd_callD (ok__law_stir T) hr (by decide) rfl (takes_of rfl rfl rfl rfl) (pda_cons (pd_var (pv 0)) (pda_cons (pd_bin op_add sem_add (pd_bin op_add sem_add (pd_var (pv 1)) pd_int) (pd_var (pv 8))) pda_nil))) pd_int) pd_int (nomark _))))))) (by decide))
    (pds_cons (pd_weak (g2 := [0, 0, 0, 2, 2, 0, 2, 1, 0, 0, 0, 0]) (pds_set (ps_set (i := 7) sc__law_net.nd rfl (Or.inl rfl) (pd_bin op_catR sem_catL (pd_var (pv 7)) (pd_rep (by decide) (pd_lst (pda_cons (pd_tup (pda_cons (pd_var (pv 9)) (pda_cons (pd_un un_neg sem_neg pd_int) pda_nil))) pda_nil)) (pd_ty1 call_int1 sem_int rfl (m_int T) rfl (pd_cmp op_gt sem_cmpI (pd_bin op_mod sem_mod (pd_callD (ok__law_stir T) hr (by decide) rfl (takes_of rfl rfl rfl rfl) (pda_cons (pd_var (pv 0)) (pda_cons (pd_bin op_add sem_add (pd_bin op_add sem_add (pd_var (pv 1)) pd_int) (pd_var (pv 8))) pda_nil))) pd_int) pd_int (nomark _))))))) (by decide))
    (pds_one (pds_for (gL := [0, 0, 0, 2, 2, 0, 2, 1, 0, 0, 0, 0]) (passes_of rfl) rfl (pdi_range2 rfl (m_range T) (pd_bin op_add sem_add (pd_var (pv 8)) pd_int) (pd_var (pv 3))) (pg_name (i := 10) sc__law_net.nd rfl (Or.inl rfl)) (dg_one 10) (pds_one (pd_weak (g2 := [0, 0, 0, 2, 2, 0, 2, 1, 0, 0, 0, 0]) (pds_set (ps_set (i := 7) sc__law_net.nd rfl (Or.inl rfl) (pd_bin op_catR sem_catL (pd_var (pv 7)) (pd_rep (by decide) (pd_lst (pda_cons (pd_tup (pda_cons (pd_var (pv 9)) (pda_cons (pd_ix ix_seq sem_ix (pd_var (pv 5)) (pd_var (pv 10)) (fun _ _ => rfl)) pda_nil))) pda_nil)) (pd_ty1 call_int1 sem_int rfl (m_int T) rfl (pd_cmp (op_eqD hr.units) sem_eq (pd_bin op_mod sem_mod (pd_callD (ok__law_stir T) hr (by decide) rfl (takes_of rfl rfl rfl rfl) (pda_cons (pd_var (pv 0)) (pda_cons (pd_bin op_add sem_add (pd_bin op_add sem_add (pd_bin op_add sem_add (pd_var (pv 1)) pd_int) (pd_bin op_mul sem_mul pd_int (pd_var (pv 8)))) (pd_var (pv 10))) pda_nil))) pd_int) pd_int (nomark _))))))) (by decide))) (by decide))))) (by decide))
    (pds_one (pds_ret (pd_tup (pda_cons (pd_var (pv 6)) (pda_cons (pd_call1 cr_sortedX sem_sortP rfl (m_sorted T) rfl (pd_var (pv 7))) pda_nil))) (by decide)))))))))
theorem ok__law_copy {P : Program} {w : World} {K : PySem.W.Frag} {mg : Str → Option Value} {h : Heap} (T : Tx K mg h) : DefOk P w K mg 1 "_law_copy" ["net"] 2 V__law_copy :=
  def_mk (Ns := n__law_copy) (ps := ["net"]) (k := 0) (g0 := [0]) (g' := []) (b := false) (T.c.def_ 14 (d := d__law_copy) rfl) (m__law_copy T) (fun _ _ _ _ _ _ us hl => match us, hl with | [_], _ => rfl) sc__law_copy (by decide) rfl fun f cdv A outer s H E N base hr =>
    (pds_one (pds_ret (pd_tup (pda_cons (pd_ty1 call_list_of sem_listN rfl (m_list T) rfl (pd_ix ix_seq sem_ix (pd_var (pv 0)) pd_int (fun _ _ => rfl))) (pda_cons (pd_ty1 call_list_of sem_listN rfl (m_list T) rfl (pd_ix ix_seq sem_ix (pd_var (pv 0)) pd_int (fun _ _ => rfl))) pda_nil))) (by decide)))
theorem ok__law_is_net {P : Program} {w : World} {K : PySem.W.Frag} {mg : Str → Option Value} {h : Heap} (T : Tx K mg h) : DefOk P w K mg 1 "_law_is_net" ["found", "due"] 3 V__law_is_net :=
  def_mk (Ns := n__law_is_net) (ps := ["found", "due"]) (k := 0) (g0 := [0, 0, 0]) (g' := []) (b := false) (T.c.def_ 15 (d := d__law_is_net) rfl) (m__law_is_net T) (fun _ _ _ _ _ _ us hl => match us, hl with | [_, _], _ => rfl) sc__law_is_net (by decide) rfl fun f cdv A outer s H E N base hr =>
    (pds_cons (pds_if (PW.pt (pdw_or (pdt_not (pdt_val (pd_isi (T := "tuple") (by decide +kernel) rfl (m_isinstance T) rfl (m_tuple T) rfl (pd_var (pv 0))))) (pdw_one' (pdt_cmp (op_neD hr.units) sem_ne (pd_var (pv 0)) (pd_var (pv 1)) (nomark _)))))
    (pds_one (pds_ret pd_bl (by decide)))
    pds_nil)
    (pds_cons (pds_if (PW.pt (pdw_or (pdt_not (pdt_val (pd_isi (T := "list") (by decide +kernel) rfl (m_isinstance T) rfl (m_list T) rfl (pd_ix ix_seq sem_ix (pd_var (pv 0)) pd_int (fun _ _ => rfl))))) (pdw_one' (pdt_not (pdt_val (pd_isi (T := "list") (by decide +kernel) rfl (m_isinstance T) rfl (m_list T) rfl (pd_ix ix_seq sem_ix (pd_var (pv 0)) pd_int (fun _ _ => rfl))))))))
    (pds_one (pds_ret pd_bl (by decide)))
    pds_nil)
    (pds_cons (pds_for (gL := [0, 0, 0]) (passes_of rfl) rfl (pdi_list (pd_ix ix_seq sem_ix (pd_var (pv 0)) pd_int (fun _ _ => rfl))) (pg_name (i := 2) sc__law_is_net.nd rfl (Or.inl rfl)) (dg_one 2) (pds_one (pds_if (PW.pt (pdw_or (pdt_not (pdt_val (pd_isi (T := "tuple") (by decide +kernel) rfl (m_isinstance T) rfl (m_tuple T) rfl (pd_var (pv 2))))) (pdw_or (pdt_val (pd_isi (T := "bool") (by decide +kernel) rfl (m_isinstance T) rfl (m_bool T) rfl (pd_ix ix_seq sem_ix (pd_var (pv 2)) pd_int (fun _ _ => rfl)))) (pdw_one' (pdt_val (pd_isi (T := "bool") (by decide +kernel) rfl (m_isinstance T) rfl (m_bool T) rfl (pd_ix ix_seq sem_ix (pd_var (pv 2)) pd_int (fun _ _ => rfl))))))))
    (pds_one (pds_ret pd_bl (by decide)))
    pds_nil)) (by decide))
    (pds_one (pds_ret pd_bl (by decide))))))
theorem ok__law_end {P : Program} {w : World} {K : PySem.W.Frag} {mg : Str → Option Value} {h : Heap} (T : Tx K mg h) : DefOk P w K mg 1 "_law_end" ["place"] 3 V__law_end :=
  def_mk (Ns := n__law_end) (ps := ["place"]) (k := 0) (g0 := [0]) (g' := []) (b := false) (T.c.def_ 16 (d := d__law_end) rfl) (m__law_end T) (fun _ _ _ _ _ _ us hl => match us, hl with | [_], _ => rfl) sc__law_end (by decide) rfl fun f cdv A outer s H E N base hr =>
    (pds_one (pds_ret (pd_nf (pd_ifE (pdt_cmp op_lt sem_cmpI (pd_var (pv 0)) pd_int (nomark _)) (pd_ix ix_seq sem_ix (pd_lst (pda_cons pd_str (pda_cons pd_str pda_nil))) (pd_bin op_add sem_add (pd_var (pv 0)) pd_int) (fun _ _ => rfl)) (pd_ty1 call_str_int sem_str rfl (m_str T) rfl (pd_var (pv 0))))) (by decide)))
theorem ok__law_way {P : Program} {w : World} {K : PySem.W.Frag} {mg : Str → Option Value} {h : Heap} (T : Tx K mg h) : DefOk P w K mg 2 "_law_way" ["way"] 3 V__law_way :=
  def_mk (Ns := n__law_way) (ps := ["way"]) (k := 1) (g0 := [0]) (g' := []) (b := false) (T.c.def_ 17 (d := d__law_way) rfl) (m__law_way T) (fun _ _ _ _ _ _ us hl => match us, hl with | [_], _ => rfl) sc__law_way (by decide) rfl fun f cdv A outer s H E N base hr =>
    (pds_one (pds_ret (pd_bin op_add_str sem_catS (pd_bin op_add_str sem_catS (pd_callD (ok__law_end T) hr (by decide) rfl (takes_of rfl rfl rfl rfl) (pda_cons (pd_ix ix_seq sem_ix (pd_var (pv 0)) pd_int (fun _ _ => rfl)) pda_nil)) pd_str) (pd_callD (ok__law_end T) hr (by decide) rfl (takes_of rfl rfl rfl rfl) (pda_cons (pd_ix ix_seq sem_ix (pd_var (pv 0)) pd_int (fun _ _ => rfl)) pda_nil))) (by decide)))
theorem ok__law_net_text {P : Program} {w : World} {K : PySem.W.Frag} {mg : Str → Option Value} {h : Heap} (T : Tx K mg h) : DefOk P w K mg 3 "_law_net_text" ["net"] 3 V__law_net_text :=
  def_mk (Ns := n__law_net_text) (ps := ["net"]) (k := 2) (g0 := [0, 0, 0, 0]) (g' := []) (b := false) (T.c.def_ 18 (d := d__law_net_text) rfl) (m__law_net_text T) (fun _ _ _ _ _ _ us hl => match us, hl with | [_], _ => rfl) sc__law_net_text (by decide) rfl fun f cdv A outer s H E N base hr =>
    (pds_cons (pd_weak (g2 := [0, 2, 0, 0]) (pds_set (ps_set (i := 1) sc__law_net_text.nd rfl (Or.inl rfl) (pd_bin op_add_str sem_catS (pd_join pd_str (pd_lc (own := [("word", 2)]) rfl sc__law_net_text.nd (pdi_list (pd_ix ix_seq sem_ix (pd_var (pv 0)) pd_int (fun _ _ => rfl))) (blkOk_by (own := [("word", 2)]) (N := n__law_net_text) (sc := defScope s__law_net_text) (by decide +kernel)) (fun _ _ _ _ _ => (pg_name (i := 2) sc__law_net_text.nd rfl (Or.inl rfl))) (dg_one 2) (by decide) (fun _ _ _ _ _ => pdts_nil) (fun _ _ _ _ _ => (pd_bin op_add_str sem_catS (pd_var (pv 2)) pd_str)))) (pd_bin op_mulS sem_mulS pd_str (pd_ty1 call_int1 sem_int rfl (m_int T) rfl (pd_cmp (op_eqD hr.units) sem_eq (pd_ix ix_seq sem_ix (pd_var (pv 0)) pd_int (fun _ _ => rfl)) (pd_lst pda_nil) (nomark _))))))) (by decide))
    (pds_one (pds_ret (pd_bin op_add_str sem_catS (pd_bin op_add_str sem_catS (pd_bin op_add_str sem_catS (pd_var (pv 1)) pd_str) (pd_join pd_str (pd_lc (own := [("way", 3)]) rfl sc__law_net_text.nd (pdi_list (pd_ix ix_seq sem_ix (pd_var (pv 0)) pd_int (fun _ _ => rfl))) (blkOk_by (own := [("way", 3)]) (N := n__law_net_text) (sc := defScope s__law_net_text) (by decide +kernel)) (fun _ _ _ _ _ => (pg_name (i := 3) sc__law_net_text.nd rfl (Or.inl rfl))) (dg_one 3) (by decide) (fun _ _ _ _ _ => pdts_nil) (fun _ _ _ _ _ => (pd_callD (ok__law_way T) hr (by decide) rfl takes0 (pda_cons (pd_var (pv 3)) pda_nil)))))) (pd_bin op_mulS sem_mulS pd_str (pd_ty1 call_int1 sem_int rfl (m_int T) rfl (pd_cmp (op_eqD hr.units) sem_eq (pd_ix ix_seq sem_ix (pd_var (pv 0)) pd_int (fun _ _ => rfl)) (pd_lst pda_nil) (nomark _))))) (by decide))))
theorem ok_law {P : Program} {w : World} {K : PySem.W.Frag} {mg : Str → Option Value} {h : Heap} (T : Tx K mg h) : DefOk P w K mg 4 "law" ["script"] 3 V_law :=
  def_mk (Ns := n_law) (ps := ["script"]) (k := 3) (g0 := [0, 0, 0, 0, 0, 0, 0, 0, 0]) (g' := []) (b := false) (T.c.def_ 19 (d := d_law) rfl) (m_law T) (fun _ _ _ _ _ _ us hl => match us, hl with | [_], _ => rfl) sc_law (by decide) rfl fun f cdv A outer s H E N base hr =>
    (pds_cons (pd_weak (g2 := [0, 1, 0, 0, 0, 0, 0, 0, 0]) (pds_set (ps_set (i := 1) sc_law.nd rfl (Or.inl rfl) (pd_slice sl_list sem_slL (pd_var (pv 0)) pdo_none (pdo_some pd_int)))) (by decide))
    (pds_cons (pds_if (pdt_cmp (op_eqD hr.units) sem_eq (pd_var (pv 1)) (pd_lst pda_nil) (nomark _))
    (pds_one (pd_weak (g2 := [0, 1, 0, 0, 0, 0, 0, 0, 0]) (pds_top (i := 1) (pd_weak (g2 := [0, 2, 0, 0, 0, 0, 0, 0, 0]) (pds_set (ps_set (i := 1) sc_law.nd rfl (Or.inl rfl) (pd_lst (pda_cons pd_int pda_nil)))) (by decide)) (by decide)) (by decide)))
    pds_nil)
    (pds_cons (pds_for (gL := [0, 0, 0, 0, 0, 0, 0, 0, 0]) (passes_of rfl) rfl (pdi_list (pd_var (pv 1))) (pg_name (i := 2) sc_law.nd rfl (Or.inl rfl)) (dg_one 2) (pds_weak (g2 := [0, 0, 0, 0, 0, 0, 0, 0, 0]) (pds_cons (pd_weak (g2 := [0, 0, 0, 0, 0, 0, 0, 0, 0]) (pds_set (ps_set (i := 3) sc_law.nd rfl (Or.inl rfl) (pd_callD (ok__law_net T) hr (by decide) rfl (takes_of rfl rfl rfl rfl) (pda_cons (pd_var (pv 2)) (pda_cons pd_int (pda_cons pd_int pda_nil)))))) (by decide))
    (pds_cons (pd_weak (g2 := [0, 0, 0, 0, 2, 0, 0, 0, 0]) (pds_set (ps_set (i := 4) sc_law.nd rfl (Or.inl rfl) (pd_callD (ok__law_net_text T) hr (by decide) rfl (takes_of rfl rfl rfl rfl) (pda_cons (pd_var (pv 3)) pda_nil)))) (by decide))
    (pds_cons (pd_weak (g2 := [0, 0, 0, 0, 2, 2, 0, 0, 0]) (pds_set (ps_set (i := 5) sc_law.nd rfl (Or.inl rfl) (pd_callD (ok__law_copy T) hr (by decide) rfl (takes_of rfl rfl rfl rfl) (pda_cons (pd_var (pv 3)) pda_nil)))) (by decide))
    (pds_one (pds_for (gL := [0, 0, 0, 0, 2, 2, 0, 0, 0]) (passes_of rfl) rfl (pdi_range1 rfl (m_range T) pd_int) (pg_name (i := 6) sc_law.nd rfl (Or.inl rfl)) (dg_one 6) (pds_weak (g2 := [0, 0, 0, 0, 2, 2, 0, 0, 0]) (pds_cons (pd_weak (g2 := [0, 0, 0, 0, 2, 2, 0, 2, 0]) (pds_set (ps_set (i := 7) sc_law.nd rfl (Or.inl rfl) (pd_callD (ok_net_text T) hr (by decide) rfl (takes_of rfl rfl rfl rfl) (pda_cons (pd_var (pv 5)) pda_nil)))) (by decide))
    (pds_cons (pds_if (PW.pt (pdw_or (pdt_not (pdt_val (pd_isi (T := "str") (by decide +kernel) rfl (m_isinstance T) rfl (m_str T) rfl (pd_var (pv 7))))) (pdw_or (pdt_cmp (op_neD hr.units) sem_ne (pd_var (pv 7)) (pd_var (pv 4)) (nomark _)) (pdw_one' (pdt_cmp (op_neD hr.units) sem_ne (pd_var (pv 5)) (pd_var (pv 3)) (nomark _))))))
    (pds_one (pds_ret pd_bl (by decide)))
    pds_nil)
    (pds_cons (pd_weak (g2 := [0, 0, 0, 0, 2, 2, 0, 2, 2]) (pds_set (ps_set (i := 8) sc_law.nd rfl (Or.inl rfl) (pd_callD (ok_read_net T) hr (by decide) rfl (takes_of rfl rfl rfl rfl) (pda_cons (pd_var (pv 4)) pda_nil)))) (by decide))
    (pds_cons (pds_if (pdt_not (pdt_val (pd_callD (ok__law_is_net T) hr (by decide) rfl (takes_of rfl rfl rfl rfl) (pda_cons (pd_var (pv 8)) (pda_cons (pd_var (pv 3)) pda_nil)))))
    (pds_one (pds_ret pd_bl (by decide)))
    pds_nil)
    (pds_cons (pds_napp (k := 0) (pe_ix ix_seq (pv 8) pe_int (fun _ _ => rfl)) pd_str (by decide))
    (pds_one (pds_nclr (k := 1) (pe_ix ix_seq (pv 8) pe_int (fun _ _ => rfl)) (by decide)))))))) (by decide)) (by decide)))))) (by decide)) (by decide))
    (pds_one (pds_ret (pd_and (pd_cmp (op_eqD hr.units) sem_eq (pd_callD (ok_net_text T) hr (by decide) rfl (takes_of rfl rfl rfl rfl) (pda_cons (pd_tup (pda_cons (pd_lst pda_nil) (pda_cons (pd_lst pda_nil) pda_nil))) pda_nil)) pd_str (nomark _)) (pd_one (pd_cmp (op_eqD hr.units) sem_eq (pd_callD (ok_read_net T) hr (by decide) rfl (takes_of rfl rfl rfl rfl) (pda_cons pd_str pda_nil)) (pd_tup (pda_cons (pd_lst pda_nil) (pda_cons (pd_lst (pda_cons (pd_tup (pda_cons (pd_un un_neg sem_neg pd_int) (pda_cons (pd_un un_neg sem_neg pd_int) pda_nil))) pda_nil)) pda_nil))) (nomark _)))) (by decide))))))
abbrev R : PySem.W.OpenRow := PySem.W.OpenLaw.row PySem.Challenge.rw_pilenets_k75_nets_written
abbrev hk : PySem.W.Hook := Dv.hookX 4 fa fn ex
def ob (s : PySem.W.SharedT) : Bool × He.AlD := Dv.obsX 4 fa fn ex (HandSHeadRun.getT s)
theorem ob_eq (s : PySem.W.SharedT) : ob s = hk.obs s.abs := Dv.obsX_eq (HandSHeadRun.getT_eq s)
def loose0 : List PySem.Str := ["PileError", "NoNet", "NoText", "OUT_nets", "is_way", "leads_round", "net_of", "FIGURES", "MOST_FIGURES", "NONE", "WORDS", "IN", "OUT_texts", "end_text", "way_text", "listed", "net_text", "figures_told", "way_told", "parts_told", "stations_told", "read_net", "_law_stir", "_law_net", "_law_copy", "_law_is_net", "_law_end", "_law_way", "_law_net_text"]
def looseN : List PySem.Str := loose0
theorem run (w : World) : HandSHeadRun.RunEq R (PySem.W.view R.prog [33]) hk ob 20000 looseN w := by
  intro os
  kernel_rfl
def LAWAT : Nat := 33
end K75

namespace K75
open PySem PySem.Spec PyProof.Rows L2 Dv Lb
theorem net_ok {st : List Str} {ws : List Way} (h : ∀ s ∈ st, s = "pile" ∨ s = "line") : PyData.strOk (netT st ws) = true := by
  refine strOk_app (strOk_app ?_ ok_sp) ?_
  · unfold stT
    split
    · exact ok_dash
    · refine join_ok okEmpty fun x hx => ?_
      obtain ⟨s, hs, rfl⟩ := List.mem_map.mp hx
      exact strOk_app (wd_facts (h s hs)).1 sep_c.ok
  · unfold wsT listC
    split
    · exact ok_dash
    · refine join_ok sep_c.ok fun x hx => ?_
      obtain ⟨w, _, rfl⟩ := List.mem_map.mp hx
      exact way_ok w
abbrev nD (st : List Str) (ws : List Way) : D := .tup [.lst (st.map D.str), .lst (ws.map wD)]
theorem turns {st : List Str} {ws : List Way} (h : OkNet st ws) (hs : Sp2 ws) (d0 d1 d2 : D) (x6 x7 x8 : Option D) (mu : Mu) :
    ∃ y6 y7 y8, sForL (tName 6) L8_law (intsD 0 2) [some d0, some d1, some d2, some (nD st ws), some (.str (netT st ws)), some (nD st ws), x6, x7, x8] mu = .nx [some d0, some d1, some d2, some (nD st ws), some (.str (netT st ws)), some (nD st ws), y6, y7, y8] mu := by
  obtain ⟨Inv, hI⟩ : ∃ I : List D → Rho → Mu → Prop, I = fun rem rho m => ∃ y6 y7 y8 : Option D, m = mu ∧ rho = [some d0, some d1, some d2, some (nD st ws), some (.str (netT st ws)), some (nD st ws), y6, y7, y8] := ⟨_, rfl⟩
  have e1 := v_net_text h mu
  have e2 := v_read_net h mu
  rw [sortP_id hs] at e2
  have e3 := v_is_net h.wd ws mu
  have q1 : oNe (.str (netT st ws)) (.str (netT st ws)) = some false := oNe_self (shp_str (net_ok h.wd))
  have q2 : oNe (nD st ws) (nD st ws) = some false := oNe_self ((shp_net h.wd ws).shp (by decide))
  have z1 : st.length < 16777216 := Nat.lt_of_le_of_lt h.n (by decide)
  obtain ⟨rho', mu', h1, hfin⟩ := sForL_invE (t := tName 6) (f := L8_law) Inv (fun d ds' rho m hh => by
    rw [hI] at hh
    obtain ⟨y6, y7, y8, rfl, rfl⟩ := hh
    have goal : ∀ a b c, Inv ds' [some d0, some d1, some d2, some (nD st ws), some (.str (netT st ws)), some (nD st ws), a, b, c] m := fun a b c => by
      rw [hI]
      exact ⟨_, _, _, rfl, rfl⟩
    unfold L8_law V_net_text V_read_net V__law_is_net
    simp [e1, q1, q2, e2, e3, nestAt, mkO, z1]
    exact goal _ _ _) (intsD 0 2) _ mu (by rw [hI]; exact ⟨x6, x7, x8, rfl, rfl⟩)
  rw [hI] at hfin
  obtain ⟨y6, y7, y8, rfl, rfl⟩ := hfin
  exact ⟨y6, y7, y8, h1⟩
theorem law_loop (d0 d1 : D) (cells : List Int) (mu : Mu) : ∃ x2 x3 x4 x5 x6 x7 x8, sForL (tName 2) L4_law (cells.map D.int) [some d0, some d1, none, none, none, none, none, none, none] mu = .nx [some d0, some d1, x2, x3, x4, x5, x6, x7, x8] mu := by
  obtain ⟨Inv, hI⟩ : ∃ I : List D → Rho → Mu → Prop, I = fun rem rho m => ∃ x2 x3 x4 x5 x6 x7 x8 : Option D, m = mu ∧ rho = [some d0, some d1, x2, x3, x4, x5, x6, x7, x8] ∧ ∀ d ∈ rem, ∃ i, d = .int i := ⟨_, rfl⟩
  obtain ⟨rho', mu', h1, hfin⟩ := sForL_invE (t := tName 2) (f := L4_law) Inv (fun d ds' rho m hh => by
    rw [hI] at hh
    obtain ⟨x2, x3, x4, x5, x6, x7, x8, rfl, rfl, hi⟩ := hh
    obtain ⟨i, rfl⟩ := hi _ List.mem_cons_self
    obtain ⟨st, ws, hok, hsp, en⟩ := v_law_net i (base := 0) (most := 6) (by decide) (by decide) m
    have et := v_lnet_text hok m
    have ec := v_copy st ws m
    obtain ⟨y6, y7, y8, el⟩ := turns hok hsp d0 d1 (.int i) x6 x7 x8 m
    have goal : ∀ a b c d e f g, Inv ds' [some d0, some d1, a, b, c, d, e, f, g] m := fun a b c d e f g => by
      rw [hI]
      exact ⟨_, _, _, _, _, _, _, rfl, rfl, fun d hd => hi d (List.mem_cons_of_mem _ hd)⟩
    have s2 : small62 2 = true := by decide
    have n2 : (2 : Int).toNat = 2 := rfl
    unfold L4_law V__law_net V__law_net_text V__law_copy
    simp [en, et, ec, s2, n2, el]
    exact goal _ _ _ _ _ _ _) (cells.map D.int) [some d0, some d1, none, none, none, none, none, none, none] mu (by rw [hI]; exact ⟨none, none, none, none, none, none, none, rfl, rfl, fun d hd => by
      obtain ⟨i, _, rfl⟩ := List.mem_map.mp hd
      exact ⟨i, rfl⟩⟩)
  rw [hI] at hfin
  obtain ⟨x2, x3, x4, x5, x6, x7, x8, rfl, rfl, _⟩ := hfin
  exact ⟨x2, x3, x4, x5, x6, x7, x8, h1⟩
theorem ok_e : OkNet [] [] := ⟨(fun _ h => nomatch h), (by decide), (fun _ h => nomatch h), List.nodup_nil, (by decide), ⟨fun _ => 0, (fun _ h => nomatch h)⟩⟩
theorem ok_1 : OkNet [] [(-1, -2)] := ⟨(fun _ h => nomatch h), (by decide), (fun w h => by
  rw [List.mem_singleton.mp h]
  exact ⟨by decide, by decide, .inl rfl, by decide⟩), (by decide), (by decide), ⟨fun _ => 0, (fun w h z => by
  rw [List.mem_singleton.mp h] at z
  exact absurd z (by decide))⟩⟩
theorem net_e : netT [] [] = "- -" := by decide +kernel
theorem net_1 : netT [] [(-1, -2)] = "- in>out" := by decide +kernel
theorem z_e : PyData.strOk ("- -" : Str) = true := by decide +kernel
theorem t1 (mu : Mu) : Lb.V_net_text [.tup [.lst [], .lst []]] mu = .ok (.str "- -") mu := by
  have := v_net_text ok_e mu
  rw [net_e] at this
  exact this
theorem t2 (mu : Mu) : Lb.V_read_net [.str "- in>out"] mu = .ok (.tup [.lst [], .lst [.tup [.int (-1), .int (-2)]]]) mu := by
  have := v_read_net ok_1 mu
  rw [net_1] at this
  exact this
section
variable {R Lg : Den} {B : DS} {d0 : D} {rho : Rho} {s1 s2 : List D} {x2 x3 x4 x5 x6 x7 x8 : Option D} {c : Int}
theorem y1 (hd : oSlL d0 none (some 12) = some (.lst s1)) : sSet 1 (dSl oSlL (dVar 0) doNone (doSome (dK (.int 12)))) [some d0, none, none, none, none, none, none, none, none] [] = .nx [some d0, some (.lst s1), none, none, none, none, none, none, none] [] := by
  simp [hd]
theorem y2 (q1 : oEq (.lst s1) (.lst []) = some false) : (sIf (dCmp oEq (dVar 1) (dLst daNil))
    (sTop 1 (sSet 1 (dLst (daCons (dK (.int 0)) daNil))))
    sNil) [some d0, some (.lst s1), none, none, none, none, none, none, none] [] = .nx [some d0, some (.lst s1), none, none, none, none, none, none, none] [] := by
  simp [q1]
theorem y3 (q1 : oEq (.lst s1) (.lst []) = some true) : (sIf (dCmp oEq (dVar 1) (dLst daNil))
    (sTop 1 (sSet 1 (dLst (daCons (dK (.int 0)) daNil))))
    sNil) [some d0, some (.lst s1), none, none, none, none, none, none, none] [] = .nx [some d0, some (.lst [.int 0]), none, none, none, none, none, none, none] [] := by
  simp [q1]
theorem y4 (hl : sForL (tName 2) B s2 [some d0, some (.lst s2), none, none, none, none, none, none, none] [] = .nx [some d0, some (.lst s2), x2, x3, x4, x5, x6, x7, x8] []) :
   (sFor (daSeq (dVar 1)) (tName 2) B) [some d0, some (.lst s2), none, none, none, none, none, none, none] [] = .nx [some d0, some (.lst s2), x2, x3, x4, x5, x6, x7, x8] [] := by simp [hl]
theorem y5 (e1 : R [.tup [.lst [], .lst []]] [] = .ok (.str "- -") []) (e2 : Lg [.str "- in>out"] [] = .ok (.tup [.lst [], .lst [.tup [.int (-1), .int (-2)]]]) []) :
    (sRet (dV (dAnd (dB (dV (dCmp oEq (dCall 1 R (daCons (dTup (daCons (dLst daNil) (daCons (dLst daNil) daNil))) daNil)) (dK (.str "- -"))))) (dB (dV (dCmp oEq (dCall 1 Lg (daCons (dK (.str "- in>out")) daNil)) (dTup (daCons (dLst daNil) (daCons (dLst (daCons (dTup (daCons (dOp1 oNeg (dK (.int 1))) (daCons (dOp1 oNeg (dK (.int 2))) daNil))) daNil)) daNil))))))))) rho [] = .rt (.bl true) [] := by
  have q1 : oEq (.str "- -") (.str "- -") = some true := oEq_self (shp_str z_e)
  have q2 : oEq (.tup [.lst [], .lst [.tup [.int (-1), .int (-2)]]]) (.tup [.lst [], .lst [.tup [.int (-1), .int (-2)]]]) = some true := oEq_self ((shp_net (st := []) (fun _ h => nomatch h) [(-1, -2)]).shp (by decide))
  simp [e1, e2, q1, q2]
end
theorem law_go {d0 : D} {c : Int} {r : List Int} {s1 : List D} (hd : oSlL d0 none (some 12) = some (.lst s1)) (q1 : oEq (.lst s1) (.lst []) = some s1.isEmpty) (hc : (s1.isEmpty = true ∧ c = 0 ∧ r = []) ∨ (s1.isEmpty = false ∧ s1 = .int c :: r.map D.int)) :
    V_law [d0] [] = .ok (.bl true) [] := by
  obtain ⟨x2, x3, x4, x5, x6, x7, x8, hl⟩ := law_loop d0 (.lst ((c :: r).map D.int)) (c :: r) []
  unfold V_law
  rw [den_ap]
  show fin false (S_law [some d0, none, none, none, none, none, none, none, none] []) = _
  unfold S_law
  rw [seq_ap, y1 hd, thn_nx, seq_ap]
  have y23 : (sIf (dCmp oEq (dVar 1) (dLst daNil))
    (sTop 1 (sSet 1 (dLst (daCons (dK (.int 0)) daNil))))
    sNil) [some d0, some (.lst s1), none, none, none, none, none, none, none] [] = .nx [some d0, some (.lst ((c :: r).map D.int)), none, none, none, none, none, none, none] [] := by
    rcases hc with ⟨h1, rfl, rfl⟩ | ⟨h1, rfl⟩
    · exact y3 (by rw [q1, h1])
    · exact y2 (by rw [q1, h1])
  rw [y23, thn_nx, seq_ap, y4 hl, thn_nx, y5 (t1 []) (t2 []), fin_rt]
theorem v_law (d0 : D) (ns : List Int) (hd : oSlL d0 none (some 12) = some (.lst ((ns.take 12).map D.int))) : V_law [d0] [] = .ok (.bl true) [] := by
  have q1 : oEq (.lst ((ns.take 12).map D.int)) (.lst []) = some ((ns.take 12).map D.int).isEmpty := oEq_nil ((shp_row _).shp (by decide))
  generalize ns.take 12 = cells at hd q1
  cases cells with
  | nil => exact law_go (c := 0) (r := []) hd q1 (.inl ⟨rfl, rfl, rfl⟩)
  | cons c r => exact law_go (c := c) (r := r) hd q1 (.inr ⟨rfl, rfl⟩)
theorem right (ns : List Int) (_ : ns.length ≤ 63) : Right V_law ns :=
  ⟨⟨[], v_law _ ns (by show some (D.lst (Dv.cutD (ns.map D.int) none (some ((12 : Nat) : Int)))) = _; rw [cutD_take])⟩, ⟨[], v_law _ ns (by show some (D.lst (Dv.cutD (ns.map D.int) none (some ((12 : Nat) : Int)))) = _; rw [cutD_take])⟩⟩
end K75

open PySem PySem.W PySem.Calls PyProof.Rows
theorem PySem.Challenge.cw_pilenets_k75_nets_written_holds : PySem.Challenge.rw_pilenets_k75_nets_written.Holds := by
  w_on; o_law
  refine HandSHeadRun.head_any (r := OpenLaw.row PySem.Challenge.rw_pilenets_k75_nets_written) (q := view (OpenLaw.row PySem.Challenge.rw_pilenets_k75_nets_written).prog [33]) (H := K75.hk) (ob := K75.ob) (M := 20000) (loose := K75.looseN) (d := HandSHeadRun.topDef (OpenLaw.row PySem.Challenge.rw_pilenets_k75_nets_written).prog 33) (kwd := []) K75.ob_eq
    (by kernel_rfl) (fun s => by kernel_rfl) K75.run (by kernel_rfl) (by kernel_rfl) (by kernel_rfl) (by rfl) (by first | assumption | decide +kernel) (by decide +kernel) ⟨rfl, rfl, rfl, rfl, rfl, by decide +kernel⟩ ?hw ?hc
  case hw => w_witness2
  case hc =>
    refine Dv.walk_dv (l := PySem.Challenge.rw_pilenets_k75_nets_written) (n := 63) (k := 4) (x := "script") rfl (by decide) (by kernel_rfl) ⟨rfl, by decide, by decide⟩ ?F
    intro w mg fa h Y G hmg0
    obtain ⟨K, KX, c⟩ := Y
    have T : K75.Tx K mg h := ⟨KX, G, c⟩
    have hmg : mg ("law" : PySem.Str) = some (.ref fa) := by
      have e : (HandSHeadRun.topDef (OpenLaw.row PySem.Challenge.rw_pilenets_k75_nets_written).prog 33).name = ("law" : PySem.Str) := by kernel_rfl
      rw [← e]
      exact hmg0
    have ok := K75.ok_law (P := (PySem.Challenge.rw_pilenets_k75_nets_written).prog) (w := w) T
    have e := hmg.symm.trans ok.gm
    cases e
    obtain ⟨fd, _, b, F⟩ := ok.ex
    exact ⟨K, fd, _, KX, fun s u => b s [u] rfl, fun H a ns hl _ hS => Dv.law_sp (G := ⟨K, _, w, mg⟩) (K75.right ns hl) hS, fun base _ _ => F base⟩

