import PyProof.Rows.All
import Wide.All
import OpenK.AllK
import Wide.FinOn
import PySem.Challenge.RW_saidthendone_k00_whole_sums_regrouped
import HandS.ForMost
import HandS.Head0
import HandS.Head1
import HandS.Head2
import HandS.Head3
import HandS.HeadEnd
import HandS.HeadHook1
import HandS.Gcd
import HandS.Wide
import HandS.IsInst
import HandS.Deep
import HandS.Flow
import HandS.Style
import HandS.Defaults
import HandS.MakeKwOnly
import KE.KDictZip
import KE.SortData
import HandS.Conv
import HandS.More
set_option Elab.async false
set_option linter.all false
set_option maxRecDepth 100000
set_option maxHeartbeats 0
set_option exponentiation.threshold 30000
/-! text: KH -/
namespace DL
open PySem PySem.Spec PyProof.Rows L2
def top (i : Nat) : Stmt := PySem.Challenge.pw_saidthendone_k00_whole_sums_regrouped.main.body.getD i (.Pass ⟨0, 0, 0, 0⟩)
abbrev sInitH : Stmt := inClass (top 8) 0
def tyH : List String := ["NoneType", "bool", "int", "str", "list", "tuple", "dict"]
/-! ### the head: facts by names -/
def dl0 : List (Str × Nat) := [("is_whole", 7), ("is_number", 9), ("pair_of", 10), ("quotient", 11), ("plain", 12), ("add", 13), ("negative", 14), ("less", 15), ("product", 16), ("divided", 17), ("sign_of", 18), ("common_bottom", 19), ("wholes", 20), ("sum_of", 21), ("highest", 22), ("lowest", 23), ("row_keys", 24), ("sorted_rows", 25), ("check_number", 26), ("check_pair", 27), ("plus", 28), ("minus", 29), ("times", 30), ("over", 31), ("compare", 32), ("check_numbers", 33), ("total", 34), ("least", 35), ("greatest", 36), ("ascending", 37)]
def dl1 : List (Str × Nat) := [("_law_cell", 39), ("_law_box", 40), ("_law_take", 41), ("_law_pick", 42), ("_law_mixed", 43), ("_law_low", 44), ("_law_plus", 45), ("_law_minus", 46), ("_law_times", 47), ("_law_over", 48), ("_law_less", 49), ("_law_sum", 50), ("_law_num", 51), ("_law_give", 52), ("_law_given", 53), ("_law_is", 54), ("_law_number", 55), ("_law_small", 56), ("_law_sides", 57), ("_law_all", 58), ("_law_due", 59), ("_law_list_right", 60), ("_law_sign", 61), ("_law_pair_right", 62), ("law", 63)]
def dlA : List (Str × Nat) := dl0 ++ dl1
def mkD (p : Str × Nat) : He.FnD := ⟨(p.1, none), p.1, p.1, defArgs (top p.2), defBody (top p.2), defScope (top p.2)⟩
def dInit : He.FnD := ⟨("Ratio", some "__init__"), "__init__", "Ratio.__init__", defArgs sInitH, defBody sInitH, defScope sInitH⟩
def fnA : List He.FnD := dInit :: dlA.map mkD
def freeL : List Str := ["isinstance", "int", "bool", "str", "list", "tuple", "dict", "len", "range", "sum", "max", "min", "abs", "sorted", "zip", "all", "any", "enumerate", "reversed", "ValueError"]
def faR : List He.Fa := [.glo "Ratio", .cls "Ratio", .noat "Ratio" "top", .noat "Ratio" "bottom", .mkr "Ratio", .meth "Ratio" "__init__"]
def faA : List He.Fa := faR ++ (freeL.map He.Fa.free ++ (dlA.map (fun p => He.Fa.glo p.1) ++ dlA.map (fun p => He.Fa.keep p.1)))
def exA (K : PySem.W.Frag) : Bool := He.eqO (PySem.W.findIn K (.ref (He.ga K "Ratio")) "__class__") (some (some (.builtin "object.__class__"))) && (He.eqO (PySem.W.specialIn K (.builtin "object.__class__") "__get__") (some (some (.builtin "getset_descriptor.__get__"))) &&
  (decide (PySem.W.takesIn K (.builtin "object.__class__") = some true) && (decide (PySem.W.mroIn K (He.ga K "Ratio") (.type "object") = some true) && ((tyH.all fun n => decide (PySem.W.kitOne K (.ref (He.ga K "Ratio")) (.type n) = some false)) &&
  ((tyH.all fun n => decide (PySem.W.kitOne K (.type n) (.ref (He.ga K "Ratio")) = some false)) && (decide (PySem.W.kitOne K (.ref (He.ga K "Ratio")) (.ref (He.ga K "Ratio")) = some true) && He.eqO (PySem.W.nsIn K PySem.mainGlobals "gcd") (some (some (.builtin "math.gcd")))))))))
abbrev AlM : Type := He.Al × Bool
def obsM (n : Nat) (g : Addr → Option Obj) : AlM := (He.obsE faA fnA (He.frG g (He.asG g n)), exA (He.frG g (He.asG g n)))
def hookM (n : Nat) : PySem.W.Hook where
  α := AlM
  obs := fun s => obsM n s.heap.get?
  val := fun _ => (He.valE fnA, true)
  says := fun _ h => ∃ K : PySem.W.Frag, K.In h ∧ He.SaysE faA fnA K ∧ exA K = true
  of := fun _ _ e => ⟨_, He.frG_in, congrArg (fun z : AlM => z.1) e, congrArg (fun z : AlM => z.2) e⟩
  keeps := fun _ _ _ ⟨K, hK, c⟩ k => ⟨K, PySem.W.Frag.In.keeps hK k, c⟩
theorem obsM_eq {n : Nat} {g : Addr → Option Obj} {s : Shared} (h : ∀ a, g a = s.heap.get? a) : obsM n g = (hookM n).obs s := by
  have e : g = s.heap.get? := funext h
  rw [e] <;> rfl
def nm0 : List PySem.Str := ["SayError", "ByZero", "InvalidNumber", "InvalidNumbers", "is_whole", "Ratio", "is_number", "pair_of", "quotient", "plain", "add", "negative", "less", "product", "divided", "sign_of", "common_bottom", "wholes", "sum_of", "highest", "lowest", "row_keys", "sorted_rows", "check_number", "check_pair", "plus", "minus", "times", "over", "compare"]
def nm1 : List PySem.Str := ["check_numbers", "total", "least", "greatest", "ascending", "_law_cell", "_law_box", "_law_take", "_law_pick", "_law_mixed", "_law_low", "_law_plus", "_law_minus", "_law_times", "_law_over", "_law_less", "_law_sum", "_law_num", "_law_give", "_law_given", "_law_is", "_law_number", "_law_small", "_law_sides", "_law_all", "_law_due", "_law_list_right", "_law_sign", "_law_pair_right"]
def namesA : List PySem.Str := nm0 ++ nm1
abbrev RR : PySem.W.OpenRow := PySem.W.OpenLaw.row PySem.Challenge.rw_saidthendone_k00_whole_sums_regrouped
abbrev qv : PySem.Program := PySem.W.view RR.prog [0, 63]
def obM (s : PySem.W.SharedT) : AlM := obsM 6 (HandSHeadRun.getT s)
theorem obM_eq (s : PySem.W.SharedT) : obM s = (hookM 6).obs s.abs := obsM_eq (HandSHeadRun.getT_eq s)
theorem run (w : World) : HandSHeadRun.RunEqI RR qv (hookM 6) obM 8000 namesA w := by
  unfold HandSHeadRun.RunEqI
  kernel_rfl
end DL
/-! text: DLa -/
/-! DL, part a: Python's values as pure data, a world (what never changes; the cells' addresses), a store of cells; the judgements. -/
namespace L2
open PySem
/-- keys: tuples of ints, none empty -/
abbrev IK := Int × List Int
def ikL (b : IK) : List Int := b.1 :: b.2
def EntR (e : IK × Addr × V) (x : List Key × Addr × Value) : Prop := x.1 = (ikL e.1).map Sum.inl ∧ x.2.1 = e.2.1 ∧ RelV e.2.2 x.2.2
/-- a dict with these keys (at these places) and values -/
def dzO (P : Program) (w : World) (a : Addr) (es : List (IK × Addr × V)) : HO := .ext fun h => ∃ xs : List (List Key × Addr × Value), Paired EntR es xs ∧ (a == sysModules) = false ∧
  ∃ o ds ep, h.get? a = some o ∧ o.ExactDict ∧ o.data = .dict ds ep ∧ ds.toList = xs.map (entryOfKey (tupleKind (mixKind P w))) ∧ (xs.map (·.1)).Nodup
end L2
namespace DL
open PySem L2

/-- pure data -/
inductive D where
  | non | bl (b : Bool) | int (i : Int) | str (x : Str) | ty (n : String) | rat (t b : Int) | lst (xs : List D) | fro (xs : List D) | tup (xs : List D) | cel (i : Nat) | adr (a : Addr) | dct (ks : List IK) (vs : List D)

abbrev Store := List (Option (List D))
abbrev Gam := List (Option D)
/-- a world: G, the objects that never change; mu, where the cells stand -/
structure Wd where
  G : Hp
  mu : List Addr
/-- what holds of the whole program: C the class of quotients -/
structure Bs where
  P : Program
  w : World
  K : PySem.W.Frag
  mg : Str → Option Value
  base : Heap
  C : Addr
/-- where code stands: its names by slot, its scope, the room -/
structure Ctx where
  B : Bs
  N : List Str
  sc : Scope
  k : Nat
  fn : Str → Bool

def rf (t b : Int) : List (Str × V) := [("top", .int t), ("bottom", .int b)]

mutual
/-- the value v is the datum, in the world W -/
def Rep (B : Bs) (W : Wd) : D → V → Prop
  | .non, v => v = .non
  | .bl b, v => v = .bl b
  | .int i, v => v = .int i
  | .str x, v => v = .str x
  | .ty n, v => v = .ty n
  | .rat t b, v => ∃ a dx, v = .ref a ∧ W.G a = some (.ins B.C dx (rf t b))
  | .lst ds, v => ∃ a vs, v = .ref a ∧ W.G a = some (.lst vs) ∧ Reps B W ds vs
  | .fro ds, v => ∃ a vs, v = .ref a ∧ SqL B.K W.G a vs ∧ Reps B W ds vs
  | .tup ds, v => ∃ a vs, v = .ref a ∧ SqT B.K W.G a vs ∧ Reps B W ds vs
  | .cel i, v => ∃ a, v = .ref a ∧ W.mu[i]? = some a
  | .adr a, v => v = .ref a
  | .dct ks ds, v => ∃ a es, v = .ref a ∧ W.G a = some (dzO B.P B.w a es) ∧ es.map (·.1) = ks ∧ (∀ e ∈ es, SqT B.K W.G e.2.1 ((ikL e.1).map V.int)) ∧ Reps B W ds (es.map (·.2.2))
def Reps (B : Bs) (W : Wd) : List D → List V → Prop
  | [], vs => vs = []
  | d :: ds, vs => ∃ v r, vs = v :: r ∧ Rep B W d v ∧ Reps B W ds r
end

structure Le (W W' : Wd) : Prop where
  g : ∀ a o, W.G a = some o → W'.G a = some o
  m : ∃ r, W'.mu = W.mu ++ r
theorem Le.refl (W : Wd) : Le W W := ⟨fun _ _ h => h, [], by simp⟩
theorem Le.trans {W W1 W2 : Wd} (a : Le W W1) (b : Le W1 W2) : Le W W2 := ⟨fun x o h => b.g x o (a.g x o h), by
  obtain ⟨r, h⟩ := a.m
  obtain ⟨q, h2⟩ := b.m
  exact ⟨r ++ q, by rw [h2, h, List.append_assoc]⟩⟩
theorem Le.at {W W' : Wd} (l : Le W W') {i : Nat} {a : Addr} (h : W.mu[i]? = some a) : W'.mu[i]? = some a := by
  obtain ⟨r, e⟩ := l.m
  have hi : i < W.mu.length := (List.getElem?_eq_some_iff.mp h).1
  rw [e, List.getElem?_append_left hi]
  exact h
theorem Le.len {W W' : Wd} (l : Le W W') : W.mu.length ≤ W'.mu.length := by
  obtain ⟨r, e⟩ := l.m
  rw [e, List.length_append]
  omega

theorem rd_mono {G G' : Hp} {a : Addr} {u : HO} (e : ∀ a o, G a = some o → G' a = some o) (h : Rd G a u) : Rd G' a u := by
  rcases h with h | ⟨o, h⟩
  · exact Or.inl (e a _ h)
  · exact Or.inr ⟨o, e a _ h⟩
theorem sqL_mono {K : PySem.W.Frag} {G G' : Hp} {a : Addr} {xs : List V} (e : ∀ a o, G a = some o → G' a = some o) (h : SqL K G a xs) : SqL K G' a xs := by
  rcases h with h | h
  · exact Or.inl (rd_mono e h)
  · exact Or.inr h
theorem sqT_mono {K : PySem.W.Frag} {G G' : Hp} {a : Addr} {xs : List V} (e : ∀ a o, G a = some o → G' a = some o) (h : SqT K G a xs) : SqT K G' a xs := by
  rcases h with h | h
  · exact Or.inl (rd_mono e h)
  · exact Or.inr h

mutual
theorem Rep.mono {B : Bs} {W W' : Wd} (l : Le W W') : ∀ (d : D) (v : V), Rep B W d v → Rep B W' d v
  | .non, _, h => h
  | .bl _, _, h => h
  | .int _, _, h => h
  | .str _, _, h => h
  | .ty _, _, h => h
  | .rat t b, v, h => by
    simp only [Rep] at h ⊢
    obtain ⟨a, dx, e, g⟩ := h
    exact ⟨a, dx, e, l.g _ _ g⟩
  | .lst ds, v, h => by
    simp only [Rep] at h ⊢
    obtain ⟨a, vs, e, g, r⟩ := h
    exact ⟨a, vs, e, l.g _ _ g, Reps.mono l ds vs r⟩
  | .fro ds, v, h => by
    simp only [Rep] at h ⊢
    obtain ⟨a, vs, e, g, r⟩ := h
    exact ⟨a, vs, e, sqL_mono l.g g, Reps.mono l ds vs r⟩
  | .adr _, _, h => h
  | .dct ks ds, v, h => by
    simp only [Rep] at h ⊢
    obtain ⟨a, es, e, g, k, t, r⟩ := h
    exact ⟨a, es, e, l.g _ _ g, k, fun e he => sqT_mono l.g (t e he), Reps.mono l ds _ r⟩
  | .tup ds, v, h => by
    simp only [Rep] at h ⊢
    obtain ⟨a, vs, e, g, r⟩ := h
    exact ⟨a, vs, e, sqT_mono l.g g, Reps.mono l ds vs r⟩
  | .cel i, v, h => by
    simp only [Rep] at h ⊢
    obtain ⟨a, e, g⟩ := h
    exact ⟨a, e, l.at g⟩
theorem Reps.mono {B : Bs} {W W' : Wd} (l : Le W W') : ∀ (ds : List D) (vs : List V), Reps B W ds vs → Reps B W' ds vs
  | [], _, h => h
  | d :: ds, vs, h => by
    simp only [Reps] at h ⊢
    obtain ⟨v, r, e, a, b⟩ := h
    exact ⟨v, r, e, Rep.mono l d v a, Reps.mono l ds r b⟩
end

theorem Reps.length {B : Bs} {W : Wd} : ∀ {ds : List D} {vs : List V}, Reps B W ds vs → vs.length = ds.length
  | [], _, h => by
    simp only [Reps] at h
    rw [h]
    rfl
  | d :: ds, vs, h => by
    simp only [Reps] at h
    obtain ⟨v, r, e, _, b⟩ := h
    rw [e, List.length_cons, List.length_cons, Reps.length b]
theorem Reps.nil {B : Bs} {W : Wd} : Reps B W [] [] := by simp only [Reps]
theorem Reps.cons {B : Bs} {W : Wd} {d : D} {ds : List D} {v : V} {vs : List V} (a : Rep B W d v) (b : Reps B W ds vs) : Reps B W (d :: ds) (v :: vs) := by
  simp only [Reps]
  exact ⟨v, vs, rfl, a, b⟩
theorem Reps.cons_inv {B : Bs} {W : Wd} {d : D} {ds : List D} {vs : List V} (h : Reps B W (d :: ds) vs) : ∃ v r, vs = v :: r ∧ Rep B W d v ∧ Reps B W ds r := by
  simpa only [Reps] using h
theorem Reps.nil_inv {B : Bs} {W : Wd} {vs : List V} (h : Reps B W [] vs) : vs = [] := by
  simpa only [Reps] using h
theorem Reps.get {B : Bs} {W : Wd} : ∀ {ds : List D} {vs : List V} {i : Nat} {d : D}, Reps B W ds vs → ds[i]? = some d → ∃ v, vs[i]? = some v ∧ Rep B W d v
  | [], _, i, d, _, e => by simp at e
  | x :: ds, vs, i, d, h, e => by
    obtain ⟨v, r, e1, a, b⟩ := h.cons_inv
    subst e1
    cases i with
    | zero =>
      simp only [List.getElem?_cons_zero, Option.some.injEq] at e
      subst e
      exact ⟨v, rfl, a⟩
    | succ i =>
      simp only [List.getElem?_cons_succ] at e
      obtain ⟨u, q, z⟩ := Reps.get b e
      exact ⟨u, by simpa using q, z⟩
/-- the other way: from the value's place -/
theorem Reps.getV {B : Bs} {W : Wd} : ∀ {ds : List D} {vs : List V} {i : Nat} {v : V}, Reps B W ds vs → vs[i]? = some v → ∃ d, ds[i]? = some d ∧ Rep B W d v
  | [], vs, i, v, h, e => by
    rw [h.nil_inv] at e
    simp at e
  | x :: ds, vs, i, v, h, e => by
    obtain ⟨u, r, e1, a, b⟩ := h.cons_inv
    subst e1
    cases i with
    | zero =>
      simp only [List.getElem?_cons_zero, Option.some.injEq] at e
      subst e
      exact ⟨x, rfl, a⟩
    | succ i =>
      simp only [List.getElem?_cons_succ] at e
      obtain ⟨d, q, z⟩ := Reps.getV b e
      exact ⟨d, by simpa using q, z⟩
theorem Reps.append {B : Bs} {W : Wd} : ∀ {ds es : List D} {vs us : List V}, Reps B W ds vs → Reps B W es us → Reps B W (ds ++ es) (vs ++ us)
  | [], es, vs, us, h, g => by
    rw [h.nil_inv]
    exact g
  | x :: ds, es, vs, us, h, g => by
    obtain ⟨u, r, e1, a, b⟩ := h.cons_inv
    subst e1
    exact .cons a (Reps.append b g)
theorem Reps.take {B : Bs} {W : Wd} : ∀ {ds : List D} {vs : List V} (n : Nat), Reps B W ds vs → Reps B W (ds.take n) (vs.take n)
  | [], vs, n, h => by
    rw [h.nil_inv]
    simpa using Reps.nil
  | x :: ds, vs, 0, h => by simpa using Reps.nil
  | x :: ds, vs, n + 1, h => by
    obtain ⟨u, r, e1, a, b⟩ := h.cons_inv
    subst e1
    exact .cons a (Reps.take n b)
theorem Reps.drop {B : Bs} {W : Wd} : ∀ {ds : List D} {vs : List V} (n : Nat), Reps B W ds vs → Reps B W (ds.drop n) (vs.drop n)
  | [], vs, n, h => by
    rw [h.nil_inv]
    simpa using Reps.nil
  | x :: ds, vs, 0, h => by simpa using h
  | x :: ds, vs, n + 1, h => by
    obtain ⟨u, r, e1, a, b⟩ := h.cons_inv
    subst e1
    exact Reps.drop n b
theorem Reps.set {B : Bs} {W : Wd} {d : D} {v : V} (q : Rep B W d v) : ∀ {ds : List D} {vs : List V} (n : Nat), Reps B W ds vs → Reps B W (ds.set n d) (vs.set n v)
  | [], vs, n, h => by
    rw [h.nil_inv]
    simpa using Reps.nil
  | x :: ds, vs, 0, h => by
    obtain ⟨u, r, e1, a, b⟩ := h.cons_inv
    subst e1
    exact .cons q b
  | x :: ds, vs, n + 1, h => by
    obtain ⟨u, r, e1, a, b⟩ := h.cons_inv
    subst e1
    exact .cons a (Reps.set q n b)
theorem Reps.eraseIdx {B : Bs} {W : Wd} : ∀ {ds : List D} {vs : List V} (n : Nat), Reps B W ds vs → Reps B W (ds.eraseIdx n) (vs.eraseIdx n)
  | [], vs, n, h => by
    rw [h.nil_inv]
    simpa using Reps.nil
  | x :: ds, vs, 0, h => by
    obtain ⟨u, r, e1, a, b⟩ := h.cons_inv
    subst e1
    exact b
  | x :: ds, vs, n + 1, h => by
    obtain ⟨u, r, e1, a, b⟩ := h.cons_inv
    subst e1
    exact .cons a (Reps.eraseIdx n b)
theorem Reps.ints {B : Bs} {W : Wd} : ∀ {ns : List Int} {vs : List V}, Reps B W (ns.map D.int) vs → vs = ns.map V.int
  | [], vs, h => h.nil_inv
  | n :: ns, vs, h => by
    obtain ⟨u, r, e1, a, b⟩ := h.cons_inv
    subst e1
    simp only [Rep] at a
    rw [a, Reps.ints b]
    rfl
theorem Reps.bls {B : Bs} {W : Wd} : ∀ {ns : List Bool} {vs : List V}, Reps B W (ns.map D.bl) vs → vs = ns.map V.bl
  | [], vs, h => h.nil_inv
  | n :: ns, vs, h => by
    obtain ⟨u, r, e1, a, b⟩ := h.cons_inv
    subst e1
    simp only [Rep] at a
    rw [a, Reps.bls b]
    rfl

/-- the state: the world's objects stand, each live cell holds what the store says, no two cells at one place -/
structure Ok (B : Bs) (W : Wd) (S : Store) (H : Hp) : Prop where
  sub : ∀ a o, W.G a = some o → H a = some o
  len : S.length = W.mu.length
  cell : ∀ (i : Nat) (c : List D), S[i]? = some (some c) → ∃ a vs, W.mu[i]? = some a ∧ W.G a = none ∧ H a = some (.lst vs) ∧ Reps B W c vs
  inj : ∀ (i j : Nat) (a : Addr) (c c' : List D), S[i]? = some (some c) → S[j]? = some (some c') → W.mu[i]? = some a → W.mu[j]? = some a → i = j
  dom : ∀ a, a ∈ W.mu → ∃ vs, H a = some (.lst vs)

theorem Ok.out {B : Bs} {W : Wd} {S : Store} {H : Hp} (h : Ok B W S H) {q : Addr} (hq : H q = none) : W.G q = none ∧ q ∉ W.mu := by
  refine ⟨?_, fun m => ?_⟩
  · cases e : W.G q with
    | none => rfl
    | some u => rw [h.sub q u e] at hq; cases hq
  · obtain ⟨o, e⟩ := h.dom q m
    rw [e] at hq
    cases hq
/-- what was there is there behind a write -/
theorem dom_new {H : Hp} {q : Addr} {o : HO} {a : Addr} (hq : H q = none) (h : ∃ u, H a = some (.lst u)) : ∃ u, upd H q o a = some (.lst u) := by
  obtain ⟨u, e⟩ := h
  exact ⟨u, by rw [upd_ne (ne_of_none e hq)]; exact e⟩
theorem dom_set {H : Hp} {q : Addr} {vs : List V} {a : Addr} (h : ∃ u, H a = some (.lst u)) : ∃ u, upd H q (.lst vs) a = some (.lst u) := by
  by_cases z : a = q
  · subst z
    exact ⟨vs, upd_same⟩
  · obtain ⟨u, e⟩ := h
    exact ⟨u, by rw [upd_ne z]; exact e⟩
theorem dom_for {H : Hp} {q : Addr} {o : HO} {a : Addr} (z : a ≠ q) (h : ∃ u, H a = some (.lst u)) : ∃ u, upd H q o a = some (.lst u) := by
  obtain ⟨u, e⟩ := h
  exact ⟨u, by rw [upd_ne z]; exact e⟩

/-- the names' slots -/
structure RepE (B : Bs) (W : Wd) (Γ : Gam) (σ : St) : Prop where
  len : σ.length = Γ.length
  at_ : ∀ (i : Nat) (d : D), Γ[i]? = some (some d) → ∃ v, σ[i]? = some (some v) ∧ Rep B W d v
theorem RepE.mono {B : Bs} {W W' : Wd} {Γ : Gam} {σ : St} (l : Le W W') (h : RepE B W Γ σ) : RepE B W' Γ σ := ⟨h.len, fun i d e => by
  obtain ⟨v, a, b⟩ := h.at_ i d e
  exact ⟨v, a, Rep.mono l _ _ b⟩⟩
theorem RepE.set {B : Bs} {W : Wd} {Γ : Gam} {σ : St} (h : RepE B W Γ σ) {i : Nat} {d : D} {v : V} (r : Rep B W d v) : RepE B W (Γ.set i (some d)) (σ.set i (some v)) := by
  refine ⟨by rw [List.length_set, List.length_set, h.len], fun j e hj => ?_⟩
  by_cases hij : i = j
  · subst hij
    by_cases hl : i < Γ.length
    · rw [List.getElem?_set_self hl] at hj
      cases hj
      exact ⟨v, List.getElem?_set_self (by rw [h.len]; exact hl), r⟩
    · rw [List.getElem?_eq_none (by rw [List.length_set]; omega)] at hj
      cases hj
  · rw [List.getElem?_set_ne hij] at hj
    obtain ⟨u, a, b⟩ := h.at_ j e hj
    exact ⟨u, by rw [List.getElem?_set_ne hij]; exact a, b⟩
theorem RepE.forget {B : Bs} {W : Wd} {Γ : Gam} {σ : St} (h : RepE B W Γ σ) (i : Nat) : RepE B W (Γ.set i none) σ := by
  refine ⟨by rw [List.length_set, h.len], fun j e hj => ?_⟩
  by_cases hij : i = j
  · subst hij
    by_cases hl : i < Γ.length
    · rw [List.getElem?_set_self hl] at hj
      cases hj
    · rw [List.getElem?_eq_none (by rw [List.length_set]; omega)] at hj
      cases hj
  · rw [List.getElem?_set_ne hij] at hj
    exact h.at_ j e hj

/-- from one state to a later one: the world grows, what is neither the world's nor a cell stays as it is and stays so -/
structure Tr (W : Wd) (H : Hp) (W' : Wd) (H' : Hp) : Prop where
  le : Le W W'
  fo : ∀ a o, H a = some o → W.G a = none → a ∉ W.mu → H' a = some o ∧ W'.G a = none ∧ a ∉ W'.mu
theorem Tr.refl (W : Wd) {H : Hp} : Tr W H W H := ⟨.refl W, fun _ _ h g m => ⟨h, g, m⟩⟩
theorem Tr.trans {W W1 W2 : Wd} {H H1 H2 : Hp} (a : Tr W H W1 H1) (b : Tr W1 H1 W2 H2) : Tr W H W2 H2 := ⟨a.le.trans b.le, fun x o h g m => by
  obtain ⟨h1, g1, m1⟩ := a.fo x o h g m
  exact b.fo x o h1 g1 m1⟩

/-! ### a context of code and what we say of it -/
structure Fit (X : Cx) (Y : Ctx) : Prop where
  prog : X.prog = Y.B.P
  w : X.w = Y.B.w
  K : X.K = Y.B.K
  mg : X.mg = Y.B.mg
  base : X.base = Y.B.base
  N : X.N = Y.N
  sc : X.env.scope = Y.sc
  calm : X.calm = true
  room : Room Y.k X.A
  nd : Y.N.Nodup
  fn : ∀ x, Y.fn x = true → X.fn x = true
  xe : X.xe = fun _ _ => False

/-! ### the weakest readings -/
def wpE (X : Cx) (e : Expr) (σ : St) (H : Hp) (Q : VK) : Prop := ∀ pins s, Inv X pins σ H s → wpAny (model X.prog X.w) X.A (eval e X.env) (EP X pins σ Q) X.xe s
def wpT (X : Cx) (e : Expr) (σ : St) (H : Hp) (Q : Bool → Hp → Prop) : Prop := ∀ pins s, Inv X pins σ H s → wpAny (model X.prog X.w) X.A (isTrue e X.env (eval e X.env)) (TP X pins σ Q) X.xe s
def wpW (X : Cx) (e : Expr) (σ : St) (H : Hp) (Q : Bool → Hp → Prop) : Prop := ∀ whole pins s, Inv X pins σ H s → wpAny (model X.prog X.w) X.A (isTrue e X.env whole) (TP X pins σ Q) X.xe s
def wpA (X : Cx) (es : List Expr) (σ : St) (H : Hp) (Q : List V → Hp → Prop) : Prop := ∀ pos pins s, Inv X pins σ H s → wpAny (model X.prog X.w) X.A (spliced (backTo pos (starEach es X.env))) (AP X pins σ Q) X.xe s
def wpS (X : Cx) (st : Stmt) (Dn : Ends) (σ : St) (H : Hp) : Prop := ∀ pins s, Inv X pins σ H s → wpAny (model X.prog X.w) X.A (exec st X.env) (SP X pins Dn) X.xe s
def wpSs (X : Cx) (st : List Stmt) (Dn : Ends) (σ : St) (H : Hp) : Prop := ∀ pins s, Inv X pins σ H s → wpAny (model X.prog X.w) X.A (execs st X.env) (SP X pins Dn) X.xe s
section
variable {X : Cx} {e : Expr} {es : List Expr} {st : Stmt} {sts : List Stmt} {σ : St} {H : Hp}
theorem pe_wp : PE X e (wpE X e) := ⟨fun pins s _ _ _ I h => h pins s I⟩
theorem pt_wp : PT X e (wpT X e) := ⟨fun pins s _ _ _ I h => h pins s I⟩
theorem pw_wp : PW X e (wpW X e) := ⟨fun wh pins s _ _ _ I h => h wh pins s I⟩
theorem pa_wp : PA X es (wpA X es) := ⟨fun pos pins s _ _ _ I h => h pos pins s I⟩
theorem ps_wp : PS X st (fun Dn σ H => wpS X st Dn σ H) := ⟨fun pins s _ _ _ I h => h pins s I⟩
theorem pss_wp : PSs X sts (fun Dn σ H => wpSs X sts Dn σ H) := ⟨fun pins s _ _ _ I h => h pins s I⟩
theorem wpE_of {te : TE} {Q : VK} (h : PE X e te) (q : te σ H Q) : wpE X e σ H Q := fun pins s I => h.run pins s σ H Q I q
theorem wpT_of {te : TT} {Q : Bool → Hp → Prop} (h : PT X e te) (q : te σ H Q) : wpT X e σ H Q := fun pins s I => h.run pins s σ H Q I q
theorem wpW_of {te : TT} {Q : Bool → Hp → Prop} (h : PW X e te) (q : te σ H Q) : wpW X e σ H Q := fun wh pins s I => h.run wh pins s σ H Q I q
theorem wpA_of {te : TA} {Q : List V → Hp → Prop} (h : PA X es te) (q : te σ H Q) : wpA X es σ H Q := fun pos pins s I => h.run pos pins s σ H Q I q
theorem wpS_of {te : TS} {Dn : Ends} (h : PS X st te) (q : te Dn σ H) : wpS X st Dn σ H := fun pins s I => h.run pins s σ H Dn I q
theorem wpSs_of {te : TS} {Dn : Ends} (h : PSs X sts te) (q : te Dn σ H) : wpSs X sts Dn σ H := fun pins s I => h.run pins s σ H Dn I q
end

/-! ### the judgements -/
def EvE (Y : Ctx) (e : Expr) (Γ : Gam) (S : Store) (d : D) (S' : Store) : Prop :=
  ∀ X, Fit X Y → ∀ W σ H, RepE Y.B W Γ σ → Ok Y.B W S H → ∀ Q : VK, (∀ W' v H', Tr W H W' H' → Ok Y.B W' S' H' → Rep Y.B W' d v → Q v H') → wpE X e σ H Q
def EvT (Y : Ctx) (e : Expr) (Γ : Gam) (S : Store) (b : Bool) (S' : Store) : Prop :=
  ∀ X, Fit X Y → ∀ W σ H, RepE Y.B W Γ σ → Ok Y.B W S H → ∀ Q : Bool → Hp → Prop, (∀ W' H', Tr W H W' H' → Ok Y.B W' S' H' → Q b H') → wpT X e σ H Q
def EvW (Y : Ctx) (e : Expr) (Γ : Gam) (S : Store) (b : Bool) (S' : Store) : Prop :=
  ∀ X, Fit X Y → ∀ W σ H, RepE Y.B W Γ σ → Ok Y.B W S H → ∀ Q : Bool → Hp → Prop, (∀ W' H', Tr W H W' H' → Ok Y.B W' S' H' → Q b H') → wpW X e σ H Q
def EvA (Y : Ctx) (es : List Expr) (Γ : Gam) (S : Store) (ds : List D) (S' : Store) : Prop :=
  ∀ X, Fit X Y → ∀ W σ H, RepE Y.B W Γ σ → Ok Y.B W S H → ∀ Q : List V → Hp → Prop, (∀ W' vs H', Tr W H W' H' → Ok Y.B W' S' H' → Reps Y.B W' ds vs → Q vs H') → wpA X es σ H Q
structure DE where
  nx : Gam → Store → Prop
  rt : D → Store → Prop
  bk : Gam → Store → Prop := fun _ _ => False
  ct : Gam → Store → Prop := fun _ _ => False
structure DEnds (B : Bs) (W : Wd) (H : Hp) (E : DE) (Dn : Ends) : Prop where
  nx : ∀ W' Γ S σ H', Tr W H W' H' → RepE B W' Γ σ → Ok B W' S H' → E.nx Γ S → Dn.nx σ H'
  rt : ∀ W' d S v H', Tr W H W' H' → Rep B W' d v → Ok B W' S H' → E.rt d S → Dn.rt v H'
  bk : ∀ W' Γ S σ H', Tr W H W' H' → RepE B W' Γ σ → Ok B W' S H' → E.bk Γ S → Dn.bk σ H'
  ct : ∀ W' Γ S σ H', Tr W H W' H' → RepE B W' Γ σ → Ok B W' S H' → E.ct Γ S → Dn.ct σ H'
theorem DEnds.mono {B : Bs} {W W' : Wd} {H H' : Hp} {E : DE} {Dn : Ends} (l : Tr W H W' H') (h : DEnds B W H E Dn) : DEnds B W' H' E Dn :=
  ⟨fun W2 Γ S σ H l2 => h.nx W2 Γ S σ H (l.trans l2), fun W2 d S v H l2 => h.rt W2 d S v H (l.trans l2), fun W2 Γ S σ H l2 => h.bk W2 Γ S σ H (l.trans l2), fun W2 Γ S σ H l2 => h.ct W2 Γ S σ H (l.trans l2)⟩
def EvS (Y : Ctx) (st : Stmt) (Γ : Gam) (S : Store) (E : DE) : Prop :=
  ∀ X, Fit X Y → ∀ W σ H Dn, RepE Y.B W Γ σ → Ok Y.B W S H → DEnds Y.B W H E Dn → wpS X st Dn σ H
def EvSs (Y : Ctx) (sts : List Stmt) (Γ : Gam) (S : Store) (E : DE) : Prop :=
  ∀ X, Fit X Y → ∀ W σ H Dn, RepE Y.B W Γ σ → Ok Y.B W S H → DEnds Y.B W H E Dn → wpSs X sts Dn σ H
end DL
/-! text: DLb -/
/-! DL, part b: expressions. -/
namespace DL
open PySem L2

/-! ### small facts of the syntax -/
def visB (sc : Scope) (x : Str) : Bool := (match sc.names.lookup x with
  | some .local => true
  | some .cell => true
  | some .free => true
  | _ => false) && (!(x == ("__debug__" : Str)) && !(x == ("__classdict__" : Str)))
def glB (sc : Scope) (x : Str) : Bool := (match sc.names.lookup x with
  | some .globalImplicit => true
  | _ => false) && (!(x == ("__debug__" : Str)) && !(x == ("__name__" : Str)))
def plainB : Expr → Bool
  | .Starred .. => false
  | _ => true
def noSetB : Expr → Bool
  | .Set .. => false
  | _ => true
theorem vis_of {X : Cx} {Y : Ctx} (F : Fit X Y) {x : Str} (h : visB Y.sc x = true) : Vis X.env.scope x ∧ (x == ("__debug__" : Str)) = false ∧ (x == ("__classdict__" : Str)) = false := by
  unfold visB at h
  rw [← F.sc] at h
  simp only [Bool.and_eq_true, Bool.not_eq_true'] at h
  obtain ⟨h1, h2, h3⟩ := h
  refine ⟨?_, h2, h3⟩
  unfold Vis
  split at h1
  · rename_i e; exact .inl e
  · rename_i e; exact .inr (.inl e)
  · rename_i e; exact .inr (.inr e)
  · cases h1
theorem gl_of {X : Cx} {Y : Ctx} (F : Fit X Y) {x : Str} (h : glB Y.sc x = true) : Gl X x ∧ (x == ("__debug__" : Str)) = false ∧ x ≠ "__name__" := by
  unfold glB at h
  rw [← F.sc] at h
  simp only [Bool.and_eq_true, Bool.not_eq_true'] at h
  obtain ⟨h1, h2, h3⟩ := h
  refine ⟨?_, h2, by simpa using h3⟩
  unfold Gl Env.kindOf
  split at h1
  · rename_i e; exact e
  · cases h1
theorem star_plain {e : Expr} {es : List Expr} {env : Env} (h : plainB e = true) : starEach (e :: es) env = (false, eval e env) :: starEach es env := by
  cases e <;> first | rfl | cases h
theorem star_all {env : Env} {pos : Pos} : ∀ {es : List Expr}, es.all plainB = true → (backTo pos (starEach es env)).any (·.1) = false
  | [], _ => rfl
  | e :: es, h => by
    rw [List.all_cons, Bool.and_eq_true] at h
    rw [star_plain h.1]
    show (false || (backTo pos (starEach es env)).any (·.1)) = false
    rw [star_all h.2]
    rfl

section
variable {Y : Ctx} {Γ : Gam} {S S1 S2 S3 : Store} {a b c e : Expr} {es : List Expr} {x y z d : D} {pos p2 : Pos}

/-! ### names, constants -/
def slot : List Str → Str → Option Nat
  | [], _ => none
  | a :: r, x => if a = x then some 0 else (slot r x).map (· + 1)
theorem slot_get : ∀ {N : List Str} {x : Str} {i : Nat}, slot N x = some i → N[i]? = some x
  | [], x, i, h => by cases h
  | a :: r, x, i, h => by
    unfold slot at h
    by_cases e : a = x
    · rw [if_pos e] at h
      cases h
      rw [e]
      rfl
    · rw [if_neg e] at h
      cases q : slot r x with
      | none => rw [q] at h; cases h
      | some j =>
        rw [q] at h
        cases h
        simpa using slot_get q
theorem e_name {i : Nat} {nm : Str} (hi : slot Y.N nm = some i) (hv : visB Y.sc nm = true) (hG : Γ[i]? = some (some d)) : EvE Y (.Name nm pos) Γ S d S := by
  intro X F W σ H hE hO Q hQ
  obtain ⟨h1, h2, h3⟩ := vis_of F hv
  obtain ⟨v, hv, hr⟩ := hE.at_ _ _ hG
  exact wpE_of (pe_var (i := i) (by rw [F.N]; exact slot_get hi) h1 h2 h3) ⟨v, hv, hQ W v H (.refl W) hO hr⟩
theorem e_int {i : Int} {j} : EvE Y (.Constant (.int i) j pos) Γ S (.int i) S := fun X F W σ H hE hO Q hQ => wpE_of pe_int (hQ W _ H (.refl W) hO (by simp only [Rep]))
theorem e_bl {i : Bool} {j} : EvE Y (.Constant (.bool i) j pos) Γ S (.bl i) S := fun X F W σ H hE hO Q hQ => wpE_of pe_bl (hQ W _ H (.refl W) hO (by simp only [Rep]))
theorem e_non {j} : EvE Y (.Constant .none j pos) Γ S .non S := fun X F W σ H hE hO Q hQ => wpE_of pe_non (hQ W _ H (.refl W) hO (by simp only [Rep]))
theorem e_str {i : Str} {j} : EvE Y (.Constant (.str i) j pos) Γ S (.str i) S := fun X F W σ H hE hO Q hQ => wpE_of pe_str (hQ W _ H (.refl W) hO (by simp only [Rep]))
/-- another datum, another store, equal to these -/
theorem e_is {d' : D} {S' : Store} (h : EvE Y e Γ S d S1) (h1 : d = d') (h2 : S1 = S') : EvE Y e Γ S d' S' := by
  subst h1; subst h2; exact h

/-! ### operators -/
def BinR (Y : Ctx) (op : Operator) (S : Store) (x y z : D) : Prop :=
  ∀ X, Fit X Y → ∃ r, OpR X (binaryOp op) r ∧ ∀ W vx vy H, Ok Y.B W S H → Rep Y.B W x vx → Rep Y.B W y vy → ∀ Q : VK, (∀ W' v H', Tr W H W' H' → Ok Y.B W' S H' → Rep Y.B W' z v → Q v H') → r vx vy H Q
def CmpR (Y : Ctx) (op : CmpOp) (S : Store) (x y z : D) : Prop :=
  ∀ X, Fit X Y → ∃ r, OpR X (compareOp op) r ∧ ∀ W vx vy H, Ok Y.B W S H → Rep Y.B W x vx → Rep Y.B W y vy → ∀ Q : VK, (∀ W' v H', Tr W H W' H' → Ok Y.B W' S H' → Rep Y.B W' z v → Q v H') → r vx vy H Q
theorem e_bin {op : Operator} (ha : EvE Y a Γ S x S1) (hb : EvE Y b Γ S1 y S2) (ho : BinR Y op S2 x y z) : EvE Y (.BinOp a op b pos) Γ S z S2 := by
  intro X F W σ H hE hO Q hQ
  obtain ⟨r, hr, hq⟩ := ho X F
  refine wpE_of (pe_op hr pe_wp pe_wp) ?_
  refine ha X F W σ H hE hO _ fun W1 v1 H1 l1 o1 r1 => ?_
  refine hb X F W1 σ H1 (hE.mono l1.le) o1 _ fun W2 v2 H2 l2 o2 r2 => ?_
  exact hq W2 v1 v2 H2 o2 (Rep.mono l2.le _ _ r1) r2 Q fun W3 v3 H3 l3 o3 r3 => hQ W3 v3 H3 ((l1.trans l2).trans l3) o3 r3
theorem nomark_of {op : CmpOp} (h : noSetB b = true) : behindInMarks op b = false := by
  cases b <;> first | rfl | cases h
theorem e_cmp {op : CmpOp} (ha : EvE Y a Γ S x S1) (hb : EvE Y b Γ S1 y S2) (ho : CmpR Y op S2 x y z) (hs : noSetB b = true := by rfl) : EvE Y (.Compare a [op] [b] pos) Γ S z S2 := by
  intro X F W σ H hE hO Q hQ
  obtain ⟨r, hr, hq⟩ := ho X F
  refine wpE_of (pe_cmpR hr pe_wp pe_wp (nomark_of hs)) ?_
  refine ha X F W σ H hE hO _ fun W1 v1 H1 l1 o1 r1 => ?_
  refine hb X F W1 σ H1 (hE.mono l1.le) o1 _ fun W2 v2 H2 l2 o2 r2 => ?_
  exact hq W2 v1 v2 H2 o2 (Rep.mono l2.le _ _ r1) r2 Q fun W3 v3 H3 l3 o3 r3 => hQ W3 v3 H3 ((l1.trans l2).trans l3) o3 r3
theorem t_cmp {op : CmpOp} {k : Bool} (ha : EvE Y a Γ S x S1) (hb : EvE Y b Γ S1 y S2) (ho : CmpR Y op S2 x y (.bl k)) (hs : noSetB b = true := by rfl) : EvT Y (.Compare a [op] [b] pos) Γ S k S2 := by
  intro X F W σ H hE hO Q hQ
  obtain ⟨r, hr, hq⟩ := ho X F
  refine wpT_of (pt_cmpR hr pe_wp pe_wp (nomark_of hs)) ?_
  refine ha X F W σ H hE hO _ fun W1 v1 H1 l1 o1 r1 => ?_
  refine hb X F W1 σ H1 (hE.mono l1.le) o1 _ fun W2 v2 H2 l2 o2 r2 => ?_
  exact hq W2 v1 v2 H2 o2 (Rep.mono l2.le _ _ r1) r2 _ fun W3 v3 H3 l3 o3 r3 => ⟨k, by simpa only [Rep] using r3, hQ W3 H3 ((l1.trans l2).trans l3) o3⟩
/-- two ints make a datum -/
theorem bin_int {op : Operator} {C : Int → Int → Prop} {g : Int → Int → Int} {i j : Int} (h : ∀ X, Fit X Y → OpR X (binaryOp op) (rI C fun i j => .int (g i j))) (hc : C i j) : BinR Y op S (.int i) (.int j) (.int (g i j)) := by
  intro X F
  refine ⟨_, h X F, fun W vx vy H hO hx hy Q hQ => ?_⟩
  simp only [Rep] at hx hy
  exact ⟨i, j, hx, hy, hc, hQ W _ H (.refl W) hO (by simp only [Rep])⟩
theorem bin_int0 {op : Operator} {g : Int → Int → Int} {i j : Int} (h : ∀ X, Fit X Y → OpR X (binaryOp op) (rI0 fun i j => .int (g i j))) : BinR Y op S (.int i) (.int j) (.int (g i j)) := by
  intro X F
  refine ⟨_, h X F, fun W vx vy H hO hx hy Q hQ => ?_⟩
  simp only [Rep] at hx hy
  exact ⟨i, j, hx, hy, hQ W _ H (.refl W) hO (by simp only [Rep])⟩
theorem br_add {i j : Int} : BinR Y .Add S (.int i) (.int j) (.int (i + j)) := bin_int0 (g := fun i j => i + j) fun X F => op_add
theorem br_sub {i j : Int} : BinR Y .Sub S (.int i) (.int j) (.int (i - j)) := bin_int0 (g := fun i j => i - j) fun X F => op_sub
theorem br_mul {i j : Int} (h : CMulW i j) : BinR Y .Mult S (.int i) (.int j) (.int (i * j)) := bin_int (g := fun i j => i * j) (fun X F => op_mulW) h
theorem br_div {i j : Int} (h : CDivW i j) : BinR Y .FloorDiv S (.int i) (.int j) (.int (i / j)) := bin_int (g := fun i j => i / j) (fun X F => op_fdivW) h
theorem br_mod {i j : Int} (h : 0 < j) : BinR Y .Mod S (.int i) (.int j) (.int (i % j)) := bin_int (g := fun i j => i % j) (fun X F => op_mod) h
theorem br_pow {i j : Int} (h : CPow i j) : BinR Y .Pow S (.int i) (.int j) (.int (i ^ j.toNat)) := bin_int (g := fun i j => i ^ j.toNat) (fun X F => op_pow) h
theorem cmp_int {op : CmpOp} {g : Int → Int → Bool} {i j : Int} (h : ∀ X, Fit X Y → OpR X (compareOp op) (rI0 fun i j => .bl (g i j))) : CmpR Y op S (.int i) (.int j) (.bl (g i j)) := by
  intro X F
  refine ⟨_, h X F, fun W vx vy H hO hx hy Q hQ => ?_⟩
  simp only [Rep] at hx hy
  exact ⟨i, j, hx, hy, hQ W _ H (.refl W) hO (by simp only [Rep])⟩
theorem cr_lt {i j : Int} : CmpR Y .Lt S (.int i) (.int j) (.bl (decide (i < j))) := cmp_int (g := fun i j => decide (i < j)) fun X F => op_lt
theorem cr_le {i j : Int} : CmpR Y .LtE S (.int i) (.int j) (.bl (decide (i ≤ j))) := cmp_int (g := fun i j => decide (i ≤ j)) fun X F => op_le
theorem cr_gt {i j : Int} : CmpR Y .Gt S (.int i) (.int j) (.bl (decide (j < i))) := cmp_int (g := fun i j => decide (j < i)) fun X F => op_gt
theorem cr_ge {i j : Int} : CmpR Y .GtE S (.int i) (.int j) (.bl (decide (j ≤ i))) := cmp_int (g := fun i j => decide (j ≤ i)) fun X F => op_ge
theorem cr_eqI {i j : Int} : CmpR Y .Eq S (.int i) (.int j) (.bl (decide (i = j))) := by
  intro X F
  refine ⟨_, op_eq, fun W vx vy H hO hx hy Q hQ => ?_⟩
  simp only [Rep] at hx hy
  subst hx; subst hy
  refine ⟨rfl, hQ W _ H (.refl W) hO ?_⟩
  simp only [Rep, V.int.injEq]
theorem cr_neI {i j : Int} : CmpR Y .NotEq S (.int i) (.int j) (.bl (!decide (i = j))) := by
  intro X F
  refine ⟨_, op_ne, fun W vx vy H hO hx hy Q hQ => ?_⟩
  simp only [Rep] at hx hy
  subst hx; subst hy
  refine ⟨rfl, hQ W _ H (.refl W) hO ?_⟩
  simp only [Rep, V.int.injEq]
theorem cr_eqB {i j : Bool} : CmpR Y .Eq S (.bl i) (.bl j) (.bl (i == j)) := by
  intro X F
  refine ⟨_, op_eq, fun W vx vy H hO hx hy Q hQ => ?_⟩
  simp only [Rep] at hx hy
  subst hx; subst hy
  refine ⟨rfl, hQ W _ H (.refl W) hO ?_⟩
  simp only [Rep, dec_bl]
theorem cr_eqS {i j : Str} : CmpR Y .Eq S (.str i) (.str j) (.bl (decide (i = j))) := by
  intro X F
  refine ⟨_, op_eq, fun W vx vy H hO hx hy Q hQ => ?_⟩
  simp only [Rep] at hx hy
  subst hx; subst hy
  refine ⟨rfl, hQ W _ H (.refl W) hO ?_⟩
  simp only [Rep, V.str.injEq]
theorem e_neg {i : Int} (h : EvE Y a Γ S (.int i) S1) : EvE Y (.UnaryOp .USub a pos) Γ S (.int (-i)) S1 := by
  intro X F W σ H hE hO Q hQ
  refine wpE_of (pe_un un_neg pe_wp) ?_
  refine h X F W σ H hE hO _ fun W1 v1 H1 l1 o1 r1 => ?_
  simp only [Rep] at r1
  exact ⟨i, r1, hQ W1 _ H1 l1 o1 (by simp only [Rep])⟩

/-! ### truth -/
theorem e_not {k : Bool} (h : EvE Y a Γ S (.bl k) S1) : EvE Y (.UnaryOp .Not a pos) Γ S (.bl (!k)) S1 := by
  intro X F W σ H hE hO Q hQ
  refine wpE_of (pe_not pe_wp) ?_
  refine h X F W σ H hE hO _ fun W1 v1 H1 l1 o1 r1 => ?_
  simp only [Rep] at r1
  exact ⟨k, r1, hQ W1 _ H1 l1 o1 (by simp only [Rep])⟩
theorem e_one {op} (h : EvE Y a Γ S d S1) : EvE Y (.BoolOp op [a] pos) Γ S d S1 := by
  intro X F W σ H hE hO Q hQ
  exact wpE_of (pe_one pe_wp) (h X F W σ H hE hO Q hQ)
theorem e_andF (h : EvE Y a Γ S (.bl false) S1) : EvE Y (.BoolOp .And (a :: b :: es) pos) Γ S (.bl false) S1 := by
  intro X F W σ H hE hO Q hQ
  refine wpE_of (pe_and pe_wp pe_wp) ?_
  refine h X F W σ H hE hO _ fun W1 v1 H1 l1 o1 r1 => ?_
  simp only [Rep] at r1
  exact ⟨false, r1, by rw [if_neg Bool.false_ne_true]; exact hQ W1 _ H1 l1 o1 (by simp only [Rep])⟩
theorem e_andT (h : EvE Y a Γ S (.bl true) S1) (h2 : EvE Y (.BoolOp .And (b :: es) pos) Γ S1 d S2) : EvE Y (.BoolOp .And (a :: b :: es) pos) Γ S d S2 := by
  intro X F W σ H hE hO Q hQ
  refine wpE_of (pe_and pe_wp pe_wp) ?_
  refine h X F W σ H hE hO _ fun W1 v1 H1 l1 o1 r1 => ?_
  simp only [Rep] at r1
  refine ⟨true, r1, by rw [if_pos rfl]; exact h2 X F W1 σ H1 (hE.mono l1.le) o1 Q fun W2 v2 H2 l2 o2 r2 => hQ W2 v2 H2 (l1.trans l2) o2 r2⟩
theorem e_orT (h : EvE Y a Γ S (.bl true) S1) : EvE Y (.BoolOp .Or (a :: b :: es) pos) Γ S (.bl true) S1 := by
  intro X F W σ H hE hO Q hQ
  refine wpE_of (pe_or pe_wp pe_wp) ?_
  refine h X F W σ H hE hO _ fun W1 v1 H1 l1 o1 r1 => ?_
  simp only [Rep] at r1
  exact ⟨true, r1, by rw [if_pos rfl]; exact hQ W1 _ H1 l1 o1 (by simp only [Rep])⟩
theorem e_orF (h : EvE Y a Γ S (.bl false) S1) (h2 : EvE Y (.BoolOp .Or (b :: es) pos) Γ S1 d S2) : EvE Y (.BoolOp .Or (a :: b :: es) pos) Γ S d S2 := by
  intro X F W σ H hE hO Q hQ
  refine wpE_of (pe_or pe_wp pe_wp) ?_
  refine h X F W σ H hE hO _ fun W1 v1 H1 l1 o1 r1 => ?_
  simp only [Rep] at r1
  refine ⟨false, r1, by rw [if_neg Bool.false_ne_true]; exact h2 X F W1 σ H1 (hE.mono l1.le) o1 Q fun W2 v2 H2 l2 o2 r2 => hQ W2 v2 H2 (l1.trans l2) o2 r2⟩
/-- both, no store changed -/
theorem e_and {k j : Bool} (h : EvE Y a Γ S (.bl k) S) (h2 : k = true → EvE Y (.BoolOp .And (b :: es) pos) Γ S (.bl j) S) : EvE Y (.BoolOp .And (a :: b :: es) pos) Γ S (.bl (k && j)) S := by
  cases k with
  | true => exact e_andT h (h2 rfl)
  | false => exact e_andF h
theorem e_or {k j : Bool} (h : EvE Y a Γ S (.bl k) S) (h2 : k = false → EvE Y (.BoolOp .Or (b :: es) pos) Γ S (.bl j) S) : EvE Y (.BoolOp .Or (a :: b :: es) pos) Γ S (.bl (k || j)) S := by
  cases k with
  | true => exact e_orT h
  | false => exact e_orF h (h2 rfl)
/-- tests -/
theorem t_val {k : Bool} (h : EvE Y e Γ S (.bl k) S1) (he : ∀ env whole, isTrue e env whole = (do let v ← whole; standAt e.pos; holding [v] (truthy v)) := by intros; rfl) : EvT Y e Γ S k S1 := by
  intro X F W σ H hE hO Q hQ
  refine wpT_of (pt_val pe_wp (he X.env)) ?_
  refine h X F W σ H hE hO _ fun W1 v1 H1 l1 o1 r1 => ?_
  simp only [Rep] at r1
  exact ⟨k, r1, hQ W1 H1 l1 o1⟩
theorem t_not {k : Bool} (h : EvT Y a Γ S k S1) : EvT Y (.UnaryOp .Not a pos) Γ S (!k) S1 := by
  intro X F W σ H hE hO Q hQ
  refine wpT_of (pt_not pt_wp) ?_
  exact h X F W σ H hE hO _ fun W1 H1 l1 o1 => hQ W1 H1 l1 o1
theorem t_of {k : Bool} (h : EvW Y a Γ S k S1) : EvT Y a Γ S k S1 := by
  intro X F W σ H hE hO Q hQ
  exact wpT_of (PW.pt pw_wp) (h X F W σ H hE hO Q hQ)
theorem w_and1 {k : Bool} (h : EvT Y a Γ S k S1) : EvW Y (.BoolOp .And [a] pos) Γ S k S1 := fun X F W σ H hE hO Q hQ => wpW_of (pw_and1 pt_wp) (h X F W σ H hE hO Q hQ)
theorem w_or1 {k : Bool} (h : EvT Y a Γ S k S1) : EvW Y (.BoolOp .Or [a] pos) Γ S k S1 := fun X F W σ H hE hO Q hQ => wpW_of (pw_or1 pt_wp) (h X F W σ H hE hO Q hQ)
theorem w_andF (h : EvT Y a Γ S false S1) : EvW Y (.BoolOp .And (a :: b :: es) pos) Γ S false S1 := by
  intro X F W σ H hE hO Q hQ
  refine wpW_of (pw_and pt_wp pw_wp) ?_
  refine h X F W σ H hE hO _ fun W1 H1 l1 o1 => ?_
  rw [if_neg Bool.false_ne_true]
  exact hQ W1 H1 l1 o1
theorem w_andT {k : Bool} (h : EvT Y a Γ S true S1) (h2 : EvW Y (.BoolOp .And (b :: es) pos) Γ S1 k S2) : EvW Y (.BoolOp .And (a :: b :: es) pos) Γ S k S2 := by
  intro X F W σ H hE hO Q hQ
  refine wpW_of (pw_and pt_wp pw_wp) ?_
  refine h X F W σ H hE hO _ fun W1 H1 l1 o1 => ?_
  rw [if_pos rfl]
  exact h2 X F W1 σ H1 (hE.mono l1.le) o1 Q fun W2 H2 l2 o2 => hQ W2 H2 (l1.trans l2) o2
theorem w_orT (h : EvT Y a Γ S true S1) : EvW Y (.BoolOp .Or (a :: b :: es) pos) Γ S true S1 := by
  intro X F W σ H hE hO Q hQ
  refine wpW_of (pw_or pt_wp pw_wp) ?_
  refine h X F W σ H hE hO _ fun W1 H1 l1 o1 => ?_
  rw [if_pos rfl]
  exact hQ W1 H1 l1 o1
theorem w_orF {k : Bool} (h : EvT Y a Γ S false S1) (h2 : EvW Y (.BoolOp .Or (b :: es) pos) Γ S1 k S2) : EvW Y (.BoolOp .Or (a :: b :: es) pos) Γ S k S2 := by
  intro X F W σ H hE hO Q hQ
  refine wpW_of (pw_or pt_wp pw_wp) ?_
  refine h X F W σ H hE hO _ fun W1 H1 l1 o1 => ?_
  rw [if_neg Bool.false_ne_true]
  exact h2 X F W1 σ H1 (hE.mono l1.le) o1 Q fun W2 H2 l2 o2 => hQ W2 H2 (l1.trans l2) o2
theorem w_and {k j : Bool} (h : EvT Y a Γ S k S) (h2 : k = true → EvW Y (.BoolOp .And (b :: es) pos) Γ S j S) : EvW Y (.BoolOp .And (a :: b :: es) pos) Γ S (k && j) S := by
  cases k with
  | true => exact w_andT h (h2 rfl)
  | false => exact w_andF h
theorem w_or {k j : Bool} (h : EvT Y a Γ S k S) (h2 : k = false → EvW Y (.BoolOp .Or (b :: es) pos) Γ S j S) : EvW Y (.BoolOp .Or (a :: b :: es) pos) Γ S (k || j) S := by
  cases k with
  | true => exact w_orT h
  | false => exact w_orF h (h2 rfl)
/-- the one way or the other -/
theorem e_if {k : Bool} (h : EvT Y c Γ S k S1) (h1 : k = true → EvE Y a Γ S1 d S2) (h2 : k = false → EvE Y b Γ S1 d S2) : EvE Y (.IfExp c a b pos) Γ S d S2 := by
  intro X F W σ H hE hO Q hQ
  refine wpE_of (pe_ifExp pt_wp pe_wp pe_wp) ?_
  refine h X F W σ H hE hO _ fun W1 H1 l1 o1 => ?_
  cases k with
  | true =>
    rw [if_pos rfl]
    exact h1 rfl X F W1 σ H1 (hE.mono l1.le) o1 Q fun W2 v2 H2 l2 o2 r2 => hQ W2 v2 H2 (l1.trans l2) o2 r2
  | false =>
    rw [if_neg Bool.false_ne_true]
    exact h2 rfl X F W1 σ H1 (hE.mono l1.le) o1 Q fun W2 v2 H2 l2 o2 r2 => hQ W2 v2 H2 (l1.trans l2) o2 r2
theorem e_ifT (h : EvT Y c Γ S true S1) (h1 : EvE Y a Γ S1 d S2) : EvE Y (.IfExp c a b pos) Γ S d S2 := e_if h (fun _ => h1) (fun q => nomatch q)
theorem e_ifF (h : EvT Y c Γ S false S1) (h1 : EvE Y b Γ S1 d S2) : EvE Y (.IfExp c a b pos) Γ S d S2 := e_if h (fun q => nomatch q) (fun _ => h1)
theorem e_ite {k : Bool} (h : EvT Y c Γ S k S) (h1 : k = true → EvE Y a Γ S x S) (h2 : k = false → EvE Y b Γ S y S) : EvE Y (.IfExp c a b pos) Γ S (if k = true then x else y) S := by
  refine e_if h (fun e => ?_) (fun e => ?_)
  · rw [if_pos e]; exact h1 e
  · rw [if_neg (by rw [e]; exact Bool.false_ne_true)]; exact h2 e

/-! ### argument lists, displays -/
theorem a_nil : EvA Y [] Γ S [] S := fun X F W σ H hE hO Q hQ => wpA_of pa_nil (hQ W [] H (.refl W) hO .nil)
theorem a_cons {ds : List D} (h : EvE Y e Γ S d S1) (hr : EvA Y es Γ S1 ds S2) (hp : plainB e = true := by rfl) : EvA Y (e :: es) Γ S (d :: ds) S2 := by
  intro X F W σ H hE hO Q hQ
  refine wpA_of (pa_cons pe_wp pa_wp (star_plain hp)) ?_
  refine h X F W σ H hE hO _ fun W1 v1 H1 l1 o1 r1 => ?_
  exact hr X F W1 σ H1 (hE.mono l1.le) o1 _ fun W2 vs H2 l2 o2 r2 => hQ W2 (v1 :: vs) H2 (l1.trans l2) o2 (.cons (Rep.mono l2.le _ _ r1) r2)
/-- a new object that will never change -/
theorem Ok.new {B : Bs} {W : Wd} {S : Store} {H : Hp} (h : Ok B W S H) {q : Addr} {o : HO} (hq : H q = none) : Ok B ⟨upd W.G q o, W.mu⟩ S (upd H q o) ∧ Tr W H ⟨upd W.G q o, W.mu⟩ (upd H q o) := by
  have hg : W.G q = none := by
    cases e : W.G q with
    | none => rfl
    | some u => rw [h.sub q u e] at hq; cases hq
  have le : Le W ⟨upd W.G q o, W.mu⟩ := ⟨fun a u e => by
    show upd W.G q o a = some u
    rw [upd_ne (ne_of_none e hg)]
    exact e, [], by simp⟩
  refine ⟨⟨fun a u e => ?_, h.len, fun i c e => ?_, h.inj, fun a m => dom_new hq (h.dom a m)⟩, le, fun a u h1 h2 h3 => ?_⟩
  · have e : upd W.G q o a = some u := e
    by_cases z : a = q
    · subst z
      rw [upd_same] at e ⊢
      exact e
    · rw [upd_ne z] at e ⊢
      exact h.sub a u e
  · obtain ⟨a, vs, h1, h2, h3, h4⟩ := h.cell i c e
    have z : a ≠ q := ne_of_none h3 hq
    exact ⟨a, vs, h1, by show upd W.G q o a = none; rw [upd_ne z]; exact h2, by rw [upd_ne z]; exact h3, Reps.mono le _ _ h4⟩
  · have z : a ≠ q := ne_of_none h1 hq
    exact ⟨by rw [upd_ne z]; exact h1, by show upd W.G q o a = none; rw [upd_ne z]; exact h2, h3⟩
theorem Rep.newT {B : Bs} {W : Wd} {ds : List D} {vs : List V} {q : Addr} (r : Reps B ⟨upd W.G q (.tup vs), W.mu⟩ ds vs) : Rep B ⟨upd W.G q (.tup vs), W.mu⟩ (.tup ds) (.ref q) := by
  simp only [Rep]
  exact ⟨q, vs, rfl, SqT.of upd_same, r⟩
theorem Rep.newL {B : Bs} {W : Wd} {ds : List D} {vs : List V} {q : Addr} (r : Reps B ⟨upd W.G q (.lst vs), W.mu⟩ ds vs) : Rep B ⟨upd W.G q (.lst vs), W.mu⟩ (.lst ds) (.ref q) := by
  simp only [Rep]
  exact ⟨q, vs, rfl, upd_same, r⟩
theorem small_line {n : Nat} (h : n ≤ 100000) : n ≤ sizeLine := Nat.le_trans h (by decide)
theorem e_tup {ds : List D} {k} (h : EvA Y es Γ S ds S1) (hl : ds.length ≤ 100000 := by decide) : EvE Y (.Tuple es k pos) Γ S (.tup ds) S1 := by
  intro X F W σ H hE hO Q hQ
  refine wpE_of (pe_tup pa_wp) ?_
  refine h X F W σ H hE hO _ fun W1 vs H1 l1 o1 r1 => ⟨by rw [r1.length]; exact small_line hl, fun q hq => ?_⟩
  obtain ⟨o2, l2⟩ := o1.new (o := .tup vs) hq
  exact hQ _ _ _ (l1.trans l2) o2 (Rep.newT (Reps.mono l2.le _ _ r1))
theorem e_lst {ds : List D} (h : EvA Y es Γ S ds S1) (hl : ds.length ≤ 100000 := by decide) : EvE Y (.List es pos) Γ S (.lst ds) S1 := by
  intro X F W σ H hE hO Q hQ
  refine wpE_of (pe_lst pa_wp) ?_
  refine h X F W σ H hE hO _ fun W1 vs H1 l1 o1 r1 => ⟨by rw [r1.length]; exact small_line hl, fun q hq => ?_⟩
  obtain ⟨o2, l2⟩ := o1.new (o := .lst vs) hq
  exact hQ _ _ _ (l1.trans l2) o2 (Rep.newL (Reps.mono l2.le _ _ r1))
end
end DL
/-! text: DLc -/
/-! DL, part c: items, slices, comparisons of data, built-in functions. -/
namespace DL
open PySem L2

/-! ### what the top has written -/
def freeB (x : Str) : Bool := (["isinstance", "int", "bool", "str", "list", "tuple", "dict", "len", "range", "sum", "max", "min", "abs", "sorted", "zip", "all", "any", "enumerate", "reversed", "ValueError"] : List Str).contains x
/-- the types that data have -/
def tyL : List String := ["NoneType", "bool", "int", "str", "list", "tuple", "dict"]
structure Txt (B : Bs) : Prop where
  free : ∀ x : Str, freeB x = true → B.mg x = none
  cl : Cls B.K B.C
  ha : PySem.W.findIn B.K (.ref B.C) "__class__" = some (some (.builtin "object.__class__"))
  hn : PySem.W.specialIn B.K (.builtin "object.__class__") "__get__" = some (some (.builtin "getset_descriptor.__get__"))
  htk : PySem.W.takesIn B.K (.builtin "object.__class__") = some true
  hm : PySem.W.mroIn B.K B.C (.type "object") = some true
  top : NoAttr B.K B.C "top"
  bottom : NoAttr B.K B.C "bottom"
  ratio : B.mg "Ratio" = some (.ref B.C)
  gcd : B.mg "gcd" = some (.builtin "math.gcd")
  kC : ∀ n ∈ tyL, PySem.W.kitOne B.K (.ref B.C) (.type n) = some false
  kT : ∀ n ∈ tyL, PySem.W.kitOne B.K (.type n) (.ref B.C) = some false
  kS : PySem.W.kitOne B.K (.ref B.C) (.ref B.C) = some true

/-! ### kinds of data -/
def D.isInt : D → Bool
  | .int _ => true
  | .bl _ => true
  | _ => false
def D.isBool : D → Bool
  | .bl _ => true
  | _ => false
def D.isStr : D → Bool
  | .str _ => true
  | _ => false
def D.isList : D → Bool
  | .lst _ => true
  | .fro _ => true
  | .cel _ => true
  | _ => false
def D.isTup : D → Bool
  | .tup _ => true
  | _ => false
def D.isRat : D → Bool
  | .rat _ _ => true
  | _ => false
def liveD (S : Store) : D → Bool
  | .cel i => (S[i]?.join).isSome
  | .adr _ => false
  | .ty _ => false
  | .dct _ _ => false
  | _ => true
def tyV (B : Bs) : D → Value
  | .non => .type "NoneType"
  | .bl _ => .type "bool"
  | .int _ => .type "int"
  | .str _ => .type "str"
  | .rat _ _ => .ref B.C
  | .tup _ => .type "tuple"
  | _ => .type "list"
theorem join_some {α : Type} {o : Option (Option α)} (h : o.join.isSome = true) : ∃ c, o = some (some c) := by
  cases o with
  | none => cases h
  | some p =>
    cases p with
    | none => cases h
    | some c => exact ⟨c, rfl⟩
theorem tyX_of {B : Bs} (T : Txt B) {W : Wd} {S : Store} {H : Hp} (o : Ok B W S H) {d : D} {v : V} (r : Rep B W d v) (hl : liveD S d = true) : TyX B.K H v (tyV B d) := by
  cases d with
  | non => simp only [Rep] at r; subst r; exact .base .non
  | bl b => simp only [Rep] at r; subst r; exact .base (.bl b)
  | int b => simp only [Rep] at r; subst r; exact .base (.int b)
  | str b => simp only [Rep] at r; subst r; exact .base (.str b)
  | ty n => cases hl
  | adr a => cases hl
  | dct ks ds => cases hl
  | rat t b =>
    simp only [Rep] at r
    obtain ⟨a, dx, e, g⟩ := r
    subst e
    exact .base (.ins (o.sub _ _ g) T.cl T.ha T.hn T.htk T.hm)
  | lst ds =>
    simp only [Rep] at r
    obtain ⟨a, vs, e, g, _⟩ := r
    subst e
    exact .base (.lst (o.sub _ _ g))
  | fro ds =>
    simp only [Rep] at r
    obtain ⟨a, vs, e, g, _⟩ := r
    subst e
    rcases g with (g | ⟨ob, g⟩) | ⟨ob, its, n, hk, hc, _⟩
    · exact .base (.lst (o.sub _ _ g))
    · exact .base (.frz (o.sub _ _ g))
    · exact .kList hk hc
  | tup ds =>
    simp only [Rep] at r
    obtain ⟨a, vs, e, g, _⟩ := r
    subst e
    rcases g with (g | ⟨ob, g⟩) | ⟨ob, its, n, hk, hc, _⟩
    · exact .base (.tup (o.sub _ _ g))
    · exact .fTuple (o.sub _ _ g)
    · exact .kTuple hk hc
  | cel i =>
    simp only [Rep] at r
    obtain ⟨a, e, g⟩ := r
    subst e
    obtain ⟨c, hc⟩ := join_some (o := S[i]?) hl
    obtain ⟨a', vs, h1, h2, h3, _⟩ := o.cell i c hc
    obtain rfl : a = a' := Option.some.inj (g.symm.trans h1)
    exact .base (.lst h3)

/-! ### where sequences stand -/
/-- the items of a list (data, locked, or a cell) -/
def seqL (S : Store) : D → Option (List D)
  | .lst ds => some ds
  | .fro ds => some ds
  | .cel i => S[i]?.join
  | _ => none
theorem seqL_at {B : Bs} {W : Wd} {S : Store} {H : Hp} (o : Ok B W S H) {d : D} {ds : List D} {v : V} (h : seqL S d = some ds) (r : Rep B W d v) : ∃ a vs, v = .ref a ∧ SqL B.K H a vs ∧ Reps B W ds vs := by
  cases d with
  | lst es =>
    cases h
    simp only [Rep] at r
    obtain ⟨a, vs, e, g, q⟩ := r
    exact ⟨a, vs, e, SqL.of (o.sub _ _ g), q⟩
  | fro es =>
    cases h
    simp only [Rep] at r
    obtain ⟨a, vs, e, g, q⟩ := r
    exact ⟨a, vs, e, sqL_mono o.sub g, q⟩
  | cel i =>
    simp only [Rep] at r
    obtain ⟨a, e, g⟩ := r
    have h : S[i]?.join = some ds := h
    obtain ⟨c, hc⟩ := join_some (o := S[i]?) (by rw [h]; rfl)
    rw [hc] at h
    cases h
    obtain ⟨a', vs, h1, h2, h3, h4⟩ := o.cell i _ hc
    obtain rfl : a = a' := Option.some.inj (g.symm.trans h1)
    exact ⟨a, vs, e, SqL.of h3, h4⟩
  | _ => cases h
/-- a list at an address of its own (not locked) -/
def seqM (S : Store) : D → Option (List D)
  | .lst ds => some ds
  | .cel i => S[i]?.join
  | _ => none
theorem seqM_at {B : Bs} {W : Wd} {S : Store} {H : Hp} (o : Ok B W S H) {d : D} {ds : List D} {v : V} (h : seqM S d = some ds) (r : Rep B W d v) : ∃ a vs, v = .ref a ∧ H a = some (.lst vs) ∧ Reps B W ds vs := by
  cases d with
  | lst es =>
    cases h
    simp only [Rep] at r
    obtain ⟨a, vs, e, g, q⟩ := r
    exact ⟨a, vs, e, o.sub _ _ g, q⟩
  | cel i =>
    simp only [Rep] at r
    obtain ⟨a, e, g⟩ := r
    have h : S[i]?.join = some ds := h
    obtain ⟨c, hc⟩ := join_some (o := S[i]?) (by rw [h]; rfl)
    rw [hc] at h
    cases h
    obtain ⟨a', vs, h1, h2, h3, h4⟩ := o.cell i _ hc
    obtain rfl : a = a' := Option.some.inj (g.symm.trans h1)
    exact ⟨a, vs, e, h3, h4⟩
  | _ => cases h
def seqA (S : Store) : D → Option (List D)
  | .tup ds => some ds
  | d => seqL S d
theorem seqA_at {B : Bs} {W : Wd} {S : Store} {H : Hp} (o : Ok B W S H) {d : D} {ds : List D} {v : V} (h : seqA S d = some ds) (r : Rep B W d v) : ∃ a vs, v = .ref a ∧ (SqL B.K H a vs ∨ SqT B.K H a vs) ∧ Reps B W ds vs := by
  cases d with
  | tup es =>
    cases h
    simp only [Rep] at r
    obtain ⟨a, vs, e, g, q⟩ := r
    exact ⟨a, vs, e, .inr (sqT_mono o.sub g), q⟩
  | lst es => obtain ⟨a, vs, e, g, q⟩ := seqL_at o (show seqL S (.lst es) = some ds from h) r; exact ⟨a, vs, e, .inl g, q⟩
  | fro es => obtain ⟨a, vs, e, g, q⟩ := seqL_at o (show seqL S (.fro es) = some ds from h) r; exact ⟨a, vs, e, .inl g, q⟩
  | cel i => obtain ⟨a, vs, e, g, q⟩ := seqL_at o (show seqL S (.cel i) = some ds from h) r; exact ⟨a, vs, e, .inl g, q⟩
  | _ => cases h

section
variable {Y : Ctx} {Γ : Gam} {S S1 S2 S3 : Store} {a b c e : Expr} {es : List Expr} {x y z d : D} {ds : List D} {pos p p2 : Pos}

/-! ### x[i] -/
theorem atI_reps {B : Bs} {W : Wd} {ds : List D} {vs : List V} {i : Int} {d : D} (r : Reps B W ds vs) (h : atI ds i = some d) : ∃ v, atI vs i = some v ∧ Rep B W d v := by
  unfold atI at h ⊢
  rw [r.length]
  cases q : ixN ds.length i with
  | none => rw [q] at h; cases h
  | some j =>
    rw [q] at h
    obtain ⟨v, h1, h2⟩ := r.get (show ds[j]? = some d from h)
    exact ⟨v, h1, h2⟩
def noSliceB : Expr → Bool
  | .Slice .. => false
  | _ => true
theorem plainIx_of {b : Expr} (h : noSliceB b = true) : PlainIx b := by
  cases b <;> first | (intro o i; rfl) | cases h
theorem e_ix {i : Int} (ha : EvE Y a Γ S x S1) (hb : EvE Y b Γ S1 (.int i) S2) (hs : seqA S2 x = some ds) (hd : atI ds i = some d) (hp : noSliceB b = true := by rfl) : EvE Y (.Subscript a b pos) Γ S d S2 := by
  intro X F W σ H hE hO Q hQ
  refine wpE_of (pe_ix ix_seq pe_wp pe_wp (plainIx_of hp)) ?_
  refine ha X F W σ H hE hO _ fun W1 v1 H1 l1 o1 r1 => ?_
  refine hb X F W1 σ H1 (hE.mono l1.le) o1 _ fun W2 v2 H2 l2 o2 r2 => ?_
  simp only [Rep] at r2
  subst r2
  obtain ⟨p, vs, ev, hq, rs⟩ := seqA_at o2 hs (Rep.mono l2.le _ _ r1)
  obtain ⟨v, h1, h2⟩ := atI_reps rs hd
  rw [← F.K] at hq
  rcases hq with hq | hq
  · exact .inl ⟨p, vs, i, v, ev, rfl, hq, h1, hQ W2 v H2 (l1.trans l2) o2 h2⟩
  · exact .inr (.inl ⟨p, vs, i, v, ev, rfl, hq, h1, hQ W2 v H2 (l1.trans l2) o2 h2⟩)

/-! ### x[lo:hi] -/
abbrev EvO (Y : Ctx) (e : Option Expr) (Γ : Gam) (S : Store) (o : Option Int) : Prop :=
  ∀ X, Fit X Y → ∀ W σ H, RepE Y.B W Γ σ → Ok Y.B W S H → ∃ te, PO X e te ∧ ∀ Q : Option Int → Hp → Prop, (∀ W' H', Tr W H W' H' → Ok Y.B W' S H' → Q o H') → te σ H Q
/-- a part of a slice -/
inductive Part (Y : Ctx) (Γ : Gam) (S : Store) : Option Expr → Option Int → Prop
  | no : Part Y Γ S none none
  | so {e : Expr} {i : Int} (h : EvE Y e Γ S (.int i) S) : Part Y Γ S (some e) (some i)
def wpO (X : Cx) (e : Option Expr) : TO := match e with
  | none => tNoPart
  | some e => tPart (wpE X e)
theorem po_wp {X : Cx} : ∀ {e : Option Expr}, PO X e (wpO X e)
  | none => po_none
  | some e => po_some pe_wp
theorem part_run {o : Option Expr} {i : Option Int} (h : Part Y Γ S o i) {X : Cx} (F : Fit X Y) {W : Wd} {σ : St} {H : Hp} (hE : RepE Y.B W Γ σ) (hO : Ok Y.B W S H) (Q : Option Int → Hp → Prop)
    (hQ : ∀ W' H', Tr W H W' H' → Ok Y.B W' S H' → Q i H') : wpO X o σ H Q := by
  cases h with
  | no => exact hQ W H (.refl W) hO
  | so h =>
    refine h X F W σ H hE hO _ fun W1 v1 H1 l1 o1 r1 => ?_
    simp only [Rep] at r1
    exact ⟨_, r1, hQ W1 H1 l1 o1⟩
def cutD {α : Type} (xs : List α) (lo hi : Option Int) : List α := (xs.drop (HT.sIx xs.length 0 lo)).take (HT.sIx xs.length xs.length hi - HT.sIx xs.length 0 lo)
theorem cut_reps {B : Bs} {W : Wd} {ds : List D} {vs : List V} {lo hi : Option Int} (r : Reps B W ds vs) : Reps B W (cutD ds lo hi) (cutV vs lo hi) := by
  unfold cutD cutV
  rw [r.length]
  exact (r.drop _).take _
theorem e_sliceL {lo hi : Option Expr} {i j : Option Int} (ha : EvE Y a Γ S x S) (hl : Part Y Γ S lo i) (hh : Part Y Γ S hi j) (hs : seqL S x = some ds) : EvE Y (.Subscript a (.Slice lo hi none p2) pos) Γ S (.lst (cutD ds i j)) S := by
  intro X F W σ H hE hO Q hQ
  refine wpE_of (pe_slice sl_list pe_wp po_wp po_wp) ?_
  refine ha X F W σ H hE hO _ fun W1 v1 H1 l1 o1 r1 => ?_
  refine part_run hl F (hE.mono l1.le) o1 _ fun W2 H2 l2 o2 => ?_
  refine part_run hh F ((hE.mono l1.le).mono l2.le) o2 _ fun W3 H3 l3 o3 => ?_
  obtain ⟨p, vs, ev, hq, rs⟩ := seqL_at o3 hs (Rep.mono (l2.trans l3).le _ _ r1)
  rw [← F.K] at hq
  refine ⟨p, vs, ev, hq, fun q hn => ?_⟩
  obtain ⟨o4, l4⟩ := o3.new (o := .lst (cutV vs i j)) hn
  exact hQ _ _ _ (((l1.trans l2).trans l3).trans l4) o4 (Rep.newL (Reps.mono l4.le _ _ (cut_reps rs)))
theorem Reps.reverse {B : Bs} {W : Wd} : ∀ {ds : List D} {vs : List V}, Reps B W ds vs → Reps B W ds.reverse vs.reverse
  | [], vs, h => by rw [h.nil_inv]; exact .nil
  | d :: ds, vs, h => by
    obtain ⟨v, r, e, a, b⟩ := h.cons_inv
    subst e
    rw [List.reverse_cons, List.reverse_cons]
    exact (Reps.reverse b).append (.cons a .nil)
theorem e_rev {k : Nat} {p1 p2 p3 : Pos} (ha : EvE Y a Γ S x S1) (hs : seqL S1 x = some ds) : EvE Y (.Subscript a (.Slice none none (some (.UnaryOp .USub (.Constant (.int 1) k p1) p2)) p3) pos) Γ S (.lst ds.reverse) S1 := by
  intro X F W σ H hE hO Q hQ
  refine wpE_of (pe_revL pe_wp) ?_
  refine ha X F W σ H hE hO _ fun W1 v1 H1 l1 o1 r1 => ?_
  obtain ⟨p, vs, ev, hq, rs⟩ := seqL_at o1 hs r1
  rw [← F.K] at hq
  refine ⟨p, vs, ev, hq, fun q hn => ?_⟩
  obtain ⟨o4, l4⟩ := o1.new (o := .lst vs.reverse) hn
  exact hQ _ _ _ (l1.trans l4) o4 (Rep.newL (Reps.mono l4.le _ _ rs.reverse))

/-! ### list + list, list * int -/
theorem br_cat {xs ys : List D} (hx : seqM S x = some xs) (hy : seqM S y = some ys) (hl : xs.length + ys.length ≤ 100000) : BinR Y .Add S x y (.lst (xs ++ ys)) := by
  intro X F
  refine ⟨_, op_cat, fun W vx vy H hO rx ry Q hQ => ?_⟩
  obtain ⟨p, vs, ev, hp, rs⟩ := seqM_at hO hx rx
  obtain ⟨q, us, eu, hq, rt⟩ := seqM_at hO hy ry
  refine ⟨p, q, vs, us, ev, eu, hp, hq, by rw [rs.length, rt.length]; exact small_line hl, fun n hn => ?_⟩
  obtain ⟨o4, l4⟩ := hO.new (o := .lst (vs ++ us)) hn
  exact hQ _ _ _ l4 o4 (Rep.newL (Reps.mono l4.le _ _ (rs.append rt)))
theorem Reps.rep {B : Bs} {W : Wd} {ds : List D} {vs : List V} (h : Reps B W ds vs) : ∀ n : Nat, Reps B W (List.replicate n ds).flatten (List.replicate n vs).flatten
  | 0 => .nil
  | n + 1 => by
    rw [List.replicate_succ, List.replicate_succ, List.flatten_cons, List.flatten_cons]
    exact h.append (Reps.rep h n)
theorem br_rep {xs : List D} {k : Int} (hx : seqM S x = some xs) (h1 : 0 ≤ k) (h2 : k ≤ 100000) (hl : xs.length * k.toNat ≤ 100000) : BinR Y .Mult S x (.int k) (.lst (List.replicate k.toNat xs).flatten) := by
  intro X F
  refine ⟨_, op_rep, fun W vx vy H hO rx ry Q hQ => ?_⟩
  obtain ⟨p, vs, ev, hp, rs⟩ := seqM_at hO hx rx
  simp only [Rep] at ry
  refine ⟨p, k, vs, ev, ry, hp, by omega, by omega, by rw [rs.length]; exact small_line hl, fun n hn => ?_⟩
  obtain ⟨o4, l4⟩ := hO.new (o := .lst (List.replicate k.toNat vs).flatten) hn
  exact hQ _ _ _ l4 o4 (Rep.newL (Reps.mono l4.le _ _ (rs.rep _)))

/-! ### comparing data -/
mutual
def D.py : D → Option PyData
  | .non => some .none
  | .bl b => some (.bool b)
  | .int i => some (.int i)
  | .str x => some (.str x)
  | .lst ds => (pyAll ds).map .list
  | .tup ds => (pyAll ds).map .tuple
  | _ => none
def pyAll : List D → Option (List PyData)
  | [] => some []
  | d :: ds => match d.py, pyAll ds with
    | some q, some r => some (q :: r)
    | _, _ => none
end
mutual
theorem Rep.dp {B : Bs} {W : Wd} {S : Store} {H : Hp} (o : Ok B W S H) : ∀ (d : D) (v : V) (q : PyData), Rep B W d v → d.py = some q → Dp B.K H v q
  | .non, v, q, r, h => by
    simp only [Rep] at r; simp only [D.py] at h; cases h; subst r; exact .non
  | .bl b, v, q, r, h => by
    simp only [Rep] at r; simp only [D.py] at h; cases h; subst r; exact .bl b
  | .int b, v, q, r, h => by
    simp only [Rep] at r; simp only [D.py] at h; cases h; subst r; exact .int b
  | .str b, v, q, r, h => by
    simp only [Rep] at r; simp only [D.py] at h; cases h; subst r; exact .str b
  | .lst ds, v, q, r, h => by
    simp only [Rep] at r; simp only [D.py, Option.map_eq_some_iff] at h
    obtain ⟨qs, h1, h2⟩ := h
    obtain ⟨a, vs, e, g, rs⟩ := r
    subst e; subst h2
    exact .lst (SqL.of (o.sub _ _ g)) (Reps.dp o ds vs qs rs h1)
  | .tup ds, v, q, r, h => by
    simp only [Rep] at r; simp only [D.py, Option.map_eq_some_iff] at h
    obtain ⟨qs, h1, h2⟩ := h
    obtain ⟨a, vs, e, g, rs⟩ := r
    subst e; subst h2
    exact .tup (sqT_mono o.sub g) (Reps.dp o ds vs qs rs h1)
  | .ty _, v, q, r, h => by simp only [D.py] at h; cases h
  | .rat _ _, v, q, r, h => by simp only [D.py] at h; cases h
  | .fro _, v, q, r, h => by simp only [D.py] at h; cases h
  | .cel _, v, q, r, h => by simp only [D.py] at h; cases h
  | .adr _, v, q, r, h => by simp only [D.py] at h; cases h
  | .dct _ _, v, q, r, h => by simp only [D.py] at h; cases h
theorem Reps.dp {B : Bs} {W : Wd} {S : Store} {H : Hp} (o : Ok B W S H) : ∀ (ds : List D) (vs : List V) (qs : List PyData), Reps B W ds vs → pyAll ds = some qs → DpAll B.K H vs qs
  | [], vs, qs, r, h => by
    rw [r.nil_inv]; simp only [pyAll] at h; cases h; exact .nil
  | d :: ds, vs, qs, r, h => by
    obtain ⟨v, us, e, a, b⟩ := r.cons_inv
    subst e
    simp only [pyAll] at h
    split at h
    · rename_i q qr h1 h2
      cases h
      exact .cons (Rep.dp o d v q a h1) (Reps.dp o ds us qr b h2)
    · cases h
end
theorem cr_eqD {q q2 : PyData} (hx : x.py = some q) (hy : y.py = some q2) (s1 : SeqAt.shaped q = true) (s2 : SeqAt.shaped q2 = true) : CmpR Y .Eq S x y (.bl (PyData.eqv q q2)) := by
  intro X F
  refine ⟨_, op_eqD F.room.units, fun W vx vy H hO rx ry Q hQ => ?_⟩
  exact ⟨q, q2, F.K ▸ Rep.dp hO _ _ _ rx hx, F.K ▸ Rep.dp hO _ _ _ ry hy, s1, s2, hQ W _ H (.refl W) hO (by simp only [Rep])⟩
theorem cr_neD {q q2 : PyData} (hx : x.py = some q) (hy : y.py = some q2) (s1 : SeqAt.shaped q = true) (s2 : SeqAt.shaped q2 = true) : CmpR Y .NotEq S x y (.bl (!PyData.eqv q q2)) := by
  intro X F
  refine ⟨_, op_neD F.room.units, fun W vx vy H hO rx ry Q hQ => ?_⟩
  exact ⟨q, q2, F.K ▸ Rep.dp hO _ _ _ rx hx, F.K ▸ Rep.dp hO _ _ _ ry hy, s1, s2, hQ W _ H (.refl W) hO (by simp only [Rep])⟩
theorem cr_inD {q : PyData} {qs : List PyData} (hx : x.py = some q) (hy : y.py = some (.list qs)) (s1 : SeqAt.shaped q = true) (s2 : SeqAt.shaped (.list qs) = true) : CmpR Y .In S x y (.bl (qs.any fun z => PyData.eqv z q)) := by
  intro X F
  refine ⟨_, op_inD (by have := F.room.un; omega), fun W vx vy H hO rx ry Q hQ => ?_⟩
  exact ⟨q, qs, F.K ▸ Rep.dp hO _ _ _ rx hx, F.K ▸ Rep.dp hO _ _ _ ry hy, s1, s2, hQ W _ H (.refl W) hO (by simp only [Rep])⟩
theorem cr_niD {q : PyData} {qs : List PyData} (hx : x.py = some q) (hy : y.py = some (.list qs)) (s1 : SeqAt.shaped q = true) (s2 : SeqAt.shaped (.list qs) = true) : CmpR Y .NotIn S x y (.bl (!qs.any fun z => PyData.eqv z q)) := by
  intro X F
  refine ⟨_, op_notInD (by have := F.room.un; omega), fun W vx vy H hO rx ry Q hQ => ?_⟩
  exact ⟨q, qs, F.K ▸ Rep.dp hO _ _ _ rx hx, F.K ▸ Rep.dp hO _ _ _ ry hy, s1, s2, hQ W _ H (.refl W) hO (by simp only [Rep])⟩
def D.isNon : D → Bool
  | .non => true
  | _ => false
theorem isNon_rep {B : Bs} {W : Wd} {d : D} {v : V} (r : Rep B W d v) : decide (v = .non) = d.isNon := by
  cases d <;> simp only [Rep] at r <;> first
    | (subst r; rfl)
    | (obtain ⟨a, dx, e, _⟩ := r; subst e; rfl)
    | (obtain ⟨a, e, _⟩ := r; subst e; rfl)
theorem cr_isN : CmpR Y .Is S x .non (.bl x.isNon) := by
  intro X F
  refine ⟨_, op_isN, fun W vx vy H hO rx ry Q hQ => ?_⟩
  simp only [Rep] at ry
  exact ⟨ry, hQ W _ H (.refl W) hO (by simp only [Rep]; rw [isNon_rep rx])⟩
theorem cr_notN : CmpR Y .IsNot S x .non (.bl (!x.isNon)) := by
  intro X F
  refine ⟨_, op_notN, fun W vx vy H hO rx ry Q hQ => ?_⟩
  simp only [Rep] at ry
  exact ⟨ry, hQ W _ H (.refl W) hO (by simp only [Rep]; rw [isNon_rep rx])⟩
theorem cr_isB {i j : Bool} : CmpR Y .Is S (.bl i) (.bl j) (.bl (decide (i = j))) := by
  intro X F
  refine ⟨_, op_isBl, fun W vx vy H hO rx ry Q hQ => ?_⟩
  simp only [Rep] at rx ry
  exact ⟨i, j, rx, ry, hQ W _ H (.refl W) hO (by simp only [Rep])⟩

/-! ### built-in functions -/
def BI (Y : Ctx) (f : Value) (S : Store) (ds : List D) (d : D) (S' : Store) : Prop :=
  ∀ X, Fit X Y → ∃ r, CallR X f r ∧ ∀ W vs H, Ok Y.B W S H → Reps Y.B W ds vs → ∀ Q : VK, (∀ W' v H', Tr W H W' H' → Ok Y.B W' S' H' → Rep Y.B W' d v → Q v H') → r vs H Q
theorem e_callB {nm : Str} {id : String} (T : Txt Y.B) (hv : bootBuiltins nm = some (.builtin id)) (hf : freeB nm = true) (hg : glB Y.sc nm = true) (ha : EvA Y (e :: es) Γ S ds S1) (hb : BI Y (.builtin id) S1 ds d S2) (hp : (e :: es).all plainB = true) :
    EvE Y (.Call (.Name nm p) (e :: es) [] pos) Γ S d S2 := by
  intro X F W σ H hE hO Q hQ
  obtain ⟨r, hr, hq⟩ := hb X F
  obtain ⟨h1, h2, h3⟩ := gl_of F hg
  rw [List.all_cons, Bool.and_eq_true] at hp
  refine wpE_of (pe_callB hr h1 (by rw [F.mg]; exact T.free _ hf) hv pa_wp h3 h2 (star_plain hp.1) (star_all hp.2)) ?_
  refine ha X F W σ H hE hO _ fun W1 vs H1 l1 o1 r1 => ?_
  exact hq W1 vs H1 o1 r1 Q fun W2 v2 H2 l2 o2 r2 => hQ W2 v2 H2 (l1.trans l2) o2 r2
theorem e_callTy {nm : Str} {id : String} (T : Txt Y.B) (hv : bootBuiltins nm = some (.type id)) (hf : freeB nm = true) (hg : glB Y.sc nm = true) (ha : EvA Y (e :: es) Γ S ds S1) (hb : BI Y (.type id) S1 ds d S2) (hp : (e :: es).all plainB = true) :
    EvE Y (.Call (.Name nm p) (e :: es) [] pos) Γ S d S2 := by
  intro X F W σ H hE hO Q hQ
  obtain ⟨r, hr, hq⟩ := hb X F
  obtain ⟨h1, h2, h3⟩ := gl_of F hg
  rw [List.all_cons, Bool.and_eq_true] at hp
  refine wpE_of (pe_callTy hr h1 (by rw [F.mg]; exact T.free _ hf) hv pa_wp h3 h2 (star_plain hp.1) (star_all hp.2)) ?_
  refine ha X F W σ H hE hO _ fun W1 vs H1 l1 o1 r1 => ?_
  exact hq W1 vs H1 o1 r1 Q fun W2 v2 H2 l2 o2 r2 => hQ W2 v2 H2 (l1.trans l2) o2 r2
theorem reps1 {B : Bs} {W : Wd} {vs : List V} (r : Reps B W [x] vs) : ∃ v, vs = [v] ∧ Rep B W x v := by
  obtain ⟨v, u, e, a, b⟩ := r.cons_inv
  rw [b.nil_inv] at e
  exact ⟨v, e, a⟩
theorem reps2 {B : Bs} {W : Wd} {vs : List V} (r : Reps B W [x, y] vs) : ∃ v u, vs = [v, u] ∧ Rep B W x v ∧ Rep B W y u := by
  obtain ⟨v, u, e, a, b⟩ := r.cons_inv
  obtain ⟨v2, e2, a2⟩ := reps1 b
  subst e2
  exact ⟨v, v2, e, a, a2⟩

def lenD (S : Store) : D → Option Nat
  | d => (seqA S d).map List.length
theorem e_len {nm : Str} (T : Txt Y.B) (ha : EvE Y a Γ S x S1) (hn : seqA S1 x = some ds) (hg : glB Y.sc "len" = true := by rfl) (hp : plainB a = true := by rfl) : EvE Y (.Call (.Name "len" p) [a] [] pos) Γ S (.int ds.length) S1 := by
  refine e_callB T (by decide +kernel) (by decide +kernel) hg (a_cons ha a_nil hp) (id := "len") (fun X F => ⟨_, call_len_seq, fun W vs H hO r Q hQ => ?_⟩) (by simp [hp])
  obtain ⟨v, e1, r1⟩ := reps1 r
  obtain ⟨q, us, ev, hq, rs⟩ := seqA_at hO hn r1
  rw [← F.K] at hq
  subst ev
  exact ⟨q, us, e1, hq, hQ W _ H (.refl W) hO (by simp only [Rep, rs.length])⟩
theorem e_abs {i : Int} (T : Txt Y.B) (ha : EvE Y a Γ S (.int i) S1) (hg : glB Y.sc "abs" = true := by rfl) (hp : plainB a = true := by rfl) : EvE Y (.Call (.Name "abs" p) [a] [] pos) Γ S (.int (i.natAbs : Int)) S1 := by
  refine e_callB T (by decide +kernel) (by decide +kernel) hg (a_cons ha a_nil hp) (id := "abs") (fun X F => ⟨_, call_abs, fun W vs H hO r Q hQ => ?_⟩) (by simp [hp])
  obtain ⟨v, e1, r1⟩ := reps1 r
  simp only [Rep] at r1
  subst r1
  refine ⟨i, e1, hQ W _ H (.refl W) hO ?_⟩
  simp only [Rep, V.int.injEq]
  split <;> omega
theorem e_max2 {i j : Int} (T : Txt Y.B) (ha : EvE Y a Γ S (.int i) S1) (hb : EvE Y b Γ S1 (.int j) S2) (hg : glB Y.sc "max" = true := by rfl) (hp : plainB a = true := by rfl) (hp2 : plainB b = true := by rfl) : EvE Y (.Call (.Name "max" p) [a, b] [] pos) Γ S (.int (max i j)) S2 := by
  refine e_callB T (by decide +kernel) (by decide +kernel) hg (a_cons ha (a_cons hb a_nil hp2) hp) (id := "max") (fun X F => ⟨_, call_max2 F.calm, fun W vs H hO r Q hQ => ?_⟩) (by simp [hp, hp2])
  obtain ⟨v, u, e1, r1, r2⟩ := reps2 r
  simp only [Rep] at r1 r2
  subst r1; subst r2
  refine ⟨i, j, e1, hQ W _ H (.refl W) hO ?_⟩
  simp only [Rep, V.int.injEq]
  split <;> omega
theorem e_min2 {i j : Int} (T : Txt Y.B) (ha : EvE Y a Γ S (.int i) S1) (hb : EvE Y b Γ S1 (.int j) S2) (hg : glB Y.sc "min" = true := by rfl) (hp : plainB a = true := by rfl) (hp2 : plainB b = true := by rfl) : EvE Y (.Call (.Name "min" p) [a, b] [] pos) Γ S (.int (min i j)) S2 := by
  refine e_callB T (by decide +kernel) (by decide +kernel) hg (a_cons ha (a_cons hb a_nil hp2) hp) (id := "min") (fun X F => ⟨_, call_min2 F.calm, fun W vs H hO r Q hQ => ?_⟩) (by simp [hp, hp2])
  obtain ⟨v, u, e1, r1, r2⟩ := reps2 r
  simp only [Rep] at r1 r2
  subst r1; subst r2
  refine ⟨i, j, e1, hQ W _ H (.refl W) hO ?_⟩
  simp only [Rep, V.int.injEq]
  split <;> omega
theorem e_intI {i : Int} (T : Txt Y.B) (ha : EvE Y a Γ S (.int i) S1) (hg : glB Y.sc "int" = true := by rfl) (hp : plainB a = true := by rfl) : EvE Y (.Call (.Name "int" p) [a] [] pos) Γ S (.int i) S1 := by
  refine e_callTy T (by decide +kernel) (by decide +kernel) hg (a_cons ha a_nil hp) (id := "int") (fun X F => ⟨_, call_int1, fun W vs H hO r Q hQ => ?_⟩) (by simp [hp])
  obtain ⟨v, e1, r1⟩ := reps1 r
  simp only [Rep] at r1
  subst r1
  exact .inl ⟨i, e1, hQ W _ H (.refl W) hO (by simp only [Rep])⟩
theorem e_intB {i : Bool} (T : Txt Y.B) (ha : EvE Y a Γ S (.bl i) S1) (hg : glB Y.sc "int" = true := by rfl) (hp : plainB a = true := by rfl) : EvE Y (.Call (.Name "int" p) [a] [] pos) Γ S (.int (if i then 1 else 0)) S1 := by
  refine e_callTy T (by decide +kernel) (by decide +kernel) hg (a_cons ha a_nil hp) (id := "int") (fun X F => ⟨_, call_int1, fun W vs H hO r Q hQ => ?_⟩) (by simp [hp])
  obtain ⟨v, e1, r1⟩ := reps1 r
  simp only [Rep] at r1
  subst r1
  exact .inr ⟨i, e1, hQ W _ H (.refl W) hO (by simp only [Rep])⟩
theorem e_list (T : Txt Y.B) (ha : EvE Y a Γ S x S1) (hn : seqA S1 x = some ds) (hg : glB Y.sc "list" = true := by rfl) (hp : plainB a = true := by rfl) : EvE Y (.Call (.Name "list" p) [a] [] pos) Γ S (.lst ds) S1 := by
  refine e_callTy T (by decide +kernel) (by decide +kernel) hg (a_cons ha a_nil hp) (id := "list") (fun X F => ⟨_, call_list_of, fun W vs H hO r Q hQ => ?_⟩) (by simp [hp])
  obtain ⟨v, e1, r1⟩ := reps1 r
  obtain ⟨q, us, ev, hq, rs⟩ := seqA_at hO hn r1
  rw [← F.K] at hq
  subst ev
  refine ⟨q, us, e1, hq, fun n hn => ?_⟩
  obtain ⟨o4, l4⟩ := hO.new (o := .lst us) hn
  exact hQ _ _ _ l4 o4 (Rep.newL (Reps.mono l4.le _ _ rs))
theorem e_tuple (T : Txt Y.B) (ha : EvE Y a Γ S x S1) (hn : seqA S1 x = some ds) (hg : glB Y.sc "tuple" = true := by rfl) (hp : plainB a = true := by rfl) : EvE Y (.Call (.Name "tuple" p) [a] [] pos) Γ S (.tup ds) S1 := by
  refine e_callTy T (by decide +kernel) (by decide +kernel) hg (a_cons ha a_nil hp) (id := "tuple") (fun X F => ⟨_, call_tuple_of, fun W vs H hO r Q hQ => ?_⟩) (by simp [hp])
  obtain ⟨v, e1, r1⟩ := reps1 r
  cases x with
  | tup ts =>
    cases hn
    have r0 := r1
    simp only [Rep] at r1
    obtain ⟨q, us, ev, hq, rs⟩ := r1
    subst ev
    exact ⟨q, us, e1, .inr ⟨F.K ▸ sqT_mono hO.sub hq, hQ _ _ _ (.refl W) hO r0⟩⟩
  | lst ts =>
    obtain ⟨q, us, ev, hq, rs⟩ := seqL_at hO (show seqL S1 (.lst ts) = some ds from hn) r1
    subst ev
    refine ⟨q, us, e1, .inl ⟨F.K ▸ hq, fun n hn => ?_⟩⟩
    obtain ⟨o4, l4⟩ := hO.new (o := .tup us) hn
    exact hQ _ _ _ l4 o4 (Rep.newT (Reps.mono l4.le _ _ rs))
  | fro ts =>
    obtain ⟨q, us, ev, hq, rs⟩ := seqL_at hO (show seqL S1 (.fro ts) = some ds from hn) r1
    subst ev
    refine ⟨q, us, e1, .inl ⟨F.K ▸ hq, fun n hn => ?_⟩⟩
    obtain ⟨o4, l4⟩ := hO.new (o := .tup us) hn
    exact hQ _ _ _ l4 o4 (Rep.newT (Reps.mono l4.le _ _ rs))
  | cel i =>
    obtain ⟨q, us, ev, hq, rs⟩ := seqL_at hO (show seqL S1 (.cel i) = some ds from hn) r1
    subst ev
    refine ⟨q, us, e1, .inl ⟨F.K ▸ hq, fun n hn => ?_⟩⟩
    obtain ⟨o4, l4⟩ := hO.new (o := .tup us) hn
    exact hQ _ _ _ l4 o4 (Rep.newT (Reps.mono l4.le _ _ rs))
  | _ => cases hn
theorem e_sum {ns : List Int} (T : Txt Y.B) (ha : EvE Y a Γ S x S1) (hn : seqL S1 x = some (ns.map D.int)) (hg : glB Y.sc "sum" = true := by rfl) (hp : plainB a = true := by rfl) : EvE Y (.Call (.Name "sum" p) [a] [] pos) Γ S (.int ns.sum) S1 := by
  refine e_callB T (by decide +kernel) (by decide +kernel) hg (a_cons ha a_nil hp) (id := "sum") (fun X F => ⟨_, cr_sum F.calm, fun W vs H hO r Q hQ => ?_⟩) (by simp [hp])
  obtain ⟨v, e1, r1⟩ := reps1 r
  obtain ⟨q, us, ev, hq, rs⟩ := seqL_at hO hn r1
  rw [← F.K, rs.ints] at hq
  subst ev
  exact ⟨q, ns, e1, hq, hQ W _ H (.refl W) hO (by simp only [Rep])⟩
theorem e_maxL {ns : List Int} {m : Int} (T : Txt Y.B) (ha : EvE Y a Γ S x S1) (hn : seqL S1 x = some (ns.map D.int)) (hm : m ∈ ns) (hle : ∀ y ∈ ns, y ≤ m) (hg : glB Y.sc "max" = true := by rfl) (hp : plainB a = true := by rfl) : EvE Y (.Call (.Name "max" p) [a] [] pos) Γ S (.int m) S1 := by
  refine e_callB T (by decide +kernel) (by decide +kernel) hg (a_cons ha a_nil hp) (id := "max") (fun X F => ⟨_, cr_max F.calm, fun W vs H hO r Q hQ => ?_⟩) (by simp [hp])
  obtain ⟨v, e1, r1⟩ := reps1 r
  obtain ⟨q, us, ev, hq, rs⟩ := seqL_at hO hn r1
  rw [← F.K, rs.ints] at hq
  subst ev
  refine ⟨q, ns, e1, hq, List.length_pos_of_mem hm, fun k h1 h2 => hQ W _ H (.refl W) hO ?_⟩
  simp only [Rep, V.int.injEq]
  have := h2 m hm
  have := hle k h1
  omega
theorem e_minL {ns : List Int} {m : Int} (T : Txt Y.B) (ha : EvE Y a Γ S x S1) (hn : seqL S1 x = some (ns.map D.int)) (hm : m ∈ ns) (hle : ∀ y ∈ ns, m ≤ y) (hg : glB Y.sc "min" = true := by rfl) (hp : plainB a = true := by rfl) : EvE Y (.Call (.Name "min" p) [a] [] pos) Γ S (.int m) S1 := by
  refine e_callB T (by decide +kernel) (by decide +kernel) hg (a_cons ha a_nil hp) (id := "min") (fun X F => ⟨_, cr_min F.calm, fun W vs H hO r Q hQ => ?_⟩) (by simp [hp])
  obtain ⟨v, e1, r1⟩ := reps1 r
  obtain ⟨q, us, ev, hq, rs⟩ := seqL_at hO hn r1
  rw [← F.K, rs.ints] at hq
  subst ev
  refine ⟨q, ns, e1, hq, List.length_pos_of_mem hm, fun k h1 h2 => hQ W _ H (.refl W) hO ?_⟩
  simp only [Rep, V.int.injEq]
  have := h2 m hm
  have := hle k h1
  omega
theorem e_all {bs : List Bool} (T : Txt Y.B) (ha : EvE Y a Γ S x S1) (hn : seqL S1 x = some (bs.map D.bl)) (hg : glB Y.sc "all" = true := by rfl) (hp : plainB a = true := by rfl) : EvE Y (.Call (.Name "all" p) [a] [] pos) Γ S (.bl (bs.all id)) S1 := by
  refine e_callB T (by decide +kernel) (by decide +kernel) hg (a_cons ha a_nil hp) (id := "all") (fun X F => ⟨_, cr_all F.calm, fun W vs H hO r Q hQ => ?_⟩) (by simp [hp])
  obtain ⟨v, e1, r1⟩ := reps1 r
  obtain ⟨q, us, ev, hq, rs⟩ := seqL_at hO hn r1
  rw [← F.K, rs.bls] at hq
  subst ev
  exact ⟨q, bs, e1, hq, hQ W _ H (.refl W) hO (by simp only [Rep])⟩
/-- gcd(a, b), the module's name -/
theorem e_gcd {i j : Int} (T : Txt Y.B) (ha : EvE Y a Γ S (.int i) S1) (hb : EvE Y b Γ S1 (.int j) S2) (hg : glB Y.sc "gcd" = true := by rfl) (hp : plainB a = true := by rfl) (hp2 : plainB b = true := by rfl) : EvE Y (.Call (.Name "gcd" p) [a, b] [] pos) Γ S (.int ((Nat.gcd i.natAbs j.natAbs : Nat) : Int)) S2 := by
  intro X F W σ H hE hO Q hQ
  obtain ⟨h1, h2, h3⟩ := gl_of F hg
  refine wpE_of (pe_callBfun cr_gcd h1 (by rw [F.mg]; exact T.gcd) pa_wp h2 (star_plain hp) (star_all (by simp [hp2]))) ?_
  refine a_cons ha (a_cons hb a_nil hp2) hp X F W σ H hE hO _ fun W1 vs H1 l1 o1 r1 => ?_
  obtain ⟨v, u, e1, r1, r2⟩ := reps2 r1
  simp only [Rep] at r1 r2
  subst r1; subst r2
  exact ⟨i, j, e1, hQ W1 _ H1 l1 o1 (by simp only [Rep])⟩

/-! ### isinstance -/
theorem e_bltn {nm : Str} {n : String} (T : Txt Y.B) (hv : bootBuiltins nm = some (.type n)) (hf : freeB nm = true) (hg : glB Y.sc nm = true) : EvE Y (.Name nm pos) Γ S (.ty n) S := by
  intro X F W σ H hE hO Q hQ
  obtain ⟨h1, h2, h3⟩ := gl_of F hg
  exact wpE_of (pe_bltn (v := .ty n) h1 (by rw [F.mg]; exact T.free _ hf) hv rfl h3 h2) (hQ W _ H (.refl W) hO (by simp only [Rep]))
theorem e_isiT {k : Bool} {u : Value} {nm : Str} (T : Txt Y.B) (ha : EvE Y a Γ S x S1) (hl : liveD S1 x = true) (hc : EvE Y b Γ S1 y S1) (hy : ∀ W v, Rep Y.B W y v → ClsV v u) (hk : PySem.W.kitOne Y.B.K (tyV Y.B x) u = some k) (hg : glB Y.sc "isinstance" = true) (hp : plainB a = true) (hp2 : plainB b = true) :
    EvE Y (.Call (.Name "isinstance" p) [a, b] [] pos) Γ S (.bl k) S1 := by
  refine e_callB T (by decide +kernel) (by decide +kernel) hg (a_cons ha (a_cons hc a_nil hp2) hp) (id := "isinstance") (fun X F => ⟨_, call_isi, fun W vs H hO r Q hQ => ?_⟩) (by simp [hp, hp2])
  obtain ⟨v, v2, e1, r1, r2⟩ := reps2 r
  exact ⟨v, v2, tyV Y.B x, u, k, e1, hy W v2 r2, F.K ▸ tyX_of T hO r1 hl, F.K ▸ hk, hQ W _ H (.refl W) hO (by simp only [Rep])⟩
end
section
variable {Y : Ctx} {Γ : Gam} {S S1 : Store} {a : Expr} {x : D} {pos p p2 : Pos}
theorem ty_ty {B : Bs} {n : String} : ∀ W v, Rep B W (.ty n) v → ClsV v (.type n) := fun W v r => by
  simp only [Rep] at r
  subst r
  exact .ty n
theorem e_isInt (T : Txt Y.B) (ha : EvE Y a Γ S x S1) (hl : liveD S1 x = true := by rfl) (hg : glB Y.sc "isinstance" = true := by rfl) (hg2 : glB Y.sc "int" = true := by rfl) (hp : plainB a = true := by rfl) : EvE Y (.Call (.Name "isinstance" p) [a, .Name "int" p2] [] pos) Γ S (.bl x.isInt) S1 := by
  refine e_isiT (nm := "int") T ha hl (e_bltn (n := "int") T (by decide +kernel) (by decide +kernel) hg2) ty_ty ?_ hg hp rfl
  cases x <;> simp only [tyV, D.isInt] <;> first | (exact kit_ty (by decide +kernel)) | (exact T.kC _ (by decide)) | cases hl
theorem e_isBool (T : Txt Y.B) (ha : EvE Y a Γ S x S1) (hl : liveD S1 x = true := by rfl) (hg : glB Y.sc "isinstance" = true := by rfl) (hg2 : glB Y.sc "bool" = true := by rfl) (hp : plainB a = true := by rfl) : EvE Y (.Call (.Name "isinstance" p) [a, .Name "bool" p2] [] pos) Γ S (.bl x.isBool) S1 := by
  refine e_isiT (nm := "bool") T ha hl (e_bltn (n := "bool") T (by decide +kernel) (by decide +kernel) hg2) ty_ty ?_ hg hp rfl
  cases x <;> simp only [tyV, D.isBool] <;> first | (exact kit_ty (by decide +kernel)) | (exact T.kC _ (by decide)) | cases hl
theorem e_isStr (T : Txt Y.B) (ha : EvE Y a Γ S x S1) (hl : liveD S1 x = true := by rfl) (hg : glB Y.sc "isinstance" = true := by rfl) (hg2 : glB Y.sc "str" = true := by rfl) (hp : plainB a = true := by rfl) : EvE Y (.Call (.Name "isinstance" p) [a, .Name "str" p2] [] pos) Γ S (.bl x.isStr) S1 := by
  refine e_isiT (nm := "str") T ha hl (e_bltn (n := "str") T (by decide +kernel) (by decide +kernel) hg2) ty_ty ?_ hg hp rfl
  cases x <;> simp only [tyV, D.isStr] <;> first | (exact kit_ty (by decide +kernel)) | (exact T.kC _ (by decide)) | cases hl
theorem e_isList (T : Txt Y.B) (ha : EvE Y a Γ S x S1) (hl : liveD S1 x = true := by rfl) (hg : glB Y.sc "isinstance" = true := by rfl) (hg2 : glB Y.sc "list" = true := by rfl) (hp : plainB a = true := by rfl) : EvE Y (.Call (.Name "isinstance" p) [a, .Name "list" p2] [] pos) Γ S (.bl x.isList) S1 := by
  refine e_isiT (nm := "list") T ha hl (e_bltn (n := "list") T (by decide +kernel) (by decide +kernel) hg2) ty_ty ?_ hg hp rfl
  cases x <;> simp only [tyV, D.isList] <;> first | (exact kit_ty (by decide +kernel)) | (exact T.kC _ (by decide)) | cases hl
theorem e_isTup (T : Txt Y.B) (ha : EvE Y a Γ S x S1) (hl : liveD S1 x = true := by rfl) (hg : glB Y.sc "isinstance" = true := by rfl) (hg2 : glB Y.sc "tuple" = true := by rfl) (hp : plainB a = true := by rfl) : EvE Y (.Call (.Name "isinstance" p) [a, .Name "tuple" p2] [] pos) Γ S (.bl x.isTup) S1 := by
  refine e_isiT (nm := "tuple") T ha hl (e_bltn (n := "tuple") T (by decide +kernel) (by decide +kernel) hg2) ty_ty ?_ hg hp rfl
  cases x <;> simp only [tyV, D.isTup] <;> first | (exact kit_ty (by decide +kernel)) | (exact T.kC _ (by decide)) | cases hl
theorem e_isDict (T : Txt Y.B) (ha : EvE Y a Γ S x S1) (hl : liveD S1 x = true := by rfl) (hg : glB Y.sc "isinstance" = true := by rfl) (hg2 : glB Y.sc "dict" = true := by rfl) (hp : plainB a = true := by rfl) : EvE Y (.Call (.Name "isinstance" p) [a, .Name "dict" p2] [] pos) Γ S (.bl false) S1 := by
  refine e_isiT (nm := "dict") T ha hl (e_bltn (n := "dict") T (by decide +kernel) (by decide +kernel) hg2) ty_ty ?_ hg hp rfl
  cases x <;> first | (exact kit_ty (by decide +kernel)) | (exact T.kC _ (by decide)) | cases hl
theorem e_isRat (T : Txt Y.B) (ha : EvE Y a Γ S x S1) (hl : liveD S1 x = true := by rfl) (hg : glB Y.sc "isinstance" = true := by rfl) (hg2 : glB Y.sc "Ratio" = true := by rfl) (hp : plainB a = true := by rfl) : EvE Y (.Call (.Name "isinstance" p) [a, .Name "Ratio" p2] [] pos) Γ S (.bl x.isRat) S1 := by
  refine e_isiT (nm := "Ratio") (y := .adr Y.B.C) (u := .ref Y.B.C) T ha hl (fun X F W σ H hE hO Q hQ => ?_) (fun W v r => by simp only [Rep] at r; subst r; exact .own _) ?_ hg hp rfl
  · obtain ⟨h1, h2, h3⟩ := gl_of F hg2
    exact wpE_of (pe_glob h1 (by rw [F.mg]; exact T.ratio) (v := .ref Y.B.C) rfl h2) (hQ W _ H (.refl W) hO (by simp only [Rep]))
  · cases x <;> first | (exact T.kT _ (by decide)) | (exact T.kS) | cases hl
/-- isinstance(x, (list, tuple)) -/
theorem e_isLT {k : Nat} {p3 p4 p5 : Pos} (T : Txt Y.B) (ha : EvE Y a Γ S x S1) (hl : liveD S1 x = true := by rfl) (hg : glB Y.sc "isinstance" = true := by rfl) (hg2 : glB Y.sc "list" = true := by rfl) (hg3 : glB Y.sc "tuple" = true := by rfl) (hp : plainB a = true := by rfl) :
    EvE Y (.Call (.Name "isinstance" p) [a, .Tuple [.Name "list" p3, .Name "tuple" p4] k p5] [] pos) Γ S (.bl (x.isList || x.isTup)) S1 := by
  intro X F W σ H hE hO Q hQ
  obtain ⟨h1, h2, h3⟩ := gl_of F hg
  obtain ⟨l1, l2, l3⟩ := gl_of F hg2
  obtain ⟨t1, t2, t3⟩ := gl_of F hg3
  refine wpE_of (pe_callB (id := "isinstance") call_isiT h1 (by rw [F.mg]; exact T.free _ (by decide +kernel)) (by decide +kernel)
    (pa_cons pe_wp (pa_cons (pe_tup (pa_cons (pe_bltn (v := .ty "list") (u := .type "list") l1 (by rw [F.mg]; exact T.free _ (by decide +kernel)) (by decide +kernel) rfl l3 l2) (pa_cons (pe_bltn (v := .ty "tuple") (u := .type "tuple") t1 (by rw [F.mg]; exact T.free _ (by decide +kernel)) (by decide +kernel) rfl t3 t2) pa_nil))) pa_nil) (star_plain hp)) h3 h2 (star_plain hp) (star_all rfl)) ?_
  refine ha X F W σ H hE hO _ fun W1 v1 H1 l1 o1 r1 => ?_
  refine ⟨small_line (by decide), fun q hq => ?_⟩
  obtain ⟨o4, l4⟩ := o1.new (o := .tup [.ty "list", .ty "tuple"]) hq
  refine ⟨v1, q, [.ty "list", .ty "tuple"], tyV Y.B x, [.type "list", .type "tuple"], x.isList || x.isTup, rfl, upd_same, .cons (.ty _) (.cons (.ty _) .nil), F.K ▸ tyX_of T o4 (Rep.mono l4.le _ _ r1) hl, ?_, hQ _ _ _ (l1.trans l4) o4 (by simp only [Rep])⟩
  rw [F.K]
  cases x with
  | rat t b => exact kitAny_cons (b := false) (T.kC _ (by decide)) (fun _ => kitAny_cons (b := false) (T.kC _ (by decide)) (fun _ => kitAny_nil) (fun z => nomatch z)) (fun z => nomatch z)
  | tup ds => exact kitAny_cons (b := false) (kit_ty (by decide +kernel)) (fun _ => kitAny_cons (b := true) (kit_ty (by decide +kernel)) (fun z => nomatch z) (fun _ => rfl)) (fun z => nomatch z)
  | lst ds => exact kitAny_cons (b := true) (kit_ty (by decide +kernel)) (fun z => nomatch z) (fun _ => rfl)
  | fro ds => exact kitAny_cons (b := true) (kit_ty (by decide +kernel)) (fun z => nomatch z) (fun _ => rfl)
  | cel ds => exact kitAny_cons (b := true) (kit_ty (by decide +kernel)) (fun z => nomatch z) (fun _ => rfl)
  | adr ds => cases hl
  | ty ds => cases hl
  | dct _ _ => cases hl
  | _ => exact kitAny_cons (b := false) (kit_ty (by decide +kernel)) (fun _ => kitAny_cons (b := false) (kit_ty (by decide +kernel)) (fun _ => kitAny_nil) (fun z => nomatch z)) (fun z => nomatch z)
end
end DL
/-! text: DLd -/
/-! DL, part d: fields, cells, calls of defs, statements. -/
namespace DL
open PySem L2

section
variable {Y : Ctx} {Γ : Gam} {S S1 S2 S3 : Store} {a b c e o ix : Expr} {es : List Expr} {x y z d : D} {ds : List D} {pos p p2 : Pos}
/-! ### the fields of a quotient -/
theorem rf_top (t b : Int) : (rf t b).lookup ("top" : Str) = some (.int t) := by
  unfold rf
  rw [List.lookup_cons, show (("top" : Str) == ("top" : Str)) = true from by decide +kernel]
theorem rf_bottom (t b : Int) : (rf t b).lookup ("bottom" : Str) = some (.int b) := by
  unfold rf
  rw [List.lookup_cons, show (("bottom" : Str) == ("top" : Str)) = false from by decide +kernel]
  show List.lookup ("bottom" : Str) [(("bottom" : Str), V.int b)] = _
  rw [List.lookup_cons, show (("bottom" : Str) == ("bottom" : Str)) = true from by decide +kernel]
theorem e_top {t k : Int} (T : Txt Y.B) (h : EvE Y e Γ S (.rat t k) S1) (hb : ∀ env, attributeBase e "top" env (eval e env) = eval e env := by intros; rfl) : EvE Y (.Attribute e "top" pos) Γ S (.int t) S1 := by
  intro X F W σ H hE hO Q hQ
  refine wpE_of (pe_fld pe_wp (hb X.env)) ?_
  refine h X F W σ H hE hO _ fun W1 v1 H1 l1 o1 r1 => ?_
  simp only [Rep] at r1
  obtain ⟨q, dx, e1, g⟩ := r1
  exact ⟨q, Y.B.C, dx, _, _, e1, o1.sub _ _ g, F.K ▸ T.cl, F.K ▸ T.top, rf_top t k, hQ W1 _ H1 l1 o1 (by simp only [Rep])⟩
theorem e_bottom {t k : Int} (T : Txt Y.B) (h : EvE Y e Γ S (.rat t k) S1) (hb : ∀ env, attributeBase e "bottom" env (eval e env) = eval e env := by intros; rfl) : EvE Y (.Attribute e "bottom" pos) Γ S (.int k) S1 := by
  intro X F W σ H hE hO Q hQ
  refine wpE_of (pe_fld pe_wp (hb X.env)) ?_
  refine h X F W σ H hE hO _ fun W1 v1 H1 l1 o1 r1 => ?_
  simp only [Rep] at r1
  obtain ⟨q, dx, e1, g⟩ := r1
  exact ⟨q, Y.B.C, dx, _, _, e1, o1.sub _ _ g, F.K ▸ T.cl, F.K ▸ T.bottom, rf_bottom t k, hQ W1 _ H1 l1 o1 (by simp only [Rep])⟩

/-! ### cells -/
/-- a new cell -/
theorem Ok.cell_new {B : Bs} {W : Wd} {S : Store} {H : Hp} (h : Ok B W S H) {q : Addr} {ds : List D} {vs : List V} (hq : H q = none) (r : Reps B W ds vs) :
    Ok B ⟨W.G, W.mu ++ [q]⟩ (S ++ [some ds]) (upd H q (.lst vs)) ∧ Tr W H ⟨W.G, W.mu ++ [q]⟩ (upd H q (.lst vs)) := by
  have hg : W.G q = none := by
    cases e : W.G q with
    | none => rfl
    | some u => rw [h.sub q u e] at hq; cases hq
  have le : Le W ⟨W.G, W.mu ++ [q]⟩ := ⟨fun a u e => e, [q], rfl⟩
  have live : ∀ (i : Nat) (c : List D), (S ++ [some ds])[i]? = some (some c) → (i < S.length ∧ S[i]? = some (some c)) ∨ (i = S.length ∧ c = ds) := fun i c e => by
    by_cases hi : i < S.length
    · rw [List.getElem?_append_left hi] at e
      exact .inl ⟨hi, e⟩
    · rw [List.getElem?_append_right (by omega)] at e
      cases hk : i - S.length with
      | zero =>
        rw [hk] at e
        simp only [List.getElem?_cons_zero, Option.some.injEq] at e
        exact .inr ⟨by omega, e.symm⟩
      | succ k => rw [hk] at e; simp at e
  have muq : (W.mu ++ [q])[S.length]? = some q := by
    rw [h.len, List.getElem?_append_right (Nat.le_refl _), Nat.sub_self]
    rfl
  refine ⟨⟨fun a u e => ?_, by simp [h.len], fun i c e => ?_, fun i j a c c' e1 e2 m1 m2 => ?_, fun a m => ?_⟩, le, fun a u h1 h2 h3 => ?_⟩
  · rw [upd_ne (ne_of_none e hg)]
    exact h.sub a u e
  · rcases live i c e with ⟨hi, e⟩ | ⟨hi, ec⟩
    · obtain ⟨a, us, h1, h2, h3, h4⟩ := h.cell i c e
      exact ⟨a, us, le.at h1, h2, by rw [upd_ne (ne_of_none h3 hq)]; exact h3, Reps.mono le _ _ h4⟩
    · subst hi; subst ec
      exact ⟨q, vs, muq, hg, upd_same, Reps.mono le _ _ r⟩
  · rcases live i c e1 with ⟨hi, e1⟩ | ⟨hi, e1⟩
    · rcases live j c' e2 with ⟨hj, e2⟩ | ⟨hj, e2⟩
      · obtain ⟨a1, us, k1, _, _, _⟩ := h.cell i c e1
        obtain ⟨a2, us2, k2, _, _, _⟩ := h.cell j c' e2
        obtain rfl : a1 = a := Option.some.inj ((le.at k1).symm.trans m1)
        obtain rfl : a2 = a1 := Option.some.inj ((le.at k2).symm.trans m2)
        exact h.inj i j _ c c' e1 e2 k1 k2
      · subst hj
        obtain ⟨a1, us, k1, _, k3, _⟩ := h.cell i c e1
        obtain rfl : a1 = a := Option.some.inj ((le.at k1).symm.trans m1)
        obtain rfl : q = a1 := Option.some.inj (muq.symm.trans m2)
        rw [k3] at hq
        cases hq
    · subst hi
      rcases live j c' e2 with ⟨hj, e2⟩ | ⟨hj, e2⟩
      · obtain ⟨a1, us, k1, _, k3, _⟩ := h.cell j c' e2
        obtain rfl : a1 = a := Option.some.inj ((le.at k1).symm.trans m2)
        obtain rfl : q = a1 := Option.some.inj (muq.symm.trans m1)
        rw [k3] at hq
        cases hq
      · exact hj.symm
  · rcases List.mem_append.mp m with m | m
    · exact dom_new hq (h.dom a m)
    · exact ⟨_, by rw [show a = q by simpa using m]; exact upd_same⟩
  · have zq : a ≠ q := ne_of_none h1 hq
    refine ⟨by rw [upd_ne zq]; exact h1, h2, fun m => ?_⟩
    rcases List.mem_append.mp m with m | m
    · exact h3 m
    · exact zq (by simpa using m)
theorem Rep.cell_new {B : Bs} {W : Wd} {S : Store} {H : Hp} (h : Ok B W S H) {q : Addr} : Rep B ⟨W.G, W.mu ++ [q]⟩ (.cel S.length) (.ref q) := by
  simp only [Rep]
  refine ⟨q, rfl, ?_⟩
  rw [h.len, List.getElem?_append_right (Nat.le_refl _), Nat.sub_self]
  rfl
/-- a cell is written -/
theorem Ok.cell_set {B : Bs} {W : Wd} {S : Store} {H : Hp} (h : Ok B W S H) {i : Nat} {q : Addr} {ds ds' : List D} {vs : List V} (hi : S[i]? = some (some ds)) (hq : W.mu[i]? = some q) (r : Reps B W ds' vs) :
    Ok B W (S.set i (some ds')) (upd H q (.lst vs)) ∧ Tr W H W (upd H q (.lst vs)) := by
  obtain ⟨q', us, k1, k2, k3, k4⟩ := h.cell i ds hi
  obtain rfl : q' = q := Option.some.inj (k1.symm.trans hq)
  have hil : i < S.length := (List.getElem?_eq_some_iff.mp hi).1
  have live : ∀ (j : Nat) (c : List D), (S.set i (some ds'))[j]? = some (some c) → (j = i ∧ c = ds') ∨ (j ≠ i ∧ S[j]? = some (some c)) := fun j c e => by
    by_cases hj : i = j
    · subst hj
      rw [List.getElem?_set_self hil] at e
      cases e
      exact .inl ⟨rfl, rfl⟩
    · rw [List.getElem?_set_ne hj] at e
      exact .inr ⟨fun z => hj z.symm, e⟩
  have live0 : ∀ (j : Nat) (c : List D), (S.set i (some ds'))[j]? = some (some c) → ∃ c0, S[j]? = some (some c0) := fun j c e => by
    rcases live j c e with ⟨e1, _⟩ | ⟨_, e1⟩
    · subst e1; exact ⟨_, hi⟩
    · exact ⟨_, e1⟩
  refine ⟨⟨fun a u e => ?_, by rw [List.length_set]; exact h.len, fun j c e => ?_, fun j k a c c' e1 e2 m1 m2 => ?_, fun a m => dom_set (h.dom a m)⟩, .refl W, fun a u h1 h2 h3 => ?_⟩
  · rw [upd_ne (ne_of_none e k2)]
    exact h.sub a u e
  · rcases live j c e with ⟨e1, e2⟩ | ⟨e1, e2⟩
    · subst e1; subst e2
      exact ⟨q', vs, hq, k2, upd_same, r⟩
    · obtain ⟨a, us, h1, h2, h3, h4⟩ := h.cell j c e2
      have z : a ≠ q' := fun z => by
        subst z
        exact e1 (h.inj j i a c ds e2 hi h1 hq)
      exact ⟨a, us, h1, h2, by rw [upd_ne z]; exact h3, h4⟩
  · obtain ⟨c1, f1⟩ := live0 j c e1
    obtain ⟨c2, f2⟩ := live0 k c' e2
    exact h.inj j k a c1 c2 f1 f2 m1 m2
  · have z : a ≠ q' := fun z => h3 (by rw [z]; exact List.mem_of_getElem? hq)
    exact ⟨by rw [upd_ne z]; exact h1, h2, h3⟩
/-- a cell that will never change again -/
theorem Ok.cell_frz {B : Bs} {W : Wd} {S : Store} {H : Hp} (h : Ok B W S H) {i : Nat} {q : Addr} {ds : List D} {vs : List V} (hi : S[i]? = some (some ds)) (hq : W.mu[i]? = some q) (hv : H q = some (.lst vs)) (r : Reps B W ds vs) :
    Ok B ⟨upd W.G q (.lst vs), W.mu⟩ (S.set i none) H ∧ Tr W H ⟨upd W.G q (.lst vs), W.mu⟩ H := by
  obtain ⟨q', us, k1, k2, k3, k4⟩ := h.cell i ds hi
  obtain rfl : q' = q := Option.some.inj (k1.symm.trans hq)
  have hil : i < S.length := (List.getElem?_eq_some_iff.mp hi).1
  have le : Le W ⟨upd W.G q' (.lst vs), W.mu⟩ := ⟨fun a u e => by
    show upd W.G q' _ a = some u
    rw [upd_ne (ne_of_none e k2)]
    exact e, [], by simp⟩
  have live : ∀ (j : Nat) (c : List D), (S.set i none)[j]? = some (some c) → j ≠ i ∧ S[j]? = some (some c) := fun j c e => by
    by_cases hj : i = j
    · subst hj
      rw [List.getElem?_set_self hil] at e
      cases e
    · rw [List.getElem?_set_ne hj] at e
      exact ⟨fun z => hj z.symm, e⟩
  refine ⟨⟨fun a u e => ?_, by rw [List.length_set]; exact h.len, fun j c e => ?_, fun j k a c c' e1 e2 m1 m2 => ?_, h.dom⟩, le, fun a u h1 h2 h3 => ?_⟩
  · have e : upd W.G q' (.lst vs) a = some u := e
    by_cases z : a = q'
    · subst z
      rw [upd_same] at e
      cases e
      exact hv
    · rw [upd_ne z] at e
      exact h.sub a u e
  · obtain ⟨e1, e2⟩ := live j c e
    obtain ⟨a, us, h1, h2, h3, h4⟩ := h.cell j c e2
    have z : a ≠ q' := fun z => by
      subst z
      exact e1 (h.inj j i a c ds e2 hi h1 hq)
    exact ⟨a, us, h1, by show upd W.G q' _ a = none; rw [upd_ne z]; exact h2, h3, Reps.mono le _ _ h4⟩
  · exact h.inj j k a c c' (live j c e1).2 (live k c' e2).2 m1 m2
  · have z : a ≠ q' := fun z => h3 (by rw [z]; exact List.mem_of_getElem? hq)
    exact ⟨h1, by show upd W.G q' _ a = none; rw [upd_ne z]; exact h2, h3⟩
theorem cel_at {B : Bs} {W : Wd} {S : Store} {H : Hp} (h : Ok B W S H) {i : Nat} {v : V} {ds : List D} (r : Rep B W (.cel i) v) (hi : S[i]? = some (some ds)) : ∃ q vs, v = .ref q ∧ W.mu[i]? = some q ∧ H q = some (.lst vs) ∧ Reps B W ds vs := by
  simp only [Rep] at r
  obtain ⟨a, e, g⟩ := r
  obtain ⟨a', vs, h1, h2, h3, h4⟩ := h.cell i _ hi
  obtain rfl : a = a' := Option.some.inj (g.symm.trans h1)
  exact ⟨a, vs, e, g, h3, h4⟩
theorem e_lstC (h : EvA Y es Γ S ds S1) (hl : ds.length ≤ 100000 := by decide) : EvE Y (.List es pos) Γ S (.cel S1.length) (S1 ++ [some ds]) := by
  intro X F W σ H hE hO Q hQ
  refine wpE_of (pe_lst pa_wp) ?_
  refine h X F W σ H hE hO _ fun W1 vs H1 l1 o1 r1 => ⟨by rw [r1.length]; exact small_line hl, fun q hq => ?_⟩
  obtain ⟨o2, l2⟩ := o1.cell_new hq r1
  exact hQ _ _ _ (l1.trans l2) o2 (Rep.cell_new o1)
theorem e_listC (T : Txt Y.B) (ha : EvE Y a Γ S x S1) (hn : seqA S1 x = some ds) (hg : glB Y.sc "list" = true := by rfl) (hp : plainB a = true := by rfl) : EvE Y (.Call (.Name "list" p) [a] [] pos) Γ S (.cel S1.length) (S1 ++ [some ds]) := by
  refine e_callTy T (by decide +kernel) (by decide +kernel) hg (a_cons ha a_nil hp) (id := "list") (fun X F => ⟨_, call_list_of, fun W vs H hO r Q hQ => ?_⟩) (by simp [hp])
  obtain ⟨v, e1, r1⟩ := reps1 r
  obtain ⟨q, us, ev, hq, rs⟩ := seqA_at hO hn r1
  rw [← F.K] at hq
  subst ev
  refine ⟨q, us, e1, hq, fun n hn => ?_⟩
  obtain ⟨o4, l4⟩ := hO.cell_new hn rs
  exact hQ _ _ _ l4 o4 (Rep.cell_new hO)
theorem e_frz {i : Nat} (h : EvE Y e Γ S (.cel i) S1) (hi : S1[i]? = some (some ds)) : EvE Y e Γ S (.lst ds) (S1.set i none) := by
  intro X F W σ H hE hO Q hQ
  refine h X F W σ H hE hO _ fun W1 v1 H1 l1 o1 r1 => ?_
  obtain ⟨q, vs, ev, h1, h2, h3⟩ := cel_at o1 r1 hi
  obtain ⟨o2, l2⟩ := o1.cell_frz hi h1 h2 h3
  subst ev
  exact hQ _ _ _ (l1.trans l2) o2 (Rep.newL (Reps.mono l2.le _ _ h3))
theorem tyV_list {K : PySem.W.Frag} {H : Hp} {q : Addr} {vs : List V} (h : H q = some (.lst vs)) : L2.tyV K "list" (.ref q) H := Or.inl ⟨rfl, vs, SqL.of h⟩
theorem pop_ix {n k : Nat} (h : k < n) : seqIndex? (k : Int) n = some k := by
  unfold seqIndex?
  simp only [show ¬ ((k : Int) < 0) by omega, if_false]
  simp
  omega
/-- o.pop(k) -/
theorem e_popAt {i k : Nat} {ds0 : List D} {apos : Pos} (ho : EvE Y o Γ S (.cel i) S1) (h0 : S1[i]? = some (some ds0)) (hk : EvE Y ix Γ S1 (.int (k : Int)) S2) (hi : S2[i]? = some (some ds)) (hd : ds[k]? = some d) (hl : ds.length ≤ 100000)
    (hp : plainB ix = true := by rfl) (hb : ∀ env, attributeBase o "pop" env (eval o env) = eval o env := by intros; rfl)
    (hfew : ∀ env, ((backTo pos (starEach [ix] env)).all (fun x => !x.1) && (backToKw pos (keywordEach [] env)).all (fun x => x.1.isSome)
      && decide (([ix] : List Expr).length + ([] : List Keyword).length + (if ([] : List Keyword).isEmpty then 0 else 1) < 30)) = true := by intros; rfl)
    (hline : (apos.endLine == pos.line) = true := by rfl) : EvE Y (.Call (.Attribute o "pop" apos) [ix] [] pos) Γ S d (S2.set i (some (ds.eraseIdx k))) := by
  intro X F W σ H hE hO Q hQ
  refine wpE_of (pe_bm PySem.F.plainAttrs_list PySem.F.slot_list_pop PySem.F.type_list_pop mt_popAt pe_wp pa_wp (hb X.env) (hfew X.env) hline (star_plain hp) (star_all rfl)) ?_
  refine ho X F W σ H hE hO _ fun W1 v1 H1 l1 o1 r1 => ?_
  obtain ⟨q, vs0, ev, h1, h2, h3⟩ := cel_at o1 r1 h0
  subst ev
  refine ⟨tyV_list h2, ?_⟩
  refine a_cons hk a_nil hp X F W1 σ H1 (hE.mono l1.le) o1 _ fun W2 us H2 l2 o2 r2 => ?_
  obtain ⟨u, eu, r2⟩ := reps1 r2
  simp only [Rep] at r2
  subst r2
  obtain ⟨q', vs, ev, g1, g2, g3⟩ := cel_at o2 (Rep.mono l2.le _ _ r1) hi
  cases ev
  obtain ⟨v, hv1, hv2⟩ := g3.get hd
  have hkl : k < ds.length := (List.getElem?_eq_some_iff.mp hd).1
  have hvl := g3.length
  refine ⟨q, vs, k, k, v, rfl, eu, g2, by omega, by omega, by rw [hvl]; exact pop_ix hkl, hv1, ?_⟩
  obtain ⟨o4, l4⟩ := o2.cell_set hi g1 (g3.eraseIdx k)
  exact hQ _ _ _ ((l1.trans l2).trans l4) o4 (Rep.mono l4.le _ _ hv2)
end
end DL
/-! text: DLe -/
/-! DL, part e: statements, what is walked, loops, comprehensions, defs. -/
namespace DL
open PySem L2

def locB (sc : Scope) (x : Str) : Bool := match sc.names.lookup x with
  | some .local => true
  | some .cell => true
  | _ => false
def fnlB (Y : Ctx) (x : Str) : Bool := Y.fn x || (match Y.sc.names.lookup x with
  | some .local => true
  | _ => false)
def onlyL (sc : Scope) (x : Str) : Bool := match sc.names.lookup x with
  | some .local => true
  | _ => false
theorem onlyL_of {X : Cx} {Y : Ctx} (F : Fit X Y) {x : Str} (h : onlyL Y.sc x = true) : X.env.scope.names.lookup x = some .local := by
  unfold onlyL at h
  rw [← F.sc] at h
  split at h
  · rename_i e; exact e
  · cases h
theorem loc_of {X : Cx} {Y : Ctx} (F : Fit X Y) {x : Str} (h : locB Y.sc x = true) : L2.Loc X.env.scope x := by
  unfold locB at h
  rw [← F.sc] at h
  unfold L2.Loc
  split at h
  · rename_i e; exact .inl e
  · rename_i e; exact .inr e
  · cases h
theorem fnl_of {X : Cx} {Y : Ctx} (F : Fit X Y) {x : Str} (h : fnlB Y x = true) : X.fn x = true ∨ X.env.scope.names.lookup x = some .local := by
  unfold fnlB at h
  rw [Bool.or_eq_true] at h
  rcases h with h | h
  · exact .inl (F.fn x h)
  · right
    rw [← F.sc] at h
    split at h
    · rename_i e; exact e
    · cases h
/-- no comprehension -/
def noCompB : Expr → Bool
  | .ListComp .. => false
  | .SetComp .. => false
  | .DictComp .. => false
  | _ => true
theorem swaps_of {e : Expr} {t : Option Expr} {l : Nat} {env : Env} (h : noCompB e = true) : swapsWith e t l env = pure false := by
  cases e <;> first | rfl | cases h
theorem sole_of {e t : Expr} {l : Nat} {env : Env} (h : noCompB e = true) : swapsWithSole [t] e l env = pure false := by
  cases e <;> first | rfl | cases h

section
variable {Y : Ctx} {Γ : Gam} {S S1 S2 S3 : Store} {a b c e o ix : Expr} {es : List Expr} {st : Stmt} {sts : List Stmt} {x y z d : D} {ds : List D} {pos p p2 : Pos} {E : DE}

/-! ### blocks -/
theorem ss_nil (h : E.nx Γ S) : EvSs Y [] Γ S E := fun X F W σ H Dn hE hO hD => wpSs_of pss_nil (hD.nx W Γ S σ H (.refl W) hE hO h)
theorem ss_cons (h : EvS Y st Γ S { E with nx := fun Γ' S' => EvSs Y sts Γ' S' E }) : EvSs Y (st :: sts) Γ S E := by
  intro X F W σ H Dn hE hO hD
  refine wpSs_of (pss_cons ps_wp pss_wp) ?_
  refine h X F W σ H _ hE hO ⟨fun W1 Γ1 S1 σ1 H1 l1 e1 o1 q => q X F W1 σ1 H1 Dn e1 o1 (hD.mono l1), hD.rt, hD.bk, hD.ct⟩
theorem ss_one (h : EvS Y st Γ S E) : EvSs Y [st] Γ S E := by
  intro X F W σ H Dn hE hO hD
  exact wpSs_of (pss_one ps_wp) (h X F W σ H _ hE hO hD)
theorem s_pass (h : E.nx Γ S) : EvS Y (.Pass pos) Γ S E := fun X F W σ H Dn hE hO hD => wpS_of ps_pass (hD.nx W Γ S σ H (.refl W) hE hO h)
theorem s_break (h : E.bk Γ S) : EvS Y (.Break pos) Γ S E := fun X F W σ H Dn hE hO hD => wpS_of ps_break (hD.bk W Γ S σ H (.refl W) hE hO h)
theorem s_continue (h : E.ct Γ S) : EvS Y (.Continue pos) Γ S E := fun X F W σ H Dn hE hO hD => wpS_of ps_continue (hD.ct W Γ S σ H (.refl W) hE hO h)
theorem s_expr (h : EvE Y e Γ S d S1) (hn : E.nx Γ S1) (hs : ∀ env, swapsWith e none pos.line env = pure false := by intros; rfl) : EvS Y (.Expr e pos) Γ S E := by
  intro X F W σ H Dn hE hO hD
  refine wpS_of (ps_expr pe_wp (hs X.env)) ?_
  exact h X F W σ H hE hO _ fun W1 v1 H1 l1 o1 r1 => hD.nx W1 Γ S1 σ H1 l1 (hE.mono l1.le) o1 hn
theorem s_doc {t : Str} {j : Nat} {p2 : Pos} (h : E.nx Γ S) : EvS Y (.Expr (.Constant (.str t) j p2) pos) Γ S E := fun X F W σ H Dn hE hO hD => wpS_of ps_doc (hD.nx W Γ S σ H (.refl W) hE hO h)
theorem s_ret (h : EvE Y e Γ S d S1) (hn : E.rt d S1) : EvS Y (.Return (some e) pos) Γ S E := by
  intro X F W σ H Dn hE hO hD
  refine wpS_of (ps_ret pe_wp) ?_
  exact h X F W σ H hE hO _ fun W1 v1 H1 l1 o1 r1 => hD.rt W1 d S1 v1 H1 l1 r1 o1 hn
theorem s_if {k : Bool} {s1 s2 : List Stmt} (h : EvT Y c Γ S k S1) (h1 : k = true → EvSs Y s1 Γ S1 E) (h2 : k = false → EvSs Y s2 Γ S1 E) : EvS Y (.If c s1 s2 pos) Γ S E := by
  intro X F W σ H Dn hE hO hD
  refine wpS_of (ps_if pt_wp pss_wp pss_wp) ?_
  refine h X F W σ H hE hO _ fun W1 H1 l1 o1 => ?_
  cases k with
  | true =>
    rw [if_pos rfl]
    exact h1 rfl X F W1 σ H1 Dn (hE.mono l1.le) o1 (hD.mono l1)
  | false =>
    rw [if_neg Bool.false_ne_true]
    exact h2 rfl X F W1 σ H1 Dn (hE.mono l1.le) o1 (hD.mono l1)
theorem s_set {i : Nat} {nm : Str} {p2 : Pos} (hi : slot Y.N nm = some i) (hl : locB Y.sc nm = true) (hf : fnlB Y nm = true) (h : EvE Y e Γ S d S1) (hn : E.nx (Γ.set i (some d)) S1) (hc : noCompB e = true := by rfl) : EvS Y (.Assign [.Name nm p2] e pos) Γ S E := by
  intro X F W σ H Dn hE hO hD
  refine wpS_of (ps_set (i := i) (F.N ▸ F.nd) (by rw [F.N]; exact slot_get hi) (loc_of F hl) pe_wp (swaps_of hc) (fnl_of F hf)) ?_
  exact h X F W σ H hE hO _ fun W1 v1 H1 l1 o1 r1 => hD.nx W1 _ S1 _ H1 l1 ((hE.mono l1.le).set r1) o1 hn
/-- a, b = e, f (two locals) -/
theorem s_par {i j : Nat} {n1 n2 : Str} {p1 p2 p3 p4 : Pos} {k1 k2 : Nat} (hi : slot Y.N n1 = some i) (hj : slot Y.N n2 = some j) (hij : i ≠ j) (l1 : onlyL Y.sc n1 = true) (l2 : onlyL Y.sc n2 = true)
    (hw : ∀ env : Env, env.scope = Y.sc → swappedStores [.Tuple [.Name n1 p1, .Name n2 p2] k1 p3] (.Tuple [a, b] k2 p4) env = pure (some [n1, n2])) (ha : EvA Y [a, b] Γ S [x, y] S1) (hn : E.nx ((Γ.set i (some x)).set j (some y)) S1) :
    EvS Y (.Assign [.Tuple [.Name n1 p1, .Name n2 p2] k1 p3] (.Tuple [a, b] k2 p4) pos) Γ S E := by
  intro X F W σ H Dn hE hO hD
  refine wpS_of (ps_par (i := i) (j := j) F.calm (F.N ▸ F.nd) (by rw [F.N]; exact slot_get hi) (by rw [F.N]; exact slot_get hj) hij (onlyL_of F l1) (onlyL_of F l2) pa_wp (hw X.env F.sc)) ?_
  refine ha X F W σ H hE hO _ fun W1 vs H1 t1 o1 r1 => ?_
  obtain ⟨v, u, e1, r1, r2⟩ := reps2 r1
  exact ⟨v, u, e1, hD.nx W1 _ S1 _ H1 t1 (((hE.mono t1.le).set r1).set r2) o1 hn⟩
/-- the names of a tuple's target -/
inductive Tgt (Y : Ctx) : List Expr → List Nat → Prop
  | nil : Tgt Y [] []
  | cons {nm : Str} {p : Pos} {i : Nat} {es : List Expr} {is : List Nat} (hi : slot Y.N nm = some i) (hl : locB Y.sc nm = true) (hf : fnlB Y nm = true) (r : Tgt Y es is) : Tgt Y (.Name nm p :: es) (i :: is)
def sets (Γ : Gam) : List Nat → List D → Gam
  | i :: is, d :: ds => sets (Γ.set i (some d)) is ds
  | _, _ => Γ
def wpGs (X : Cx) (es : List Expr) : TGs := fun vs σ H Q => ∀ pins s us, Inv X pins σ H s → Vals vs us → wpAny (model X.prog X.w) X.A (assignInOrder ((assignEach es X.env).map (·.2)) us) (fun _ s' => ∃ σ' H', Inv X pins σ' H' s' ∧ Q σ' H') X.xe s
theorem pgs_wp {X : Cx} {es : List Expr} : PGs X es (wpGs X es) := ⟨fun pins s σ H vs us Q I r h => h pins s us I r⟩
theorem wpGs_of {X : Cx} {es : List Expr} {t : TGs} (h : PGs X es t) {vs : List V} {σ : St} {H : Hp} {Q : St → Hp → Prop} (q : t vs σ H Q) : wpGs X es vs σ H Q := fun pins s us I r => h.run pins s σ H vs us Q I r q
theorem tgt_run {es : List Expr} {is : List Nat} (t : Tgt Y es is) {X : Cx} (F : Fit X Y) : ∀ {ds : List D} {vs : List V} {Γ : Gam} {W : Wd} {σ : St} {H : Hp} {Q : St → Hp → Prop}, ds.length = is.length → Reps Y.B W ds vs → RepE Y.B W Γ σ →
    (∀ σ', RepE Y.B W (sets Γ is ds) σ' → σ'.length = σ.length → (∀ j : Nat, j ∉ is → σ'[j]? = σ[j]?) → Q σ' H) → wpGs X es vs σ H Q := by
  induction t with
  | nil =>
    intro ds vs Γ W σ H Q hl r hE hQ
    cases ds with
    | nil =>
      rw [r.nil_inv]
      exact wpGs_of pgs_nil ⟨rfl, hQ σ hE rfl fun _ _ => rfl⟩
    | cons d ds => cases hl
  | cons hi hl' hf r' ih =>
    intro ds vs Γ W σ H Q hl r hE hQ
    cases ds with
    | nil => cases hl
    | cons d ds =>
      obtain ⟨v, us, ev, r1, r2⟩ := r.cons_inv
      subst ev
      refine wpGs_of (pgs_cons (pg_name (F.N ▸ F.nd) (by rw [F.N]; exact slot_get hi) (loc_of F hl') (fnl_of F hf)) pgs_wp) ⟨v, us, rfl, ?_⟩
      exact ih (by simpa using hl) r2 (hE.set r1) fun σ' h1 h2 h3 => hQ σ' h1 (by rw [h2, List.length_set]) fun j hj => by
        rw [h3 j (fun z => hj (List.mem_cons_of_mem _ z))]
        exact List.getElem?_set_ne (fun z => hj (by simp [z]))
theorem tgt_len {es : List Expr} {is : List Nat} (t : Tgt Y es is) (env : Env) : (assignEach es env).length = is.length ∧ (assignEach es env).findIdx? (·.1) = none := by
  induction t with
  | nil => exact ⟨rfl, rfl⟩
  | cons hi hl' hf r' ih =>
    obtain ⟨h1, h2⟩ := ih
    refine ⟨?_, ?_⟩
    · show (assignEach _ env).length + 1 = _
      rw [h1]
      rfl
    · simp only [assignEach, List.findIdx?_cons, h2]
      rfl
/-- a, b, .. = e, e a tuple -/
theorem s_unp {es : List Expr} {is : List Nat} {k : Nat} {p3 : Pos} (t : Tgt Y es is) (h : EvE Y e Γ S (.tup ds) S1) (hl : ds.length = is.length) (hn : E.nx (sets Γ is ds) S1)
    (hs : noCompB e = true := by rfl) (hw : ∀ env, swappedStores [.Tuple es k p3] e env = pure none := by intros; rfl) : EvS Y (.Assign [.Tuple es k p3] e pos) Γ S E := by
  intro X F W σ H Dn hE hO hD
  obtain ⟨g1, g2⟩ := tgt_len t X.env
  refine wpS_of (ps_asg (tg := .Tuple es k p3) pe_wp (pg_tup (n := is.length) F.calm pgs_wp g1 g2) (sole_of hs) (hw X.env)) ?_
  refine h X F W σ H hE hO _ fun W1 v1 H1 l1 o1 r1 => ?_
  simp only [Rep] at r1
  obtain ⟨q, vs, ev, hq, rs⟩ := r1
  refine ⟨q, vs, ev, F.K ▸ sqT_mono o1.sub hq, by rw [rs.length]; exact hl, ?_⟩
  exact tgt_run t F hl rs (hE.mono l1.le) fun σ' hE' _ _ => hD.nx W1 _ S1 σ' H1 l1 hE' o1 hn
/-- o[i] = e, o a cell -/
theorem s_setI {i : Nat} {k : Int} {j : Nat} {p2 : Pos} (h : EvE Y e Γ S d S1) (ho : EvE Y o Γ S1 (.cel i) S2) (hx : EvE Y ix Γ S2 (.int k) S3) (hi : S3[i]? = some (some ds)) (hk : ixN ds.length k = some j) (hn : E.nx Γ (S3.set i (some (ds.set j d))))
    (hs : noCompB e = true := by rfl) (hw : ∀ env, swappedStores [.Subscript o ix p2] e env = pure none := by intros; rfl)
    (ha : ∀ env v, assign (.Subscript o ix p2) env v = (do
      let ov ← holding [v] (eval o env)
      let iv ← holding [v, ov] (eval ix env)
      standAt p2
      holding [v, ov, iv] (setItem ov iv v)
      release [v, ov, iv] []) := by intros; rfl) : EvS Y (.Assign [.Subscript o ix p2] e pos) Γ S E := by
  intro X F W σ H Dn hE hO hD
  refine wpS_of (ps_asg pe_wp (pg_sub pe_wp pe_wp set_list (ha X.env)) (sole_of hs) (hw X.env)) ?_
  refine h X F W σ H hE hO _ fun W1 v1 H1 l1 o1 r1 => ?_
  refine ho X F W1 σ H1 (hE.mono l1.le) o1 _ fun W2 v2 H2 l2 o2 r2 => ?_
  refine hx X F W2 σ H2 ((hE.mono l1.le).mono l2.le) o2 _ fun W3 v3 H3 l3 o3 r3 => ?_
  simp only [Rep] at r3
  subst r3
  obtain ⟨q, vs, ev, g1, g2, g3⟩ := cel_at o3 (Rep.mono l3.le _ _ r2) hi
  refine ⟨q, vs, k, j, ev, rfl, g2, by rw [g3.length]; exact hk, ?_⟩
  obtain ⟨o4, l4⟩ := o3.cell_set hi g1 (g3.set (Rep.mono (l2.trans l3).le _ _ r1) j)
  exact hD.nx W3 _ _ _ _ (((l1.trans l2).trans l3).trans l4) (hE.mono ((l1.trans l2).trans l3).le) o4 hn
/-- o.append(e), o a cell -/
theorem s_app {i : Nat} {ds0 : List D} {apos p2 : Pos} (ho : EvE Y o Γ S (.cel i) S1) (h0 : S1[i]? = some (some ds0)) (h : EvE Y e Γ S1 d S2) (hi : S2[i]? = some (some ds)) (hl : ds.length ≤ 100000) (hn : E.nx Γ (S2.set i (some (ds ++ [d]))))
    (hp : plainB e = true := by rfl) (hb : ∀ env, attributeBase o "append" env (eval o env) = eval o env := by intros; rfl)
    (hfew : ∀ env, ((backTo p2 (starEach [e] env)).all (fun x => !x.1) && (backToKw p2 (keywordEach [] env)).all (fun x => x.1.isSome)
      && decide (([e] : List Expr).length + ([] : List Keyword).length + (if ([] : List Keyword).isEmpty then 0 else 1) < 30)) = true := by intros; rfl)
    (hline : (apos.endLine == p2.line) = true := by rfl) (hs : ∀ env, swapsWith (.Call (.Attribute o "append" apos) [e] [] p2) none pos.line env = pure false := by intros; rfl) : EvS Y (.Expr (.Call (.Attribute o "append" apos) [e] [] p2) pos) Γ S E := by
  intro X F W σ H Dn hE hO hD
  refine wpS_of (ps_expr (pe_bm PySem.F.plainAttrs_list PySem.F.slot_list_append PySem.F.type_list_append mt_append pe_wp pa_wp (hb X.env) (hfew X.env) hline (star_plain hp) (star_all rfl)) (hs X.env)) ?_
  refine ho X F W σ H hE hO _ fun W1 v1 H1 l1 o1 r1 => ?_
  obtain ⟨q, vs0, ev, h1, h2, h3⟩ := cel_at o1 r1 h0
  subst ev
  refine ⟨tyV_list h2, ?_⟩
  refine a_cons h a_nil hp X F W1 σ H1 (hE.mono l1.le) o1 _ fun W2 us H2 l2 o2 r2 => ?_
  obtain ⟨u, eu, r2⟩ := reps1 r2
  obtain ⟨q', vs, ev, g1, g2, g3⟩ := cel_at o2 (Rep.mono l2.le _ _ r1) hi
  cases ev
  refine ⟨q, vs, u, rfl, eu, g2, by rw [g3.length]; exact Nat.lt_of_le_of_lt hl (by decide), ?_⟩
  obtain ⟨o4, l4⟩ := o2.cell_set hi g1 (g3.append (.cons r2 .nil))
  exact hD.nx W2 _ _ _ _ ((l1.trans l2).trans l4) (hE.mono (l1.trans l2).le) o4 hn

/-! ### what is walked: ds, item by item -/
structure Yields (B : Bs) (J : It) (W : Wd) (ds : List D) : Prop where
  go : ∀ (i : Nat) W' S H, i < ds.length → Le W W' → Ok B W' S H → J.go i H
  yl : ∀ (i : Nat) W' S H v H2 d, ds[i]? = some d → Le W W' → Ok B W' S H → J.yld i H v H2 → ∃ W2, Tr W' H W2 H2 ∧ Ok B W2 S H2 ∧ Rep B W2 d v
  stop : ∀ (i : Nat) W' S H, ds.length ≤ i → Le W W' → Ok B W' S H → J.stop i H
def wpI (X : Cx) (tg iter : Expr) : TI := fun σ H R => ∀ pins s, Inv X pins σ H s → wpAny (model X.prog X.w) X.A (eval iter X.env) (fun v s1 => wpAny (model X.prog X.w) X.A (pyIter v) (PIE X pins σ tg R) X.xe s1) X.xe s
theorem pi_wp {X : Cx} {tg iter : Expr} : PI X tg iter (wpI X tg iter) := ⟨fun pins s σ H R I h => h pins s I⟩
theorem wpI_of {X : Cx} {tg iter : Expr} {t : TI} {σ : St} {H : Hp} {R : It → Hp → Prop} (h : PI X tg iter t) (q : t σ H R) : wpI X tg iter σ H R := fun pins s I => h.run pins s σ H R I q
def EvI (Y : Ctx) (tg iter : Expr) (Γ : Gam) (S : Store) (ds : List D) (S1 : Store) : Prop :=
  ∀ X, Fit X Y → ∀ W σ H, RepE Y.B W Γ σ → Ok Y.B W S H → ∀ R : It → Hp → Prop, (∀ W1 H1 J, Tr W H W1 H1 → Ok Y.B W1 S1 H1 → Yields Y.B J W1 ds → R J H1) → wpI X tg iter σ H R
/-- the items of a list of data, of a tuple -/
def seqI : D → Option (List D)
  | .lst ds => some ds
  | .fro ds => some ds
  | _ => none
theorem i_list {tg : Expr} (h : EvE Y e Γ S x S1) (hs : seqI x = some ds) : EvI Y tg e Γ S ds S1 := by
  intro X F W σ H hE hO R hR
  refine wpI_of (pi_list pe_wp) ?_
  refine h X F W σ H hE hO _ fun W1 v1 H1 l1 o1 r1 => ?_
  have hd : ∃ a vs, v1 = .ref a ∧ SqL Y.B.K W1.G a vs ∧ Reps Y.B W1 ds vs := by
    cases x with
    | lst es =>
      cases hs
      simp only [Rep] at r1
      obtain ⟨a, vs, ev, g, rs⟩ := r1
      exact ⟨a, vs, ev, SqL.of g, rs⟩
    | fro es =>
      cases hs
      simp only [Rep] at r1
      exact r1
    | _ => cases hs
  obtain ⟨a, vs, ev, g, rs⟩ := hd
  have sq : ∀ W' S' H', Le W1 W' → Ok Y.B W' S' H' → SqL X.K H' a vs := fun W' S' H' l o => F.K ▸ sqL_mono o.sub (sqL_mono l.g g)
  refine ⟨a, ev, ⟨vs, sq W1 S1 H1 (.refl W1) o1⟩, hR W1 H1 _ l1 o1 ⟨fun i W' S' H' hi l o => ?_, fun i W' S' H' v H2 d hd l o hy => ?_, fun i W' S' H' hi l o => ?_⟩⟩
  · have hv : i < vs.length := by rw [rs.length]; exact hi
    exact ⟨vs, vs[i], sq W' S' H' l o, List.getElem?_eq_getElem hv⟩
  · obtain ⟨e1, hy⟩ := hy
    subst e1
    obtain ⟨u, h1, h2⟩ := rs.get hd
    have := hy vs (sq W' S' H2 l o)
    obtain rfl : u = v := Option.some.inj (h1.symm.trans this)
    exact ⟨W', .refl W', o, Rep.mono l _ _ h2⟩
  · exact ⟨vs, sq W' S' H' l o, by rw [rs.length]; exact hi⟩
theorem i_tup {tg : Expr} (h : EvE Y e Γ S (.tup ds) S1) : EvI Y tg e Γ S ds S1 := by
  intro X F W σ H hE hO R hR
  refine wpI_of (pi_tup pe_wp) ?_
  refine h X F W σ H hE hO _ fun W1 v1 H1 l1 o1 r1 => ?_
  simp only [Rep] at r1
  obtain ⟨a, vs, ev, g, rs⟩ := r1
  have sq : ∀ W' S' H', Le W1 W' → Ok Y.B W' S' H' → SqT X.K H' a vs := fun W' S' H' l o => F.K ▸ sqT_mono o.sub (sqT_mono l.g g)
  refine ⟨a, ev, ⟨vs, sq W1 S1 H1 (.refl W1) o1⟩, hR W1 H1 _ l1 o1 ⟨fun i W' S' H' hi l o => ?_, fun i W' S' H' v H2 d hd l o hy => ?_, fun i W' S' H' hi l o => ?_⟩⟩
  · have hv : i < vs.length := by rw [rs.length]; exact hi
    exact ⟨vs, vs[i], sq W' S' H' l o, List.getElem?_eq_getElem hv⟩
  · obtain ⟨e1, hy⟩ := hy
    subst e1
    obtain ⟨u, h1, h2⟩ := rs.get hd
    have := hy vs (sq W' S' H2 l o)
    obtain rfl : u = v := Option.some.inj (h1.symm.trans this)
    exact ⟨W', .refl W', o, Rep.mono l _ _ h2⟩
  · exact ⟨vs, sq W' S' H' l o, by rw [rs.length]; exact hi⟩
def rngD (n : Nat) : List D := (List.range n).map fun i : Nat => D.int (i : Int)
theorem rngD_len (n : Nat) : (rngD n).length = n := by simp [rngD]
theorem rngD_get {n i : Nat} {d : D} (h : (rngD n)[i]? = some d) : i < n ∧ d = .int (i : Int) := by
  unfold rngD at h
  rw [List.getElem?_map] at h
  cases e : (List.range n)[i]? with
  | none => rw [e] at h; cases h
  | some j =>
    rw [e] at h
    obtain ⟨h1, h2⟩ := List.getElem?_eq_some_iff.mp e
    simp at h2
    subst h2
    cases h
    exact ⟨by simpa using h1, rfl⟩
theorem i_range {tg : Expr} {n : Int} (T : Txt Y.B) (h : EvE Y e Γ S (.int n) S1) (hn : n ≤ 1000000000) (hlo : -1000000000 ≤ n) (hg : glB Y.sc "range" = true := by rfl) (hp : plainB e = true := by rfl) : EvI Y tg (.Call (.Name "range" p) [e] [] pos) Γ S (rngD n.toNat) S1 := by
  intro X F W σ H hE hO R hR
  obtain ⟨h1, h2, h3⟩ := gl_of F hg
  refine wpI_of (pi_range1 h1 (by rw [F.mg]; exact T.free _ (by decide +kernel)) pa_wp (star_plain hp)) ?_
  refine a_cons h a_nil hp X F W σ H hE hO _ fun W1 vs H1 l1 o1 r1 => ?_
  obtain ⟨v, ev, r1⟩ := reps1 r1
  simp only [Rep] at r1
  subst r1
  refine ⟨n, ev, by omega, by omega, hR W1 H1 _ l1 o1 ⟨fun i W' S' H' hi l o => ?_, fun i W' S' H' v H2 d hd l o hy => ?_, fun i W' S' H' hi l o => ?_⟩⟩
  · rw [rngD_len] at hi; exact hi
  · obtain ⟨e1, hy⟩ := hy
    subst e1
    obtain ⟨_, e2⟩ := rngD_get hd
    subst e2
    refine ⟨W', .refl W', o, ?_⟩
    simp only [Rep]
    rw [hy]
    congr 1
    omega
  · rw [rngD_len] at hi; exact hi

/-! ### for -/
/-- a target of a walk: what it stores of a datum, in which slots -/
def EvG (Y : Ctx) (tg : Expr) (is : List Nat) (upd : D → Gam → Gam) (okd : D → Prop) : Prop :=
  ∀ X, Fit X Y → ∃ g, PG X tg g ∧ ∀ W Γ σ S H d v, okd d → RepE Y.B W Γ σ → Ok Y.B W S H → Rep Y.B W d v → ∀ Q : St → Hp → Prop, (∀ σ', RepE Y.B W (upd d Γ) σ' → σ'.length = σ.length → (∀ j : Nat, j ∉ is → σ'[j]? = σ[j]?) → Q σ' H) → g v σ H Q
theorem g_name {i : Nat} {nm : Str} (hi : slot Y.N nm = some i) (hl : locB Y.sc nm = true) (hf : fnlB Y nm = true) : EvG Y (.Name nm pos) [i] (fun d Γ => Γ.set i (some d)) (fun _ => True) := by
  intro X F
  refine ⟨gName i, pg_name (F.N ▸ F.nd) (by rw [F.N]; exact slot_get hi) (loc_of F hl) (fnl_of F hf), fun W Γ σ S H d v _ hE hO r Q hQ => hQ _ (hE.set r) (by rw [List.length_set]) fun j hj => ?_⟩
  exact List.getElem?_set_ne (fun z => hj (by simp [z]))
theorem g_tup {es : List Expr} {is : List Nat} {k : Nat} (t : Tgt Y es is) : EvG Y (.Tuple es k pos) is (fun d Γ => match d with
    | .tup ds => sets Γ is ds
    | _ => Γ) (fun d => ∃ ds, d = .tup ds ∧ ds.length = is.length) := by
  intro X F
  obtain ⟨g1, g2⟩ := tgt_len t X.env
  refine ⟨_, pg_tup (n := is.length) F.calm pgs_wp g1 g2, fun W Γ σ S H d v hd hE hO r Q hQ => ?_⟩
  obtain ⟨ds, e1, hl⟩ := hd
  subst e1
  simp only [Rep] at r
  obtain ⟨q, vs, ev, hq, rs⟩ := r
  exact ⟨q, vs, ev, F.K ▸ sqT_mono hO.sub hq, by rw [rs.length]; exact hl, tgt_run t F hl rs hE hQ⟩
theorem s_forG {tg iter : Expr} {body : List Stmt} {is : List Nat} {up : D → Gam → Gam} {okd : D → Prop} (hi : EvI Y tg iter Γ S ds S1) (hg : EvG Y tg is up okd) (hok : ∀ d ∈ ds, okd d) (I : Nat → Gam → Store → Prop) (h0 : I 0 Γ S1)
    (hs : ∀ (i : Nat) d Γ' S', ds[i]? = some d → I i Γ' S' → EvSs Y body (up d Γ') S' { E with nx := I (i + 1), ct := I (i + 1), bk := E.nx }) (hd : ∀ Γ' S', I ds.length Γ' S' → E.nx Γ' S')
    (hst : noSetB iter = true := by rfl) : EvS Y (.For tg iter body [] pos) Γ S E := by
  intro X F W σ H Dn hE hO hD
  obtain ⟨g, pg, hgq⟩ := hg X F
  have hxe : PassesOwn (model X.prog X.w) X.A X.env X.xe := by rw [F.xe]; exact PassesOwn.never
  refine wpS_of (ps_for hxe F.calm pi_wp pg pss_wp (fun x => by cases iter <;> first | rfl | cases hst)) ?_
  refine hi X F W σ H hE hO _ fun W1 H1 J l1 o1 hy => ?_
  refine ⟨fun i m σ' H' => m = ds.length - i ∧ i ≤ ds.length ∧ ∃ W' Γ' S', Tr W1 H1 W' H' ∧ RepE Y.B W' Γ' σ' ∧ Ok Y.B W' S' H' ∧ I i Γ' S', ⟨ds.length, by simp, Nat.zero_le _, W1, Γ, S1, .refl W1, hE.mono l1.le, o1, h0⟩, ?_⟩
  rintro i m σ' H' ⟨rfl, hil, W', Γ', S', l', hE', o', hI⟩
  by_cases hlt : i < ds.length
  · refine .inr ⟨hy.go i W' S' H' hlt l'.le o', fun σ2 H2 => i + 1 ≤ ds.length ∧ ∃ W2 Γ2 S2, Tr W1 H1 W2 H2 ∧ RepE Y.B W2 Γ2 σ2 ∧ Ok Y.B W2 S2 H2 ∧ I (i + 1) Γ2 S2, fun σ2 H2 ⟨h1, h2⟩ => ⟨ds.length - (i + 1), by omega, rfl, h1, h2⟩, fun v H2 hyl => ?_⟩
    have hdi : ds[i]? = some ds[i] := List.getElem?_eq_getElem hlt
    obtain ⟨W2, t2, o2, r2⟩ := hy.yl i W' S' H' v H2 _ hdi l'.le o' hyl
    refine hgq W2 Γ' σ' S' H2 ds[i] v (hok _ (List.getElem_mem hlt)) (hE'.mono t2.le) o2 r2 _ fun σ2 hE2 _ _ => ?_
    refine hs i ds[i] Γ' S' hdi hI X F W2 σ2 H2 _ hE2 o2 ⟨fun W3 Γ3 S3 σ3 H3 t3 e3 o3 q => ?_, fun W3 d3 S3 v3 H3 t3 r3 o3 q => ?_, fun W3 Γ3 S3 σ3 H3 t3 e3 o3 q => ?_, fun W3 Γ3 S3 σ3 H3 t3 e3 o3 q => ?_⟩
    · exact ⟨hlt, W3, Γ3, S3, (l'.trans t2).trans t3, e3, o3, q⟩
    · exact hD.rt W3 d3 S3 v3 H3 (((l1.trans l').trans t2).trans t3) r3 o3 q
    · exact hD.nx W3 Γ3 S3 σ3 H3 (((l1.trans l').trans t2).trans t3) e3 o3 q
    · exact ⟨hlt, W3, Γ3, S3, (l'.trans t2).trans t3, e3, o3, q⟩
  · obtain rfl : i = ds.length := by omega
    exact .inl ⟨hy.stop _ W' S' H' (Nat.le_refl _) l'.le o', hD.nx W' Γ' S' σ' H' (l1.trans l') hE' o' (hd Γ' S' hI)⟩
theorem s_for {nm : Str} {p2 : Pos} {iter : Expr} {body : List Stmt} {j : Nat} (hj : slot Y.N nm = some j) (hl : locB Y.sc nm = true) (hf : fnlB Y nm = true) (hi : EvI Y (.Name nm p2) iter Γ S ds S1) (I : Nat → Gam → Store → Prop) (h0 : I 0 Γ S1)
    (hs : ∀ (i : Nat) d Γ' S', ds[i]? = some d → I i Γ' S' → EvSs Y body (Γ'.set j (some d)) S' { E with nx := I (i + 1), ct := I (i + 1), bk := E.nx }) (hd : ∀ Γ' S', I ds.length Γ' S' → E.nx Γ' S')
    (hst : noSetB iter = true := by rfl) : EvS Y (.For (.Name nm p2) iter body [] pos) Γ S E :=
  s_forG hi (g_name hj hl hf) (fun _ _ => trivial) I h0 hs hd hst
end
end DL
/-! text: DLf -/
/-! DL, part f: comprehensions, defs and their calls. -/
namespace DL
open PySem L2

/-! ### comprehensions -/
abbrev blkY (Y : Ctx) (scope : Scope) : Ctx := { Y with sc := relS scope Y.sc, fn := fun x => scope.names.lookup x == some .cell }
theorem fit_blk {X : Cx} {Y : Ctx} (F : Fit X Y) {scope : Scope} (s : Shared) (H : Hp) (C : Addr) (cl : List (Str × Addr)) (fp : List Addr) : Fit (X.blk s H scope (compEnvC scope cl C X.env) fp) (blkY Y scope) :=
  ⟨F.prog, F.w, F.K, F.mg, F.base, F.N, by show relS scope X.env.scope = relS scope Y.sc; rw [F.sc], F.calm, F.room, F.nd, fun x h => h, rfl⟩
theorem wipe_get (σ : St) : ∀ (vs : List Nat) (j : Nat), (wipe σ vs)[j]? = if j ∈ vs then (if j < σ.length then some none else none) else σ[j]?
  | [], j => by simp [wipe]
  | v :: vs, j => by
    unfold wipe
    by_cases h : v = j
    · subst h
      rw [if_pos List.mem_cons_self]
      by_cases hl : v < σ.length
      · rw [if_pos hl, List.getElem?_set_self (by rw [wipe_length]; exact hl)]
      · rw [if_neg hl, List.getElem?_eq_none (by rw [List.length_set, wipe_length]; omega)]
    · rw [List.getElem?_set_ne h, wipe_get σ vs j]
      by_cases hm : j ∈ vs
      · rw [if_pos hm, if_pos (List.mem_cons_of_mem _ hm)]
      · rw [if_neg hm, if_neg (fun z => by rcases List.mem_cons.mp z with z | z; exact h z.symm; exact hm z)]
theorem wipe_same {σ τ : St} {vs : List Nat} (hl : σ.length = τ.length) (h : ∀ j : Nat, j ∉ vs → σ[j]? = τ[j]?) : wipe σ vs = wipe τ vs := by
  apply List.ext_getElem?
  intro j
  rw [wipe_get, wipe_get, hl]
  by_cases hm : j ∈ vs
  · rw [if_pos hm, if_pos hm]
  · rw [if_neg hm, if_neg hm, h j hm]
theorem wipe_wipe (σ : St) (vs : List Nat) : wipe (wipe σ vs) vs = wipe σ vs := wipe_same (wipe_length σ vs) fun j hj => by rw [wipe_get, if_neg hj]
def wipeG (Γ : Gam) : List Nat → Gam
  | [] => Γ
  | v :: vs => (wipeG Γ vs).set v none
theorem RepE.wipe {B : Bs} {W : Wd} {Γ : Gam} {σ : St} (h : RepE B W Γ σ) : ∀ vs : List Nat, RepE B W (wipeG Γ vs) (L2.wipe σ vs)
  | [] => h
  | v :: vs => by
    have ih := RepE.wipe h vs
    refine ⟨by show (List.set _ _ _).length = (List.set _ _ _).length; rw [List.length_set, List.length_set, ih.len], fun i d e => ?_⟩
    have e : ((wipeG Γ vs).set v none)[i]? = some (some d) := e
    by_cases hi : v = i
    · subst hi
      by_cases hl : v < (wipeG Γ vs).length
      · rw [List.getElem?_set_self hl] at e; cases e
      · rw [List.getElem?_eq_none (by rw [List.length_set]; omega)] at e; cases e
    · rw [List.getElem?_set_ne hi] at e
      obtain ⟨u, h1, h2⟩ := ih.at_ i d e
      exact ⟨u, by show ((L2.wipe σ vs).set v none)[i]? = _; rw [List.getElem?_set_ne hi]; exact h1, h2⟩
/-- a list that is neither the world's nor a cell is written -/
theorem Ok.foreign {B : Bs} {W : Wd} {S : Store} {H : Hp} (h : Ok B W S H) {q : Addr} {o : HO} (hg : W.G q = none) (hm : q ∉ W.mu) : Ok B W S (upd H q o) := by
  refine ⟨fun a u e => ?_, h.len, fun i c e => ?_, h.inj, fun a m => dom_for (fun z => hm (z ▸ m)) (h.dom a m)⟩
  · rw [upd_ne (ne_of_none e hg)]
    exact h.sub a u e
  · obtain ⟨a, us, h1, h2, h3, h4⟩ := h.cell i c e
    have z : a ≠ q := fun z => hm (by rw [← z]; exact List.mem_of_getElem? h1)
    exact ⟨a, us, h1, h2, by rw [upd_ne z]; exact h3, h4⟩
/-- such an object becomes the world's -/
theorem Ok.adopt {B : Bs} {W : Wd} {S : Store} {H : Hp} (h : Ok B W S H) {q : Addr} {o : HO} (hq : H q = some o) (hg : W.G q = none) (hm : q ∉ W.mu) : Ok B ⟨upd W.G q o, W.mu⟩ S H ∧ Le W ⟨upd W.G q o, W.mu⟩ := by
  have le : Le W ⟨upd W.G q o, W.mu⟩ := ⟨fun a u e => by
    show upd W.G q o a = some u
    rw [upd_ne (ne_of_none e hg)]
    exact e, [], by simp⟩
  refine ⟨⟨fun a u e => ?_, h.len, fun i c e => ?_, h.inj, h.dom⟩, le⟩
  · have e : upd W.G q o a = some u := e
    by_cases z : a = q
    · subst z
      rw [upd_same] at e
      cases e
      exact hq
    · rw [upd_ne z] at e
      exact h.sub a u e
  · obtain ⟨a, us, h1, h2, h3, h4⟩ := h.cell i c e
    have z : a ≠ q := fun z => hm (by rw [← z]; exact List.mem_of_getElem? h1)
    exact ⟨a, us, h1, by show upd W.G q o a = none; rw [upd_ne z]; exact h2, h3, Reps.mono le _ _ h4⟩

/-- the tests of a comprehension -/
inductive Ifs (Y : Ctx) (Γ : Gam) (S : Store) : List Expr → Bool → Store → Prop
  | no : Ifs Y Γ S [] true S
  | one {c : Expr} {k : Bool} {S1 : Store} (h : EvT Y c Γ S k S1) : Ifs Y Γ S [c] k S1
def ttOf (X : Cx) (scope : Scope) : List Expr → TT
  | [] => tYes
  | [c] => fun σ H Q => ∀ (s0 : Shared) (H0 : Hp) (C : Addr) (cl : List (Str × Addr)) (fp : List Addr), wpT (X.blk s0 H0 scope (compEnvC scope cl C X.env) fp) c σ H Q
  | _ => fun _ _ _ => False
theorem pts_tt {X : Cx} {scope : Scope} (s0 : Shared) (H0 : Hp) (C : Addr) (cl : List (Str × Addr)) (fp : List Addr) : ∀ ifs : List Expr, PTs (X.blk s0 H0 scope (compEnvC scope cl C X.env) fp) ifs (ttOf X scope ifs)
  | [] => pts_nil
  | [c] => pts_one ⟨fun pins s σ H Q I h => h s0 H0 C cl fp pins s I⟩
  | _ :: _ :: _ => ⟨fun _ _ _ _ _ _ h => h.elim⟩
section
variable {Y : Ctx} {Γ : Gam} {S S1 S2 S3 : Store} {a b c e : Expr} {es : List Expr} {x y z d : D} {ds : List D} {pos p p2 : Pos} {E : DE}
def eltOf (X : Cx) (scope : Scope) (elt : Expr) : TE := fun σ H Q => ∀ (s0 : Shared) (H0 : Hp) (C : Addr) (cl : List (Str × Addr)) (fp : List Addr), wpE (X.blk s0 H0 scope (compEnvC scope cl C X.env) fp) elt σ H Q
theorem pe_elt {X : Cx} {scope : Scope} {elt : Expr} (s0 : Shared) (H0 : Hp) (C : Addr) (cl : List (Str × Addr)) (fp : List Addr) : PE (X.blk s0 H0 scope (compEnvC scope cl C X.env) fp) elt (eltOf X scope elt) := ⟨fun pins s σ H Q I h => h s0 H0 C cl fp pins s I⟩
/-- one turn of a comprehension -/
def LcTurn (Y : Ctx) (elt : Expr) (ifs : List Expr) (Γ : Gam) (S : Store) (acc : List D) (nxt : List D → Store → Prop) : Prop :=
  ∃ k S2, Ifs Y Γ S ifs k S2 ∧ (k = true → ∃ y S3, EvE Y elt Γ S2 y S3 ∧ nxt (acc ++ [y]) S3) ∧ (k = false → nxt acc S2)
theorem lc_run {X : Cx} (F : Fit X Y) {tg iter elt : Expr} {ifs : List Expr} {scope : Scope} {own : List (Str × Nat)} {is : List Nat} {up : D → Gam → Gam} {okd : D → Prop} (hi : EvI Y tg iter Γ S ds S1) (hg : EvG (blkY Y scope) tg is up okd) (hok : ∀ d ∈ ds, okd d)
    (hown : ∀ j ∈ is, j ∈ own.map (·.2)) (I : Nat → List D → Store → Prop) (h0 : I 0 [] S1)
    (hs : ∀ (i : Nat) d acc S', ds[i]? = some d → I i acc S' → LcTurn (blkY Y scope) elt ifs (up d (wipeG Γ (own.map (·.2)))) S' acc (I (i + 1))) {res : List D} {Se : Store}
    (hd : ∀ acc S', I ds.length acc S' → acc = res ∧ S' = Se) (hlen : ds.length ≤ 100000) {W : Wd} {σ : St} {H : Hp} (hE : RepE Y.B W Γ σ) (hO : Ok Y.B W S H) {Q : VK} (hQ : ∀ W' v H', Tr W H W' H' → Ok Y.B W' Se H' → Rep Y.B W' (.lst res) v → Q v H')
    {g : TG} (hgq : ∀ W Γ σ S H d v, okd d → RepE Y.B W Γ σ → Ok Y.B W S H → Rep Y.B W d v → ∀ Q : St → Hp → Prop, (∀ σ', RepE Y.B W (up d Γ) σ' → σ'.length = σ.length → (∀ j : Nat, j ∉ is → σ'[j]? = σ[j]?) → Q σ' H) → g v σ H Q) :
    tLc (wpI X tg iter) g (ttOf X scope ifs) (eltOf X scope elt) (own.map (·.2)) σ H Q := by
  refine hi X F W σ H hE hO _ fun W1 H1 J l1 o1 hy => fun q hq => ?_
  obtain ⟨hq1, hm1⟩ := o1.out hq
  have cl1 : Tr W1 H1 W1 (upd H1 q (.lst [])) := ⟨.refl W1, fun a o ha hga hma => ⟨by rw [upd_ne (ne_of_none ha hq)]; exact ha, hga, hma⟩⟩
  refine ⟨fun i m H' => m = ds.length - i ∧ i ≤ ds.length ∧ ∃ W' acc vs S', Tr W1 H1 W' H' ∧ Ok Y.B W' S' H' ∧ W'.G q = none ∧ q ∉ W'.mu ∧ H' q = some (.lst vs) ∧ Reps Y.B W' acc vs ∧ acc.length ≤ i ∧ I i acc S',
    ⟨ds.length, by simp, Nat.zero_le _, W1, [], [], S1, cl1, o1.foreign hq1 hm1, hq1, hm1, upd_same, .nil, Nat.le_refl _, h0⟩, ?_⟩
  rintro i m H' ⟨rfl, hil, W', acc, vs, S', l', o', hgq', hmq', hHq, hrs, hal, hI⟩
  by_cases hlt : i < ds.length
  · refine .inr ⟨hy.go i W' S' H' hlt l'.le o', fun H2 => i + 1 ≤ ds.length ∧ ∃ W' acc vs S', Tr W1 H1 W' H2 ∧ Ok Y.B W' S' H2 ∧ W'.G q = none ∧ q ∉ W'.mu ∧ H2 q = some (.lst vs) ∧ Reps Y.B W' acc vs ∧ acc.length ≤ i + 1 ∧ I (i + 1) acc S',
      fun H2 ⟨h1, h2⟩ => ⟨ds.length - (i + 1), by omega, rfl, h1, h2⟩, fun v H2 hyl => ?_⟩
    have hdi : ds[i]? = some ds[i] := List.getElem?_eq_getElem hlt
    obtain ⟨W2, t2, o2, r2⟩ := hy.yl i W' S' H' v H2 _ hdi l'.le o' hyl
    obtain ⟨k2, gq2, mq2⟩ := t2.fo q _ hHq hgq' hmq'
    have hEw := ((hE.mono (l1.trans (l'.trans t2)).le).wipe (own.map (·.2)))
    refine hgq W2 (wipeG Γ (own.map (·.2))) (wipe σ (own.map (·.2))) S' H2 ds[i] v (hok _ (List.getElem_mem hlt)) hEw o2 r2 _ ?_
    intro σ2 hE2 hl2 hs2
    refine ⟨?_, ?_⟩
    · rw [wipe_same (τ := wipe σ (own.map (·.2))) hl2 fun j hj => hs2 j fun z => hj (hown j z)]
      exact wipe_wipe _ _
    obtain ⟨k, S2, hif, hT, hF⟩ := hs i ds[i] acc S' hdi hI
    -- behind the tests
    have key : ∀ W3 H3, Tr W2 H2 W3 H3 → Ok Y.B W3 S2 H3 → (if k = true then (∀ (s0 : Shared) (H0 : Hp) (C : Addr) (cl : List (Str × Addr)) (fp : List Addr), wpE (X.blk s0 H0 scope (compEnvC scope cl C X.env) fp) elt σ2 H3 fun y H4 => ∃ acc, H4 q = some (.lst acc) ∧ acc.length < sizeLine ∧
        (i + 1 ≤ ds.length ∧ ∃ W' acc' vs S', Tr W1 H1 W' (upd H4 q (.lst (acc ++ [y]))) ∧ Ok Y.B W' S' (upd H4 q (.lst (acc ++ [y]))) ∧ W'.G q = none ∧ q ∉ W'.mu ∧ (upd H4 q (.lst (acc ++ [y]))) q = some (.lst vs) ∧ Reps Y.B W' acc' vs ∧ acc'.length ≤ i + 1 ∧ I (i + 1) acc' S'))
        else (i + 1 ≤ ds.length ∧ ∃ W' acc vs S', Tr W1 H1 W' H3 ∧ Ok Y.B W' S' H3 ∧ W'.G q = none ∧ q ∉ W'.mu ∧ H3 q = some (.lst vs) ∧ Reps Y.B W' acc vs ∧ acc.length ≤ i + 1 ∧ I (i + 1) acc S')) := by
      intro W3 H3 t3 o3
      obtain ⟨k3, gq3, mq3⟩ := t3.fo q _ k2 gq2 mq2
      cases k with
      | false =>
        rw [if_neg Bool.false_ne_true]
        exact ⟨hlt, W3, acc, vs, S2, (l'.trans t2).trans t3, o3, gq3, mq3, k3, Reps.mono (t2.trans t3).le _ _ hrs, Nat.le_succ_of_le hal, hF rfl⟩
      | true =>
        rw [if_pos rfl]
        intro s0 H0 C cl fp
        obtain ⟨y, S3, hel, hnx⟩ := hT rfl
        refine hel _ (fit_blk F s0 H0 C cl fp) W3 σ2 H3 (hE2.mono t3.le) o3 _ fun W4 v4 H4 t4 o4 r4 => ?_
        obtain ⟨k4, gq4, mq4⟩ := t4.fo q _ k3 gq3 mq3
        have rv := Reps.mono ((t2.trans t3).trans t4).le _ _ hrs
        refine ⟨vs, k4, by rw [rv.length]; exact Nat.lt_of_le_of_lt (show acc.length ≤ 100000 by omega) (by decide), hlt, W4, acc ++ [y], vs ++ [v4], S3, ⟨(((l'.trans t2).trans t3).trans t4).le, fun a o ha hga hma => ?_⟩, o4.foreign gq4 mq4, gq4, mq4, upd_same, rv.append (.cons r4 .nil), by rw [List.length_append, List.length_singleton]; omega, hnx⟩
        obtain ⟨z1, z2, z3⟩ := (((l'.trans t2).trans t3).trans t4).fo a o ha hga hma
        exact ⟨by rw [upd_ne (ne_of_none ha hq)]; exact z1, z2, z3⟩
    cases hif with
    | no => exact key W2 H2 (.refl W2) o2
    | one h =>
      intro s0 H0 C cl fp
      exact h _ (fit_blk F s0 H0 C cl fp) W2 σ2 H2 hE2 o2 _ fun W3 H3 t3 o3 => key W3 H3 t3 o3
  · obtain rfl : i = ds.length := by omega
    refine .inl ⟨hy.stop _ W' S' H' (Nat.le_refl _) l'.le o', ?_⟩
    obtain ⟨e1, e2⟩ := hd acc S' hI
    subst e1; subst e2
    obtain ⟨o5, l5⟩ := o'.adopt hHq hgq' hmq'
    refine hQ _ _ _ (l1.trans ⟨l'.le.trans l5, fun a o ha hga hma => ?_⟩) o5 (Rep.newL (Reps.mono l5 _ _ hrs))
    obtain ⟨z1, z2, z3⟩ := l'.fo a o ha hga hma
    exact ⟨z1, by show upd W'.G q _ a = none; rw [upd_ne (ne_of_none ha hq)]; exact z2, z3⟩
theorem e_lcG {tg iter elt : Expr} {ifs : List Expr} {scope : Scope} (own : List (Str × Nat)) {is : List Nat} {up : D → Gam → Gam} {okd : D → Prop} (hi : EvI Y tg iter Γ S ds S1) (hg : EvG (blkY Y scope) tg is up okd) (hok : ∀ d ∈ ds, okd d)
    (hown : ∀ j ∈ is, j ∈ own.map (·.2)) (hb : blkC Y.N Y.sc scope own = true) (I : Nat → List D → Store → Prop) (h0 : I 0 [] S1)
    (hs : ∀ (i : Nat) d acc S', ds[i]? = some d → I i acc S' → LcTurn (blkY Y scope) elt ifs (up d (wipeG Γ (own.map (·.2)))) S' acc (I (i + 1))) {res : List D} {Se : Store}
    (hd : ∀ acc S', I ds.length acc S' → acc = res ∧ S' = Se) (hlen : ds.length ≤ 100000) (hst : noSetB iter = true := by rfl) : EvE Y (.ListComp elt [⟨tg, iter, ifs, 0⟩] scope pos) Γ S (.lst res) Se := by
  intro X F W σ H hE hO Q hQ
  -- the target's reading is one for all blocks
  have hg' : ∃ g, (∀ (s0 : Shared) (H0 : Hp) (C : Addr) (cl : List (Str × Addr)) (fp : List Addr), PG (X.blk s0 H0 scope (compEnvC scope cl C X.env) fp) tg g) ∧ ∀ W Γ σ S H d v, okd d → RepE Y.B W Γ σ → Ok Y.B W S H → Rep Y.B W d v → ∀ Q : St → Hp → Prop, (∀ σ', RepE Y.B W (up d Γ) σ' → σ'.length = σ.length → (∀ j : Nat, j ∉ is → σ'[j]? = σ[j]?) → Q σ' H) → g v σ H Q := by
    refine ⟨fun v σ H Q => ∀ (s0 : Shared) (H0 : Hp) (C : Addr) (cl : List (Str × Addr)) (fp : List Addr) pins s u, Inv (X.blk s0 H0 scope (compEnvC scope cl C X.env) fp) pins σ H s → RelV v u →
      wpAny (model X.prog X.w) X.A (assign tg (compEnvC scope cl C X.env) u) (fun _ s' => ∃ σ' H', Inv (X.blk s0 H0 scope (compEnvC scope cl C X.env) fp) pins σ' H' s' ∧ Q σ' H') (fun _ _ => False) s, fun s0 H0 C cl fp => ⟨fun pins s σ H v u Q I r h => h s0 H0 C cl fp pins s u I r⟩, ?_⟩
    intro W Γ σ S H d v h1 h2 h3 h4 Q h5 s0 H0 C cl fp pins s u I r
    obtain ⟨g, pg, hgq⟩ := hg _ (fit_blk F s0 H0 C cl fp)
    exact pg.run pins s σ H v u Q I r (hgq W Γ σ S H d v h1 h2 h3 h4 Q h5)
  obtain ⟨g, pg, hgq⟩ := hg'
  have hblk : BlkOk X.N X.env.scope scope own := by rw [F.N, F.sc]; exact blkOk_by hb
  refine wpE_of (pe_lc F.calm (F.N ▸ F.nd) pi_wp hblk pg (fun s0 H0 C cl fp => pts_tt s0 H0 C cl fp ifs) (fun s0 H0 C cl fp => pe_elt s0 H0 C cl fp) (fun x => by cases iter <;> first | rfl | cases hst)) ?_
  exact lc_run F hi hg hok hown I h0 hs hd hlen hE hO hQ hgq
/-- y = [..] on one line -/
theorem s_setLc {i : Nat} {nm : Str} {py : Pos} {tg iter elt : Expr} {ifs : List Expr} {scope : Scope} (own : List (Str × Nat)) {is : List Nat} {up : D → Gam → Gam} {okd : D → Prop} (hsl : slot Y.N nm = some i) (hl : onlyL Y.sc nm = true)
    (hsw : ∀ env : Env, env.scope = Y.sc → swapsWith (.ListComp elt [⟨tg, iter, ifs, 0⟩] scope p2) (some (.Name nm py)) pos.line env = pure true) (hi : EvI Y tg iter Γ S ds S1) (hg : EvG (blkY Y scope) tg is up okd) (hok : ∀ d ∈ ds, okd d)
    (hown : ∀ j ∈ is, j ∈ own.map (·.2)) (hb : blkC Y.N Y.sc scope own = true) (I : Nat → List D → Store → Prop) (h0 : I 0 [] S1)
    (hs : ∀ (i : Nat) d acc S', ds[i]? = some d → I i acc S' → LcTurn (blkY Y scope) elt ifs (up d (wipeG Γ (own.map (·.2)))) S' acc (I (i + 1))) {res : List D} {Se : Store}
    (hd : ∀ acc S', I ds.length acc S' → acc = res ∧ S' = Se) (hlen : ds.length ≤ 100000) (hn : E.nx (Γ.set i (some (.lst res))) Se) (hst : noSetB iter = true := by rfl) : EvS Y (.Assign [.Name nm py] (.ListComp elt [⟨tg, iter, ifs, 0⟩] scope p2) pos) Γ S E := by
  intro X F W σ H Dn hE hO hD
  have hg' : ∃ g, (∀ (s0 : Shared) (H0 : Hp) (C : Addr) (cl : List (Str × Addr)) (fp : List Addr), PG (X.blk s0 H0 scope (compEnvC scope cl C X.env) fp) tg g) ∧ ∀ W Γ σ S H d v, okd d → RepE Y.B W Γ σ → Ok Y.B W S H → Rep Y.B W d v → ∀ Q : St → Hp → Prop, (∀ σ', RepE Y.B W (up d Γ) σ' → σ'.length = σ.length → (∀ j : Nat, j ∉ is → σ'[j]? = σ[j]?) → Q σ' H) → g v σ H Q := by
    refine ⟨fun v σ H Q => ∀ (s0 : Shared) (H0 : Hp) (C : Addr) (cl : List (Str × Addr)) (fp : List Addr) pins s u, Inv (X.blk s0 H0 scope (compEnvC scope cl C X.env) fp) pins σ H s → RelV v u →
      wpAny (model X.prog X.w) X.A (assign tg (compEnvC scope cl C X.env) u) (fun _ s' => ∃ σ' H', Inv (X.blk s0 H0 scope (compEnvC scope cl C X.env) fp) pins σ' H' s' ∧ Q σ' H') (fun _ _ => False) s, fun s0 H0 C cl fp => ⟨fun pins s σ H v u Q I r h => h s0 H0 C cl fp pins s u I r⟩, ?_⟩
    intro W Γ σ S H d v h1 h2 h3 h4 Q h5 s0 H0 C cl fp pins s u I r
    obtain ⟨g, pg, hgq⟩ := hg _ (fit_blk F s0 H0 C cl fp)
    exact pg.run pins s σ H v u Q I r (hgq W Γ σ S H d v h1 h2 h3 h4 Q h5)
  obtain ⟨g, pg, hgq⟩ := hg'
  have hblk : BlkOk X.N X.env.scope scope own := by rw [F.N, F.sc]; exact blkOk_by hb
  refine wpS_of (ps_setLc (i := i) F.calm (F.N ▸ F.nd) (by rw [F.N]; exact slot_get hsl) (onlyL_of F hl) (hsw X.env F.sc) pi_wp hblk pg (fun s0 H0 C cl fp => pts_tt s0 H0 C cl fp ifs) (fun s0 H0 C cl fp => pe_elt s0 H0 C cl fp) (fun x => by cases iter <;> first | rfl | cases hst)) ?_
  exact lc_run F hi hg hok hown I h0 hs hd hlen hE hO (fun W1 v1 H1 t1 o1 r1 => hD.nx W1 _ Se _ H1 t1 ((hE.mono t1.le).set r1) o1 hn) hgq
end
end DL
/-! text: DLg -/
/-! DL, part g: defs, calls, quotients made. -/
namespace L2
open PySem PySem.Spec PyProof.Rows
section
variable {X : Cx} {CX : CXT} {k n : Nat} {f : Addr} {fd : FuncData} {ps ks : List Str} {sp : Sp} {E : XK} {x : Str} {p pos : Pos} {e : Expr} {es : List Expr} {kws : List Keyword} {t tk : TA} {g : List Value → List Value → List Value} {gV : List V → List V → List V}
/-- f(k = v, ..) without positional arguments -/
theorem pe_callN0 (F : FnOk X.prog X.w X.K X.mg X.base CX k f fd ps sp) (hr : Room k X.A) (hg : Gl X x) (hm : X.mg x = some (.ref f)) (hk : PySem.W.keepIn X.K (.ref f) = true) (hb : KBn X.K fd ps 0 ks g gV) (hx : Passes CX X E)
    (hkw : PK X kws tk) (hall : (backToKw pos (keywordEach kws X.env)).all (·.1.isSome) = true) (hks : (backToKw pos (keywordEach kws X.env)).filterMap (·.1) = ks)
    (hdb : (x == ("__debug__" : Str)) = false) (hpl : ((backTo pos (starEach [] X.env)).any (·.1) || (backToKw pos (keywordEach kws X.env)).any (·.1.isNone)) = false) :
    PE X (.Call (.Name x p) [] kws pos) (tCallN 0 ks.length sp gV E tNil tk) := by
  refine ⟨fun pins s σ H Q I h => ?_⟩
  refine wpAny_Call_Name_kw (ld_glob I hg hm ?_ hdb)
  refine PySem.W.callWith_KW0 (h₀ := X.base) I.ok.mod.kin hk hall ?_ hpl
  refine thn (hkw.run pos pins s σ H _ I h) fun ws s2 ⟨zs, H2, I2, rz, l1, l2, q2⟩ => ⟨I2.kIn, ?_⟩
  rw [hks]
  exact run_fnN (us := []) (vs := []) F hr hb hx I2 .nil rz rfl l2 q2
end
/-- // by any divisor below 2 ^ 9000 -/
def CDivG (_ j : Int) : Prop := j ≠ 0 ∧ j.natAbs.log2 < 9000
theorem op_fdivG {X : Cx} : OpR X (binaryOp .FloorDiv) (rI CDivG fun i j => .int (i.fdiv j)) := opI fun _ _ _ _ _ _ _ hc q => floordiv_int hc.1 q (.inl (PyProof.noPylong_of_log2 hc.2))
end L2
namespace DL
open PySem L2

/-! ### no cell within -/
mutual
def D.noc : D → Bool
  | .cel _ => false
  | .lst ds => nocs ds
  | .fro ds => nocs ds
  | .tup ds => nocs ds
  | .dct _ ds => nocs ds
  | _ => true
def nocs : List D → Bool
  | [] => true
  | d :: ds => d.noc && nocs ds
end
mutual
theorem Rep.cut {B : Bs} {W : Wd} {mu' : List Addr} : ∀ (d : D) (v : V), d.noc = true → Rep B W d v → Rep B ⟨W.G, mu'⟩ d v
  | .non, _, _, h => h
  | .bl _, _, _, h => h
  | .int _, _, _, h => h
  | .str _, _, _, h => h
  | .ty _, _, _, h => h
  | .adr _, _, _, h => h
  | .rat t b, v, _, h => by
    simp only [Rep] at h ⊢
    exact h
  | .lst ds, v, hn, h => by
    simp only [Rep] at h ⊢
    obtain ⟨a, vs, e, g, r⟩ := h
    exact ⟨a, vs, e, g, Reps.cut ds vs (by simpa only [D.noc] using hn) r⟩
  | .fro ds, v, hn, h => by
    simp only [Rep] at h ⊢
    obtain ⟨a, vs, e, g, r⟩ := h
    exact ⟨a, vs, e, g, Reps.cut ds vs (by simpa only [D.noc] using hn) r⟩
  | .tup ds, v, hn, h => by
    simp only [Rep] at h ⊢
    obtain ⟨a, vs, e, g, r⟩ := h
    exact ⟨a, vs, e, g, Reps.cut ds vs (by simpa only [D.noc] using hn) r⟩
  | .cel i, v, hn, h => by simp only [D.noc] at hn; cases hn
  | .dct ks ds, v, hn, h => by
    simp only [Rep] at h ⊢
    obtain ⟨a, es, e, g, k, t, r⟩ := h
    exact ⟨a, es, e, g, k, t, Reps.cut ds _ (by simpa only [D.noc] using hn) r⟩
theorem Reps.cut {B : Bs} {W : Wd} {mu' : List Addr} : ∀ (ds : List D) (vs : List V), nocs ds = true → Reps B W ds vs → Reps B ⟨W.G, mu'⟩ ds vs
  | [], _, _, h => h
  | d :: ds, vs, hn, h => by
    simp only [nocs, Bool.and_eq_true] at hn
    obtain ⟨v, r, e, a, b⟩ := h.cons_inv
    subst e
    exact .cons (Rep.cut d v hn.1 a) (Reps.cut ds r hn.2 b)
end
def nocS (S : Store) : Prop := ∀ (i : Nat) (c : List D), S[i]? = some (some c) → nocs c = true
theorem nocs_all : ∀ {ds : List D}, nocs ds = true ↔ ∀ d ∈ ds, d.noc = true
  | [] => by simp [nocs]
  | d :: ds => by
    simp only [nocs, Bool.and_eq_true, List.mem_cons, forall_eq_or_imp]
    rw [nocs_all]

/-! ### defs -/
/-- a def's promise by data -/
def spD (B : Bs) (n : Nat) (F : List D → Store → D → Store → Prop) : Sp := fun vs H Q _ => ∃ W args S d S', args.length = n ∧ Reps B W args vs ∧ Ok B W S H ∧ F args S d S' ∧ ∀ W' v H', Tr W H W' H' → Ok B W' S' H' → Rep B W' d v → Q v H'
/-- the def of that name stands and keeps it -/
structure DefP (B : Bs) (nm : Str) (st : Stmt) (ps : List Str) (k : Nat) (F : List D → Store → D → Store → Prop) : Prop where
  ex : ∃ (f : Addr) (fd : FuncData), Fun B.K nm nm st f fd ∧ FnOk B.P B.w B.K B.mg B.base CX0 k f fd ps (spD B ps.length F) ∧ B.mg nm = some (.ref f) ∧ Binds B.K fd ps []
theorem DefP.mono {B : Bs} {nm : Str} {st : Stmt} {ps : List Str} {k j : Nat} {F : List D → Store → D → Store → Prop} (h : DefP B nm st ps k F) (hk : k ≤ j) : DefP B nm st ps j F := by
  obtain ⟨f, fd, h1, h2, h3, h4⟩ := h.ex
  exact ⟨f, fd, h1, h2.mono hk, h3, h4⟩
/-- another promise that follows -/
theorem DefP.imp {B : Bs} {nm : Str} {st : Stmt} {ps : List Str} {k : Nat} {F F' : List D → Store → D → Store → Prop} (h : DefP B nm st ps k F) (hF : ∀ a S d S', F' a S d S' → F a S d S') : DefP B nm st ps k F' := by
  obtain ⟨f, fd, h1, h2, h3, h4⟩ := h.ex
  exact ⟨f, fd, h1, h2.imp fun vs H Q E ⟨W, args, S, d, S', q1, q2, q3, q4, q5⟩ => ⟨W, args, S, d, S', q1, q2, q3, hF _ _ _ _ q4, q5⟩, h3, h4⟩
def startG (N : List Str) (args : List D) : Gam := args.map some ++ List.replicate (N.length - args.length) none
theorem start_rep {B : Bs} {W : Wd} {N : List Str} {args : List D} {vs : List V} (r : Reps B W args vs) : RepE B W (startG N args) (L2.start N vs) := by
  have hl := r.length
  refine ⟨by simp [startG, L2.start, hl], fun i d h => ?_⟩
  unfold startG at h
  by_cases hi : i < args.length
  · rw [List.getElem?_append_left (by simpa using hi), List.getElem?_map] at h
    cases e : args[i]? with
    | none => rw [e] at h; cases h
    | some x =>
      rw [e] at h
      cases h
      obtain ⟨v, h1, h2⟩ := r.get e
      refine ⟨v, ?_, h2⟩
      unfold L2.start
      rw [List.getElem?_append_left (by rw [List.length_map, hl]; exact hi), List.getElem?_map, h1]
      rfl
  · rw [List.getElem?_append_right (by simpa using hi)] at h
    by_cases hj : i - (args.map some).length < N.length - args.length
    · rw [List.getElem?_replicate, if_pos hj] at h; cases h
    · rw [List.getElem?_replicate, if_neg hj] at h; cases h
/-- how a body ends: with this datum and store, or with more cells that no one knows -/
def Post (n : Nat) (d : D) (S' : Store) (d2 : D) (S2 : Store) : Prop := d2 = d ∧ (S2 = S' ∨ (∃ junk, S2 = S' ++ junk ∧ S'.length = n ∧ d.noc = true ∧ nocS S'))
def bodyE (n : Nat) (d : D) (S' : Store) : DE := { nx := fun _ S2 => Post n d S' .non S2, rt := fun d2 S2 => Post n d S' d2 S2 }
theorem post_end {B : Bs} {W W2 : Wd} {S S' S2 : Store} {H H2 : Hp} {d d2 : D} {v : V} (o : Ok B W S H) (t : Tr W H W2 H2) (o2 : Ok B W2 S2 H2) (r : Rep B W2 d2 v) (h : Post S.length d S' d2 S2) : ∃ W', Tr W H W' H2 ∧ Ok B W' S' H2 ∧ Rep B W' d v := by
  obtain ⟨e, h⟩ := h
  subst e
  rcases h with h | ⟨junk, h, hl, hn, hS⟩
  · subst h
    exact ⟨W2, t, o2, r⟩
  · subst h
    obtain ⟨more, em⟩ := t.le.m
    have hlen := o.len
    refine ⟨⟨W2.G, W.mu⟩, ⟨⟨t.le.g, [], by simp⟩, fun a u h1 h2 h3 => ?_⟩, ⟨o2.sub, by rw [hl]; exact hlen, fun i c e => ?_, fun i j a c c' e1 e2 m1 m2 => ?_, fun a m => o2.dom a (by rw [em]; exact List.mem_append_left _ m)⟩, Rep.cut _ _ hn r⟩
    · obtain ⟨z1, z2, z3⟩ := t.fo a u h1 h2 h3
      exact ⟨z1, z2, h3⟩
    · have hi : i < S'.length := (List.getElem?_eq_some_iff.mp e).1
      obtain ⟨a, vs, k1, k2, k3, k4⟩ := o2.cell i c (by rw [List.getElem?_append_left hi]; exact e)
      refine ⟨a, vs, ?_, k2, k3, Reps.cut _ _ (hS i c e) k4⟩
      rw [em, List.getElem?_append_left (by rw [← hlen]; omega)] at k1
      exact k1
    · have hi : i < S'.length := (List.getElem?_eq_some_iff.mp e1).1
      have hj : j < S'.length := (List.getElem?_eq_some_iff.mp e2).1
      exact o2.inj i j a c c' (by rw [List.getElem?_append_left hi]; exact e1) (by rw [List.getElem?_append_left hj]; exact e2)
        (by rw [em, List.getElem?_append_left (by rw [← hlen]; omega)]; exact m1) (by rw [em, List.getElem?_append_left (by rw [← hlen]; omega)]; exact m2)
/-- THE RULE for a def -/
theorem def_ok {B : Bs} {nm : Str} {st : Stmt} {N ps : List Str} {k : Nat} {F : List D → Store → D → Store → Prop} {f : Addr} {fd : FuncData} (Fn : Fun B.K nm nm st f fd) (Sc : FnScope N ps (defScope st)) (hm : B.mg nm = some (.ref f))
    (hbind : ∀ (kV doc pm : Value) (an : Option Addr) (cdv ct : Value) (us : List Value), us.length = ps.length → bindArgs (PySem.W.fnOf nm nm (defArgs st) (defBody st) (defScope st) .none kV doc pm an cdv ct) ⟨us, []⟩ = pure (ps.zip us))
    (hb : ∀ args S d S', args.length = ps.length → F args S d S' → EvSs ⟨B, N, defScope st, k, fun _ => true⟩ (defBody st) (startG N args) S (bodyE S.length d S')) : DefP B nm st ps (k + 1) F := by
  refine ⟨f, fd, Fn, Fn.ok Sc (fun vs H Q E h => ?_) (fun cdv A outer s H vs Q E hr h => ⟨_, pss_wp, ?_⟩), hm, Fn.binds hbind⟩
  · obtain ⟨W, args, S, d, S', h1, h2, _⟩ := h
    rw [h2.length, h1]
  · obtain ⟨W, args, S, d, S', h1, h2, h3, h4, h5⟩ := h
    refine hb args S d S' h1 h4 _ ?_ W _ H _ (start_rep h2) h3 ?_
    · exact ⟨rfl, rfl, rfl, rfl, rfl, rfl, rfl, rfl, hr, Sc.nd, fun _ _ => rfl, rfl⟩
    · refine ⟨fun W2 Γ2 S2 σ2 H2 t e2 o2 q => ?_, fun W2 d2 S2 v H2 t r2 o2 q => ?_, fun _ _ _ _ _ _ _ _ q => q.elim, fun _ _ _ _ _ _ _ _ q => q.elim⟩
      · obtain ⟨W', z1, z2, z3⟩ := post_end (v := .non) h3 t o2 (by simp only [Rep]) q
        exact h5 W' _ H2 z1 z2 z3
      · obtain ⟨W', z1, z2, z3⟩ := post_end h3 t o2 r2 q
        exact h5 W' _ H2 z1 z2 z3
section
variable {Y : Ctx} {Γ : Gam} {S S1 S2 S3 : Store} {a b c e : Expr} {es : List Expr} {x y z d : D} {ds : List D} {pos p p2 : Pos} {nm : Str} {st : Stmt} {ps : List Str} {k : Nat} {F : List D → Store → D → Store → Prop}
/-- f(e, ..) -/
theorem e_call (P : DefP Y.B nm st ps k F) (hk : k ≤ Y.k) (ha : EvA Y (e :: es) Γ S ds S1) (hF : F ds S1 d S2) (hg : glB Y.sc nm = true := by rfl) (hl : ds.length = ps.length := by rfl) (hp : (e :: es).all plainB = true := by rfl) :
    EvE Y (.Call (.Name nm p) (e :: es) [] pos) Γ S d S2 := by
  intro X Ft W σ H hE hO Q hQ
  obtain ⟨f, fd, h1, h2, h3, h4⟩ := P.ex
  obtain ⟨g1, g2, g3⟩ := gl_of Ft hg
  rw [List.all_cons, Bool.and_eq_true] at hp
  refine wpE_of (pe_call (E := E0) (k := k) (f := f) (fd := fd) (ps := ps) (sp := spD Y.B ps.length F) (CX := CX0) (by rw [Ft.prog, Ft.w, Ft.K, Ft.mg, Ft.base]; exact h2) (Ft.room.mono hk) g1 (by rw [Ft.mg]; exact h3) (by rw [Ft.K]; exact h1.kp) (by rw [Ft.K]; exact h4) .nil pass0 pa_wp g2 (star_plain hp.1) (star_all hp.2)) ?_
  refine ha X Ft W σ H hE hO _ fun W1 vs H1 l1 o1 r1 => ?_
  exact ⟨W1, ds, S1, d, S2, hl, by rw [List.append_nil]; exact r1, o1, hF, fun W2 v H2 l2 o2 r2 => hQ W2 v H2 (l1.trans l2) o2 r2⟩
/-- the keywords' values -/
def wpK (X : Cx) (kws : List Keyword) (σ : St) (H : Hp) (Q : List V → Hp → Prop) : Prop := ∀ pos pins s, Inv X pins σ H s → wpAny (model X.prog X.w) X.A (evalAll ((backToKw pos (keywordEach kws X.env)).map (·.2))) (AP X pins σ Q) X.xe s
theorem pk_wp {X : Cx} {kws : List Keyword} : PK X kws (wpK X kws) := ⟨fun pos pins s _ _ _ I h => h pos pins s I⟩
theorem wpK_of {X : Cx} {kws : List Keyword} {te : TA} {σ : St} {H : Hp} {Q : List V → Hp → Prop} (h : PK X kws te) (q : te σ H Q) : wpK X kws σ H Q := fun pos pins s I => h.run pos pins s σ H Q I q
def EvK (Y : Ctx) (kws : List Keyword) (Γ : Gam) (S : Store) (ds : List D) (S' : Store) : Prop :=
  ∀ X, Fit X Y → ∀ W σ H, RepE Y.B W Γ σ → Ok Y.B W S H → ∀ Q : List V → Hp → Prop, (∀ W' vs H', Tr W H W' H' → Ok Y.B W' S' H' → Reps Y.B W' ds vs → Q vs H') → wpK X kws σ H Q
theorem k_nil : EvK Y [] Γ S [] S := fun X F W σ H hE hO Q hQ => wpK_of pk_nil (hQ W [] H (.refl W) hO .nil)
theorem k_cons {n : Option Str} {kp : Pos} {kws : List Keyword} (h : EvE Y e Γ S d S1) (hr : EvK Y kws Γ S1 ds S2) : EvK Y (⟨n, e, kp⟩ :: kws) Γ S (d :: ds) S2 := by
  intro X F W σ H hE hO Q hQ
  refine wpK_of (pk_cons pe_wp pk_wp) ?_
  refine h X F W σ H hE hO _ fun W1 v1 H1 l1 o1 r1 => ?_
  exact hr X F W1 σ H1 (hE.mono l1.le) o1 _ fun W2 vs H2 l2 o2 r2 => hQ W2 (v1 :: vs) H2 (l1.trans l2) o2 (.cons (Rep.mono l2.le _ _ r1) r2)
/-- f(k = v, ..) -/
theorem e_callK {ks : List Str} {kws : List Keyword} {fs : List D} (gg : {α : Type} → List α → List α) (P : DefP Y.B nm st ps k F) (hk : k ≤ Y.k) (ha : EvK Y kws Γ S ds S1) (hgg : ∀ W vs, Reps Y.B W ds vs → Reps Y.B W fs (gg vs)) (hval : ∀ (vs : List V) (us : List Value), Vals vs us → Vals (gg vs) (gg us))
    (hbind : ∀ (kV doc pm : Value) (an : Option Addr) (cdv ct : Value) (ws : List Value), ws.length = ks.length → bindArgs (PySem.W.fnOf nm nm (defArgs st) (defBody st) (defScope st) .none kV doc pm an cdv ct) ⟨[], ks.zip ws⟩ = pure (ps.zip (gg ws)))
    (hF : F fs S1 d S2) (hg : glB Y.sc nm = true := by rfl) (hl : fs.length = ps.length := by rfl) (hlk : ds.length = ks.length := by rfl)
    (hall : ∀ env, (backToKw pos (keywordEach kws env)).all (·.1.isSome) = true := by intros; rfl) (hks : ∀ env, (backToKw pos (keywordEach kws env)).filterMap (·.1) = ks := by intros; rfl)
    (hpl : ∀ env, ((backTo pos (starEach [] env)).any (·.1) || (backToKw pos (keywordEach kws env)).any (·.1.isNone)) = false := by intros; rfl) : EvE Y (.Call (.Name nm p) [] kws pos) Γ S d S2 := by
  intro X Ft W σ H hE hO Q hQ
  obtain ⟨f, fd, h1, h2, h3, h4⟩ := P.ex
  obtain ⟨g1, g2, g3⟩ := gl_of Ft hg
  obtain ⟨oc, od, kV, doc, pm, an, cdv, ct, osl, hfd, hlk2, hcd⟩ := h1.ex
  have kb : KBn X.K fd ps 0 ks (fun _ ws => gg ws) (fun _ zs => gg zs) := by
    refine ⟨fun s us ws _ l1 l2 => ?_, fun _ r => hval _ _ r⟩
    cases us with
    | nil =>
      rw [hfd]
      exact .of_eq (hbind kV doc pm an cdv ct ws l2)
    | cons _ _ => cases l1
  refine wpE_of (pe_callN0 (E := E0) (k := k) (f := f) (fd := fd) (ps := ps) (ks := ks) (sp := spD Y.B ps.length F) (CX := CX0) (by rw [Ft.prog, Ft.w, Ft.K, Ft.mg, Ft.base]; exact h2) (Ft.room.mono hk) g1 (by rw [Ft.mg]; exact h3) (by rw [Ft.K]; exact h1.kp) kb pass0 pk_wp (hall X.env) (hks X.env) g2 (hpl X.env)) ?_
  show wpK X kws σ H _
  refine ha X Ft W σ H hE hO _ fun W1 vs H1 l1 o1 r1 => ?_
  exact ⟨rfl, by rw [r1.length]; exact hlk, W1, fs, S1, d, S2, hl, hgg W1 vs r1, o1, hF, fun W2 v H2 l2 o2 r2 => hQ W2 v H2 (l1.trans l2) o2 r2⟩
theorem Vals.one_id : ∀ (vs : List V) (us : List Value), Vals vs us → Vals (id vs) (id us) := fun _ _ h => h
/-- the two the other way round -/
def swap2 {α : Type} : List α → List α
  | [a, b] => [b, a]
  | l => l
theorem Vals.swap : ∀ (vs : List V) (us : List Value), Vals vs us → Vals (swap2 vs) (swap2 us)
  | _, _, .nil => .nil
  | _, _, .cons r .nil => .cons r .nil
  | _, _, .cons r (.cons q .nil) => .cons q (.cons r .nil)
  | _, _, .cons r (.cons q (.cons t u)) => .cons r (.cons q (.cons t u))
/-- f(k = v, ..), the keywords in the parameters' order -/
theorem e_kw {ks : List Str} {kws : List Keyword} (P : DefP Y.B nm st ps k F) (hk : k ≤ Y.k) (ha : EvK Y kws Γ S ds S1)
    (hbind : ∀ (kV doc pm : Value) (an : Option Addr) (cdv ct : Value) (ws : List Value), ws.length = ks.length → bindArgs (PySem.W.fnOf nm nm (defArgs st) (defBody st) (defScope st) .none kV doc pm an cdv ct) ⟨[], ks.zip ws⟩ = pure (ps.zip ws))
    (hF : F ds S1 d S2) (hg : glB Y.sc nm = true := by rfl) (hl : ds.length = ps.length := by rfl) (hlk : ds.length = ks.length := by rfl)
    (hall : ∀ env, (backToKw pos (keywordEach kws env)).all (·.1.isSome) = true := by intros; rfl) (hks : ∀ env, (backToKw pos (keywordEach kws env)).filterMap (·.1) = ks := by intros; rfl)
    (hpl : ∀ env, ((backTo pos (starEach [] env)).any (·.1) || (backToKw pos (keywordEach kws env)).any (·.1.isNone)) = false := by intros; rfl) : EvE Y (.Call (.Name nm p) [] kws pos) Γ S d S2 :=
  e_callK (ks := ks) (fun l => l) P hk ha (fun _ _ r => r) (fun _ _ r => r) hbind hF hg hl hlk hall hks hpl
theorem e_kwS {ks : List Str} {kws : List Keyword} (P : DefP Y.B nm st ps k F) (hk : k ≤ Y.k) (ha : EvK Y kws Γ S [x, y] S1)
    (hbind : ∀ (kV doc pm : Value) (an : Option Addr) (cdv ct : Value) (ws : List Value), ws.length = ks.length → bindArgs (PySem.W.fnOf nm nm (defArgs st) (defBody st) (defScope st) .none kV doc pm an cdv ct) ⟨[], ks.zip ws⟩ = pure (ps.zip (swap2 ws)))
    (hF : F [y, x] S1 d S2) (hg : glB Y.sc nm = true := by rfl) (hl : 2 = ps.length := by rfl) (hlk : 2 = ks.length := by rfl)
    (hall : ∀ env, (backToKw pos (keywordEach kws env)).all (·.1.isSome) = true := by intros; rfl) (hks : ∀ env, (backToKw pos (keywordEach kws env)).filterMap (·.1) = ks := by intros; rfl)
    (hpl : ∀ env, ((backTo pos (starEach [] env)).any (·.1) || (backToKw pos (keywordEach kws env)).any (·.1.isNone)) = false := by intros; rfl) : EvE Y (.Call (.Name nm p) [] kws pos) Γ S d S2 :=
  e_callK (ks := ks) (fun l => swap2 l) P hk ha (fun W vs r => by
    obtain ⟨u, v, e1, r1, r2⟩ := reps2 r
    subst e1
    exact .cons r2 (.cons r1 .nil)) Vals.swap hbind hF hg hl hlk hall hks hpl
theorem br_fdiv {i j : Int} (h : CDivG i j) : BinR Y .FloorDiv S (.int i) (.int j) (.int (i.fdiv j)) := bin_int (g := fun i j => i.fdiv j) (fun X F => op_fdivG) h
end
end DL
/-! text: DLh -/
/-! DL, part h: walks of lists or tuples, pure comprehensions, list.index. -/
namespace DL
open PySem L2
def seqP : D → Option (List D)
  | .lst ds => some ds
  | .fro ds => some ds
  | .tup ds => some ds
  | _ => none
theorem seqP_A {x : D} {ds : List D} {S : Store} (h : seqP x = some ds) : seqA S x = some ds := by
  cases x <;> first | exact h | cases h
section
variable {Y : Ctx} {Γ : Gam} {S S1 S2 S3 : Store} {a b c e o ix : Expr} {es : List Expr} {x y z d : D} {ds res : List D} {pos p p2 : Pos} {E : DE}
theorem i_seq {tg : Expr} (h : EvE Y e Γ S x S1) (hs : seqP x = some ds) : EvI Y tg e Γ S ds S1 := by
  cases x with
  | lst es => exact i_list h (by exact hs)
  | fro es => exact i_list h (by exact hs)
  | tup es => cases hs; exact i_tup h
  | _ => cases hs
/-- [elt for x in ..], nothing changed -/
theorem e_lcP {nm : Str} {p1 : Pos} {iter elt : Expr} {scope : Scope} {j : Nat} (hi : EvI Y (.Name nm p1) iter Γ S ds S1) (hj : slot Y.N nm = some j) (hl : locB (relS scope Y.sc) nm = true) (hf : fnlB (blkY Y scope) nm = true) (hb : blkC Y.N Y.sc scope [(nm, j)] = true)
    (hlen : res.length = ds.length) (hs : ∀ (i : Nat) d y, ds[i]? = some d → res[i]? = some y → EvE (blkY Y scope) elt ((Γ.set j none).set j (some d)) S1 y S1) (hz : ds.length ≤ 100000) (hst : noSetB iter = true := by rfl) :
    EvE Y (.ListComp elt [⟨.Name nm p1, iter, [], 0⟩] scope pos) Γ S (.lst res) S1 := by
  refine e_lcG [(nm, j)] hi (g_name hj hl hf) (fun _ _ => trivial) (fun k hk => by simpa using hk) hb (fun i acc S' => acc = res.take i ∧ S' = S1) ⟨rfl, rfl⟩ (fun i d acc S' hd ⟨h1, h2⟩ => ?_) (fun acc S' ⟨h1, h2⟩ => ⟨by rw [h1, ← hlen, List.take_length], h2⟩) hz hst
  subst h2
  have hil : i < res.length := by rw [hlen]; exact (List.getElem?_eq_some_iff.mp hd).1
  have hy : res[i]? = some res[i] := List.getElem?_eq_getElem hil
  refine ⟨true, S', .no, fun _ => ⟨res[i], S', hs i d _ hd hy, ?_, rfl⟩, fun z => nomatch z⟩
  rw [h1, List.take_succ, hy]
  rfl
/-- the same with a test -/
theorem e_lcF {nm : Str} {p1 : Pos} {iter elt tst : Expr} {scope : Scope} {j : Nat} {f : D → Bool} {g : D → D} (hi : EvI Y (.Name nm p1) iter Γ S ds S1) (hj : slot Y.N nm = some j) (hl : locB (relS scope Y.sc) nm = true) (hf : fnlB (blkY Y scope) nm = true) (hb : blkC Y.N Y.sc scope [(nm, j)] = true)
    (ht : ∀ d ∈ ds, EvT (blkY Y scope) tst ((Γ.set j none).set j (some d)) S1 (f d) S1) (hs : ∀ d ∈ ds, f d = true → EvE (blkY Y scope) elt ((Γ.set j none).set j (some d)) S1 (g d) S1) (hz : ds.length ≤ 100000) (hst : noSetB iter = true := by rfl) :
    EvE Y (.ListComp elt [⟨.Name nm p1, iter, [tst], 0⟩] scope pos) Γ S (.lst ((ds.filter f).map g)) S1 := by
  refine e_lcG [(nm, j)] hi (g_name hj hl hf) (fun _ _ => trivial) (fun k hk => by simpa using hk) hb (fun i acc S' => acc = ((ds.take i).filter f).map g ∧ S' = S1) ⟨rfl, rfl⟩ (fun i d acc S' hd ⟨h1, h2⟩ => ?_) (fun acc S' ⟨h1, h2⟩ => ⟨by rw [h1, List.take_length], h2⟩) hz hst
  subst h2
  have hm := List.mem_of_getElem? hd
  refine ⟨f d, S', .one (ht d hm), fun hk => ⟨g d, S', hs d hm hk, ?_, rfl⟩, fun hk => ⟨?_, rfl⟩⟩
  · rw [h1, List.take_succ, hd, Option.toList_some, List.filter_append, List.map_append, List.filter_cons, if_pos hk]
    rfl
  · rw [h1, List.take_succ, hd, Option.toList_some, List.filter_append, List.filter_cons, if_neg (by rw [hk]; exact Bool.false_ne_true)]
    simp
/-- o.index(m), ints -/
theorem e_index {ns : List Int} {m : Int} {j : Nat} {apos : Pos} (ho : EvE Y o Γ S (.lst (ns.map D.int)) S1) (hm : EvE Y ix Γ S1 (.int m) S2) (hj : ns[j]? = some m) (hno : ∀ k : Nat, k < j → ∀ z, ns[k]? = some z → z ≠ m)
    (hp : plainB ix = true := by rfl) (hb : ∀ env, attributeBase o "index" env (eval o env) = eval o env := by intros; rfl)
    (hfew : ∀ env, ((backTo pos (starEach [ix] env)).all (fun x => !x.1) && (backToKw pos (keywordEach [] env)).all (fun x => x.1.isSome)
      && decide (([ix] : List Expr).length + ([] : List Keyword).length + (if ([] : List Keyword).isEmpty then 0 else 1) < 30)) = true := by intros; rfl)
    (hline : (apos.endLine == pos.line) = true := by rfl) : EvE Y (.Call (.Attribute o "index" apos) [ix] [] pos) Γ S (.int (j : Int)) S2 := by
  intro X F W σ H hE hO Q hQ
  refine wpE_of (pe_bm PySem.F.plainAttrs_list PySem.F.slot_list_index PySem.F.type_list_index mt_index pe_wp pa_wp (hb X.env) (hfew X.env) hline (star_plain hp) (star_all rfl)) ?_
  refine ho X F W σ H hE hO _ fun W1 v1 H1 l1 o1 r1 => ?_
  obtain ⟨q, vs, ev, hq, rs⟩ := seqL_at o1 (show seqL S1 (.lst (ns.map D.int)) = some _ from rfl) r1
  subst ev
  refine ⟨Or.inl ⟨rfl, vs, F.K ▸ hq⟩, ?_⟩
  refine a_cons hm a_nil hp X F W1 σ H1 (hE.mono l1.le) o1 _ fun W2 us H2 l2 o2 r2 => ?_
  obtain ⟨u, eu, r2⟩ := reps1 r2
  simp only [Rep] at r2
  subst r2
  obtain ⟨q', vs', ev, hq', rs'⟩ := seqL_at o2 (show seqL S2 (.lst (ns.map D.int)) = some _ from rfl) (Rep.mono l2.le _ _ r1)
  cases ev
  rw [rs'.ints] at hq'
  refine ⟨q, ns.map V.int, .int m, j, .int m, rfl, eu, F.K ▸ hq', rfl, by simp [List.all_eq_true, flatV], by rw [List.getElem?_map, hj]; rfl, by simp [eqV], fun k z hk hz => ?_, hQ W2 _ H2 (l1.trans l2) o2 (by simp only [Rep])⟩
  rw [List.getElem?_map] at hz
  cases e1 : ns[k]? with
  | none => rw [e1] at hz; cases hz
  | some w =>
    rw [e1] at hz
    cases hz
    have := hno k hk w e1
    simp [eqV, this]
end
end DL
/-! text: DLi -/
/-! DL, part i: dict(zip(keys, rows)) with tuples for keys, sorted of it, its items; three names at once. -/
namespace L2
open PySem PySem.Spec PyProof.Rows
def dzPut (es : List (IK × Addr × V)) (k : IK) (c : Addr) (v : V) : List (IK × Addr × V) := if (es.any fun e => decide (e.1 = k)) = true then es.map (fun e => if e.1 = k then (e.1, e.2.1, v) else e) else es ++ [(k, c, v)]
def dzAll (es : List (IK × Addr × V)) (l : List (IK × Addr × V)) : List (IK × Addr × V) := l.foldl (fun acc p => dzPut acc p.1 p.2.1 p.2.2) es
theorem ikL_inj {a b : IK} (h : (ikL a).map (Sum.inl : Int → Key) = (ikL b).map Sum.inl) : a = b := by
  have : ikL a = ikL b := List.map_inj_right (fun x y h => Sum.inl.inj h) |>.mp h
  unfold ikL at this
  obtain ⟨a1, a2⟩ := a
  obtain ⟨b1, b2⟩ := b
  simp only [List.cons.injEq] at this
  rw [this.1, this.2]
theorem ent_has {k : IK} : ∀ {es : List (IK × Addr × V)} {xs : List (List Key × Addr × Value)}, Paired EntR es xs → (atKey xs ((ikL k).map Sum.inl)).isSome = es.any fun e => decide (e.1 = k)
  | _, _, .nil => rfl
  | e :: es, x :: xs, .cons r t => by
    unfold atKey
    rw [List.find?_cons, List.any_cons]
    by_cases h : e.1 = k
    · have h2 : x.1 = (ikL k).map Sum.inl := by rw [r.1, h]
      simp [h, h2]
    · have h2 : ¬ x.1 = (ikL k).map Sum.inl := fun z => h (ikL_inj (r.1.symm.trans z))
      simp only [h2, decide_false, h, Bool.false_or]
      exact ent_has t
theorem ent_repl {k : IK} {v : V} {u : Value} (r : RelV v u) : ∀ {es : List (IK × Addr × V)} {xs : List (List Key × Addr × Value)}, Paired EntR es xs → Paired EntR (es.map (fun e => if e.1 = k then (e.1, e.2.1, v) else e)) (xs.map (putAt ((ikL k).map Sum.inl) u))
  | _, _, .nil => .nil
  | e :: es, x :: xs, .cons q t => by
    rw [List.map_cons, List.map_cons]
    refine .cons ?_ (ent_repl r t)
    unfold putAt
    by_cases h : e.1 = k
    · have h2 : x.1 = (ikL k).map Sum.inl := by rw [q.1, h]
      rw [if_pos h, if_pos h2]
      exact ⟨q.1, q.2.1, r⟩
    · have h2 : ¬ x.1 = (ikL k).map Sum.inl := fun z => h (ikL_inj (q.1.symm.trans z))
      rw [if_neg h, if_neg h2]
      exact q
theorem ent_put {k : IK} {c : Addr} {v : V} {u : Value} (r : RelV v u) {es : List (IK × Addr × V)} {xs : List (List Key × Addr × Value)} (h : Paired EntR es xs) : Paired EntR (dzPut es k c v) (storedH xs ((ikL k).map Sum.inl) c u) := by
  unfold dzPut storedH
  rw [ent_has h]
  by_cases q : (es.any fun e => decide (e.1 = k)) = true
  · rw [if_pos q, if_pos q]; exact ent_repl r h
  · rw [if_neg q, if_neg q]; exact Paired.snoc h ⟨rfl, rfl, r⟩
theorem ent_all : ∀ {ks : List IK} {as : List Addr} {ys : List V} {its : List Value} {es : List (IK × Addr × V)} {xs : List (List Key × Addr × Value)}, Paired EntR es xs → Vals ys its → ks.length = as.length → as.length = ys.length →
    Paired EntR (dzAll es (ks.zip (as.zip ys))) (storedAllH xs ((ks.map fun k => (ikL k).map Sum.inl).zip (as.zip its)))
  | [], _, _, _, _, _, h, _, _, _ => h
  | _ :: _, [], _, _, _, _, h, _, l, _ => by simp at l
  | _ :: _, _ :: _, _, _, _, _, h, .nil, _, l => by simp at l
  | k :: ks, a :: as, y :: ys, u :: its, es, xs, h, .cons r q, l1, l2 => by
    rw [List.zip_cons_cons, List.map_cons, List.zip_cons_cons, List.zip_cons_cons, List.zip_cons_cons]
    show Paired EntR (dzAll (dzPut es k a y) (ks.zip (as.zip ys))) (storedAllH (storedH xs ((ikL k).map Sum.inl) a u) ((ks.map fun k => (ikL k).map Sum.inl).zip (as.zip its)))
    exact ent_all (ent_put r h) q (by simpa using l1) (by simpa using l2)
theorem IsTup.key {h : Heap} {P : Program} {w : World} {c : Addr} {its : List Value} {ns : List Int} (p : IsTup h c its.toArray) (r : Vals (ns.map V.int) its) : (tupleKind (mixKind P w)).is h (ns.map Sum.inl) c := by
  obtain ⟨o, h1, h2, n, h3⟩ := p
  exact ⟨o, its.toArray, n, h1, h2, h3, by simpa using items_are (ks := ns.map Sum.inl) (by rw [List.map_map]; exact r)⟩
theorem paired_at {α β : Type} {R : α → β → Prop} : ∀ {l : List α} {m : List β} {i : Nat} {a : α} {b : β}, Paired R l m → l[i]? = some a → m[i]? = some b → R a b
  | _, _, _, _, _, .nil, h, _ => by simp at h
  | _, _, 0, _, _, .cons r _, h, g => by
    simp only [List.getElem?_cons_zero, Option.some.injEq] at h g
    subst h; subst g
    exact r
  | _, _, i + 1, _, _, .cons _ t, h, g => paired_at t (by simpa using h) (by simpa using g)
section
variable {X : Cx}
def tDictZip (X : Cx) (ta : TA) : TE := fun σ H Q => ta σ H fun vs H1 => ∃ (a b : Addr) (as : List Addr) (ks : List IK) (ys : List V), vs = [.ref a, .ref b] ∧ SqL X.K H1 a (as.map V.ref) ∧ SqL X.K H1 b ys ∧ as.length = ys.length ∧
  Paired (fun k c => SqT X.K H1 c ((ikL k).map V.int)) ks as ∧ ys.length ≤ 100000 ∧ ∀ q, H1 q = none → Q (.ref q) (upd H1 q (dzO X.prog X.w q (dzAll [] (ks.zip (as.zip ys)))))
theorem pe_dictzip {e e2 : Expr} {p p2 pos pos2 : Pos} {ta : TA} (hc : X.calm = true) (hu : X.A.units + 64 < cLine) (hg : Gl X "dict") (hm : X.mg "dict" = none) (hg2 : Gl X "zip") (hm2 : X.mg "zip" = none) (ha : PA X [e, e2] ta)
    (hs : starEach [e, e2] X.env = (false, eval e X.env) :: starEach [e2] X.env) (hpl : (backTo pos2 (starEach [e2] X.env)).any (·.1) = false) : PE X (.Call (.Name "dict" p) [.Call (.Name "zip" p2) [e, e2] [] pos2] [] pos) (tDictZip X ta) := by
  refine ⟨fun pins s σ H Q I h => ?_⟩
  refine Call_ (ld_blt I hg hm PyProof.Rows.boot_dict (PyProof.Rows.callWith_type1 (args_cons (Call_ (ld_blt I hg2 hm2 PyProof.Rows.boot_zip (PyProof.Rows.callWith_type1 (thn (ha.run pos2 pins s σ H _ I h) fun us s1 ⟨vs, H1, I1, r1, q1⟩ => ?_) hs hpl))) rfl) rfl))
  obtain ⟨a, b, as, ks, ys, ex, hqx, hqy, hl, hk, hz, q⟩ := q1
  subst ex
  cases r1 with
  | cons r rr =>
    cases rr with
    | cons r' rr =>
      cases rr
      cases r
      cases r'
      obtain ⟨its, rv, p1, _⟩ := I1.list hqx
      obtain ⟨its2, rv2, p2, _⟩ := I1.list hqy
      have la : a < s1.heap.objs.size := p1.lt
      have lb : b < s1.heap.objs.size := p2.lt
      have l1 := rv.length
      have l2 := rv2.length
      rw [List.length_map] at l1
      have l3 := Paired.length hk
      refine call_zip_2 p1.isList p2.isList fun h' hz' hTI hTO h1 h2 hsz hkp => args_nil ?_
      have hi5 : ∀ {c : Nat}, c < s1.heap.objs.size → c ∈ [s1.heap.objs.size + 4, s1.heap.objs.size + 3, s1.heap.objs.size, s1.heap.objs.size + 1] → False := fun h1 h2 => by
        simp only [List.mem_cons, List.not_mem_nil, or_false] at h2
        omega
      have hmin : min its.toArray.size its2.toArray.size = its2.length := by simp; omega
      refine call_dict_pairsH (s := { s1 with heap := h' }) (knd := tupleKind (mixKind X.prog X.w)) (ps := (ks.map fun k => (ikL k).map Sum.inl).zip (as.zip its2)) (PairArg.zip _ _ _ _ _ a b (PySem.W.ktu_apart s1.heap.objs.size a b la lb) its.toArray its2.toArray) (I1.ok.hd hc) (by show X.A.units + 1 + 1 < cLine; omega)
        ⟨hz', hTI, ⟨_, _, hTO⟩, h1, h2, p1.isList.at fun o e => hkp _ o e, p2.isList.at fun o e => hkp _ o e⟩ ?_ ?_ ?_ ?_
      · refine ⟨by rw [hmin]; simp; omega, fun i key v ⟨e1, e2⟩ => ?_⟩
        rw [List.getElem?_toArray] at e1 e2
        have hi : i < its2.length := (List.getElem?_eq_some_iff.mp e2).1
        have hia : i < as.length := by omega
        have hik : i < ks.length := by omega
        obtain ⟨u, eu, ru⟩ := rv.get (show (as.map V.ref)[i]? = some (.ref as[i]) by rw [List.getElem?_map, List.getElem?_eq_getElem hia]; rfl)
        rw [e1] at eu
        cases eu
        cases ru
        refine ⟨(ikL ks[i]).map Sum.inl, as[i], ?_, rfl⟩
        rw [List.getElem?_zip_eq_some]
        refine ⟨by rw [List.getElem?_map, List.getElem?_eq_getElem hik]; rfl, ?_⟩
        rw [List.getElem?_zip_eq_some]
        exact ⟨List.getElem?_eq_getElem hia, e2⟩
      · intro h2' hst x hx
        have hc1 : ∃ k : IK, x.1 = (ikL k).map Sum.inl ∧ SqT X.K H1 x.2.1 ((ikL k).map V.int) := by
          obtain ⟨i, hi⟩ := List.mem_iff_getElem?.mp hx
          rw [List.getElem?_zip_eq_some] at hi
          obtain ⟨i1, i2⟩ := hi
          rw [show x.2 = (x.2.1, x.2.2) from rfl, List.getElem?_zip_eq_some] at i2
          rw [List.getElem?_map] at i1
          cases e1 : ks[i]? with
          | none => rw [e1] at i1; cases i1
          | some k =>
            rw [e1] at i1
            exact ⟨k, (Option.some.inj i1).symm, paired_at (R := fun k c => SqT X.K H1 c ((ikL k).map V.int)) hk e1 i2.1⟩
        obtain ⟨k, ek, hc1⟩ := hc1
        obtain ⟨its3, rv3, p3, _⟩ := I1.tuple hc1
        rw [ek]
        obtain ⟨o, its', n, g1, g2, g3, g4⟩ := IsTup.key (P := X.prog) (w := X.w) p3 rv3
        have lt := Heap.lt_size g1
        refine ⟨o, its', n, hst _ o (Nat.ne_of_lt (Nat.lt_of_lt_of_le lt (by rw [hsz]; exact Nat.le_add_right _ 5))) (fun hm' => hi5 lt hm') (hkp _ o g1), g2, g3, g4⟩
      · rw [hmin]
        exact Nat.le_trans (show its2.length ≤ 100000 by omega) (by decide)
      · intro h2' tk hd hst
        obtain ⟨o, es, ep, g1, g2, g3, g4, g5, g6⟩ := hd
        have hsz2 : ({ s1 with heap := h' } : Shared).heap.objs.size = s1.heap.objs.size + 5 := hsz
        have kt := ent_all (ks := ks) (as := as) (ys := ys) (its := its2) (es := []) (xs := []) .nil rv2 l3 hl
        have hle : s1.heap.objs.size ≤ ({ s1 with heap := h' } : Shared).heap.objs.size := by rw [hsz2]; omega
        refine ⟨.ref _, upd H1 _ (dzO X.prog X.w _ (dzAll [] (ks.zip (as.zip ys)))), I1.laid (t' := tk) (fun c u e => hst c u (fun hm' => hi5 (Heap.lt_size e) hm') (hkp c u e)) hle ⟨⟨_, kt, beq_eq_false_iff_ne.mpr (Nat.ne_of_gt (Nat.lt_of_lt_of_le I1.big hle)), o, es, ep, g1, g2, g3, g4, g6⟩, ⟨o, g1⟩, fun h1 h2 ⟨xs, k1, k2, o, es, ep, m1, m2⟩ hk => ⟨xs, k1, k2, o, es, ep, hk o m1, m2⟩⟩, rfl, q _ (I1.hok.fresh hle)⟩
end
end L2
namespace L2
open PySem PySem.Spec PyProof.Rows
def ikD (b : IK) : PyData := .tuple ((ikL b).map .int)
theorem ik_le : PySem.W.dataLe false ikD = fun p q => decide (ikL p ≤ ikL q) := by
  funext p q
  show (!PySem.W.dataLt (.tuple ((ikL q).map .int)) (.tuple ((ikL p).map .int))) = _
  rw [PySem.W.dataLt_tuple]
  show (!PySem.W.rowLt ((ikL q).map .int) ((ikL p).map .int)) = _
  rw [PySem.W.dataLt_ints]
  by_cases h : ikL q < ikL p
  · have h' : ¬ ikL p ≤ ikL q := fun r => List.not_lt.mpr r h
    simp [h, h']
  · have h' : ikL p ≤ ikL q := List.not_lt.mp h
    simp [h, h']
theorem reads_ints {h : Heap} : ∀ {ns : List Int} {us : List Value}, Vals (ns.map V.int) us → ReadsAll h us (ns.map .int) []
  | [], _, .nil => .nil
  | n :: ns, u :: us, .cons r q => by
    obtain ⟨t, rfl⟩ := (show ∃ t, u = Value.int n t from r)
    exact .cons (as := []) (.int n t) (reads_ints q)
theorem refsI_of {G : IK → Addr → Prop} : ∀ {out : List Value} {bs : List IK}, PySem.W.EachIs (fun v b => ∃ c, v = Value.ref c ∧ G b c) out bs → ∃ cs : List Addr, out = cs.map Value.ref ∧ Paired G bs cs
  | _, _, .nil => ⟨[], rfl, .nil⟩
  | _, _, .cons ⟨c, e, g⟩ t => by
    obtain ⟨cs, e2, p⟩ := refsI_of t
    exact ⟨c :: cs, by rw [e, e2]; rfl, .cons g p⟩
theorem each_keys' {G : IK → Addr → Prop} : ∀ {es : List (IK × Addr × V)} {xs : List (List Key × Addr × Value)}, Paired EntR es xs → (∀ e ∈ es, G e.1 e.2.1) → PySem.W.EachIs (fun v b => ∃ c, v = Value.ref c ∧ G b c) (xs.map fun x => Value.ref x.2.1) (es.map (·.1))
  | _, _, .nil, _ => .nil
  | e :: es, x :: xs, .cons r t, h => .cons ⟨x.2.1, rfl, by rw [r.2.1]; exact h e List.mem_cons_self⟩ (each_keys' t fun e' h' => h e' (List.mem_cons_of_mem _ h'))
theorem eachI_imp {R R' : Value → IK → Prop} (f : ∀ v b, R v b → R' v b) : ∀ {vs : List Value} {bs : List IK}, PySem.W.EachIs R vs bs → PySem.W.EachIs R' vs bs
  | _, _, .nil => .nil
  | _, _, .cons a t => .cons (f _ _ a) (eachI_imp f t)
theorem eachI_len {R : Value → IK → Prop} : ∀ {vs : List Value} {bs : List IK}, PySem.W.EachIs R vs bs → vs.length = bs.length
  | _, _, .nil => rfl
  | _, _, .cons a t => by rw [List.length_cons, List.length_cons, eachI_len t]
section
variable {X : Cx}
theorem call_sortedDT (hc : X.calm = true) (hu : X.A.units + 64 < cLine) (G : IK → Addr → Prop) : CallR X (.builtin "sorted") (fun xs H Q => ∃ (a : Addr) (es : List (IK × Addr × V)), xs = [.ref a] ∧ H a = some (dzO X.prog X.w a es) ∧ (∀ e ∈ es, G e.1 e.2.1) ∧ (∀ b c, G b c → SqT X.K H c ((ikL b).map V.int)) ∧ es.length ≤ 100000 ∧
    ∀ (cs : List Addr) (p : Addr), H p = none → Paired G ((es.map (·.1)).mergeSort fun a b => decide (ikL a ≤ ikL b)) cs → Q (.ref p) (upd H p (.lst (cs.map V.ref)))) := by
  intro pins s σ H xs us Q I r q
  obtain ⟨a, es0, ex, hd, hG, hT, hlen, q⟩ := q
  subst ex
  obtain ⟨u, eu, rx⟩ := vals1 r
  subst eu
  cases rx
  obtain ⟨⟨xs', pr, hs, o, es, ep, ho, hx, hdt, he, hn⟩, _⟩ := (show ObjOk X.prog X.w H s.heap a (dzO X.prog X.w a es0) from I.hok a _ hd)
  have l1 : es.size = xs'.length := size_of_entries he
  have l2 : es0.length = xs'.length := Paired.length pr
  have hz : xs'.length ≤ sizeLine := by rw [← l2]; exact Nat.le_trans hlen (by decide)
  refine Calls.call_function_entry PyProof.Rows.kind_sorted PyProof.Rows.plain_sorted PyProof.Rows.entry_sorted (PyProof.Rows.args_sorted1 _) ?_
  unfold Builtin.«sorted»
  refine wpAny_bind (m := checkCount "sorted" 1 1 _) (wpAny_pure ?_)
  refine wpAny_bind (PySem.W.kdu_collect (A := X.A.in1) (kdl_raw hs hx hdt) (I.ok.hd hc) ho (by omega) fun h' tk acc hk it => ?_)
  have ea : acc.toList = xs'.map fun x => Value.ref x.2.1 := by
    have hl : acc.toList.length = xs'.length := by rw [Array.length_toList, it.1]; exact l1
    apply List.ext_getElem?
    intro j
    rw [List.getElem?_map]
    cases hj : acc.toList[j]? with
    | none =>
      have h1 := List.getElem?_eq_none_iff.mp hj
      rw [List.getElem?_eq_none (by omega)]
      all_goals rfl
    | some v =>
      obtain ⟨en, hen, hv⟩ := it.2 j v (by rw [← Array.getElem?_toList]; exact hj)
      have qe := entry_at he j
      rw [hen] at qe
      cases hb : xs'[j]? with
      | none =>
        rw [hb] at qe
        exact nomatch (show some en = none from qe)
      | some b =>
        rw [hb] at qe
        have e2 : en = entryOfKey (tupleKind (mixKind X.prog X.w)) b := Option.some.inj qe
        rw [hv, e2]
        all_goals rfl
  have e0 : PySem.W.EachIs (fun v b => ∃ c, v = Value.ref c ∧ G b c) acc.toList (es0.map (·.1)) := by
    rw [ea]
    exact each_keys' pr hG
  have el := eachI_len e0
  rw [List.length_map] at el
  have hlen' : (es0.map (·.1)).length ≤ sizeLine := by rw [List.length_map]; exact Nat.le_trans hlen (by decide)
  have I1 : Inv X pins σ H { s with heap := h', toks := tk } := I.kept hk
  refine wpAny_bind (wpAny_newList ?_ (by rw [el]; exact Nat.le_trans hlen (by decide)))
  have hoL : (h'.push (seqObj "list" acc.toList.toArray 0)).get? h'.objs.size = some (seqObj "list" acc.toList.toArray 0) := Heap.get?_push_size _ rfl
  show wpAny _ _ _ _ _ { s with heap := h'.push (seqObj "list" acc.toList.toArray 0), toks := tk }
  have er : PySem.W.EachIs (fun v b => ∃ as, Reads (h'.push (seqObj "list" acc.toList.toArray 0)) v (ikD b) as ∧ h'.objs.size ∉ as) acc.toList (es0.map (·.1)) := by
    refine eachI_imp (fun v b ⟨c, ev, g⟩ => ?_) e0
    subst ev
    obtain ⟨its, rv, ⟨ot, hot, hct, nt, hdt'⟩, _⟩ := I1.tuple (hT b c g)
    exact ⟨[], Reads.tuple (Heap.get?_push_of_some _ hot) hct hdt' (reads_ints rv), by simp⟩
  have hk2 : PySem.W.Sortable ((es0.map (·.1)).map ikD) := PySem.W.Sortable.tuples fun b => ⟨.int b.1, b.2.map .int, rfl⟩
  have hal : PySem.W.AllAlike ((es0.map (·.1)).map ikD) := PySem.W.AllAlike.of fun b b' => by
    show PySem.W.alike (.tuple ((ikL b).map .int)) (.tuple ((ikL b').map .int)) = true
    simp only [PySem.W.alike]
    exact PySem.W.alike_ints _ _
  refine wpAny_bind (wpAny_holding (PySem.W.list_sort_data (s := { s with heap := h'.push (seqObj "list" acc.toList.toArray 0), toks := tk }) (enc := ikD) hoL e0 er hal hk2 hlen' (fun b _ => ?_) fun out ol oe => ?_))
  · show X.A.units + 1 + 1 + (ikD b).depth < cLine
    have : (ikD b).depth ≤ 1 := by
      show PyData.depth (.tuple ((ikL b).map .int)) ≤ 1
      rw [PyData.depth, PySem.W.depth_ints]
      omega
    omega
  · rw [ik_le] at oe
    obtain ⟨cs, e1, pc⟩ := refsI_of oe
    obtain ⟨e', he'⟩ := PyProof.Rows.sortedHeap_at (vs := acc.toList) (out := out.toArray) hoL
    have hlen2 : (cs.map V.ref).length ≤ sizeLine := by
      have : cs.length = out.length := by rw [e1, List.length_map]
      rw [List.length_map, this, ol]
      exact hlen'
    refine wpAny_pure ⟨_, rfl, .ref h'.objs.size, upd H h'.objs.size (.lst (cs.map V.ref)), I1.laid (t' := tk) (fun b u e => ?_) (Nat.le_refl _)
      (show ObjOk X.prog X.w _ _ _ (.lst (cs.map V.ref)) from ⟨hlen2, out, e', by rw [e1]; exact vals_refs cs, he'⟩), rfl, q cs _ (I1.hok.fresh (Nat.le_refl _)) pc⟩
    have hb : b < h'.objs.size := Heap.lt_size e
    rw [PyProof.Rows.sortedHeap_old (Nat.ne_of_lt hb) (by rw [size_push']; exact Nat.lt_succ_of_lt hb)]
    exact Heap.get?_push_of_some _ e
/-- d[k] -/
theorem pe_dzget {o i : Expr} {pos : Pos} {td ty : TE} (hu : X.A.units + 64 < cLine) (ho : PE X o td) (hi : PE X i ty) (hs : NoSl i) : PE X (.Subscript o i pos) (fun σ H Q => td σ H fun x H1 => ty σ H1 fun y H2 => ∃ (a c : Addr) (es : List (IK × Addr × V)) (j : Nat) (e : IK × Addr × V),
    x = .ref a ∧ y = .ref c ∧ H2 a = some (dzO X.prog X.w a es) ∧ es[j]? = some e ∧ SqT X.K H2 c ((ikL e.1).map V.int) ∧ (∀ e ∈ es, SqT X.K H2 e.2.1 ((ikL e.1).map V.int)) ∧ Q e.2.2 H2) := by
  refine ⟨fun pins s σ H Q I h => ?_⟩
  refine subD_of PySem.F.slot_dict_getitem.lookup hs (thn (ho.run pins s σ H _ I h) fun u s1 ⟨x, H1, I1, rx, q1⟩ => thn (hi.run pins s1 σ H1 _ I1 q1) fun iv s2 ⟨y, H2, I2, ry, a, c, es, j, e, ex, ey, hd, hj, hT, hTs, q2⟩ => ?_)
  subst ex
  subst ey
  obtain rfl : u = Value.ref a := rx
  obtain rfl : iv = Value.ref c := ry
  obtain ⟨⟨xs, pr, _, ob, ds, ep, g1, g2, g3, g4, g5⟩, _⟩ := (show ObjOk X.prog X.w H2 s2.heap a (dzO X.prog X.w a es) from I2.hok a _ hd)
  have hall : ∀ x ∈ xs, (tupleKind (mixKind X.prog X.w)).is s2.heap x.1 x.2.1 := fun x hx => by
    obtain ⟨i, hi⟩ := List.mem_iff_getElem?.mp hx
    have hil : i < es.length := by rw [Paired.length pr]; exact (List.getElem?_eq_some_iff.mp hi).1
    obtain ⟨r1, r2, _⟩ := paired_at pr (List.getElem?_eq_getElem hil) hi
    rw [r1, r2]
    obtain ⟨its3, rv3, p3, _⟩ := I2.tuple (hTs es[i] (List.getElem_mem hil))
    exact IsTup.key p3 rv3
  have dd : s2.heap.DictOfH (tupleKind (mixKind X.prog X.w)) a xs := ⟨ob, ds, ep, g1, g2, g3, g4, hall, g5⟩
  obtain ⟨its3, rv3, p3, _⟩ := I2.tuple hT
  have hjl : j < xs.length := by rw [← Paired.length pr]; exact (List.getElem?_eq_some_iff.mp hj).1
  obtain ⟨r1, r2, r3⟩ := paired_at pr hj (List.getElem?_eq_getElem hjl)
  refine ⟨dd.typeIs, wpAny_getItem_heap (tupleKind_room_in1 (by omega)) (IsTup.key (ns := ikL e.1) p3 rv3) dd (p := (xs[j].2.1, xs[j].2.2)) (atKey_of_get g5 (i := j) (by rw [List.getElem?_eq_getElem hjl, ← r1])) ?_⟩
  exact ⟨_, H2, I2.tok _, r3, q2⟩
end
end L2
/-! text: DLj -/
/-! DL, part j: dict(zip(..)), sorted, items; two clauses; three names at once. -/
namespace DL
open PySem L2
def ikT (b : IK) : D := .tup ((ikL b).map D.int)
def dzD (acc : List (IK × D)) (k : IK) (v : D) : List (IK × D) := if (acc.any fun e => decide (e.1 = k)) = true then acc.map (fun e => if e.1 = k then (e.1, v) else e) else acc ++ [(k, v)]
def dzipD (ks : List IK) (vs : List D) : List (IK × D) := (ks.zip vs).foldl (fun acc p => dzD acc p.1 p.2) []
theorem keys_of {B : Bs} {W : Wd} : ∀ {ks : List IK} {us : List V}, Reps B W (ks.map ikT) us → ∃ as : List Addr, us = as.map V.ref ∧ Paired (fun k c => SqT B.K W.G c ((ikL k).map V.int)) ks as
  | [], us, h => ⟨[], h.nil_inv, .nil⟩
  | k :: ks, us, h => by
    obtain ⟨v, r, e, a, b⟩ := h.cons_inv
    obtain ⟨as, e2, p⟩ := keys_of b
    have a : Rep B W (.tup ((ikL k).map D.int)) v := a
    simp only [Rep] at a
    obtain ⟨c, vs, e3, q, rs⟩ := a
    rw [rs.ints] at q
    exact ⟨c :: as, by rw [e, e2, e3]; rfl, .cons q p⟩
def ER (B : Bs) (W : Wd) (e : IK × Addr × V) (p : IK × D) : Prop := e.1 = p.1 ∧ SqT B.K W.G e.2.1 ((ikL e.1).map V.int) ∧ Rep B W p.2 e.2.2
theorem er_any {B : Bs} {W : Wd} {k : IK} : ∀ {es : List (IK × Addr × V)} {ps : List (IK × D)}, Paired (ER B W) es ps → (es.any fun e => decide (e.1 = k)) = ps.any fun e => decide (e.1 = k)
  | _, _, .nil => rfl
  | _, _, .cons r t => by rw [List.any_cons, List.any_cons, er_any t, r.1]
theorem er_put {B : Bs} {W : Wd} {k : IK} {c : Addr} {v : V} {d : D} (hc : SqT B.K W.G c ((ikL k).map V.int)) (hv : Rep B W d v) {es : List (IK × Addr × V)} {ps : List (IK × D)} (h : Paired (ER B W) es ps) : Paired (ER B W) (dzPut es k c v) (dzD ps k d) := by
  unfold dzPut dzD
  rw [er_any h]
  by_cases q : (ps.any fun e => decide (e.1 = k)) = true
  · rw [if_pos q, if_pos q]
    clear q
    induction h with
    | nil => exact .nil
    | @cons e p _ _ r t ih =>
      rw [List.map_cons, List.map_cons]
      refine .cons ?_ ih
      by_cases z : e.1 = k
      · rw [if_pos z, if_pos (r.1.symm.trans z)]
        exact ⟨r.1, r.2.1, hv⟩
      · rw [if_neg z, if_neg (fun y => z (r.1.trans y))]
        exact r
  · rw [if_neg q, if_neg q]
    exact Paired.snoc h ⟨rfl, hc, hv⟩
theorem er_all {B : Bs} {W : Wd} : ∀ {ks : List IK} {as : List Addr} {ys : List V} {ds : List D} {es : List (IK × Addr × V)} {ps : List (IK × D)}, Paired (ER B W) es ps → Paired (fun k c => SqT B.K W.G c ((ikL k).map V.int)) ks as → Reps B W ds ys → ks.length = ds.length →
    Paired (ER B W) (dzAll es (ks.zip (as.zip ys))) ((ks.zip ds).foldl (fun acc p => dzD acc p.1 p.2) ps)
  | [], _, _, _, _, _, h, .nil, _, _ => h
  | _ :: _, _ :: _, _, [], _, _, h, .cons _ _, _, l => by simp at l
  | k :: ks, a :: as, ys, d :: ds, es, ps, h, .cons q t, r, l => by
    obtain ⟨v, us, e, r1, r2⟩ := r.cons_inv
    subst e
    rw [List.zip_cons_cons, List.zip_cons_cons, List.zip_cons_cons, List.foldl_cons]
    show Paired (ER B W) (dzAll (dzPut es k a v) (ks.zip (as.zip us))) _
    exact er_all (er_put q r1 h) t r2 (by simpa using l)
theorem er_keys {B : Bs} {W : Wd} : ∀ {es : List (IK × Addr × V)} {ps : List (IK × D)}, Paired (ER B W) es ps → es.map (·.1) = ps.map (·.1) ∧ (∀ e ∈ es, SqT B.K W.G e.2.1 ((ikL e.1).map V.int)) ∧ Reps B W (ps.map (·.2)) (es.map (·.2.2))
  | _, _, .nil => ⟨rfl, fun _ h => (nomatch h), .nil⟩
  | _, _, .cons r t => by
    obtain ⟨h1, h2, h3⟩ := er_keys t
    refine ⟨by rw [List.map_cons, List.map_cons, h1, r.1], fun e he => ?_, .cons r.2.2 h3⟩
    rcases List.mem_cons.mp he with z | z
    · subst z; exact r.2.1
    · exact h2 e z
theorem nosl_of {b : Expr} (h : noSliceB b = true) : NoSl b := by
  cases b <;> first | (intro o i; rfl) | cases h
section
variable {Y : Ctx} {Γ : Gam} {S S1 S2 S3 : Store} {a b c e o ix : Expr} {es : List Expr} {x y z d : D} {ds res : List D} {pos p p2 pos2 : Pos} {E : DE} {ks : List IK}
theorem e_dictzip (T : Txt Y.B) (ha : EvE Y a Γ S x S1) (hb : EvE Y b Γ S1 y S2) (hx : seqL S2 x = some (ks.map ikT)) (hy : seqL S2 y = some ds) (hl : ks.length = ds.length) (hz : ds.length ≤ 100000)
    (hg : glB Y.sc "dict" = true := by rfl) (hg2 : glB Y.sc "zip" = true := by rfl) (hp : plainB a = true := by rfl) (hp2 : plainB b = true := by rfl) :
    EvE Y (.Call (.Name "dict" p) [.Call (.Name "zip" p2) [a, b] [] pos2] [] pos) Γ S (.dct ((dzipD ks ds).map (·.1)) ((dzipD ks ds).map (·.2))) S2 := by
  intro X F W σ H hE hO Q hQ
  obtain ⟨g1, _, _⟩ := gl_of F hg
  obtain ⟨g2, _, _⟩ := gl_of F hg2
  refine wpE_of (pe_dictzip F.calm F.room.units g1 (by rw [F.mg]; exact T.free _ (by decide +kernel)) g2 (by rw [F.mg]; exact T.free _ (by decide +kernel)) pa_wp (star_plain hp) (star_all (by simp [hp2]))) ?_
  refine a_cons ha (a_cons hb a_nil hp2) hp X F W σ H hE hO _ fun W1 vs H1 l1 o1 r1 => ?_
  obtain ⟨v, u, e1, r1, r2⟩ := reps2 r1
  obtain ⟨q1, us, ev, hq1, rs1⟩ := seqL_at o1 hx r1
  obtain ⟨q2, ws, eu, hq2, rs2⟩ := seqL_at o1 hy r2
  obtain ⟨as, eas, pk⟩ := keys_of rs1
  subst eas
  have hla := Paired.length pk
  refine ⟨q1, q2, as, ks, ws, by rw [e1, ev, eu], F.K ▸ hq1, F.K ▸ hq2, by rw [← hla, hl, rs2.length], Paired.mapP pk fun k c h => F.K ▸ sqT_mono o1.sub h, by rw [rs2.length]; exact hz, fun q hq => ?_⟩
  obtain ⟨o4, l4⟩ := o1.new (o := dzO X.prog X.w q (dzAll [] (ks.zip (as.zip ws)))) hq
  refine hQ _ _ _ (l1.trans l4) o4 ?_
  have er := er_all (B := Y.B) (W := W1) (es := []) (ps := []) .nil pk rs2 hl
  obtain ⟨k1, k2, k3⟩ := er_keys er
  simp only [Rep]
  exact ⟨q, dzAll [] (ks.zip (as.zip ws)), rfl, by rw [F.prog, F.w]; exact upd_same, k1, fun e he => sqT_mono l4.le.g (k2 e he), Reps.mono l4.le _ _ k3⟩
theorem reps_ik {B : Bs} {W : Wd} : ∀ {bs : List IK} {cs : List Addr}, Paired (fun k c => SqT B.K W.G c ((ikL k).map V.int)) bs cs → Reps B W (bs.map ikT) (cs.map V.ref)
  | _, _, .nil => .nil
  | b :: bs, c :: cs, .cons r t => by
    refine .cons ?_ (reps_ik t)
    show Rep B W (.tup ((ikL b).map D.int)) (.ref c)
    simp only [Rep]
    refine ⟨c, _, rfl, r, ?_⟩
    generalize ikL b = ns
    induction ns with
    | nil => exact .nil
    | cons n ns ih => exact .cons (by simp only [Rep]) ih
theorem e_sortedD {vs : List D} (T : Txt Y.B) (ha : EvE Y a Γ S (.dct ks vs) S1) (hz : ks.length ≤ 100000) (hg : glB Y.sc "sorted" = true := by rfl) (hp : plainB a = true := by rfl) :
    EvE Y (.Call (.Name "sorted" p) [a] [] pos) Γ S (.lst ((ks.mergeSort fun a b => decide (ikL a ≤ ikL b)).map ikT)) S1 := by
  intro X F W σ H hE hO Q hQ
  obtain ⟨g1, g2, g3⟩ := gl_of F hg
  -- the places of the keys are the world's
  have key : ∀ W1 vs1 H1, Tr W H W1 H1 → Ok Y.B W1 S1 H1 → Reps Y.B W1 [.dct ks vs] vs1 → ∃ G : IK → Addr → Prop, (∀ b c, G b c → SqT X.K H1 c ((ikL b).map V.int)) ∧ ∃ (a : Addr) (es : List (IK × Addr × V)), vs1 = [.ref a] ∧ H1 a = some (dzO X.prog X.w a es) ∧ (∀ e ∈ es, G e.1 e.2.1) ∧ es.map (·.1) = ks ∧
      ∀ bs cs, Paired G bs cs → Reps Y.B W1 (bs.map ikT) (cs.map V.ref) := by
    intro W1 vs1 H1 l1 o1 r1
    obtain ⟨v, e1, r1⟩ := reps1 r1
    simp only [Rep] at r1
    obtain ⟨q, es, ev, g, hk, ht, hr⟩ := r1
    subst ev
    exact ⟨fun k c => SqT Y.B.K W1.G c ((ikL k).map V.int), fun b c h => F.K ▸ sqT_mono o1.sub h, q, es, e1, by rw [F.prog, F.w]; exact o1.sub _ _ g, ht, hk, fun bs cs h => reps_ik h⟩
  intro pins s I
  refine (pe_callB (r := fun vs1 H1 Q1 => ∃ G : IK → Addr → Prop, (∀ b c, G b c → SqT X.K H1 c ((ikL b).map V.int)) ∧ ∃ (a : Addr) (es : List (IK × Addr × V)), vs1 = [.ref a] ∧ H1 a = some (dzO X.prog X.w a es) ∧ (∀ e ∈ es, G e.1 e.2.1) ∧ es.length ≤ 100000 ∧
    ∀ (cs : List Addr) (p : Addr), H1 p = none → Paired G ((es.map (·.1)).mergeSort fun a b => decide (ikL a ≤ ikL b)) cs → Q1 (.ref p) (upd H1 p (.lst (cs.map V.ref)))) (X := X) ?_ g1 (by rw [F.mg]; exact T.free _ (by decide +kernel)) PyProof.Rows.boot_sorted pa_wp g3 g2 (star_plain hp) (star_all rfl)).run pins s σ H Q I ?_
  · intro pins s σ H xs us Q I r ⟨G, hT, a, es, e1, h1, h2, h3, h4⟩
    exact call_sortedDT F.calm F.room.units G pins s σ H xs us Q I r ⟨a, es, e1, h1, h2, hT, h3, h4⟩
  · refine a_cons ha a_nil hp X F W σ H hE hO _ fun W1 vs1 H1 l1 o1 r1 => ?_
    obtain ⟨G, hT, q, es, e1, h1, h2, h3, h4⟩ := key W1 vs1 H1 l1 o1 r1
    refine ⟨G, hT, q, es, e1, h1, h2, by rw [← h3, List.length_map] at hz; exact hz, fun cs p hp' pc => ?_⟩
    rw [h3] at pc
    obtain ⟨o4, l4⟩ := o1.new (o := .lst (cs.map V.ref)) hp'
    exact hQ _ _ _ (l1.trans l4) o4 (Rep.newL (Reps.mono l4.le _ _ (h4 _ _ pc)))
/-- d[k] -/
theorem e_dzget {vs : List D} {k : IK} {j : Nat} (ha : EvE Y a Γ S (.dct ks vs) S1) (hb : EvE Y b Γ S1 (ikT k) S2) (hj : ks[j]? = some k) (hd : vs[j]? = some d) (hp : noSliceB b = true := by rfl) : EvE Y (.Subscript a b pos) Γ S d S2 := by
  intro X F W σ H hE hO Q hQ
  refine wpE_of (pe_dzget F.room.units pe_wp pe_wp (nosl_of hp)) ?_
  refine ha X F W σ H hE hO _ fun W1 v1 H1 l1 o1 r1 => ?_
  refine hb X F W1 σ H1 (hE.mono l1.le) o1 _ fun W2 v2 H2 l2 o2 r2 => ?_
  have r1 := Rep.mono l2.le _ _ r1
  simp only [Rep] at r1
  obtain ⟨q, es, ev, g, hk, ht, hr⟩ := r1
  have r2 : Rep Y.B W2 (.tup ((ikL k).map D.int)) v2 := r2
  simp only [Rep] at r2
  obtain ⟨c, us, ec, hc, hu⟩ := r2
  rw [hu.ints] at hc
  rw [← hk, List.getElem?_map] at hj
  cases e1 : es[j]? with
  | none => rw [e1] at hj; cases hj
  | some e =>
    rw [e1] at hj
    have e2 : e.1 = k := Option.some.inj hj
    obtain ⟨w, hw1, hw2⟩ := hr.get hd
    rw [List.getElem?_map, e1] at hw1
    have e3 : e.2.2 = w := Option.some.inj hw1
    refine ⟨q, c, es, j, e, ev, ec, by rw [F.prog, F.w]; exact o2.sub _ _ g, e1, by rw [e2, F.K]; exact sqT_mono o2.sub hc, fun e' he' => F.K ▸ sqT_mono o2.sub (ht e' he'), ?_⟩
    rw [e3]
    exact hQ _ _ _ (l1.trans l2) o2 hw2
end
end DL
/-! text: DLk -/
/-! DL, part k: two clauses; three names at once. -/
namespace DL
open PySem L2
section
variable {Y : Ctx} {Γ : Gam} {S S1 S2 S3 : Store} {a b c e o ix : Expr} {es : List Expr} {x y z d : D} {ds res : List D} {pos p p2 pos2 : Pos} {E : DE}
theorem reps3 {B : Bs} {W : Wd} {vs : List V} (r : Reps B W [x, y, z] vs) : ∃ v u w, vs = [v, u, w] ∧ Rep B W x v ∧ Rep B W y u ∧ Rep B W z w := by
  obtain ⟨v, u, e, a, b⟩ := r.cons_inv
  obtain ⟨v2, v3, e2, a2, a3⟩ := reps2 b
  subst e2
  exact ⟨v, v2, v3, e, a, a2, a3⟩
/-- a, b, c = e, f, g (three locals) -/
theorem s_par3 {i j l : Nat} {n1 n2 n3 : Str} {p1 p2 p3 p4 p5 : Pos} {k1 k2 : Nat} (hi : slot Y.N n1 = some i) (hj : slot Y.N n2 = some j) (hk : slot Y.N n3 = some l) (hij : i ≠ j) (hil : i ≠ l) (hjl : j ≠ l) (l1 : onlyL Y.sc n1 = true) (l2 : onlyL Y.sc n2 = true) (l3 : onlyL Y.sc n3 = true)
    (hw : ∀ env : Env, env.scope = Y.sc → swappedStores [.Tuple [.Name n1 p1, .Name n2 p2, .Name n3 p3] k1 p4] (.Tuple [a, b, c] k2 p5) env = pure (some [n1, n2, n3])) (ha : EvA Y [a, b, c] Γ S [x, y, z] S1) (hn : E.nx (((Γ.set i (some x)).set j (some y)).set l (some z)) S1) :
    EvS Y (.Assign [.Tuple [.Name n1 p1, .Name n2 p2, .Name n3 p3] k1 p4] (.Tuple [a, b, c] k2 p5) pos) Γ S E := by
  intro X F W σ H Dn hE hO hD
  refine wpS_of (ps_par3 (i := i) (j := j) (l := l) F.calm (F.N ▸ F.nd) (by rw [F.N]; exact slot_get hi) (by rw [F.N]; exact slot_get hj) (by rw [F.N]; exact slot_get hk) hij hil hjl (onlyL_of F l1) (onlyL_of F l2) (onlyL_of F l3) pa_wp (hw X.env F.sc)) ?_
  refine ha X F W σ H hE hO _ fun W1 vs H1 t1 o1 r1 => ?_
  obtain ⟨v, u, w, e1, r1, r2, r3⟩ := reps3 r1
  exact ⟨v, u, w, e1, hD.nx W1 _ S1 _ H1 t1 ((((hE.mono t1.le).set r1).set r2).set r3) o1 hn⟩
/-- a, b, .. = e, f, .. through a tuple (names that are cells) -/
theorem s_unp2 {es : List Expr} {is : List Nat} {k : Nat} {p3 : Pos} (t : Tgt Y es is) (h : EvE Y e Γ S (.tup ds) S1) (hl : ds.length = is.length) (hn : E.nx (sets Γ is ds) S1)
    (hw : ∀ env : Env, env.scope = Y.sc → swappedStores [.Tuple es k p3] e env = pure none) (hs : noCompB e = true := by rfl) : EvS Y (.Assign [.Tuple es k p3] e pos) Γ S E := by
  intro X F W σ H Dn hE hO hD
  obtain ⟨g1, g2⟩ := tgt_len t X.env
  refine wpS_of (ps_asg (tg := .Tuple es k p3) pe_wp (pg_tup (n := is.length) F.calm pgs_wp g1 g2) (sole_of hs) (hw X.env F.sc)) ?_
  refine h X F W σ H hE hO _ fun W1 v1 H1 l1 o1 r1 => ?_
  simp only [Rep] at r1
  obtain ⟨q, vs, ev, hq, rs⟩ := r1
  refine ⟨q, vs, ev, F.K ▸ sqT_mono o1.sub hq, by rw [rs.length]; exact hl, ?_⟩
  exact tgt_run t F hl rs (hE.mono l1.le) fun σ' hE' _ _ => hD.nx W1 _ S1 σ' H1 l1 hE' o1 hn
def blkI (X : Cx) (scope : Scope) (tg iter : Expr) : TI := fun σ H R => ∀ (s0 : Shared) (H0 : Hp) (C : Addr) (cl : List (Str × Addr)) (fp : List Addr), wpI (X.blk s0 H0 scope (compEnvC scope cl C X.env) fp) tg iter σ H R
theorem pi_blk {X : Cx} {scope : Scope} {tg iter : Expr} (s0 : Shared) (H0 : Hp) (C : Addr) (cl : List (Str × Addr)) (fp : List Addr) : PI (X.blk s0 H0 scope (compEnvC scope cl C X.env) fp) tg iter (blkI X scope tg iter) := ⟨fun pins s σ H R I h => h s0 H0 C cl fp pins s I⟩
/-- a target's reading, one for all blocks -/
theorem blkG {X : Cx} (F : Fit X Y) {scope : Scope} {tg : Expr} {is : List Nat} {up : D → Gam → Gam} {okd : D → Prop} (hg : EvG (blkY Y scope) tg is up okd) :
    ∃ g, (∀ (s0 : Shared) (H0 : Hp) (C : Addr) (cl : List (Str × Addr)) (fp : List Addr), PG (X.blk s0 H0 scope (compEnvC scope cl C X.env) fp) tg g) ∧ ∀ W Γ σ S H d v, okd d → RepE Y.B W Γ σ → Ok Y.B W S H → Rep Y.B W d v → ∀ Q : St → Hp → Prop, (∀ σ', RepE Y.B W (up d Γ) σ' → σ'.length = σ.length → (∀ j : Nat, j ∉ is → σ'[j]? = σ[j]?) → Q σ' H) → g v σ H Q := by
  refine ⟨fun v σ H Q => ∀ (s0 : Shared) (H0 : Hp) (C : Addr) (cl : List (Str × Addr)) (fp : List Addr) pins s u, Inv (X.blk s0 H0 scope (compEnvC scope cl C X.env) fp) pins σ H s → RelV v u →
    wpAny (model X.prog X.w) X.A (assign tg (compEnvC scope cl C X.env) u) (fun _ s' => ∃ σ' H', Inv (X.blk s0 H0 scope (compEnvC scope cl C X.env) fp) pins σ' H' s' ∧ Q σ' H') (fun _ _ => False) s, fun s0 H0 C cl fp => ⟨fun pins s σ H v u Q I r h => h s0 H0 C cl fp pins s u I r⟩, ?_⟩
  intro W Γ σ S H d v h1 h2 h3 h4 Q h5 s0 H0 C cl fp pins s u I r
  obtain ⟨g, pg, hgq⟩ := hg _ (fit_blk F s0 H0 C cl fp)
  exact pg.run pins s σ H v u Q I r (hgq W Γ σ S H d v h1 h2 h3 h4 Q h5)
theorem flat_take {F : D → List D} {ds : List D} {i : Nat} {d : D} (h : ds[i]? = some d) : (ds.take (i + 1)).flatMap F = (ds.take i).flatMap F ++ F d := by
  rw [List.take_add_one, h]
  simp
theorem flat_le {F : D → List D} {ds : List D} {i : Nat} {d : D} (h : ds[i]? = some d) : ((ds.take i).flatMap F).length + (F d).length ≤ (ds.flatMap F).length := by
  rw [← List.length_append, ← flat_take h]
  conv => rhs; rw [← List.take_append_drop (i + 1) ds, List.flatMap_append, List.length_append]
  omega
/-- [elt for x in .. for y in ..], nothing changed -/
theorem e_lc2P {nm nm1 : Str} {p1 : Pos} {iter iter1 elt : Expr} {scope : Scope} {j j1 : Nat} {inner : D → List D} {f : D → D → D} (hi : EvI Y (.Name nm p1) iter Γ S ds S1) (hj : slot Y.N nm = some j) (hl : locB (relS scope Y.sc) nm = true) (hf : fnlB (blkY Y scope) nm = true)
    (hj1 : slot Y.N nm1 = some j1) (hl1 : locB (relS scope Y.sc) nm1 = true) (hf1 : fnlB (blkY Y scope) nm1 = true) (hb : blkC Y.N Y.sc scope [(nm, j), (nm1, j1)] = true)
    (hi1 : ∀ d ∈ ds, EvI (blkY Y scope) (.Name nm1 p2) iter1 (((Γ.set j1 none).set j none).set j (some d)) S1 (inner d) S1)
    (hs : ∀ d ∈ ds, ∀ x ∈ inner d, EvE (blkY Y scope) elt (((((Γ.set j1 none).set j none).set j (some d)).set j1 none).set j1 (some x)) S1 (f d x) S1)
    (hz : (ds.flatMap fun d => (inner d).map (f d)).length ≤ 100000) (hst : noSetB iter = true := by rfl) (hst1 : noSetB iter1 = true := by rfl) :
    EvE Y (.ListComp elt [⟨.Name nm p1, iter, [], 0⟩, ⟨.Name nm1 p2, iter1, [], 0⟩] scope pos) Γ S (.lst (ds.flatMap fun d => (inner d).map (f d))) S1 := by
  intro X F W σ H hE hO Q hQ
  obtain ⟨g, pg, hgq⟩ := blkG F (g_name (Y := blkY Y scope) (pos := p1) hj hl hf)
  obtain ⟨g1, pg1, hgq1⟩ := blkG F (g_name (Y := blkY Y scope) (pos := p2) hj1 hl1 hf1)
  have hblk : BlkOk X.N X.env.scope scope [(nm, j), (nm1, j1)] := by rw [F.N, F.sc]; exact blkOk_by hb
  refine wpE_of (pe_lc2 (vs1 := [j1]) F.calm (F.N ▸ F.nd) pi_wp hblk (fun i hi => by simp at hi; simp [hi]) pg (fun s0 H0 C cl fp => pts_tt (scope := scope) s0 H0 C cl fp []) (fun s0 H0 C cl fp => pi_blk s0 H0 C cl fp) pg1 (fun s0 H0 C cl fp => pts_tt (scope := scope) s0 H0 C cl fp []) (fun s0 H0 C cl fp => pe_elt s0 H0 C cl fp)
    (fun x => by cases iter <;> first | rfl | cases hst) (fun env x => by cases iter1 <;> first | rfl | cases hst1)) ?_
  refine hi X F W σ H hE hO _ fun W1 H1 J l1 o1 hy => fun q hq => ?_
  obtain ⟨hq1, hm1⟩ := o1.out hq
  have cl1 : Tr W1 H1 W1 (upd H1 q (.lst [])) := ⟨.refl W1, fun a o ha hga hma => ⟨by rw [upd_ne (ne_of_none ha hq)]; exact ha, hga, hma⟩⟩
  let P : List D → Hp → Prop := fun acc H' => ∃ W' vs, Tr W1 H1 W' H' ∧ Ok Y.B W' S1 H' ∧ W'.G q = none ∧ q ∉ W'.mu ∧ H' q = some (.lst vs) ∧ Reps Y.B W' acc vs
  let FF : D → List D := fun d => (inner d).map (f d)
  refine ⟨fun i m H' => m = ds.length - i ∧ i ≤ ds.length ∧ P ((ds.take i).flatMap FF) H', ⟨ds.length, by simp, Nat.zero_le _, W1, [], cl1, o1.foreign hq1 hm1, hq1, hm1, upd_same, .nil⟩, ?_⟩
  rintro i m H' ⟨rfl, hil, W', vs, l', o', hgq', hmq', hHq, hrs⟩
  by_cases hlt : i < ds.length
  · have hdi : ds[i]? = some ds[i] := List.getElem?_eq_getElem hlt
    have hmem : ds[i] ∈ ds := List.getElem_mem hlt
    have hfl := flat_le (F := FF) hdi
    refine .inr ⟨hy.go i W' S1 H' hlt l'.le o', fun H2 => i + 1 ≤ ds.length ∧ P ((ds.take (i + 1)).flatMap FF) H2, fun H2 ⟨h1, h2⟩ => ⟨ds.length - (i + 1), by omega, rfl, h1, h2⟩, fun v H2 hyl => ?_⟩
    obtain ⟨W2, t2, o2, r2⟩ := hy.yl i W' S1 H' v H2 _ hdi l'.le o' hyl
    obtain ⟨k2, gq2, mq2⟩ := t2.fo q _ hHq hgq' hmq'
    have hEw := ((hE.mono (l1.trans (l'.trans t2)).le).wipe [j, j1])
    refine hgq W2 (wipeG Γ [j, j1]) (wipe σ [j, j1]) S1 H2 ds[i] v trivial hEw o2 r2 _ ?_
    intro σ2 hE2 hl2 hs2
    refine ⟨?_, ?_⟩
    · show wipe σ2 [j, j1] = wipe σ [j, j1]
      rw [wipe_same (τ := wipe σ [j, j1]) hl2 fun k hk => hs2 k fun z => hk (by simp at z; simp [z])]
      exact wipe_wipe _ _
    simp only [ttOf, tYes, if_true]
    intro s0 H0 C cl fp
    refine hi1 ds[i] hmem _ (fit_blk F s0 H0 C cl fp) W2 σ2 H2 hE2 o2 _ fun W3 H3 J1 t3 o3 hy1 => ?_
    obtain ⟨k3, gq3, mq3⟩ := t3.fo q _ k2 gq2 mq2
    refine ⟨fun k m H' => m = (inner ds[i]).length - k ∧ k ≤ (inner ds[i]).length ∧ ∃ W' vs, Tr W1 H1 W' H' ∧ Le W3 W' ∧ Ok Y.B W' S1 H' ∧ W'.G q = none ∧ q ∉ W'.mu ∧ H' q = some (.lst vs) ∧ Reps Y.B W' ((ds.take i).flatMap FF ++ ((inner ds[i]).take k).map (f ds[i])) vs,
      ⟨(inner ds[i]).length, by simp, Nat.zero_le _, W3, vs, (l'.trans t2).trans t3, .refl W3, o3, gq3, mq3, k3, by simpa using Reps.mono (t2.trans t3).le _ _ hrs⟩, ?_⟩
    rintro k m H4 ⟨rfl, hkl, W4, vs4, l4, le4, o4, gq4, mq4, hHq4, hrs4⟩
    by_cases hklt : k < (inner ds[i]).length
    · have hxk : (inner ds[i])[k]? = some (inner ds[i])[k] := List.getElem?_eq_getElem hklt
      refine .inr ⟨hy1.go k W4 S1 H4 hklt le4 o4, fun H' => k + 1 ≤ (inner ds[i]).length ∧ ∃ W' vs, Tr W1 H1 W' H' ∧ Le W3 W' ∧ Ok Y.B W' S1 H' ∧ W'.G q = none ∧ q ∉ W'.mu ∧ H' q = some (.lst vs) ∧ Reps Y.B W' ((ds.take i).flatMap FF ++ ((inner ds[i]).take (k + 1)).map (f ds[i])) vs, fun H' ⟨h1, h2⟩ => ⟨(inner ds[i]).length - (k + 1), by omega, rfl, h1, h2⟩, fun v4 H5 hyl => ?_⟩
      obtain ⟨W5, t5, o5, r5⟩ := hy1.yl k W4 S1 H4 v4 H5 _ hxk le4 o4 hyl
      obtain ⟨k5, gq5, mq5⟩ := t5.fo q _ hHq4 gq4 mq4
      have hE5 := ((hE2.mono (t3.le.trans (le4.trans t5.le))).wipe [j1])
      refine hgq1 W5 (wipeG ((wipeG Γ [j, j1]).set j (some ds[i])) [j1]) (wipe σ2 [j1]) S1 H5 (inner ds[i])[k] v4 trivial hE5 o5 r5 _ ?_
      intro σ3 hE3 hl3 hs3
      refine ⟨?_, ?_⟩
      · rw [wipe_same (τ := wipe σ2 [j1]) hl3 fun k hk => hs3 k hk]
        exact wipe_wipe _ _
      simp only [ttOf, tYes, if_true]
      intro s5 H05 C5 cl5 fp5
      refine hs ds[i] hmem (inner ds[i])[k] (List.getElem_mem hklt) _ (fit_blk F s5 H05 C5 cl5 fp5) W5 σ3 H5 hE3 o5 _ fun W6 v6 H6 t6 o6 r6 => ?_
      obtain ⟨k6, gq6, mq6⟩ := t6.fo q _ k5 gq5 mq5
      have rv := Reps.mono (t5.trans t6).le _ _ hrs4
      have hlen := rv.length
      refine ⟨vs4, k6, ?_, hklt, W6, vs4 ++ [v6], ⟨((l4.trans t5).trans t6).le, fun a o ha hga hma => ?_⟩, le4.trans (t5.trans t6).le, o6.foreign gq6 mq6, gq6, mq6, upd_same, ?_⟩
      · have hz' : (ds.flatMap FF).length ≤ 100000 := hz
        have : (FF ds[i]).length = (inner ds[i]).length := by simp [FF]
        rw [hlen, List.length_append, List.length_map, List.length_take]
        exact Nat.lt_of_le_of_lt (show _ ≤ 100000 by omega) (by decide)
      · obtain ⟨z1, z2, z3⟩ := ((l4.trans t5).trans t6).fo a o ha hga hma
        exact ⟨by rw [upd_ne (ne_of_none ha hq)]; exact z1, z2, z3⟩
      · rw [List.take_add_one, hxk, List.map_append, ← List.append_assoc]
        exact rv.append (.cons r6 .nil)
    · obtain rfl : k = (inner ds[i]).length := by omega
      refine .inl ⟨hy1.stop _ W4 S1 H4 (Nat.le_refl _) le4 o4, hlt, W4, vs4, l4, o4, gq4, mq4, hHq4, ?_⟩
      rw [flat_take hdi]
      rw [List.take_length] at hrs4
      exact hrs4
  · obtain rfl : i = ds.length := by omega
    refine .inl ⟨hy.stop _ W' S1 H' (Nat.le_refl _) l'.le o', ?_⟩
    rw [List.take_length] at hrs
    obtain ⟨o5, l5⟩ := o'.adopt hHq hgq' hmq'
    refine hQ _ _ _ (l1.trans ⟨l'.le.trans l5, fun a o ha hga hma => ?_⟩) o5 (Rep.newL (Reps.mono l5 _ _ hrs))
    obtain ⟨z1, z2, z3⟩ := l'.fo a o ha hga hma
    exact ⟨z1, by show upd W'.G q _ a = none; rw [upd_ne (ne_of_none ha hq)]; exact z2, z3⟩
end
end DL
/-! text: QM -/
/-! QM: numbers, in plain Lean over core's Rat. -/
namespace QM
/-- the signed divisor of a quotient -/
def gsg (t b : Int) : Int := if 0 < b then ((Nat.gcd t.natAbs b.natAbs : Nat) : Int) else -((Nat.gcd t.natAbs b.natAbs : Nat) : Int)
theorem gcd_pos {t b : Int} (h : b ≠ 0) : 0 < Nat.gcd t.natAbs b.natAbs := Nat.gcd_pos_of_pos_right _ (by omega)
theorem gsg_ne {t b : Int} (h : b ≠ 0) : gsg t b ≠ 0 := by
  have := gcd_pos (t := t) h
  unfold gsg
  split <;> omega
theorem gsg_abs (t b : Int) : (gsg t b).natAbs = Nat.gcd t.natAbs b.natAbs := by
  unfold gsg
  split <;> omega
theorem dvd_t (t b : Int) : ((Nat.gcd t.natAbs b.natAbs : Nat) : Int) ∣ t := Int.ofNat_dvd_left.mpr (Nat.gcd_dvd_left _ _)
theorem dvd_b (t b : Int) : ((Nat.gcd t.natAbs b.natAbs : Nat) : Int) ∣ b := Int.ofNat_dvd_left.mpr (Nat.gcd_dvd_right _ _)
theorem fdiv_of {a g c : Int} (hg : g ≠ 0) (h : a = g * c) : a.fdiv g = c := by
  subst h
  exact Int.mul_fdiv_cancel_left c hg
theorem num_eq {t b : Int} (h : b ≠ 0) : t.fdiv (gsg t b) = (Rat.divInt t b).num := by
  have hp := gcd_pos (t := t) h
  obtain ⟨c, hc⟩ := dvd_t t b
  rw [Rat.num_divInt]
  have hgc : b.gcd t = Nat.gcd t.natAbs b.natAbs := by unfold Int.gcd; exact Nat.gcd_comm _ _
  rw [hgc]
  generalize hG : Nat.gcd t.natAbs b.natAbs = G at *
  rcases Int.lt_or_gt_of_ne h with hb | hb
  · have e1 : gsg t b = -(G : Int) := by unfold gsg; rw [if_neg (by omega), hG]
    rw [e1, Int.sign_eq_neg_one_of_neg hb]
    rw [fdiv_of (c := -c) (by omega) (by rw [hc]; simp [Int.neg_mul_neg])]
    rw [hc]
    rw [show -1 * ((G : Int) * c) = (G : Int) * (-c) by simp [Int.mul_neg]]
    rw [Int.mul_ediv_cancel_left _ (by omega)]
  · have e1 : gsg t b = (G : Int) := by unfold gsg; rw [if_pos (by omega), hG]
    rw [e1, Int.sign_eq_one_of_pos hb]
    rw [fdiv_of (c := c) (by omega) hc]
    rw [hc]
    rw [Int.one_mul, Int.mul_ediv_cancel_left _ (by omega)]
theorem den_eq {t b : Int} (h : b ≠ 0) : b.fdiv (gsg t b) = ((Rat.divInt t b).den : Int) := by
  have hp := gcd_pos (t := t) h
  obtain ⟨c, hc⟩ := dvd_b t b
  rw [Rat.den_divInt, if_neg h]
  have hgc : b.gcd t = Nat.gcd t.natAbs b.natAbs := by unfold Int.gcd; exact Nat.gcd_comm _ _
  rw [hgc]
  generalize hG : Nat.gcd t.natAbs b.natAbs = G at *
  have habs : b.natAbs = G * c.natAbs := by rw [hc, Int.natAbs_mul, Int.natAbs_natCast]
  rw [habs, Nat.mul_div_cancel_left _ hp]
  rcases Int.lt_or_gt_of_ne h with hb | hb
  · have e1 : gsg t b = -(G : Int) := by unfold gsg; rw [if_neg (by omega), hG]
    rw [e1, fdiv_of (c := -c) (by omega) (by rw [Int.neg_mul_neg]; exact hc)]
    have : c < 0 := by
      rcases Int.lt_trichotomy c 0 with z | z | z
      · exact z
      · subst z; omega
      · have := Int.mul_pos (show (0 : Int) < G by omega) z
        omega
    omega
  · have e1 : gsg t b = (G : Int) := by unfold gsg; rw [if_pos (by omega), hG]
    rw [e1, fdiv_of (c := c) (by omega) hc]
    have : 0 < c := by
      rcases Int.lt_trichotomy c 0 with z | z | z
      · have := Int.mul_neg_of_pos_of_neg (show (0 : Int) < G by omega) z
        omega
      · subst z; omega
      · exact z
    omega
/-- it is whole exactly if the bottom is the divisor -/
theorem whole_iff {t b : Int} (h : b ≠ 0) : b = gsg t b ↔ (Rat.divInt t b).den = 1 := by
  have e := den_eq (t := t) h
  have hg := gsg_ne (t := t) h
  obtain ⟨c, hc⟩ : gsg t b ∣ b := by
    have := dvd_b t b
    unfold gsg
    split
    · exact this
    · exact Int.neg_dvd.mpr this
  rw [fdiv_of hg hc] at e
  constructor
  · intro z
    have : c = 1 := by
      have h2 : gsg t b * c = gsg t b * 1 := by rw [Int.mul_one, ← hc]; exact z
      exact Int.eq_of_mul_eq_mul_left hg h2
    omega
  · intro z
    have : c = 1 := by omega
    rw [this, Int.mul_one] at hc
    exact hc

/-! ### sizes -/
def Sz (n : Nat) (q : Rat) : Prop := q.num.natAbs < 2 ^ n ∧ q.den < 2 ^ n
theorem Sz.mono {n m : Nat} {q : Rat} (h : Sz n q) (hm : n ≤ m) : Sz m q := ⟨Nat.lt_of_lt_of_le h.1 (Nat.pow_le_pow_right (by decide) hm), Nat.lt_of_lt_of_le h.2 (Nat.pow_le_pow_right (by decide) hm)⟩
theorem num_le {t b : Int} (h : b ≠ 0) : (Rat.divInt t b).num.natAbs ≤ t.natAbs := by
  rw [← num_eq h]
  obtain ⟨c, hc⟩ : gsg t b ∣ t := by
    have := dvd_t t b
    unfold gsg
    split
    · exact this
    · exact Int.neg_dvd.mpr this
  rw [fdiv_of (gsg_ne h) hc]
  conv => rhs; rw [hc, Int.natAbs_mul]
  have : 0 < (gsg t b).natAbs := by have := gsg_ne (t := t) h; omega
  exact Nat.le_mul_of_pos_left _ this
theorem den_le {t b : Int} (h : b ≠ 0) : (Rat.divInt t b).den ≤ b.natAbs := by
  rw [Rat.den_divInt, if_neg h]
  exact Nat.div_le_self _ _
theorem sz_div {t b : Int} {n : Nat} (h : b ≠ 0) (h1 : t.natAbs < 2 ^ n) (h2 : b.natAbs < 2 ^ n) : Sz n (Rat.divInt t b) := ⟨Nat.lt_of_le_of_lt (num_le h) h1, Nat.lt_of_le_of_lt (den_le h) h2⟩
theorem mul_lt {a b : Int} {n m : Nat} (h1 : a.natAbs < 2 ^ n) (h2 : b.natAbs < 2 ^ m) : (a * b).natAbs < 2 ^ (n + m) := by
  rw [Int.natAbs_mul, Nat.pow_add]
  exact Nat.mul_lt_mul'' h1 h2
theorem add_lt {a b : Int} {n : Nat} (h1 : a.natAbs < 2 ^ n) (h2 : b.natAbs < 2 ^ n) : (a + b).natAbs < 2 ^ (n + 1) := by
  rw [Nat.pow_succ]
  omega
theorem sub_lt {a b : Int} {n : Nat} (h1 : a.natAbs < 2 ^ n) (h2 : b.natAbs < 2 ^ n) : (a - b).natAbs < 2 ^ (n + 1) := by
  rw [Nat.pow_succ]
  omega
theorem nat_lt {a n : Nat} (h : a < 2 ^ n) : ((a : Int)).natAbs < 2 ^ n := by simpa using h

/-! ### the operations by tops and bottoms -/
theorem den_ne (q : Rat) : ((q.den : Int)) ≠ 0 := by have := q.den_nz; omega
theorem add_div (p q : Rat) : p + q = Rat.divInt (p.num * q.den + q.num * p.den) (p.den * q.den) := by
  conv => lhs; rw [← Rat.num_divInt_den p, ← Rat.num_divInt_den q]
  exact Rat.divInt_add_divInt _ _ (den_ne p) (den_ne q)
theorem neg_div (q : Rat) : -q = Rat.divInt (-q.num) q.den := by
  conv => lhs; rw [← Rat.num_divInt_den q]
  exact Rat.neg_divInt _ _
theorem mul_div (p q : Rat) : p * q = Rat.divInt (p.num * q.num) (p.den * q.den) := by
  conv => lhs; rw [← Rat.num_divInt_den p, ← Rat.num_divInt_den q]
  exact Rat.divInt_mul_divInt _ _
theorem sub_div (p q : Rat) : p - q = Rat.divInt (p.num * q.den - q.num * p.den) (p.den * q.den) := by
  have := add_div p (-q)
  rw [Rat.sub_eq_add_neg, this, Rat.neg_num, Rat.neg_den]
  congr 1
  rw [Int.neg_mul, Int.sub_eq_add_neg]
theorem quo_div (p q : Rat) : p / q = Rat.divInt (p.num * q.den) (p.den * q.num) := by
  have h : q⁻¹ = Rat.divInt q.den q.num := by
    conv => lhs; rw [← Rat.num_divInt_den q]
    exact Rat.inv_divInt _ _
  rw [Rat.div_def, h]
  conv => lhs; rw [← Rat.num_divInt_den p]
  exact Rat.divInt_mul_divInt _ _
theorem sz_add {p q : Rat} {n m : Nat} (hp : Sz n p) (hq : Sz m q) : Sz (n + m + 1) (p + q) := by
  rw [add_div]
  refine sz_div (Int.mul_ne_zero (den_ne p) (den_ne q)) ?_ ?_
  · refine add_lt (mul_lt hp.1 (nat_lt hq.2)) ?_
    rw [Nat.add_comm n m]
    exact mul_lt hq.1 (nat_lt hp.2)
  · exact Nat.lt_of_lt_of_le (mul_lt (nat_lt hp.2) (nat_lt hq.2)) (Nat.pow_le_pow_right (by decide) (by omega))
theorem sz_neg {q : Rat} {n : Nat} (h : Sz n q) : Sz n (-q) := by
  refine ⟨?_, ?_⟩
  · rw [Rat.neg_num]; simpa using h.1
  · rw [Rat.neg_den]; exact h.2
theorem sz_sub {p q : Rat} {n m : Nat} (hp : Sz n p) (hq : Sz m q) : Sz (n + m + 1) (p - q) := by
  rw [Rat.sub_eq_add_neg]
  exact sz_add hp (sz_neg hq)
theorem sz_mul {p q : Rat} {n m : Nat} (hp : Sz n p) (hq : Sz m q) : Sz (n + m) (p * q) := by
  rw [mul_div]
  exact sz_div (Int.mul_ne_zero (den_ne p) (den_ne q)) (mul_lt hp.1 hq.1) (mul_lt (nat_lt hp.2) (nat_lt hq.2))
theorem num_ne {q : Rat} (h : q ≠ 0) : q.num ≠ 0 := fun z => h (Rat.num_eq_zero.mp z)
theorem sz_quo {p q : Rat} {n m : Nat} (h : q ≠ 0) (hp : Sz n p) (hq : Sz m q) : Sz (n + m) (p / q) := by
  rw [quo_div]
  exact sz_div (Int.mul_ne_zero (den_ne p) (num_ne h)) (mul_lt hp.1 (nat_lt hq.2)) (mul_lt (nat_lt hp.2) hq.1)
theorem sz_int {i : Int} {n : Nat} (hn : 0 < n) (h : i.natAbs < 2 ^ n) : Sz n (i : Rat) := by
  refine ⟨by rw [Rat.num_intCast]; exact h, ?_⟩
  rw [Rat.den_intCast]
  exact Nat.one_lt_two_pow (by omega)
end QM
/-! text: QS -/
/-! QS: lists of numbers, in plain Lean. -/
namespace QM
/-- the least common multiple of the bottoms -/
def cb (qs : List Rat) : Nat := qs.foldl (fun c q => Nat.lcm c q.den) 1
theorem foldl_lcm_pos : ∀ (qs : List Rat) (c : Nat), 0 < c → 0 < qs.foldl (fun c q => Nat.lcm c q.den) c
  | [], c, h => h
  | q :: qs, c, h => foldl_lcm_pos qs _ (Nat.lcm_pos h (Nat.pos_of_ne_zero q.den_nz))
theorem cb_pos (qs : List Rat) : 0 < cb qs := foldl_lcm_pos qs 1 (by decide)
theorem foldl_lcm_dvd : ∀ (qs : List Rat) (c : Nat), c ∣ qs.foldl (fun c q => Nat.lcm c q.den) c
  | [], c => Nat.dvd_refl c
  | q :: qs, c => Nat.dvd_trans (Nat.dvd_lcm_left c q.den) (foldl_lcm_dvd qs _)
theorem foldl_lcm_mem : ∀ (qs : List Rat) (c : Nat) (q : Rat), q ∈ qs → q.den ∣ qs.foldl (fun c q => Nat.lcm c q.den) c
  | q' :: qs, c, q, h => by
    rcases List.mem_cons.mp h with h | h
    · subst h
      exact Nat.dvd_trans (Nat.dvd_lcm_right c _) (foldl_lcm_dvd qs _)
    · exact foldl_lcm_mem qs _ q h
theorem cb_dvd {qs : List Rat} {q : Rat} (h : q ∈ qs) : q.den ∣ cb qs := foldl_lcm_mem qs 1 q h
theorem cb_take {qs : List Rat} {i : Nat} {q : Rat} (h : qs[i]? = some q) : cb (qs.take (i + 1)) = Nat.lcm (cb (qs.take i)) q.den := by
  unfold cb
  rw [List.take_add_one, h]
  simp [List.foldl_append]
theorem lcm_le_mul (a b : Nat) : Nat.lcm a b ≤ a * b := by
  unfold Nat.lcm
  exact Nat.div_le_self _ _
theorem foldl_lcm_lt {n : Nat} : ∀ (qs : List Rat) (c k : Nat), c < 2 ^ k → (∀ q ∈ qs, q.den < 2 ^ n) → qs.foldl (fun c q => Nat.lcm c q.den) c < 2 ^ (k + n * qs.length)
  | [], c, k, h, _ => by simpa using h
  | q :: qs, c, k, h, hq => by
    have h1 : Nat.lcm c q.den < 2 ^ (k + n) := by
      refine Nat.lt_of_le_of_lt (lcm_le_mul _ _) ?_
      rw [Nat.pow_add]
      exact Nat.mul_lt_mul'' h (hq q List.mem_cons_self)
    have := foldl_lcm_lt qs _ (k + n) h1 fun q' h' => hq q' (List.mem_cons_of_mem _ h')
    rw [List.length_cons]
    rw [show k + n * (qs.length + 1) = k + n + n * qs.length by rw [Nat.mul_add]; omega]
    exact this
theorem cb_lt {n : Nat} {qs : List Rat} (h : ∀ q ∈ qs, Sz n q) : cb qs < 2 ^ (1 + n * qs.length) := foldl_lcm_lt qs 1 1 (by decide) fun q hq => (h q hq).2
/-- one number's whole over a common bottom -/
def wh (c : Nat) (q : Rat) : Int := q.num * ((c : Int) / (q.den : Int))
theorem wh_eq {c : Nat} {q : Rat} (h : q.den ∣ c) : (wh c q : Rat) = q * (c : Rat) := by
  obtain ⟨k, hk⟩ := h
  unfold wh
  have hd : (q.den : Int) ≠ 0 := by have := q.den_nz; omega
  have e1 : ((c : Int) / (q.den : Int)) = (k : Int) := by
    rw [hk, Int.natCast_mul]
    exact Int.mul_ediv_cancel_left _ hd
  rw [e1, hk]
  have e2 : (q.num : Rat) = q * (q.den : Rat) := by
    have := Rat.num_divInt_den q
    have h3 : Rat.divInt q.num q.den = (q.num : Rat) / (q.den : Rat) := by
      rw [Rat.divInt_eq_div]; rfl
    rw [h3] at this
    have hq : (q.den : Rat) ≠ 0 := by
      have := q.den_nz
      exact_mod_cast this
    conv => rhs; lhs; rw [← this]
    rw [Rat.div_mul_cancel hq]
  rw [Rat.intCast_mul, e2]
  push_cast
  grind
theorem wh_sum {c : Nat} : ∀ {qs : List Rat}, (∀ q ∈ qs, q.den ∣ c) → ((qs.map (wh c)).sum : Rat) = qs.sum * (c : Rat)
  | [], _ => by simp
  | q :: qs, h => by
    simp only [List.map_cons, List.sum_cons]
    rw [Rat.intCast_add, wh_eq (h q List.mem_cons_self), wh_sum fun q' h' => h q' (List.mem_cons_of_mem _ h')]
    grind
theorem sum_div {qs : List Rat} : Rat.divInt ((qs.map (wh (cb qs))).sum) (cb qs : Int) = qs.sum := by
  have h := wh_sum (c := cb qs) (qs := qs) fun q hq => cb_dvd hq
  have hp := cb_pos qs
  have hc : ((cb qs : Nat) : Rat) ≠ 0 := by exact_mod_cast (show cb qs ≠ 0 by omega)
  rw [Rat.divInt_eq_div, h]
  have : ((cb qs : Int) : Rat) = ((cb qs : Nat) : Rat) := rfl
  rw [this, Rat.mul_div_cancel hc]
theorem wh_le {c : Nat} {p q : Rat} (hc : 0 < c) (hp : p.den ∣ c) (hq : q.den ∣ c) : wh c p ≤ wh c q ↔ p ≤ q := by
  have h1 := wh_eq hp
  have h2 := wh_eq hq
  have hc' : (0 : Rat) < (c : Rat) := by exact_mod_cast hc
  constructor
  · intro h
    have : (wh c p : Rat) ≤ (wh c q : Rat) := by exact_mod_cast h
    rw [h1, h2] at this
    exact Rat.le_of_mul_le_mul_right this hc'
  · intro h
    have : (wh c p : Rat) ≤ (wh c q : Rat) := by rw [h1, h2]; exact Rat.mul_le_mul_of_nonneg_right h (Rat.le_of_lt hc')
    exact_mod_cast this
theorem wh_inj {c : Nat} {p q : Rat} (hc : 0 < c) (hp : p.den ∣ c) (hq : q.den ∣ c) (h : wh c p = wh c q) : p = q := by
  have a := (wh_le hc hp hq).mp (by omega)
  have b := (wh_le hc hq hp).mp (by omega)
  exact Rat.le_antisymm a b
end QM
/-! text: QA -/
/-! QA: the distinct numbers of a list, ascending. -/
namespace QM
def ins (found : List Rat) (q : Rat) : List Rat := if q ∈ found then found else found.filter (fun p => decide (p < q)) ++ [q] ++ found.filter (fun p => decide (q < p))
def asc (qs : List Rat) : List Rat := qs.foldl ins []
theorem lt_tr {p q r : Rat} (h : p < q) (g : q < r) : p < r := by grind
theorem lt_or {p q : Rat} (h : p ≠ q) : p < q ∨ q < p := by
  rcases Rat.le_total (a := p) (b := q) with z | z
  · exact .inl (Rat.lt_of_le_of_ne z h)
  · exact .inr (Rat.lt_of_le_of_ne z (Ne.symm h))
theorem ins_mem {found : List Rat} {q p : Rat} : p ∈ ins found q ↔ p ∈ found ∨ p = q := by
  unfold ins
  by_cases h : q ∈ found
  · rw [if_pos h]
    constructor
    · exact .inl
    · rintro (z | z)
      · exact z
      · rw [z]; exact h
  · rw [if_neg h]
    simp only [List.mem_append, List.mem_filter, List.mem_singleton, decide_eq_true_eq]
    constructor
    · rintro ((⟨z, _⟩ | z) | ⟨z, _⟩)
      · exact .inl z
      · exact .inr z
      · exact .inl z
    · rintro (z | z)
      · have ne : p ≠ q := fun e => h (e ▸ z)
        rcases lt_or ne with y | y
        · exact .inl (.inl ⟨z, y⟩)
        · exact .inr ⟨z, y⟩
      · exact .inl (.inr z)
theorem ins_sorted {found : List Rat} (hs : found.Pairwise (· < ·)) (q : Rat) : (ins found q).Pairwise (· < ·) := by
  unfold ins
  by_cases h : q ∈ found
  · rw [if_pos h]; exact hs
  · rw [if_neg h, List.append_assoc, List.pairwise_append]
    refine ⟨hs.filter _, ?_, ?_⟩
    · rw [List.singleton_append, List.pairwise_cons]
      exact ⟨fun p hp => by simpa using (List.mem_filter.mp hp).2, hs.filter _⟩
    · intro a ha b hb
      have h1 : a < q := by simpa using (List.mem_filter.mp ha).2
      rcases List.mem_append.mp hb with z | z
      · rw [List.mem_singleton] at z; rw [z]; exact h1
      · have h2 : q < b := by simpa using (List.mem_filter.mp z).2
        exact lt_tr h1 h2
theorem foldl_ins_mem : ∀ (qs found : List Rat) (p : Rat), p ∈ qs.foldl ins found ↔ p ∈ found ∨ p ∈ qs
  | [], found, p => by simp
  | q :: qs, found, p => by
    rw [List.foldl_cons, foldl_ins_mem qs, ins_mem, List.mem_cons]
    constructor
    · rintro ((z | z) | z)
      · exact .inl z
      · exact .inr (.inl z)
      · exact .inr (.inr z)
    · rintro (z | z | z)
      · exact .inl (.inl z)
      · exact .inl (.inr z)
      · exact .inr z
theorem foldl_ins_sorted : ∀ (qs found : List Rat), found.Pairwise (· < ·) → (qs.foldl ins found).Pairwise (· < ·)
  | [], _, h => h
  | q :: qs, found, h => foldl_ins_sorted qs _ (ins_sorted h q)
theorem asc_mem {qs : List Rat} {p : Rat} : p ∈ asc qs ↔ p ∈ qs := by
  unfold asc
  rw [foldl_ins_mem]
  simp
theorem asc_sorted (qs : List Rat) : (asc qs).Pairwise (· < ·) := foldl_ins_sorted qs [] .nil
theorem lt_irr (p : Rat) : ¬ p < p := Rat.lt_irrefl
/-- the same members, both upwards: the same list -/
theorem up_unique : ∀ {l m : List Rat}, l.Pairwise (· < ·) → m.Pairwise (· < ·) → (∀ p, p ∈ l ↔ p ∈ m) → l = m
  | [], [], _, _, _ => rfl
  | [], b :: m, _, _, h => by have := (h b).mpr List.mem_cons_self; cases this
  | a :: l, [], _, _, h => by have := (h a).mp List.mem_cons_self; cases this
  | a :: l, b :: m, h1, h2, h => by
    rw [List.pairwise_cons] at h1 h2
    have e : a = b := by
      rcases List.mem_cons.mp ((h a).mp List.mem_cons_self) with z | z
      · exact z
      · rcases List.mem_cons.mp ((h b).mpr List.mem_cons_self) with y | y
        · exact y.symm
        · exact absurd (lt_tr (h1.1 b y) (h2.1 a z)) (lt_irr a)
    subst e
    congr 1
    refine up_unique h1.2 h2.2 fun p => ?_
    constructor
    · intro hp
      rcases List.mem_cons.mp ((h p).mp (List.mem_cons_of_mem _ hp)) with z | z
      · subst z; exact absurd (h1.1 p hp) (lt_irr p)
      · exact z
    · intro hp
      rcases List.mem_cons.mp ((h p).mpr (List.mem_cons_of_mem _ hp)) with z | z
      · subst z; exact absurd (h2.1 p hp) (lt_irr p)
      · exact z
theorem asc_of {l qs : List Rat} (h : l.Pairwise (· < ·)) (hm : ∀ p, p ∈ l ↔ p ∈ qs) : l = asc qs := up_unique h (asc_sorted qs) fun p => by rw [hm, asc_mem]
end QM
/-! text: QB -/
/-! QB: lists of numbers in other orders, moved, scaled. -/
namespace QM
theorem erase_perm {α : Type} : ∀ {l : List α} {i : Nat} {x : α}, l[i]? = some x → (x :: l.eraseIdx i).Perm l
  | [], i, x, h => by simp at h
  | a :: l, 0, x, h => by
    simp only [List.getElem?_cons_zero, Option.some.injEq] at h
    subst h
    exact .refl _
  | a :: l, i + 1, x, h => by
    simp only [List.getElem?_cons_succ] at h
    rw [List.eraseIdx_cons_succ]
    exact (List.Perm.swap a x _).trans (.cons a (erase_perm h))
theorem perm_sum {l m : List Rat} (h : l.Perm m) : l.sum = m.sum := by
  induction h with
  | nil => rfl
  | cons x _ ih => rw [List.sum_cons, List.sum_cons, ih]
  | swap x y l => simp only [List.sum_cons]; grind
  | trans _ _ a b => rw [a, b]
theorem asc_congr {l m : List Rat} (h : ∀ p, p ∈ l ↔ p ∈ m) : asc l = asc m := asc_of (asc_sorted l) fun p => by rw [asc_mem, h]
theorem asc_add (l : List Rat) (m : Rat) : asc (l.map (· + m)) = (asc l).map (· + m) := by
  refine (asc_of ?_ fun p => ?_).symm
  · rw [List.pairwise_map]
    exact (asc_sorted l).imp fun h => by grind
  · simp only [List.mem_map, asc_mem]
theorem mul_up {a b f : Rat} (hf : 0 < f) (h : a < b) : a * f < b * f := Rat.mul_lt_mul_of_pos_right h hf
theorem mul_dn {a b f : Rat} (hf : f < 0) (h : a < b) : b * f < a * f := by
  have h1 : 0 < -f := by grind
  have h2 := mul_up h1 h
  grind
theorem asc_pos (l : List Rat) {f : Rat} (hf : 0 < f) : asc (l.map (· * f)) = (asc l).map (· * f) := by
  refine (asc_of ?_ fun p => ?_).symm
  · rw [List.pairwise_map]
    exact (asc_sorted l).imp fun h => mul_up hf h
  · simp only [List.mem_map, asc_mem]
theorem asc_neg (l : List Rat) {f : Rat} (hf : f < 0) : asc (l.map (· * f)) = ((asc l).map (· * f)).reverse := by
  refine (asc_of ?_ fun p => ?_).symm
  · rw [List.pairwise_reverse, List.pairwise_map]
    exact (asc_sorted l).imp fun h => mul_dn hf h
  · simp only [List.mem_reverse, List.mem_map, asc_mem]
theorem sum_mul (f : Rat) : ∀ l : List Rat, (l.map (· * f)).sum = l.sum * f
  | [] => by simp
  | a :: l => by
    rw [List.map_cons, List.sum_cons, List.sum_cons, sum_mul f l]
    grind
theorem asc_ne {l : List Rat} (h : l ≠ []) : asc l ≠ [] := by
  intro e
  cases l with
  | nil => exact h rfl
  | cons a l =>
    have : a ∈ asc (a :: l) := asc_mem.mpr List.mem_cons_self
    rw [e] at this
    cases this
/-- the least, the greatest -/
def mn (l : List Rat) : Rat := (asc l).headD 0
def mx (l : List Rat) : Rat := (asc l).getLastD 0
theorem mn_at {l : List Rat} (h : l ≠ []) : (asc l)[0]? = some (mn l) := by
  unfold mn
  cases e : asc l with
  | nil => exact absurd e (asc_ne h)
  | cons a m => rfl
theorem mx_at {l : List Rat} (h : l ≠ []) : (asc l)[(asc l).length - 1]? = some (mx l) := by
  unfold mx
  rw [← List.getLast?_eq_getElem?]
  cases e : asc l with
  | nil => exact absurd e (asc_ne h)
  | cons a m => simp [List.getLastD, List.getLast?]
theorem mn_mem {l : List Rat} (h : l ≠ []) : mn l ∈ l := asc_mem.mp (List.mem_of_getElem? (mn_at h))
theorem mx_mem {l : List Rat} (h : l ≠ []) : mx l ∈ l := asc_mem.mp (List.mem_of_getElem? (mx_at h))
theorem lt_at {l : List Rat} (hs : l.Pairwise (· < ·)) {i j : Nat} {p q : Rat} (hi : l[i]? = some p) (hj : l[j]? = some q) (h : i ≤ j) : p ≤ q := by
  rcases Nat.lt_or_eq_of_le h with z | z
  · obtain ⟨a1, a2⟩ := List.getElem?_eq_some_iff.mp hi
    obtain ⟨b1, b2⟩ := List.getElem?_eq_some_iff.mp hj
    have := List.pairwise_iff_getElem.mp hs i j a1 b1 z
    rw [a2, b2] at this
    exact Rat.le_of_lt this
  · subst z
    rw [hi] at hj
    cases hj
    exact Rat.le_refl
theorem mn_le {l : List Rat} {q : Rat} (h : q ∈ l) : mn l ≤ q := by
  obtain ⟨j, hj⟩ := List.mem_iff_getElem?.mp (asc_mem.mpr h)
  exact lt_at (asc_sorted l) (mn_at (List.ne_nil_of_mem h)) hj (Nat.zero_le _)
theorem le_mx {l : List Rat} {q : Rat} (h : q ∈ l) : q ≤ mx l := by
  obtain ⟨j, hj⟩ := List.mem_iff_getElem?.mp (asc_mem.mpr h)
  have := (List.getElem?_eq_some_iff.mp hj).1
  exact lt_at (asc_sorted l) hj (mx_at (List.ne_nil_of_mem h)) (by omega)
theorem perm_mn {l m : List Rat} (h : l.Perm m) : mn l = mn m := by unfold mn; rw [asc_congr fun p => h.mem_iff]
theorem perm_mx {l m : List Rat} (h : l.Perm m) : mx l = mx m := by unfold mx; rw [asc_congr fun p => h.mem_iff]
theorem sum_append' (l m : List Rat) : (l ++ m).sum = l.sum + m.sum := by
  induction l with
  | nil => simp; grind
  | cons a l ih => rw [List.cons_append, List.sum_cons, List.sum_cons, ih]; grind
theorem sum_cut (l : List Rat) (k : Nat) : (l.drop k).sum + (l.take k).sum = l.sum := by
  conv => rhs; rw [← List.take_append_drop k l, sum_append']
  grind
theorem asc_snoc {l : List Rat} {q : Rat} : asc (l ++ [q]) = ins (asc l) q := by
  unfold asc
  rw [List.foldl_append]
  rfl
theorem sum_snoc {l : List Rat} {q : Rat} : (l ++ [q]).sum = l.sum + q := by rw [sum_append', List.sum_cons, List.sum_nil]; grind
theorem sz_sum {n : Nat} : ∀ {l : List Rat}, (∀ q ∈ l, Sz n q) → Sz (1 + l.length * (n + 1)) l.sum
  | [], _ => by
    rw [List.sum_nil]
    exact Sz.mono (n := 1) ⟨by decide, by decide⟩ (by omega)
  | q :: l, h => by
    have h1 := sz_sum (l := l) fun p hp => h p (List.mem_cons_of_mem _ hp)
    have h2 := sz_add (h q List.mem_cons_self) h1
    rw [List.sum_cons, List.length_cons]
    refine h2.mono ?_
    rw [Nat.add_mul]
    omega
end QM
/-! text: K0 -/

/-! text: K1 -/
namespace DL
open PySem L2 QM
/-! the walker: one step by the syntax that stands there, then on; what it can't close stays -/
local macro_rules | `(tactic| walk_at "ev") => `(tactic| first
  | ((with_reducible show _ = _); first | rfl | assumption)
  | ((with_reducible show EvE _ _ _ _ _ _); first
      | ((with_reducible show EvE _ (.Name _ _) _ _ _ _); first
      | ((with_reducible refine' e_name ?_ ?_ ?_) <;> try walk_at "ev"))
      | ((with_reducible show EvE _ (.Constant _ _ _) _ _ _ _); first
      | (with_reducible exact e_int)
      | (with_reducible exact e_str)
      | (with_reducible exact e_bl)
      | (with_reducible exact e_non))
      | ((with_reducible show EvE _ (.Call _ _ _ _) _ _ _ _); first
      | walk_at "call"
      | ((with_reducible show EvE _ (.Call (.Name "isinstance" _) _ _ _) _ _ _ _); first
      | ((with_reducible refine' e_isInt (by assumption) ?_ ?_ ?_ ?_ ?_) <;> try walk_at "ev")
      | ((with_reducible refine' e_isBool (by assumption) ?_ ?_ ?_ ?_ ?_) <;> try walk_at "ev")
      | ((with_reducible refine' e_isRat (by assumption) ?_ ?_ ?_ ?_ ?_) <;> try walk_at "ev")
      | ((with_reducible refine' e_isStr (by assumption) ?_ ?_ ?_ ?_ ?_) <;> try walk_at "ev")
      | ((with_reducible refine' e_isList (by assumption) ?_ ?_ ?_ ?_ ?_) <;> try walk_at "ev")
      | ((with_reducible refine' e_isTup (by assumption) ?_ ?_ ?_ ?_ ?_) <;> try walk_at "ev")
      | ((with_reducible refine' e_isDict (by assumption) ?_ ?_ ?_ ?_ ?_) <;> try walk_at "ev")
      | ((with_reducible refine' e_isLT (by assumption) ?_ ?_ ?_ ?_ ?_ ?_) <;> try walk_at "ev"))
      | ((with_reducible refine' e_len (nm := "len") (by assumption) ?_ ?_ ?_ ?_) <;> try walk_at "ev")
      | ((with_reducible refine' e_abs (by assumption) ?_ ?_ ?_) <;> try walk_at "ev")
      | ((with_reducible refine' e_intI (by assumption) ?_ ?_ ?_) <;> try walk_at "ev")
      | ((with_reducible refine' e_list (by assumption) ?_ ?_ ?_ ?_) <;> try walk_at "ev")
      | ((with_reducible refine' e_tuple (by assumption) ?_ ?_ ?_ ?_) <;> try walk_at "ev")
      | ((with_reducible refine' e_gcd (by assumption) ?_ ?_ ?_ ?_ ?_) <;> try walk_at "ev")
      | ((with_reducible refine' e_max2 (by assumption) ?_ ?_ ?_ ?_ ?_) <;> try walk_at "ev")
      | ((with_reducible refine' e_min2 (by assumption) ?_ ?_ ?_ ?_ ?_) <;> try walk_at "ev"))
      | ((with_reducible show EvE _ (.BinOp _ _ _ _) _ _ _ _); first
      | ((with_reducible refine' e_bin ?_ ?_ ?_) <;> try walk_at "ev"))
      | ((with_reducible show EvE _ (.Subscript _ _ _) _ _ _ _); first
      | ((with_reducible refine' e_ix ?_ ?_ ?_ ?_ ?_) <;> try walk_at "ev"))
      | ((with_reducible show EvE _ (.Compare _ _ _ _) _ _ _ _); first
      | ((with_reducible refine' e_cmp ?_ ?_ ?_ ?_) <;> try walk_at "ev"))
      | ((with_reducible show EvE _ (.Attribute _ _ _) _ _ _ _); first
      | ((with_reducible refine' e_top (by assumption) ?_ ?_) <;> try walk_at "ev")
      | ((with_reducible refine' e_bottom (by assumption) ?_ ?_) <;> try walk_at "ev"))
      | ((with_reducible show EvE _ (.UnaryOp _ _ _) _ _ _ _); first
      | ((with_reducible refine' e_not ?_) <;> try walk_at "ev")
      | ((with_reducible refine' e_neg ?_) <;> try walk_at "ev"))
      | ((with_reducible show EvE _ (.Tuple _ _ _) _ _ _ _); first
      | ((with_reducible refine' e_tup ?_ ?_) <;> try walk_at "ev"))
      | ((with_reducible show EvE _ (.List _ _) _ _ _ _); first
      | ((with_reducible refine' e_lst ?_ ?_) <;> try walk_at "ev"))
      | ((with_reducible show EvE _ (.BoolOp _ _ _) _ _ _ _); first
      | ((with_reducible refine' e_one ?_) <;> try walk_at "ev")
      | ((with_reducible refine' e_and ?_ (fun _ => ?_)) <;> try walk_at "ev")
      | ((with_reducible refine' e_or ?_ (fun _ => ?_)) <;> try walk_at "ev"))
      | ((with_reducible show EvE _ (.IfExp _ _ _ _) _ _ _ _); first
      | ((with_reducible refine' e_if ?_ ?_ ?_) <;> first | walk_at "ev" | walk_at "way" | skip)))
  | exact Nat.le_of_ble_eq_true (by rfl)
  | ((with_reducible show EvT _ _ _ _ _ _); first
      | ((with_reducible refine' t_cmp ?_ ?_ ?_ ?_) <;> try walk_at "ev")
      | ((with_reducible refine' t_not ?_) <;> try walk_at "ev")
      | ((with_reducible refine' t_of (w_and ?_ (fun _ => ?_))) <;> try walk_at "ev")
      | ((with_reducible refine' t_of (w_or ?_ (fun _ => ?_))) <;> try walk_at "ev")
      | ((with_reducible refine' t_val ?_ ?_) <;> try walk_at "ev"))
  | ((with_reducible show EvA _ _ _ _ _ _); first
      | ((with_reducible refine' a_cons ?_ ?_ ?_) <;> try walk_at "ev")
      | (with_reducible exact a_nil))
  | ((with_reducible show BinR _ _ _ _ _ _); first
      | (with_reducible exact br_add)
      | (with_reducible exact br_sub)
      | ((with_reducible refine' br_mul ?_) <;> try walk_at "sz")
      | walk_at "br")
  | ((with_reducible show CmpR _ _ _ _ _ _); first
      | (with_reducible exact cr_lt)
      | (with_reducible exact cr_le)
      | (with_reducible exact cr_gt)
      | (with_reducible exact cr_ge)
      | (with_reducible exact cr_eqI)
      | (with_reducible exact cr_neI)
      | (with_reducible exact cr_isN)
      | (with_reducible exact cr_isB)
      | (with_reducible exact cr_eqB)
      | (with_reducible exact cr_eqS)
      | walk_at "cr")
  | ((with_reducible show EvW _ _ _ _ _ _); first
      | ((with_reducible refine' w_and1 ?_) <;> try walk_at "ev")
      | ((with_reducible refine' w_or1 ?_) <;> try walk_at "ev")
      | ((with_reducible refine' w_and ?_ (fun _ => ?_)) <;> try walk_at "ev")
      | ((with_reducible refine' w_or ?_ (fun _ => ?_)) <;> try walk_at "ev"))
  | ((with_reducible show EvK _ _ _ _ _ _); first
      | ((with_reducible refine' k_cons ?_ ?_) <;> try walk_at "ev")
      | (with_reducible exact k_nil))
  | ((with_reducible show Tgt _ _ _); first
      | ((with_reducible refine' Tgt.cons ?_ ?_ ?_ ?_) <;> try walk_at "ev")
      | (with_reducible exact Tgt.nil))
  | walk_at "side"
  | (intros; rfl))
local macro_rules | `(tactic| walk_at "side") => `(tactic| fail)
local macro_rules | `(tactic| walk_at "br") => `(tactic| fail)
local macro_rules | `(tactic| walk_at "cr") => `(tactic| fail)
local macro_rules | `(tactic| walk_at "call") => `(tactic| fail)
local macro_rules | `(tactic| walk_at "way") => `(tactic| first | exact fun z => Bool.noConfusion (show false = true from z) | exact fun z => Bool.noConfusion (show true = false from z) | (intro _; walk_at "ev"))
local macro_rules | `(tactic| walk_at "sz") => `(tactic| assumption)

/-! ### is_whole -/
abbrev sis_whole : Stmt := top 7
abbrev Nis_whole : List Str := ["value"]
abbrev Pis_whole : List Str := ["value"]
theorem scis_whole : FnScope Nis_whole Pis_whole (defScope sis_whole) := ⟨rfl, rfl, rfl, by decide +kernel, rfl, by decide +kernel, by decide +kernel⟩
theorem bnis_whole : ∀ (kV doc pm : Value) (an : Option Addr) (cdv ct : Value) (us : List Value), us.length = Pis_whole.length → bindArgs (PySem.W.fnOf "is_whole" "is_whole" (defArgs sis_whole) (defBody sis_whole) (defScope sis_whole) .none kV doc pm an cdv ct) ⟨us, []⟩ = pure (Pis_whole.zip us) := fun _ _ _ _ _ _ us hl => match us, hl with | [_], _ => rfl

inductive FWhole : List D → Store → D → Store → Prop
  | mk {S : Store} {d : D} (h : liveD S d = true) : FWhole [d] S (.bl (d.isInt && !d.isBool)) S
theorem p_whole {B : Bs} (T : Txt B) {f : Addr} {fd : FuncData} (Fn : Fun B.K "is_whole" "is_whole" sis_whole f fd) (hm : B.mg "is_whole" = some (.ref f)) : DefP B "is_whole" sis_whole ["value"] 1 FWhole := by
  refine def_ok Fn scis_whole hm bnis_whole fun args S d S' hl hF => ?_
  cases hF with
  | mk h =>
    refine' ss_one (s_ret ?h ?r)
    case h => walk_at "ev"
    case r => exact ⟨rfl, .inl rfl⟩
local macro_rules | `(tactic| walk_at "call") => `(tactic| ((with_reducible refine' e_call (by assumption : DefP _ "is_whole" _ _ _ _) ?_ ?_ (FWhole.mk ?_) ?_ ?_ ?_) <;> try walk_at "ev"))

/-! ### Ratio -/
abbrev sInit : Stmt := inClass (top 8) 0
theorem scInit : FnScope ["self", "top", "bottom", "part"] ["self", "top", "bottom"] (defScope sInit) := ⟨rfl, rfl, rfl, by decide +kernel, rfl, by decide +kernel, by decide +kernel⟩
theorem log2_mono {a b : Nat} (h : a ≤ b) : a.log2 ≤ b.log2 := by
  by_cases ha : a = 0
  · subst ha; simp
  · rw [Nat.le_log2 (by omega)]
    exact Nat.le_trans (Nat.log2_self_le ha) h
theorem gsg_log {t b : Int} (h : b ≠ 0) (hb : b.natAbs.log2 < 9000) : (gsg t b).natAbs.log2 < 9000 := by
  rw [gsg_abs]
  exact Nat.lt_of_le_of_lt (log2_mono (Nat.gcd_le_right _ (by omega))) hb
def spInit (C : Addr) : Sp := fun vs H Q _ => ∃ p dx t b, vs = [.ref p, .int t, .int b] ∧ H p = some (.ins C dx []) ∧ b ≠ 0 ∧ b.natAbs.log2 < 9000 ∧
  ∀ H', H' p = some (.ins C dx (rf (t.fdiv (gsg t b)) (b.fdiv (gsg t b)))) → (∀ a o, H a = some o → a ≠ p → H' a = some o) → Q .non H'
theorem ss_raw {Y : Ctx} {st : Stmt} {rest : List Stmt} {Γ Γ1 : Gam} {S S1 : Store} (h : EvS Y st Γ S { nx := fun Γ' S' => Γ' = Γ1 ∧ S' = S1, rt := fun _ _ => False }) {X : Cx} (F : Fit X Y) {W : Wd} {σ : St} {H : Hp} {Dn : Ends} (hE : RepE Y.B W Γ σ) (hO : Ok Y.B W S H)
    (k : ∀ W' σ' H', Tr W H W' H' → RepE Y.B W' Γ1 σ' → Ok Y.B W' S1 H' → wpSs X rest Dn σ' H') : wpSs X (st :: rest) Dn σ H := by
  refine wpSs_of (pss_cons ps_wp pss_wp) ?_
  refine h X F W σ H _ hE hO ⟨fun W1 Γ2 S2 σ1 H1 l1 e1 o1 q => ?_, fun _ _ _ _ _ _ _ _ q => q.elim, fun _ _ _ _ _ _ _ _ q => q.elim, fun _ _ _ _ _ _ _ _ q => q.elim⟩
  obtain ⟨z1, z2⟩ := q
  subst z1; subst z2
  exact k W1 σ1 H1 l1 e1 o1
theorem putF_rf (x y : Int) : putF "bottom" (.int y) (putF "top" (.int x) []) = rf x y := by
  show (if ("top" : Str) = "bottom" then _ else (("top" : Str), V.int x) :: putF "bottom" (.int y) []) = _
  rw [if_neg (by decide +kernel)]
  rfl
theorem e_iteI {Y : Ctx} {Γ : Gam} {S : Store} {a b c : Expr} {pos : Pos} {k : Bool} {i j : Int} (h : EvT Y c Γ S k S) (h1 : k = true → EvE Y a Γ S (.int i) S) (h2 : k = false → EvE Y b Γ S (.int j) S) : EvE Y (.IfExp c a b pos) Γ S (.int (if k = true then i else j)) S := by
  refine e_if h (fun e => ?_) (fun e => ?_)
  · rw [if_pos e]; exact h1 e
  · rw [if_neg (by rw [e]; exact Bool.false_ne_true)]; exact h2 e
theorem gsg_dec (t b : Int) : (if decide (0 < b) = true then ((Nat.gcd t.natAbs b.natAbs : Nat) : Int) else -((Nat.gcd t.natAbs b.natAbs : Nat) : Int)) = gsg t b := by
  unfold gsg
  simp
theorem p_init {B : Bs} (T : Txt B) {f : Addr} {fd : FuncData} (Fn : Fun B.K "__init__" "Ratio.__init__" sInit f fd) (PW : DefP B "is_whole" sis_whole ["value"] 1 FWhole) : FnOk B.P B.w B.K B.mg B.base CX0 2 f fd ["self", "top", "bottom"] (spInit B.C) := by
  refine Fn.ok scInit (fun vs H Q E h => ?_) (fun cdv A outer s H vs Q E hr h => ⟨_, pss_wp, ?_⟩)
  · obtain ⟨p, dx, t, b, rfl, _⟩ := h
    rfl
  · obtain ⟨p, dx, t, b, rfl, hp, hb, hz, hQ⟩ := h
    have hFit : Fit (cxOf CX0 B.P B.w B.K B.mg B.base ["self", "top", "bottom", "part"] "Ratio.__init__" (defScope sInit) f cdv A outer s H E).nox ⟨B, ["self", "top", "bottom", "part"], defScope sInit, 1, fun _ => true⟩ :=
      ⟨rfl, rfl, rfl, rfl, rfl, rfl, rfl, rfl, hr, scInit.nd, fun _ _ => rfl, rfl⟩
    have hO : Ok B ⟨fun _ => none, []⟩ [] H := ⟨fun _ _ e => (nomatch e), rfl, fun i c e => by simp at e, fun i j a c c' e => by simp at e, fun a m => by simp at m⟩
    have hE : RepE B ⟨fun _ => none, []⟩ (startG ["self", "top", "bottom", "part"] [.adr p, .int t, .int b]) (L2.start ["self", "top", "bottom", "part"] [.ref p, .int t, .int b]) := start_rep (.cons (by simp only [Rep]) (.cons (by simp only [Rep]) (.cons (by simp only [Rep]) .nil)))
    refine ss_raw (Γ1 := startG ["self", "top", "bottom", "part"] [.adr p, .int t, .int b]) (S1 := []) ?s0 hFit hE hO fun W1 σ1 H1 t1 hE1 hO1 => ?_
    case s0 =>
      refine' s_if ?h ?t (fun _ => ss_nil ⟨rfl, rfl⟩)
      case h => walk_at "ev"
      case t => exact fun z => Bool.noConfusion (show false = true from z)
    refine ss_raw (Γ1 := startG ["self", "top", "bottom", "part"] [.adr p, .int t, .int b]) (S1 := []) ?s1 hFit hE1 hO1 fun W2 σ2 H2 t2 hE2 hO2 => ?_
    case s1 =>
      refine' s_if ?h ?t (fun _ => ss_nil ⟨rfl, rfl⟩)
      case h => walk_at "ev"
      case t => exact fun z => Bool.noConfusion (show false = true from z)
    refine ss_raw (Γ1 := startG ["self", "top", "bottom", "part"] [.adr p, .int t, .int b]) (S1 := []) ?s2 hFit hE2 hO2 fun W3 σ3 H3 t3 hE3 hO3 => ?_
    case s2 =>
      refine' s_if (k := decide (b = 0)) ?h (fun z => absurd (of_decide_eq_true z) hb) (fun _ => ss_nil ⟨rfl, rfl⟩)
      case h => walk_at "ev"
    refine ss_raw (Γ1 := [some (.adr p), some (.int t), some (.int b), some (.int (gsg t b))]) (S1 := []) ?s3 hFit hE3 hO3 fun W4 σ4 H4 t4 hE4 hO4 => ?_
    case s3 =>
      refine s_set (i := 3) rfl rfl rfl (e_is (e_iteI (i := ((Nat.gcd t.natAbs b.natAbs : Nat) : Int)) (j := -((Nat.gcd t.natAbs b.natAbs : Nat) : Int)) ?c (fun _ => ?x) (fun _ => ?y)) (congrArg D.int (gsg_dec t b)) rfl) ⟨rfl, rfl⟩
      case c => walk_at "ev"
      case x => walk_at "ev"
      case y => walk_at "ev"
    -- self.top = top // part
    have tt := (((t1.trans t2).trans t3).trans t4)
    obtain ⟨p4, g4, m4⟩ := tt.fo p _ hp rfl (by simp)
    have hdiv : CDivG t (gsg t b) := ⟨gsg_ne hb, gsg_log hb hz⟩
    have hdiv2 : CDivG b (gsg t b) := ⟨gsg_ne hb, gsg_log hb hz⟩
    refine wpSs_of (pss_cons (ps_fld pe_wp pe_wp rfl) (pss_one (ps_fld pe_wp pe_wp rfl))) ?_
    refine (show EvE ⟨B, ["self", "top", "bottom", "part"], defScope sInit, 1, fun _ => true⟩ _ [some (.adr p), some (.int t), some (.int b), some (.int (gsg t b))] [] (.int (t.fdiv (gsg t b))) [] from ?ev1) _ hFit W4 σ4 H4 hE4 hO4 _ fun W5 v5 H5 t5 o5 r5 => ?_
    case ev1 =>
      refine' e_bin ?_ ?_ (br_fdiv hdiv)
      all_goals try walk_at "ev"
    simp only [Rep] at r5
    subst r5
    refine (show EvE ⟨B, ["self", "top", "bottom", "part"], defScope sInit, 1, fun _ => true⟩ _ [some (.adr p), some (.int t), some (.int b), some (.int (gsg t b))] [] (.adr p) [] from ?ev2) _ hFit W5 σ4 H5 (hE4.mono t5.le) o5 _ fun W6 v6 H6 t6 o6 r6 => ?_
    case ev2 => walk_at "ev"
    simp only [Rep] at r6
    subst r6
    obtain ⟨p6, g6, m6⟩ := (t5.trans t6).fo p _ p4 g4 m4
    refine ⟨p, B.C, dx, [], rfl, p6, T.cl, T.top, (by show 0 < 1000; decide), ?_⟩
    have o7 : Ok B W6 [] (upd H6 p (.ins B.C dx (putF "top" (.int (t.fdiv (gsg t b))) []))) := o6.foreign g6 m6
    -- self.bottom = bottom // part
    refine (show EvE ⟨B, ["self", "top", "bottom", "part"], defScope sInit, 1, fun _ => true⟩ _ [some (.adr p), some (.int t), some (.int b), some (.int (gsg t b))] [] (.int (b.fdiv (gsg t b))) [] from ?ev3) _ hFit W6 σ4 _ (hE4.mono (t5.trans t6).le) o7 _ fun W8 v8 H8 t8 o8 r8 => ?_
    case ev3 =>
      refine' e_bin ?_ ?_ (br_fdiv hdiv2)
      all_goals try walk_at "ev"
    simp only [Rep] at r8
    subst r8
    refine (show EvE ⟨B, ["self", "top", "bottom", "part"], defScope sInit, 1, fun _ => true⟩ _ [some (.adr p), some (.int t), some (.int b), some (.int (gsg t b))] [] (.adr p) [] from ?ev4) _ hFit W8 σ4 H8 (hE4.mono ((t5.trans t6).le.trans t8.le)) o8 _ fun W9 v9 H9 t9 o9 r9 => ?_
    case ev4 => walk_at "ev"
    simp only [Rep] at r9
    subst r9
    obtain ⟨p9, g9, m9⟩ := (t8.trans t9).fo p _ upd_same g6 m6
    refine ⟨p, B.C, dx, _, rfl, p9, T.cl, T.bottom, (by show 1 < 1000; decide), ?_⟩
    refine hQ _ (by rw [upd_same, putF_rf]) fun a o ha hne => ?_
    rw [upd_ne hne]
    obtain ⟨z1, z2, z3⟩ := (tt.trans (t5.trans t6)).fo a o ha rfl (by simp)
    exact ((t8.trans t9).fo a o (by rw [upd_ne hne]; exact z1) z2 z3).1
/-- Ratio(e, f) is made -/
structure RatP (B : Bs) (k : Nat) : Prop where
  ex : ∃ (f : Addr) (fd : FuncData), FnOk B.P B.w B.K B.mg B.base CX0 k f fd ["self", "top", "bottom"] (spInit B.C) ∧ Mk B.K B.C f ∧ Binds B.K fd ["self", "top", "bottom"] []
theorem e_ratio {Y : Ctx} {Γ : Gam} {S S1 S2 : Store} {a b : Expr} {p pos : Pos} {t d : Int} {k : Nat} (T : Txt Y.B) (P : RatP Y.B k) (hk : k + 1 ≤ Y.k) (ha : EvE Y a Γ S (.int t) S1) (hb : EvE Y b Γ S1 (.int d) S2) (h0 : d ≠ 0) (hz : d.natAbs.log2 < 9000)
    (hg : glB Y.sc "Ratio" = true) (hp : plainB a = true) (hp2 : plainB b = true) : EvE Y (.Call (.Name "Ratio" p) [a, b] [] pos) Γ S (.rat (t.fdiv (gsg t d)) (d.fdiv (gsg t d))) S2 := by
  intro X Ft W σ H hE hO Q hQ
  obtain ⟨f, fd, h1, h2, h3⟩ := P.ex
  obtain ⟨g1, g2, g3⟩ := gl_of Ft hg
  refine wpE_of (pe_make (E := E0) (k := k) (C := Y.B.C) (f := f) (fd := fd) (ps := ["self", "top", "bottom"]) (sp := spInit Y.B.C) (CX := CX0) (by rw [Ft.K]; exact h2) (by rw [Ft.prog, Ft.w, Ft.K, Ft.mg, Ft.base]; exact h1) (Ft.room.mono hk) g1 (by rw [Ft.mg]; exact T.ratio) (by rw [Ft.K]; exact h3) .nil pass0 pa_wp g2 (star_plain hp) (star_all (by simp [hp2]))) ?_
  refine a_cons ha (a_cons hb a_nil hp2) hp X Ft W σ H hE hO _ fun W1 vs H1 l1 o1 r1 => ?_
  obtain ⟨v, u, e1, r1, r2⟩ := reps2 r1
  simp only [Rep] at r1 r2
  subst r1; subst r2; subst e1
  intro x dx hx hdx hne
  refine ⟨x, dx, t, d, rfl, upd_same, h0, hz, fun H2 hH2 hk2 => ⟨rfl, ?_⟩⟩
  obtain ⟨q1, q2⟩ := o1.out hx
  have hkeep : ∀ a o, H1 a = some o → H2 a = some o := fun a o e => hk2 a o (by rw [upd_ne (ne_of_none e hx), upd_ne (ne_of_none e hdx)]; exact e) (ne_of_none e hx)
  have o2 : Ok Y.B W1 S2 H2 := ⟨fun a o e => hkeep a o (o1.sub a o e), o1.len, fun i c e => by
    obtain ⟨a, vs, k1, k2, k3, k4⟩ := o1.cell i c e
    exact ⟨a, vs, k1, k2, hkeep _ _ k3, k4⟩, o1.inj, fun a m => by
    obtain ⟨o, e⟩ := o1.dom a m
    exact ⟨o, hkeep a _ e⟩⟩
  obtain ⟨o3, l3⟩ := o2.adopt hH2 q1 q2
  refine hQ _ _ _ (l1.trans ⟨l3, fun a o e e2 e3 => ⟨hkeep a o e, ?_, e3⟩⟩) o3 ?_
  · show upd W1.G x _ a = none
    rw [upd_ne (ne_of_none e hx)]
    exact e2
  · simp only [Rep]
    exact ⟨x, dx, rfl, upd_same⟩
end DL
/-! text: K2 -/
namespace DL
open PySem L2 QM
/-! the walker: one step by the syntax that stands there, then on; what it can't close stays -/
local macro_rules | `(tactic| walk_at "ev") => `(tactic| first
  | ((with_reducible show _ = _); first | rfl | assumption)
  | ((with_reducible show EvE _ _ _ _ _ _); first
      | ((with_reducible show EvE _ (.Name _ _) _ _ _ _); first
      | ((with_reducible refine' e_name ?_ ?_ ?_) <;> try walk_at "ev"))
      | ((with_reducible show EvE _ (.Constant _ _ _) _ _ _ _); first
      | (with_reducible exact e_int)
      | (with_reducible exact e_str)
      | (with_reducible exact e_bl)
      | (with_reducible exact e_non))
      | ((with_reducible show EvE _ (.Call _ _ _ _) _ _ _ _); first
      | walk_at "call"
      | ((with_reducible show EvE _ (.Call (.Name "isinstance" _) _ _ _) _ _ _ _); first
      | ((with_reducible refine' e_isInt (by assumption) ?_ ?_ ?_ ?_ ?_) <;> try walk_at "ev")
      | ((with_reducible refine' e_isBool (by assumption) ?_ ?_ ?_ ?_ ?_) <;> try walk_at "ev")
      | ((with_reducible refine' e_isRat (by assumption) ?_ ?_ ?_ ?_ ?_) <;> try walk_at "ev")
      | ((with_reducible refine' e_isStr (by assumption) ?_ ?_ ?_ ?_ ?_) <;> try walk_at "ev")
      | ((with_reducible refine' e_isList (by assumption) ?_ ?_ ?_ ?_ ?_) <;> try walk_at "ev")
      | ((with_reducible refine' e_isTup (by assumption) ?_ ?_ ?_ ?_ ?_) <;> try walk_at "ev")
      | ((with_reducible refine' e_isDict (by assumption) ?_ ?_ ?_ ?_ ?_) <;> try walk_at "ev")
      | ((with_reducible refine' e_isLT (by assumption) ?_ ?_ ?_ ?_ ?_ ?_) <;> try walk_at "ev"))
      | ((with_reducible refine' e_len (nm := "len") (by assumption) ?_ ?_ ?_ ?_) <;> try walk_at "ev")
      | ((with_reducible refine' e_abs (by assumption) ?_ ?_ ?_) <;> try walk_at "ev")
      | ((with_reducible refine' e_intI (by assumption) ?_ ?_ ?_) <;> try walk_at "ev")
      | ((with_reducible refine' e_list (by assumption) ?_ ?_ ?_ ?_) <;> try walk_at "ev")
      | ((with_reducible refine' e_tuple (by assumption) ?_ ?_ ?_ ?_) <;> try walk_at "ev")
      | ((with_reducible refine' e_gcd (by assumption) ?_ ?_ ?_ ?_ ?_) <;> try walk_at "ev")
      | ((with_reducible refine' e_max2 (by assumption) ?_ ?_ ?_ ?_ ?_) <;> try walk_at "ev")
      | ((with_reducible refine' e_min2 (by assumption) ?_ ?_ ?_ ?_ ?_) <;> try walk_at "ev"))
      | ((with_reducible show EvE _ (.BinOp _ _ _ _) _ _ _ _); first
      | ((with_reducible refine' e_bin ?_ ?_ ?_) <;> try walk_at "ev"))
      | ((with_reducible show EvE _ (.Subscript _ _ _) _ _ _ _); first
      | ((with_reducible refine' e_ix ?_ ?_ ?_ ?_ ?_) <;> try walk_at "ev"))
      | ((with_reducible show EvE _ (.Compare _ _ _ _) _ _ _ _); first
      | ((with_reducible refine' e_cmp ?_ ?_ ?_ ?_) <;> try walk_at "ev"))
      | ((with_reducible show EvE _ (.Attribute _ _ _) _ _ _ _); first
      | ((with_reducible refine' e_top (by assumption) ?_ ?_) <;> try walk_at "ev")
      | ((with_reducible refine' e_bottom (by assumption) ?_ ?_) <;> try walk_at "ev"))
      | ((with_reducible show EvE _ (.UnaryOp _ _ _) _ _ _ _); first
      | ((with_reducible refine' e_not ?_) <;> try walk_at "ev")
      | ((with_reducible refine' e_neg ?_) <;> try walk_at "ev"))
      | ((with_reducible show EvE _ (.Tuple _ _ _) _ _ _ _); first
      | ((with_reducible refine' e_tup ?_ ?_) <;> try walk_at "ev"))
      | ((with_reducible show EvE _ (.List _ _) _ _ _ _); first
      | ((with_reducible refine' e_lst ?_ ?_) <;> try walk_at "ev"))
      | ((with_reducible show EvE _ (.BoolOp _ _ _) _ _ _ _); first
      | ((with_reducible refine' e_one ?_) <;> try walk_at "ev")
      | ((with_reducible refine' e_and ?_ (fun _ => ?_)) <;> try walk_at "ev")
      | ((with_reducible refine' e_or ?_ (fun _ => ?_)) <;> try walk_at "ev"))
      | ((with_reducible show EvE _ (.IfExp _ _ _ _) _ _ _ _); first
      | ((with_reducible refine' e_if ?_ ?_ ?_) <;> first | walk_at "ev" | walk_at "way" | skip)))
  | exact Nat.le_of_ble_eq_true (by rfl)
  | ((with_reducible show EvT _ _ _ _ _ _); first
      | ((with_reducible refine' t_cmp ?_ ?_ ?_ ?_) <;> try walk_at "ev")
      | ((with_reducible refine' t_not ?_) <;> try walk_at "ev")
      | ((with_reducible refine' t_of (w_and ?_ (fun _ => ?_))) <;> try walk_at "ev")
      | ((with_reducible refine' t_of (w_or ?_ (fun _ => ?_))) <;> try walk_at "ev")
      | ((with_reducible refine' t_val ?_ ?_) <;> try walk_at "ev"))
  | ((with_reducible show EvA _ _ _ _ _ _); first
      | ((with_reducible refine' a_cons ?_ ?_ ?_) <;> try walk_at "ev")
      | (with_reducible exact a_nil))
  | ((with_reducible show BinR _ _ _ _ _ _); first
      | (with_reducible exact br_add)
      | (with_reducible exact br_sub)
      | ((with_reducible refine' br_mul ?_) <;> try walk_at "sz")
      | walk_at "br")
  | ((with_reducible show CmpR _ _ _ _ _ _); first
      | (with_reducible exact cr_lt)
      | (with_reducible exact cr_le)
      | (with_reducible exact cr_gt)
      | (with_reducible exact cr_ge)
      | (with_reducible exact cr_eqI)
      | (with_reducible exact cr_neI)
      | (with_reducible exact cr_isN)
      | (with_reducible exact cr_isB)
      | (with_reducible exact cr_eqB)
      | (with_reducible exact cr_eqS)
      | walk_at "cr")
  | ((with_reducible show EvW _ _ _ _ _ _); first
      | ((with_reducible refine' w_and1 ?_) <;> try walk_at "ev")
      | ((with_reducible refine' w_or1 ?_) <;> try walk_at "ev")
      | ((with_reducible refine' w_and ?_ (fun _ => ?_)) <;> try walk_at "ev")
      | ((with_reducible refine' w_or ?_ (fun _ => ?_)) <;> try walk_at "ev"))
  | ((with_reducible show EvK _ _ _ _ _ _); first
      | ((with_reducible refine' k_cons ?_ ?_) <;> try walk_at "ev")
      | (with_reducible exact k_nil))
  | ((with_reducible show Tgt _ _ _); first
      | ((with_reducible refine' Tgt.cons ?_ ?_ ?_ ?_) <;> try walk_at "ev")
      | (with_reducible exact Tgt.nil))
  | walk_at "side"
  | (intros; rfl))
local macro_rules | `(tactic| walk_at "side") => `(tactic| fail)
local macro_rules | `(tactic| walk_at "br") => `(tactic| fail)
local macro_rules | `(tactic| walk_at "cr") => `(tactic| fail)
local macro_rules | `(tactic| walk_at "call") => `(tactic| fail)
local macro_rules | `(tactic| walk_at "way") => `(tactic| first | exact fun z => Bool.noConfusion (show false = true from z) | exact fun z => Bool.noConfusion (show true = false from z) | (intro _; walk_at "ev"))
local macro_rules | `(tactic| walk_at "sz") => `(tactic| assumption)

/-! ### numbers as data -/
inductive IsN : D → Rat → Prop
  | int (i : Int) : IsN (.int i) (i : Rat)
  | rat (q : Rat) : IsN (.rat q.num (q.den : Int)) q
/-- a told number -/
def enc (q : Rat) : D := if q.den = 1 then .int q.num else .rat q.num (q.den : Int)
theorem isN_enc (q : Rat) : IsN (enc q) q := by
  unfold enc
  split
  · rename_i h
    have e : ((q.num : Rat)) = q := Rat.ext (Rat.num_intCast _) (by rw [Rat.den_intCast, h])
    conv => rhs; rw [← e]
    exact .int _
  · exact .rat q
theorem enc_int (i : Int) : enc (i : Rat) = .int i := by
  unfold enc
  rw [if_pos (Rat.den_intCast i), Rat.num_intCast]
theorem IsN.live {d : D} {q : Rat} (h : IsN d q) (S : Store) : liveD S d = true := by cases h <;> rfl
theorem lg {a : Int} {n : Nat} (h : a.natAbs < 2 ^ n) (h0 : 0 < n) (h9 : n ≤ 9000) : a.natAbs.log2 < 9000 := Nat.lt_of_lt_of_le (PySem.Flt.log2_lt_of h0 h) h9
theorem lgd {q : Rat} {n : Nat} (h : Sz n q) (h0 : 0 < n) (h9 : n ≤ 9000) : ((q.den : Int)).natAbs.log2 < 9000 := lg (nat_lt h.2) h0 h9
theorem mulW {i j : Int} {a b : Nat} (h1 : i.natAbs < 2 ^ a) (h2 : j.natAbs < 2 ^ b) (ha : 0 < a) (hb : 0 < b) (h : a + b ≤ 1000000) : CMulW i j := wide_mul h1 h2 ha hb h
local macro_rules | `(tactic| walk_at "call") => `(tactic| ((with_reducible refine' e_call (by assumption : DefP _ "is_whole" _ _ _ _) ?_ ?_ (FWhole.mk ?_) ?_ ?_ ?_) <;> try walk_at "ev"))
local macro_rules | `(tactic| walk_at "side") => `(tactic| ((with_reducible show IsN _ _); first | assumption | exact isN_enc _ | exact IsN.int _))
local macro_rules | `(tactic| walk_at "side") => `(tactic| ((with_reducible show _ ≠ _); assumption))
local macro_rules | `(tactic| walk_at "side") => `(tactic| ((with_reducible show (_ : Nat) < _); assumption))
local macro_rules | `(tactic| walk_at "side") => `(tactic| ((with_reducible show Sz _ _); assumption))

/-! ### pair_of -/
abbrev spair_of : Stmt := top 10
abbrev Npair_of : List Str := ["number"]
abbrev Ppair_of : List Str := ["number"]
theorem scpair_of : FnScope Npair_of Ppair_of (defScope spair_of) := ⟨rfl, rfl, rfl, by decide +kernel, rfl, by decide +kernel, by decide +kernel⟩
theorem bnpair_of : ∀ (kV doc pm : Value) (an : Option Addr) (cdv ct : Value) (us : List Value), us.length = Ppair_of.length → bindArgs (PySem.W.fnOf "pair_of" "pair_of" (defArgs spair_of) (defBody spair_of) (defScope spair_of) .none kV doc pm an cdv ct) ⟨us, []⟩ = pure (Ppair_of.zip us) := fun _ _ _ _ _ _ us hl => match us, hl with | [_], _ => rfl

inductive Fpair_of : List D → Store → D → Store → Prop
  | mk {S : Store} {d : D} {q : Rat} (h : IsN d q) : Fpair_of [d] S (.tup [.int q.num, .int (q.den : Int)]) S
theorem p_pair_of {B : Bs} (T : Txt B) {f : Addr} {fd : FuncData} (Fn : Fun B.K "pair_of" "pair_of" spair_of f fd) (hm : B.mg "pair_of" = some (.ref f)) : DefP B "pair_of" spair_of Ppair_of 1 Fpair_of := by
  refine def_ok Fn scpair_of hm bnpair_of fun args S d S' hl hF => ?_
  cases hF with
  | mk h =>
    cases h with
    | int i =>
      refine' ss_one (s_ret ?h ?r)
      case h => walk_at "ev"
      case r => exact ⟨by rw [Rat.num_intCast, Rat.den_intCast]; rfl, .inl rfl⟩
    | rat q =>
      refine' ss_one (s_ret ?h ?r)
      case h => walk_at "ev"
      case r => exact ⟨rfl, .inl rfl⟩
local macro_rules | `(tactic| walk_at "call") => `(tactic| ((with_reducible refine' e_call (by assumption : DefP _ "pair_of" _ _ _ _) ?_ ?_ (Fpair_of.mk ?_) ?_ ?_ ?_) <;> try walk_at "ev"))

/-! ### quotient -/
abbrev squotient : Stmt := top 11
abbrev Nquotient : List Str := ["top", "bottom", "part"]
abbrev Pquotient : List Str := ["top", "bottom"]
theorem scquotient : FnScope Nquotient Pquotient (defScope squotient) := ⟨rfl, rfl, rfl, by decide +kernel, rfl, by decide +kernel, by decide +kernel⟩
theorem bnquotient : ∀ (kV doc pm : Value) (an : Option Addr) (cdv ct : Value) (us : List Value), us.length = Pquotient.length → bindArgs (PySem.W.fnOf "quotient" "quotient" (defArgs squotient) (defBody squotient) (defScope squotient) .none kV doc pm an cdv ct) ⟨us, []⟩ = pure (Pquotient.zip us) := fun _ _ _ _ _ _ us hl => match us, hl with | [_, _], _ => rfl

inductive Fquotient : List D → Store → D → Store → Prop
  | mk {S : Store} {t b : Int} (h : b ≠ 0) (hz : b.natAbs.log2 < 9000) : Fquotient [.int t, .int b] S (enc (Rat.divInt t b)) S
theorem p_quotient {B : Bs} (T : Txt B) (R : RatP B 2) {f : Addr} {fd : FuncData} (Fn : Fun B.K "quotient" "quotient" squotient f fd) (hm : B.mg "quotient" = some (.ref f)) : DefP B "quotient" squotient Pquotient 4 Fquotient := by
  refine def_ok Fn scquotient hm bnquotient fun args S d S' hl hF => ?_
  cases hF with
  | @mk _ t b h hz =>
    refine ss_cons (s_set (i := 2) rfl rfl rfl (e_is (e_iteI (i := ((Nat.gcd t.natAbs b.natAbs : Nat) : Int)) (j := -((Nat.gcd t.natAbs b.natAbs : Nat) : Int)) ?c (fun _ => ?x) (fun _ => ?y)) (congrArg D.int (gsg_dec t b)) rfl) ?n)
    case c => walk_at "ev"
    case x => walk_at "ev"
    case y => walk_at "ev"
    case n =>
      have hd : CDivG t (gsg t b) := ⟨gsg_ne h, gsg_log h hz⟩
      refine ss_one (s_ret (d := enc (Rat.divInt t b)) (S1 := S) (e_if (k := decide (b = gsg t b)) (S1 := S) ?c2 (fun hk => e_is (d := .int (t.fdiv (gsg t b))) (S1 := S) ?x2 ?q2 rfl) (fun hk => e_is (d := .rat (t.fdiv (gsg t b)) (b.fdiv (gsg t b))) (S1 := S) ?x3 ?q3 rfl)) ⟨rfl, .inl rfl⟩)
      case c2 => walk_at "ev"
      case x2 =>
        refine' e_bin ?_ ?_ (br_fdiv hd)
        all_goals try walk_at "ev"
      case x3 =>
        refine' e_ratio T R ?_ ?_ ?_ h hz ?_ ?_ ?_
        all_goals try walk_at "ev"
      case q2 =>
        unfold enc
        rw [if_pos ((whole_iff h).mp (of_decide_eq_true hk)), num_eq h]
      case q3 =>
        unfold enc
        rw [if_neg (fun z => of_decide_eq_false hk ((whole_iff h).mpr z)), num_eq h, den_eq h]
local macro_rules | `(tactic| walk_at "call") => `(tactic| ((with_reducible refine' e_call (by assumption : DefP _ "quotient" _ _ _ _) ?_ ?_ (Fquotient.mk ?_ ?_) ?_ ?_ ?_) <;> try walk_at "ev"))

/-! ### plain -/
abbrev splain : Stmt := top 12
abbrev Nplain : List Str := ["number"]
abbrev Pplain : List Str := ["number"]
theorem scplain : FnScope Nplain Pplain (defScope splain) := ⟨rfl, rfl, rfl, by decide +kernel, rfl, by decide +kernel, by decide +kernel⟩
theorem bnplain : ∀ (kV doc pm : Value) (an : Option Addr) (cdv ct : Value) (us : List Value), us.length = Pplain.length → bindArgs (PySem.W.fnOf "plain" "plain" (defArgs splain) (defBody splain) (defScope splain) .none kV doc pm an cdv ct) ⟨us, []⟩ = pure (Pplain.zip us) := fun _ _ _ _ _ _ us hl => match us, hl with | [_], _ => rfl

inductive Fplain : List D → Store → D → Store → Prop
  | mk {S : Store} {d : D} {q : Rat} (h : IsN d q) (hz : Sz 8000 q) : Fplain [d] S (enc q) S
theorem p_plain {B : Bs} (T : Txt B) (P : DefP B "quotient" squotient Pquotient 4 Fquotient) {f : Addr} {fd : FuncData} (Fn : Fun B.K "plain" "plain" splain f fd) (hm : B.mg "plain" = some (.ref f)) : DefP B "plain" splain Pplain 5 Fplain := by
  refine def_ok Fn scplain hm bnplain fun args S d S' hl hF => ?_
  cases hF with
  | @mk _ d q h hz =>
    cases h with
    | int i =>
      refine' ss_one (s_ret ?h ?r)
      case h => walk_at "ev"
      case r => exact ⟨(enc_int i).symm, .inl rfl⟩
    | rat =>
      have h0 := den_ne q
      have hl := lgd hz (by decide) (by decide)
      refine' ss_one (s_ret ?h ?r)
      case h => walk_at "ev"
      case r => exact ⟨by rw [Rat.num_divInt_den], .inl rfl⟩
local macro_rules | `(tactic| walk_at "call") => `(tactic| ((with_reducible refine' e_call (by assumption : DefP _ "plain" _ _ _ _) ?_ ?_ (Fplain.mk ?_ ?_) ?_ ?_ ?_) <;> try walk_at "ev"))
end DL
/-! text: K3 -/
namespace DL
open PySem L2 QM
/-! the walker: one step by the syntax that stands there, then on; what it can't close stays -/
local macro_rules | `(tactic| walk_at "ev") => `(tactic| first
  | ((with_reducible show _ = _); first | rfl | assumption)
  | ((with_reducible show EvE _ _ _ _ _ _); first
      | ((with_reducible show EvE _ (.Name _ _) _ _ _ _); first
      | ((with_reducible refine' e_name ?_ ?_ ?_) <;> try walk_at "ev"))
      | ((with_reducible show EvE _ (.Constant _ _ _) _ _ _ _); first
      | (with_reducible exact e_int)
      | (with_reducible exact e_str)
      | (with_reducible exact e_bl)
      | (with_reducible exact e_non))
      | ((with_reducible show EvE _ (.Call _ _ _ _) _ _ _ _); first
      | walk_at "call"
      | ((with_reducible show EvE _ (.Call (.Name "isinstance" _) _ _ _) _ _ _ _); first
      | ((with_reducible refine' e_isInt (by assumption) ?_ ?_ ?_ ?_ ?_) <;> try walk_at "ev")
      | ((with_reducible refine' e_isBool (by assumption) ?_ ?_ ?_ ?_ ?_) <;> try walk_at "ev")
      | ((with_reducible refine' e_isRat (by assumption) ?_ ?_ ?_ ?_ ?_) <;> try walk_at "ev")
      | ((with_reducible refine' e_isStr (by assumption) ?_ ?_ ?_ ?_ ?_) <;> try walk_at "ev")
      | ((with_reducible refine' e_isList (by assumption) ?_ ?_ ?_ ?_ ?_) <;> try walk_at "ev")
      | ((with_reducible refine' e_isTup (by assumption) ?_ ?_ ?_ ?_ ?_) <;> try walk_at "ev")
      | ((with_reducible refine' e_isDict (by assumption) ?_ ?_ ?_ ?_ ?_) <;> try walk_at "ev")
      | ((with_reducible refine' e_isLT (by assumption) ?_ ?_ ?_ ?_ ?_ ?_) <;> try walk_at "ev"))
      | ((with_reducible refine' e_len (nm := "len") (by assumption) ?_ ?_ ?_ ?_) <;> try walk_at "ev")
      | ((with_reducible refine' e_abs (by assumption) ?_ ?_ ?_) <;> try walk_at "ev")
      | ((with_reducible refine' e_intI (by assumption) ?_ ?_ ?_) <;> try walk_at "ev")
      | ((with_reducible refine' e_list (by assumption) ?_ ?_ ?_ ?_) <;> try walk_at "ev")
      | ((with_reducible refine' e_tuple (by assumption) ?_ ?_ ?_ ?_) <;> try walk_at "ev")
      | ((with_reducible refine' e_gcd (by assumption) ?_ ?_ ?_ ?_ ?_) <;> try walk_at "ev")
      | ((with_reducible refine' e_max2 (by assumption) ?_ ?_ ?_ ?_ ?_) <;> try walk_at "ev")
      | ((with_reducible refine' e_min2 (by assumption) ?_ ?_ ?_ ?_ ?_) <;> try walk_at "ev"))
      | ((with_reducible show EvE _ (.BinOp _ _ _ _) _ _ _ _); first
      | ((with_reducible refine' e_bin ?_ ?_ ?_) <;> try walk_at "ev"))
      | ((with_reducible show EvE _ (.Subscript _ _ _) _ _ _ _); first
      | ((with_reducible refine' e_ix ?_ ?_ ?_ ?_ ?_) <;> try walk_at "ev"))
      | ((with_reducible show EvE _ (.Compare _ _ _ _) _ _ _ _); first
      | ((with_reducible refine' e_cmp ?_ ?_ ?_ ?_) <;> try walk_at "ev"))
      | ((with_reducible show EvE _ (.Attribute _ _ _) _ _ _ _); first
      | ((with_reducible refine' e_top (by assumption) ?_ ?_) <;> try walk_at "ev")
      | ((with_reducible refine' e_bottom (by assumption) ?_ ?_) <;> try walk_at "ev"))
      | ((with_reducible show EvE _ (.UnaryOp _ _ _) _ _ _ _); first
      | ((with_reducible refine' e_not ?_) <;> try walk_at "ev")
      | ((with_reducible refine' e_neg ?_) <;> try walk_at "ev"))
      | ((with_reducible show EvE _ (.Tuple _ _ _) _ _ _ _); first
      | ((with_reducible refine' e_tup ?_ ?_) <;> try walk_at "ev"))
      | ((with_reducible show EvE _ (.List _ _) _ _ _ _); first
      | ((with_reducible refine' e_lst ?_ ?_) <;> try walk_at "ev"))
      | ((with_reducible show EvE _ (.BoolOp _ _ _) _ _ _ _); first
      | ((with_reducible refine' e_one ?_) <;> try walk_at "ev")
      | ((with_reducible refine' e_and ?_ (fun _ => ?_)) <;> try walk_at "ev")
      | ((with_reducible refine' e_or ?_ (fun _ => ?_)) <;> try walk_at "ev"))
      | ((with_reducible show EvE _ (.IfExp _ _ _ _) _ _ _ _); first
      | ((with_reducible refine' e_if ?_ ?_ ?_) <;> first | walk_at "ev" | walk_at "way" | skip)))
  | exact Nat.le_of_ble_eq_true (by rfl)
  | ((with_reducible show EvT _ _ _ _ _ _); first
      | ((with_reducible refine' t_cmp ?_ ?_ ?_ ?_) <;> try walk_at "ev")
      | ((with_reducible refine' t_not ?_) <;> try walk_at "ev")
      | ((with_reducible refine' t_of (w_and ?_ (fun _ => ?_))) <;> try walk_at "ev")
      | ((with_reducible refine' t_of (w_or ?_ (fun _ => ?_))) <;> try walk_at "ev")
      | ((with_reducible refine' t_val ?_ ?_) <;> try walk_at "ev"))
  | ((with_reducible show EvA _ _ _ _ _ _); first
      | ((with_reducible refine' a_cons ?_ ?_ ?_) <;> try walk_at "ev")
      | (with_reducible exact a_nil))
  | ((with_reducible show BinR _ _ _ _ _ _); first
      | (with_reducible exact br_add)
      | (with_reducible exact br_sub)
      | ((with_reducible refine' br_mul ?_) <;> try walk_at "sz")
      | walk_at "br")
  | ((with_reducible show CmpR _ _ _ _ _ _); first
      | (with_reducible exact cr_lt)
      | (with_reducible exact cr_le)
      | (with_reducible exact cr_gt)
      | (with_reducible exact cr_ge)
      | (with_reducible exact cr_eqI)
      | (with_reducible exact cr_neI)
      | (with_reducible exact cr_isN)
      | (with_reducible exact cr_isB)
      | (with_reducible exact cr_eqB)
      | (with_reducible exact cr_eqS)
      | walk_at "cr")
  | ((with_reducible show EvW _ _ _ _ _ _); first
      | ((with_reducible refine' w_and1 ?_) <;> try walk_at "ev")
      | ((with_reducible refine' w_or1 ?_) <;> try walk_at "ev")
      | ((with_reducible refine' w_and ?_ (fun _ => ?_)) <;> try walk_at "ev")
      | ((with_reducible refine' w_or ?_ (fun _ => ?_)) <;> try walk_at "ev"))
  | ((with_reducible show EvK _ _ _ _ _ _); first
      | ((with_reducible refine' k_cons ?_ ?_) <;> try walk_at "ev")
      | (with_reducible exact k_nil))
  | ((with_reducible show Tgt _ _ _); first
      | ((with_reducible refine' Tgt.cons ?_ ?_ ?_ ?_) <;> try walk_at "ev")
      | (with_reducible exact Tgt.nil))
  | walk_at "side"
  | (intros; rfl))
local macro_rules | `(tactic| walk_at "side") => `(tactic| fail)
local macro_rules | `(tactic| walk_at "br") => `(tactic| fail)
local macro_rules | `(tactic| walk_at "cr") => `(tactic| fail)
local macro_rules | `(tactic| walk_at "call") => `(tactic| fail)
local macro_rules | `(tactic| walk_at "way") => `(tactic| first | exact fun z => Bool.noConfusion (show false = true from z) | exact fun z => Bool.noConfusion (show true = false from z) | (intro _; walk_at "ev"))
local macro_rules | `(tactic| walk_at "sz") => `(tactic| assumption)

local macro_rules | `(tactic| walk_at "side") => `(tactic| ((with_reducible show IsN _ _); first | assumption | exact isN_enc _ | exact IsN.int _))
local macro_rules | `(tactic| walk_at "side") => `(tactic| ((with_reducible show _ ≠ _); assumption))
local macro_rules | `(tactic| walk_at "side") => `(tactic| ((with_reducible show (_ : Nat) < _); assumption))
local macro_rules | `(tactic| walk_at "side") => `(tactic| ((with_reducible show Sz _ _); assumption))
local macro_rules | `(tactic| walk_at "call") => `(tactic| ((with_reducible refine' e_call (by assumption : DefP _ "pair_of" _ _ _ _) ?_ ?_ (Fpair_of.mk ?_) ?_ ?_ ?_) <;> try walk_at "ev"))
local macro_rules | `(tactic| walk_at "call") => `(tactic| ((with_reducible refine' e_call (by assumption : DefP _ "quotient" _ _ _ _) ?_ ?_ (Fquotient.mk ?_ ?_) ?_ ?_ ?_) <;> try walk_at "ev"))
/-! ### add -/
abbrev sadd : Stmt := top 13
abbrev Nadd : List Str := ["one", "other", "top", "bottom", "more", "below"]
abbrev Padd : List Str := ["one", "other"]
theorem scadd : FnScope Nadd Padd (defScope sadd) := ⟨rfl, rfl, rfl, by decide +kernel, rfl, by decide +kernel, by decide +kernel⟩
theorem bnadd : ∀ (kV doc pm : Value) (an : Option Addr) (cdv ct : Value) (us : List Value), us.length = Padd.length → bindArgs (PySem.W.fnOf "add" "add" (defArgs sadd) (defBody sadd) (defScope sadd) .none kV doc pm an cdv ct) ⟨us, []⟩ = pure (Padd.zip us) := fun _ _ _ _ _ _ us hl => match us, hl with | [_, _], _ => rfl

inductive Fadd : List D → Store → D → Store → Prop
  | mk {S : Store} {x y : D} {p q : Rat} (h : IsN x p) (g : IsN y q) (hp : Sz 4000 p) (hq : Sz 4000 q) : Fadd [x, y] S (enc (p + q)) S
theorem mulSz {i j : Int} (h1 : i.natAbs < 2 ^ 4000) (h2 : j.natAbs < 2 ^ 4000) : CMulW i j := mulW h1 h2 (by decide) (by decide) (by decide)
theorem logSz {i j : Int} (h1 : i.natAbs < 2 ^ 4000) (h2 : j.natAbs < 2 ^ 4000) : (i * j).natAbs.log2 < 9000 := lg (mul_lt h1 h2) (by decide) (by decide)
theorem p_add {B : Bs} (T : Txt B) (P1 : DefP B "pair_of" spair_of Ppair_of 1 Fpair_of) (P : DefP B "quotient" squotient Pquotient 4 Fquotient) {f : Addr} {fd : FuncData} (Fn : Fun B.K "add" "add" sadd f fd) (hm : B.mg "add" = some (.ref f)) : DefP B "add" sadd Padd 5 Fadd := by
  refine def_ok Fn scadd hm bnadd fun args S d S' hl hF => ?_
  cases hF with
  | @mk _ x y p q h g hp hq =>
    have l1 := h.live S
    have l2 := g.live S
    have m1 : CMulW p.num q.den := mulSz hp.1 (nat_lt hq.2)
    have m2 : CMulW q.num p.den := mulSz hq.1 (nat_lt hp.2)
    have m3 : CMulW p.den q.den := mulSz (nat_lt hp.2) (nat_lt hq.2)
    have n1 : (p.den : Int) * q.den ≠ 0 := Int.mul_ne_zero (den_ne p) (den_ne q)
    have n2 : ((p.den : Int) * q.den).natAbs.log2 < 9000 := logSz (nat_lt hp.2) (nat_lt hq.2)
    refine' ss_cons (s_if ?c (fun hk => ?t) (fun hk => ss_nil ?n))
    case c => walk_at "ev"
    case t =>
      cases h with
      | rat => cases hk
      | int i =>
        cases g with
        | rat => cases hk
        | int j =>
          refine' ss_one (s_ret ?h ?r)
          case h => walk_at "ev"
          case r => exact ⟨by rw [← Rat.intCast_add, enc_int], .inl rfl⟩
    case n =>
      refine' ss_cons (s_unp ?t1 ?h1 ?q1 ?n1)
      case t1 => walk_at "ev"
      case h1 => walk_at "ev"
      case q1 => rfl
      refine' ss_cons (s_unp ?t2 ?h2 ?q2 ?n2)
      case t2 => walk_at "ev"
      case h2 => walk_at "ev"
      case q2 => rfl
      refine' ss_one (s_ret ?h3 ?r)
      case h3 => walk_at "ev"
      case r => exact ⟨by rw [add_div], .inl rfl⟩
local macro_rules | `(tactic| walk_at "call") => `(tactic| ((with_reducible refine' e_call (by assumption : DefP _ "add" _ _ _ _) ?_ ?_ (Fadd.mk ?_ ?_ ?_ ?_) ?_ ?_ ?_) <;> try walk_at "ev"))
/-! ### negative -/
abbrev snegative : Stmt := top 14
abbrev Nnegative : List Str := ["number"]
abbrev Pnegative : List Str := ["number"]
theorem scnegative : FnScope Nnegative Pnegative (defScope snegative) := ⟨rfl, rfl, rfl, by decide +kernel, rfl, by decide +kernel, by decide +kernel⟩
theorem bnnegative : ∀ (kV doc pm : Value) (an : Option Addr) (cdv ct : Value) (us : List Value), us.length = Pnegative.length → bindArgs (PySem.W.fnOf "negative" "negative" (defArgs snegative) (defBody snegative) (defScope snegative) .none kV doc pm an cdv ct) ⟨us, []⟩ = pure (Pnegative.zip us) := fun _ _ _ _ _ _ us hl => match us, hl with | [_], _ => rfl

inductive Fnegative : List D → Store → D → Store → Prop
  | int {S : Store} (i : Int) : Fnegative [.int i] S (.int (-i)) S
  | rat {S : Store} (q : Rat) (hz : Sz 8000 q) : Fnegative [.rat q.num (q.den : Int)] S (.rat (-q).num ((-q).den : Int)) S
theorem Fnegative.of {S : Store} {x : D} {q : Rat} (h : IsN x q) (hz : Sz 8000 q) : ∃ y, Fnegative [x] S y S ∧ IsN y (-q) := by
  cases h with
  | int i => exact ⟨_, .int i, by rw [← Rat.intCast_neg]; exact .int _⟩
  | rat => exact ⟨_, .rat q hz, .rat _⟩
theorem p_negative {B : Bs} (T : Txt B) (R : RatP B 2) {f : Addr} {fd : FuncData} (Fn : Fun B.K "negative" "negative" snegative f fd) (hm : B.mg "negative" = some (.ref f)) : DefP B "negative" snegative Pnegative 4 Fnegative := by
  refine def_ok Fn scnegative hm bnnegative fun args S d S' hl hF => ?_
  cases hF with
  | int i =>
    refine' ss_one (s_ret ?h ?r)
    case h => walk_at "ev"
    case r => exact ⟨rfl, .inl rfl⟩
  | rat q hz =>
    have h0 := den_ne q
    have hl := lgd hz (by decide) (by decide)
    refine' ss_one (s_ret (d := .rat ((-q.num).fdiv (gsg (-q.num) q.den)) ((q.den : Int).fdiv (gsg (-q.num) q.den))) (S1 := S) (e_if (S1 := S) ?c ?h ?dead) ?r)
    case c => walk_at "ev"
    case dead => walk_at "way"
    case h =>
      intro _
      refine' e_ratio T R ?_ ?_ ?_ h0 hl ?_ ?_ ?_
      all_goals try walk_at "ev"
    case r => exact ⟨by rw [num_eq h0, den_eq h0, ← neg_div], .inl rfl⟩
/-! ### less -/
abbrev sless : Stmt := top 15
abbrev Nless : List Str := ["one", "other"]
abbrev Pless : List Str := ["one", "other"]
theorem scless : FnScope Nless Pless (defScope sless) := ⟨rfl, rfl, rfl, by decide +kernel, rfl, by decide +kernel, by decide +kernel⟩
theorem bnless : ∀ (kV doc pm : Value) (an : Option Addr) (cdv ct : Value) (us : List Value), us.length = Pless.length → bindArgs (PySem.W.fnOf "less" "less" (defArgs sless) (defBody sless) (defScope sless) .none kV doc pm an cdv ct) ⟨us, []⟩ = pure (Pless.zip us) := fun _ _ _ _ _ _ us hl => match us, hl with | [_, _], _ => rfl

inductive Fless : List D → Store → D → Store → Prop
  | mk {S : Store} {x y : D} {p q : Rat} (h : IsN x p) (g : IsN y q) (hp : Sz 4000 p) (hq : Sz 4000 q) : Fless [x, y] S (enc (p - q)) S
theorem p_less {B : Bs} (T : Txt B) (P1 : DefP B "add" sadd Padd 5 Fadd) (P2 : DefP B "negative" snegative Pnegative 4 Fnegative) {f : Addr} {fd : FuncData} (Fn : Fun B.K "less" "less" sless f fd) (hm : B.mg "less" = some (.ref f)) : DefP B "less" sless Pless 6 Fless := by
  refine def_ok Fn scless hm bnless fun args S d S' hl hF => ?_
  cases hF with
  | @mk _ x y p q h g hp hq =>
    obtain ⟨z, hz, iz⟩ := Fnegative.of (S := S) g (hq.mono (by decide))
    have hq2 := sz_neg hq
    refine' ss_one (s_ret (e_call P1 ?k ?a (Fadd.mk h iz hp hq2) ?g1 ?g2 ?g3) ?r)
    case a =>
      refine' a_cons ?a1 (a_cons (e_call P2 ?k2 ?a2 hz ?g4 ?g5 ?g6) a_nil ?pl) ?pl2
      all_goals try walk_at "ev"
    case r => exact ⟨by rw [Rat.sub_eq_add_neg], .inl rfl⟩
    all_goals try walk_at "ev"
/-! ### product, divided -/
abbrev sproduct : Stmt := top 16
abbrev Nproduct : List Str := ["one", "other", "top", "bottom", "more", "below"]
abbrev Pproduct : List Str := ["one", "other"]
theorem scproduct : FnScope Nproduct Pproduct (defScope sproduct) := ⟨rfl, rfl, rfl, by decide +kernel, rfl, by decide +kernel, by decide +kernel⟩
theorem bnproduct : ∀ (kV doc pm : Value) (an : Option Addr) (cdv ct : Value) (us : List Value), us.length = Pproduct.length → bindArgs (PySem.W.fnOf "product" "product" (defArgs sproduct) (defBody sproduct) (defScope sproduct) .none kV doc pm an cdv ct) ⟨us, []⟩ = pure (Pproduct.zip us) := fun _ _ _ _ _ _ us hl => match us, hl with | [_, _], _ => rfl

inductive Fproduct : List D → Store → D → Store → Prop
  | mk {S : Store} {x y : D} {p q : Rat} (h : IsN x p) (g : IsN y q) (hp : Sz 4000 p) (hq : Sz 4000 q) : Fproduct [x, y] S (enc (p * q)) S
theorem p_product {B : Bs} (T : Txt B) (P1 : DefP B "pair_of" spair_of Ppair_of 1 Fpair_of) (P : DefP B "quotient" squotient Pquotient 4 Fquotient) {f : Addr} {fd : FuncData} (Fn : Fun B.K "product" "product" sproduct f fd) (hm : B.mg "product" = some (.ref f)) : DefP B "product" sproduct Pproduct 5 Fproduct := by
  refine def_ok Fn scproduct hm bnproduct fun args S d S' hl hF => ?_
  cases hF with
  | @mk _ x y p q h g hp hq =>
    have l1 := h.live S
    have l2 := g.live S
    have m1 : CMulW p.num q.num := mulSz hp.1 hq.1
    have m3 : CMulW p.den q.den := mulSz (nat_lt hp.2) (nat_lt hq.2)
    have n1 : (p.den : Int) * q.den ≠ 0 := Int.mul_ne_zero (den_ne p) (den_ne q)
    have n2 : ((p.den : Int) * q.den).natAbs.log2 < 9000 := logSz (nat_lt hp.2) (nat_lt hq.2)
    refine' ss_cons (s_if ?c (fun hk => ?t) (fun hk => ss_nil ?n))
    case c => walk_at "ev"
    case t =>
      cases h with
      | rat => cases hk
      | int i =>
        cases g with
        | rat => cases hk
        | int j =>
          rw [Rat.num_intCast, Rat.num_intCast] at m1
          refine' ss_one (s_ret ?h ?r)
          case h => walk_at "ev"
          case r => exact ⟨by rw [← Rat.intCast_mul, enc_int], .inl rfl⟩
    case n =>
      refine' ss_cons (s_unp ?t1 ?h1 ?q1 ?n1)
      case t1 => walk_at "ev"
      case h1 => walk_at "ev"
      case q1 => rfl
      refine' ss_cons (s_unp ?t2 ?h2 ?q2 ?n2)
      case t2 => walk_at "ev"
      case h2 => walk_at "ev"
      case q2 => rfl
      refine' ss_one (s_ret ?h3 ?r)
      case h3 => walk_at "ev"
      case r => exact ⟨by rw [mul_div], .inl rfl⟩
abbrev sdivided : Stmt := top 17
abbrev Ndivided : List Str := ["one", "other", "top", "bottom", "more", "below"]
abbrev Pdivided : List Str := ["one", "other"]
theorem scdivided : FnScope Ndivided Pdivided (defScope sdivided) := ⟨rfl, rfl, rfl, by decide +kernel, rfl, by decide +kernel, by decide +kernel⟩
theorem bndivided : ∀ (kV doc pm : Value) (an : Option Addr) (cdv ct : Value) (us : List Value), us.length = Pdivided.length → bindArgs (PySem.W.fnOf "divided" "divided" (defArgs sdivided) (defBody sdivided) (defScope sdivided) .none kV doc pm an cdv ct) ⟨us, []⟩ = pure (Pdivided.zip us) := fun _ _ _ _ _ _ us hl => match us, hl with | [_, _], _ => rfl

inductive Fdivided : List D → Store → D → Store → Prop
  | mk {S : Store} {x y : D} {p q : Rat} (h : IsN x p) (g : IsN y q) (hp : Sz 4000 p) (hq : Sz 4000 q) (h0 : q ≠ 0) : Fdivided [x, y] S (enc (p / q)) S
theorem p_divided {B : Bs} (T : Txt B) (P1 : DefP B "pair_of" spair_of Ppair_of 1 Fpair_of) (P : DefP B "quotient" squotient Pquotient 4 Fquotient) {f : Addr} {fd : FuncData} (Fn : Fun B.K "divided" "divided" sdivided f fd) (hm : B.mg "divided" = some (.ref f)) : DefP B "divided" sdivided Pdivided 5 Fdivided := by
  refine def_ok Fn scdivided hm bndivided fun args S d S' hl hF => ?_
  cases hF with
  | @mk _ x y p q h g hp hq h0 =>
    have l1 := h.live S
    have l2 := g.live S
    have m1 : CMulW p.num q.den := mulSz hp.1 (nat_lt hq.2)
    have m3 : CMulW p.den q.num := mulSz (nat_lt hp.2) hq.1
    have n1 : (p.den : Int) * q.num ≠ 0 := Int.mul_ne_zero (den_ne p) (num_ne h0)
    have n2 : ((p.den : Int) * q.num).natAbs.log2 < 9000 := logSz (nat_lt hp.2) hq.1
    refine' ss_cons (s_unp ?t1 ?h1 ?q1 ?n1)
    case t1 => walk_at "ev"
    case h1 => walk_at "ev"
    case q1 => rfl
    refine' ss_cons (s_unp ?t2 ?h2 ?q2 ?n2)
    case t2 => walk_at "ev"
    case h2 => walk_at "ev"
    case q2 => rfl
    refine' ss_one (s_ret ?h3 ?r)
    case h3 => walk_at "ev"
    case r => exact ⟨by rw [quo_div], .inl rfl⟩
/-! ### sign_of -/
abbrev ssign_of : Stmt := top 18
abbrev Nsign_of : List Str := ["number", "top", "_"]
abbrev Psign_of : List Str := ["number"]
theorem scsign_of : FnScope Nsign_of Psign_of (defScope ssign_of) := ⟨rfl, rfl, rfl, by decide +kernel, rfl, by decide +kernel, by decide +kernel⟩
theorem bnsign_of : ∀ (kV doc pm : Value) (an : Option Addr) (cdv ct : Value) (us : List Value), us.length = Psign_of.length → bindArgs (PySem.W.fnOf "sign_of" "sign_of" (defArgs ssign_of) (defBody ssign_of) (defScope ssign_of) .none kV doc pm an cdv ct) ⟨us, []⟩ = pure (Psign_of.zip us) := fun _ _ _ _ _ _ us hl => match us, hl with | [_], _ => rfl

def sgn (q : Rat) : Int := (if decide (0 < q.num) = true then 1 else 0) - (if decide (q.num < 0) = true then 1 else 0)
inductive Fsign_of : List D → Store → D → Store → Prop
  | mk {S : Store} {x : D} {p : Rat} (h : IsN x p) : Fsign_of [x] S (.int (sgn p)) S
theorem p_sign_of {B : Bs} (T : Txt B) (P1 : DefP B "pair_of" spair_of Ppair_of 1 Fpair_of) {f : Addr} {fd : FuncData} (Fn : Fun B.K "sign_of" "sign_of" ssign_of f fd) (hm : B.mg "sign_of" = some (.ref f)) : DefP B "sign_of" ssign_of Psign_of 2 Fsign_of := by
  refine def_ok Fn scsign_of hm bnsign_of fun args S d S' hl hF => ?_
  cases hF with
  | @mk _ x p h =>
    refine' ss_cons (s_unp ?t1 ?h1 ?q1 ?n1)
    case t1 => walk_at "ev"
    case h1 => walk_at "ev"
    case q1 => rfl
    refine' ss_one (s_ret (e_bin (e_intB T ?a ?a1 ?a2) (e_intB T ?b ?b1 ?b2) br_sub) ?r)
    case a => walk_at "ev"
    case b => walk_at "ev"
    case r => exact ⟨rfl, .inl rfl⟩
    all_goals rfl
end DL
/-! text: K4 -/
namespace DL
open PySem L2 QM
/-! the walker: one step by the syntax that stands there, then on; what it can't close stays -/
local macro_rules | `(tactic| walk_at "ev") => `(tactic| first
  | ((with_reducible show _ = _); first | rfl | assumption)
  | ((with_reducible show EvE _ _ _ _ _ _); first
      | ((with_reducible show EvE _ (.Name _ _) _ _ _ _); first
      | ((with_reducible refine' e_name ?_ ?_ ?_) <;> try walk_at "ev"))
      | ((with_reducible show EvE _ (.Constant _ _ _) _ _ _ _); first
      | (with_reducible exact e_int)
      | (with_reducible exact e_str)
      | (with_reducible exact e_bl)
      | (with_reducible exact e_non))
      | ((with_reducible show EvE _ (.Call _ _ _ _) _ _ _ _); first
      | walk_at "call"
      | ((with_reducible show EvE _ (.Call (.Name "isinstance" _) _ _ _) _ _ _ _); first
      | ((with_reducible refine' e_isInt (by assumption) ?_ ?_ ?_ ?_ ?_) <;> try walk_at "ev")
      | ((with_reducible refine' e_isBool (by assumption) ?_ ?_ ?_ ?_ ?_) <;> try walk_at "ev")
      | ((with_reducible refine' e_isRat (by assumption) ?_ ?_ ?_ ?_ ?_) <;> try walk_at "ev")
      | ((with_reducible refine' e_isStr (by assumption) ?_ ?_ ?_ ?_ ?_) <;> try walk_at "ev")
      | ((with_reducible refine' e_isList (by assumption) ?_ ?_ ?_ ?_ ?_) <;> try walk_at "ev")
      | ((with_reducible refine' e_isTup (by assumption) ?_ ?_ ?_ ?_ ?_) <;> try walk_at "ev")
      | ((with_reducible refine' e_isDict (by assumption) ?_ ?_ ?_ ?_ ?_) <;> try walk_at "ev")
      | ((with_reducible refine' e_isLT (by assumption) ?_ ?_ ?_ ?_ ?_ ?_) <;> try walk_at "ev"))
      | ((with_reducible refine' e_len (nm := "len") (by assumption) ?_ ?_ ?_ ?_) <;> try walk_at "ev")
      | ((with_reducible refine' e_abs (by assumption) ?_ ?_ ?_) <;> try walk_at "ev")
      | ((with_reducible refine' e_intI (by assumption) ?_ ?_ ?_) <;> try walk_at "ev")
      | ((with_reducible refine' e_list (by assumption) ?_ ?_ ?_ ?_) <;> try walk_at "ev")
      | ((with_reducible refine' e_tuple (by assumption) ?_ ?_ ?_ ?_) <;> try walk_at "ev")
      | ((with_reducible refine' e_gcd (by assumption) ?_ ?_ ?_ ?_ ?_) <;> try walk_at "ev")
      | ((with_reducible refine' e_max2 (by assumption) ?_ ?_ ?_ ?_ ?_) <;> try walk_at "ev")
      | ((with_reducible refine' e_min2 (by assumption) ?_ ?_ ?_ ?_ ?_) <;> try walk_at "ev"))
      | ((with_reducible show EvE _ (.BinOp _ _ _ _) _ _ _ _); first
      | ((with_reducible refine' e_bin ?_ ?_ ?_) <;> try walk_at "ev"))
      | ((with_reducible show EvE _ (.Subscript _ _ _) _ _ _ _); first
      | ((with_reducible refine' e_ix ?_ ?_ ?_ ?_ ?_) <;> try walk_at "ev"))
      | ((with_reducible show EvE _ (.Compare _ _ _ _) _ _ _ _); first
      | ((with_reducible refine' e_cmp ?_ ?_ ?_ ?_) <;> try walk_at "ev"))
      | ((with_reducible show EvE _ (.Attribute _ _ _) _ _ _ _); first
      | ((with_reducible refine' e_top (by assumption) ?_ ?_) <;> try walk_at "ev")
      | ((with_reducible refine' e_bottom (by assumption) ?_ ?_) <;> try walk_at "ev"))
      | ((with_reducible show EvE _ (.UnaryOp _ _ _) _ _ _ _); first
      | ((with_reducible refine' e_not ?_) <;> try walk_at "ev")
      | ((with_reducible refine' e_neg ?_) <;> try walk_at "ev"))
      | ((with_reducible show EvE _ (.Tuple _ _ _) _ _ _ _); first
      | ((with_reducible refine' e_tup ?_ ?_) <;> try walk_at "ev"))
      | ((with_reducible show EvE _ (.List _ _) _ _ _ _); first
      | ((with_reducible refine' e_lst ?_ ?_) <;> try walk_at "ev"))
      | ((with_reducible show EvE _ (.BoolOp _ _ _) _ _ _ _); first
      | ((with_reducible refine' e_one ?_) <;> try walk_at "ev")
      | ((with_reducible refine' e_and ?_ (fun _ => ?_)) <;> try walk_at "ev")
      | ((with_reducible refine' e_or ?_ (fun _ => ?_)) <;> try walk_at "ev"))
      | ((with_reducible show EvE _ (.IfExp _ _ _ _) _ _ _ _); first
      | ((with_reducible refine' e_if ?_ ?_ ?_) <;> first | walk_at "ev" | walk_at "way" | skip)))
  | exact Nat.le_of_ble_eq_true (by rfl)
  | ((with_reducible show EvT _ _ _ _ _ _); first
      | ((with_reducible refine' t_cmp ?_ ?_ ?_ ?_) <;> try walk_at "ev")
      | ((with_reducible refine' t_not ?_) <;> try walk_at "ev")
      | ((with_reducible refine' t_of (w_and ?_ (fun _ => ?_))) <;> try walk_at "ev")
      | ((with_reducible refine' t_of (w_or ?_ (fun _ => ?_))) <;> try walk_at "ev")
      | ((with_reducible refine' t_val ?_ ?_) <;> try walk_at "ev"))
  | ((with_reducible show EvA _ _ _ _ _ _); first
      | ((with_reducible refine' a_cons ?_ ?_ ?_) <;> try walk_at "ev")
      | (with_reducible exact a_nil))
  | ((with_reducible show BinR _ _ _ _ _ _); first
      | (with_reducible exact br_add)
      | (with_reducible exact br_sub)
      | ((with_reducible refine' br_mul ?_) <;> try walk_at "sz")
      | walk_at "br")
  | ((with_reducible show CmpR _ _ _ _ _ _); first
      | (with_reducible exact cr_lt)
      | (with_reducible exact cr_le)
      | (with_reducible exact cr_gt)
      | (with_reducible exact cr_ge)
      | (with_reducible exact cr_eqI)
      | (with_reducible exact cr_neI)
      | (with_reducible exact cr_isN)
      | (with_reducible exact cr_isB)
      | (with_reducible exact cr_eqB)
      | (with_reducible exact cr_eqS)
      | walk_at "cr")
  | ((with_reducible show EvW _ _ _ _ _ _); first
      | ((with_reducible refine' w_and1 ?_) <;> try walk_at "ev")
      | ((with_reducible refine' w_or1 ?_) <;> try walk_at "ev")
      | ((with_reducible refine' w_and ?_ (fun _ => ?_)) <;> try walk_at "ev")
      | ((with_reducible refine' w_or ?_ (fun _ => ?_)) <;> try walk_at "ev"))
  | ((with_reducible show EvK _ _ _ _ _ _); first
      | ((with_reducible refine' k_cons ?_ ?_) <;> try walk_at "ev")
      | (with_reducible exact k_nil))
  | ((with_reducible show Tgt _ _ _); first
      | ((with_reducible refine' Tgt.cons ?_ ?_ ?_ ?_) <;> try walk_at "ev")
      | (with_reducible exact Tgt.nil))
  | walk_at "side"
  | (intros; rfl))
local macro_rules | `(tactic| walk_at "side") => `(tactic| fail)
local macro_rules | `(tactic| walk_at "br") => `(tactic| fail)
local macro_rules | `(tactic| walk_at "cr") => `(tactic| fail)
local macro_rules | `(tactic| walk_at "call") => `(tactic| fail)
local macro_rules | `(tactic| walk_at "way") => `(tactic| first | exact fun z => Bool.noConfusion (show false = true from z) | exact fun z => Bool.noConfusion (show true = false from z) | (intro _; walk_at "ev"))
local macro_rules | `(tactic| walk_at "sz") => `(tactic| assumption)

inductive IsNs : List D → List Rat → Prop
  | nil : IsNs [] []
  | cons {d : D} {q : Rat} {ds : List D} {qs : List Rat} (h : IsN d q) (r : IsNs ds qs) : IsNs (d :: ds) (q :: qs)
theorem IsNs.length {ds : List D} {qs : List Rat} (h : IsNs ds qs) : ds.length = qs.length := by
  induction h with
  | nil => rfl
  | cons _ _ ih => simp [ih]
theorem IsNs.get {ds : List D} {qs : List Rat} (h : IsNs ds qs) : ∀ {i : Nat} {d : D}, ds[i]? = some d → ∃ q, qs[i]? = some q ∧ IsN d q := by
  induction h with
  | nil => intro i d e; simp at e
  | cons h r ih =>
    intro i d e
    cases i with
    | zero => simp only [List.getElem?_cons_zero, Option.some.injEq] at e; subst e; exact ⟨_, rfl, h⟩
    | succ i => simp only [List.getElem?_cons_succ] at e; exact ih e
theorem IsNs.getQ {ds : List D} {qs : List Rat} (h : IsNs ds qs) : ∀ {i : Nat} {q : Rat}, qs[i]? = some q → ∃ d, ds[i]? = some d ∧ IsN d q := by
  induction h with
  | nil => intro i d e; simp at e
  | cons h r ih =>
    intro i d e
    cases i with
    | zero => simp only [List.getElem?_cons_zero, Option.some.injEq] at e; subst e; exact ⟨_, rfl, h⟩
    | succ i => simp only [List.getElem?_cons_succ] at e; exact ih e
/-- few numbers, none great -/
structure Sml (qs : List Rat) : Prop where
  sz : ∀ q ∈ qs, Sz 800 q
  len : qs.length ≤ 10
theorem Sml.take {qs : List Rat} (h : Sml qs) (i : Nat) : Sml (qs.take i) := ⟨fun q hq => h.sz q (List.mem_of_mem_take hq), by rw [List.length_take]; have := h.len; omega⟩
theorem Sml.cb {qs : List Rat} (h : Sml qs) : cb qs < 2 ^ 8001 := by
  refine Nat.lt_of_lt_of_le (cb_lt h.sz) (Nat.pow_le_pow_right (by decide) ?_)
  have := h.len
  omega
local macro_rules | `(tactic| walk_at "side") => `(tactic| ((with_reducible show IsN _ _); first | assumption | exact isN_enc _ | exact IsN.int _))
local macro_rules | `(tactic| walk_at "side") => `(tactic| ((with_reducible show _ ≠ _); assumption))
local macro_rules | `(tactic| walk_at "side") => `(tactic| ((with_reducible show (_ : Nat) < _); assumption))
local macro_rules | `(tactic| walk_at "side") => `(tactic| ((with_reducible show Sz _ _); assumption))
local macro_rules | `(tactic| walk_at "side") => `(tactic| ((with_reducible show IsNs _ _); assumption))
local macro_rules | `(tactic| walk_at "side") => `(tactic| ((with_reducible show Sml _); assumption))

local macro_rules | `(tactic| walk_at "call") => `(tactic| ((with_reducible refine' e_call (by assumption : DefP _ "pair_of" _ _ _ _) ?_ ?_ (Fpair_of.mk ?_) ?_ ?_ ?_) <;> try walk_at "ev"))
local macro_rules | `(tactic| walk_at "call") => `(tactic| ((with_reducible refine' e_call (by assumption : DefP _ "quotient" _ _ _ _) ?_ ?_ (Fquotient.mk ?_ ?_) ?_ ?_ ?_) <;> try walk_at "ev"))
local macro_rules | `(tactic| walk_at "call") => `(tactic| ((with_reducible refine' e_call (by assumption : DefP _ "plain" _ _ _ _) ?_ ?_ (Fplain.mk ?_ ?_) ?_ ?_ ?_) <;> try walk_at "ev"))

/-! ### common_bottom -/
abbrev scommon_bottom : Stmt := top 19
abbrev Ncommon_bottom : List Str := ["numbers", "common", "number", "bottom"]
abbrev Pcommon_bottom : List Str := ["numbers"]
theorem sccommon_bottom : FnScope Ncommon_bottom Pcommon_bottom (defScope scommon_bottom) := ⟨rfl, rfl, rfl, by decide +kernel, rfl, by decide +kernel, by decide +kernel⟩
theorem bncommon_bottom : ∀ (kV doc pm : Value) (an : Option Addr) (cdv ct : Value) (us : List Value), us.length = Pcommon_bottom.length → bindArgs (PySem.W.fnOf "common_bottom" "common_bottom" (defArgs scommon_bottom) (defBody scommon_bottom) (defScope scommon_bottom) .none kV doc pm an cdv ct) ⟨us, []⟩ = pure (Pcommon_bottom.zip us) := fun _ _ _ _ _ _ us hl => match us, hl with | [_], _ => rfl

inductive Fcommon_bottom : List D → Store → D → Store → Prop
  | mk {S : Store} {x : D} {ds : List D} {qs : List Rat} (hx : seqP x = some ds) (h : IsNs ds qs) (hz : Sml qs) : Fcommon_bottom [x] S (.int ((cb qs : Nat) : Int)) S
theorem lcm_fdiv (c : Nat) {d : Nat} (hd : 0 < d) : ((c : Int) * (d : Int)).fdiv ((Nat.gcd c d : Nat) : Int) = ((Nat.lcm c d : Nat) : Int) := by
  rw [← Int.natCast_mul, Int.fdiv_eq_ediv_of_nonneg _ (by omega)]
  unfold Nat.lcm
  rw [Int.natCast_ediv]
theorem p_common_bottom {B : Bs} (T : Txt B) (P1 : DefP B "pair_of" spair_of Ppair_of 1 Fpair_of) {f : Addr} {fd : FuncData} (Fn : Fun B.K "common_bottom" "common_bottom" scommon_bottom f fd) (hm : B.mg "common_bottom" = some (.ref f)) : DefP B "common_bottom" scommon_bottom Pcommon_bottom 2 Fcommon_bottom := by
  refine def_ok Fn sccommon_bottom hm bncommon_bottom fun args S d S' hl hF => ?_
  cases hF with
  | @mk _ x ds qs hx h hz =>
    refine' ss_cons (s_set (i := 1) rfl rfl rfl ?h1 ?n1)
    case h1 => walk_at "ev"
    case n1 =>
    refine ss_cons (s_for (ds := ds) (S1 := S) (j := 2) rfl rfl rfl (i_seq (x := x) ?h2 hx) (fun i Γ' S' => ∃ o1 o2, Γ' = [some x, some (.int ((cb (qs.take i) : Nat) : Int)), o1, o2] ∧ S' = S) ⟨none, none, rfl, rfl⟩ ?turn ?done)
    case h2 => walk_at "ev"
    case done =>
      rintro Γ' S' ⟨o1, o2, rfl, rfl⟩
      refine' ss_one (s_ret ?h3 ?r)
      case h3 => walk_at "ev"
      case r => exact ⟨by rw [h.length, List.take_length], .inl rfl⟩
    case turn =>
      rintro i d Γ' S' hd ⟨o1, o2, rfl, rfl⟩
      obtain ⟨q, hq, hn⟩ := h.get hd
      have hqm := List.mem_of_getElem? hq
      have hc := (hz.take i).cb
      have m1 : CMulW ((cb (qs.take i) : Nat) : Int) (q.den : Int) := mulW (nat_lt hc) (nat_lt (hz.sz q hqm).2) (by decide) (by decide) (by decide)
      have hg : 0 < Nat.gcd (cb (qs.take i)) q.den := Nat.gcd_pos_of_pos_right _ (Nat.pos_of_ne_zero q.den_nz)
      have m2 : CDivG (((cb (qs.take i) : Nat) : Int) * (q.den : Int)) ((Nat.gcd (((cb (qs.take i) : Nat) : Int)).natAbs ((q.den : Int)).natAbs : Nat) : Int) := by
        refine ⟨by simp only [Int.natAbs_natCast]; omega, ?_⟩
        simp only [Int.natAbs_natCast]
        exact Nat.lt_of_le_of_lt (log2_mono (Nat.gcd_le_right _ (Nat.pos_of_ne_zero q.den_nz))) (lgd (hz.sz q hqm) (by decide) (by decide))
      refine' ss_cons (s_set (i := 3) rfl rfl rfl ?h4 ?n4)
      case h4 => walk_at "ev"
      case n4 =>
      refine' ss_one (s_set (i := 1) rfl rfl rfl (e_bin ?h5 ?h6 (br_fdiv m2)) ?n5)
      case h5 => walk_at "ev"
      case h6 => walk_at "ev"
      case n5 =>
        refine ⟨some d, some (.int (q.den : Int)), ?_, rfl⟩
        simp only [Int.natAbs_natCast]
        rw [lcm_fdiv _ (Nat.pos_of_ne_zero q.den_nz), ← cb_take hq]
        rfl
local macro_rules | `(tactic| walk_at "call") => `(tactic| ((with_reducible refine' e_call (by assumption : DefP _ "common_bottom" _ _ _ _) ?_ ?_ (Fcommon_bottom.mk ?_ ?_ ?_) ?_ ?_ ?_) <;> try walk_at "ev"))
/-! ### wholes -/
abbrev swholes : Stmt := top 20
abbrev Nwholes : List Str := ["numbers", "common", "number"]
abbrev Pwholes : List Str := ["numbers", "common"]
theorem scwholes : FnScope Nwholes Pwholes (defScope swholes) := ⟨rfl, rfl, rfl, by decide +kernel, rfl, by decide +kernel, by decide +kernel⟩
theorem bnwholes : ∀ (kV doc pm : Value) (an : Option Addr) (cdv ct : Value) (us : List Value), us.length = Pwholes.length → bindArgs (PySem.W.fnOf "wholes" "wholes" (defArgs swholes) (defBody swholes) (defScope swholes) .none kV doc pm an cdv ct) ⟨us, []⟩ = pure (Pwholes.zip us) := fun _ _ _ _ _ _ us hl => match us, hl with | [_, _], _ => rfl

inductive Fwholes : List D → Store → D → Store → Prop
  | mk {S : Store} {x : D} {ds : List D} {qs : List Rat} {c : Nat} (hx : seqP x = some ds) (h : IsNs ds qs) (hz : Sml qs) (hc : c < 2 ^ 8001) : Fwholes [x, .int (c : Int)] S (.lst ((qs.map (wh c)).map D.int)) S
theorem p_wholes {B : Bs} (T : Txt B) (P1 : DefP B "pair_of" spair_of Ppair_of 1 Fpair_of) {f : Addr} {fd : FuncData} (Fn : Fun B.K "wholes" "wholes" swholes f fd) (hm : B.mg "wholes" = some (.ref f)) : DefP B "wholes" swholes Pwholes 2 Fwholes := by
  refine def_ok Fn scwholes hm bnwholes fun args S d S' hl hF => ?_
  cases hF with
  | @mk _ x ds qs c hx h hz hc =>
    have hlen := h.length
    have hz20 := hz.len
    refine ss_one (s_ret (d := .lst ((qs.map (wh c)).map D.int)) (S1 := S) (e_lcP (ds := ds) (S1 := S) (j := 2) (i_seq (x := x) ?h hx) rfl rfl rfl rfl (by simp [hlen]) ?turn (by omega)) ⟨rfl, .inl rfl⟩)
    case h => walk_at "ev"
    case turn =>
      intro i d y hd hy
      obtain ⟨q, hq, hn⟩ := h.get hd
      have hqm := List.mem_of_getElem? hq
      have hy' : y = .int (wh c q) := by
        rw [List.getElem?_map, List.getElem?_map, hq] at hy
        exact (Option.some.inj hy).symm
      subst hy'
      have hd0 := den_ne q
      have m2 : CDivG (c : Int) (q.den : Int) := ⟨hd0, lgd (hz.sz q hqm) (by decide) (by decide)⟩
      have e1 : (c : Int).fdiv (q.den : Int) = (c : Int) / (q.den : Int) := Int.fdiv_eq_ediv_of_nonneg _ (by omega)
      have m1 : CMulW q.num ((c : Int).fdiv (q.den : Int)) := by
        rw [e1]
        refine mulW (b := 8001) (hz.sz q hqm).1 ?_ (by decide) (by decide) (by decide)
        have : ((c : Int) / (q.den : Int)) = ((c / q.den : Nat) : Int) := by rw [Int.natCast_ediv]
        rw [this, Int.natAbs_natCast]
        exact Nat.lt_of_le_of_lt (Nat.div_le_self _ _) hc
      refine e_is (d := .int (q.num * (c : Int).fdiv (q.den : Int))) (S1 := S) (e_bin (S1 := S) ?h1 (e_bin (S1 := S) ?h2 ?h3 (br_fdiv m2)) (br_mul m1)) (by rw [e1]; rfl) rfl
      case h1 => walk_at "ev"
      case h2 => walk_at "ev"
      case h3 => walk_at "ev"
local macro_rules | `(tactic| walk_at "call") => `(tactic| ((with_reducible refine' e_call (by assumption : DefP _ "wholes" _ _ _ _) ?_ ?_ (Fwholes.mk ?_ ?_ ?_ ?_) ?_ ?_ ?_) <;> try walk_at "ev"))
/-! ### sum_of -/
abbrev ssum_of : Stmt := top 21
abbrev Nsum_of : List Str := ["numbers", "common"]
abbrev Psum_of : List Str := ["numbers"]
theorem scsum_of : FnScope Nsum_of Psum_of (defScope ssum_of) := ⟨rfl, rfl, rfl, by decide +kernel, rfl, by decide +kernel, by decide +kernel⟩
theorem bnsum_of : ∀ (kV doc pm : Value) (an : Option Addr) (cdv ct : Value) (us : List Value), us.length = Psum_of.length → bindArgs (PySem.W.fnOf "sum_of" "sum_of" (defArgs ssum_of) (defBody ssum_of) (defScope ssum_of) .none kV doc pm an cdv ct) ⟨us, []⟩ = pure (Psum_of.zip us) := fun _ _ _ _ _ _ us hl => match us, hl with | [_], _ => rfl

inductive Fsum_of : List D → Store → D → Store → Prop
  | mk {S : Store} {x : D} {ds : List D} {qs : List Rat} (hx : seqP x = some ds) (h : IsNs ds qs) (hz : Sml qs) : Fsum_of [x] S (enc qs.sum) S
theorem p_sum_of {B : Bs} (T : Txt B) (P1 : DefP B "common_bottom" scommon_bottom Pcommon_bottom 2 Fcommon_bottom) (P2 : DefP B "wholes" swholes Pwholes 2 Fwholes) (P3 : DefP B "quotient" squotient Pquotient 4 Fquotient) {f : Addr} {fd : FuncData} (Fn : Fun B.K "sum_of" "sum_of" ssum_of f fd) (hm : B.mg "sum_of" = some (.ref f)) : DefP B "sum_of" ssum_of Psum_of 5 Fsum_of := by
  refine def_ok Fn scsum_of hm bnsum_of fun args S d S' hl hF => ?_
  cases hF with
  | @mk _ x ds qs hx h hz =>
    have hc := hz.cb
    have hc0 : ((cb qs : Nat) : Int) ≠ 0 := by have := cb_pos qs; omega
    have hc9 : ((cb qs : Nat) : Int).natAbs.log2 < 9000 := lg (nat_lt hc) (by decide) (by decide)
    refine' ss_cons (s_set (i := 1) rfl rfl rfl ?h1 ?n1)
    case h1 => walk_at "ev"
    case n1 =>
    refine' ss_one (s_ret (e_call P3 ?k (a_cons (e_sum T ?w ?sq ?g1 ?g2) ?a2 ?pl) (Fquotient.mk hc0 hc9) ?g3 ?g4 ?g5) ?r)
    case w => walk_at "ev"
    case sq => rfl
    case a2 => walk_at "ev"
    case r => exact ⟨by rw [sum_div], .inl rfl⟩
    all_goals try walk_at "ev"
end DL
/-! text: K5 -/
namespace DL
open PySem L2 QM
/-! the walker: one step by the syntax that stands there, then on; what it can't close stays -/
local macro_rules | `(tactic| walk_at "ev") => `(tactic| first
  | ((with_reducible show _ = _); first | rfl | assumption)
  | ((with_reducible show EvE _ _ _ _ _ _); first
      | ((with_reducible show EvE _ (.Name _ _) _ _ _ _); first
      | ((with_reducible refine' e_name ?_ ?_ ?_) <;> try walk_at "ev"))
      | ((with_reducible show EvE _ (.Constant _ _ _) _ _ _ _); first
      | (with_reducible exact e_int)
      | (with_reducible exact e_str)
      | (with_reducible exact e_bl)
      | (with_reducible exact e_non))
      | ((with_reducible show EvE _ (.Call _ _ _ _) _ _ _ _); first
      | walk_at "call"
      | ((with_reducible show EvE _ (.Call (.Name "isinstance" _) _ _ _) _ _ _ _); first
      | ((with_reducible refine' e_isInt (by assumption) ?_ ?_ ?_ ?_ ?_) <;> try walk_at "ev")
      | ((with_reducible refine' e_isBool (by assumption) ?_ ?_ ?_ ?_ ?_) <;> try walk_at "ev")
      | ((with_reducible refine' e_isRat (by assumption) ?_ ?_ ?_ ?_ ?_) <;> try walk_at "ev")
      | ((with_reducible refine' e_isStr (by assumption) ?_ ?_ ?_ ?_ ?_) <;> try walk_at "ev")
      | ((with_reducible refine' e_isList (by assumption) ?_ ?_ ?_ ?_ ?_) <;> try walk_at "ev")
      | ((with_reducible refine' e_isTup (by assumption) ?_ ?_ ?_ ?_ ?_) <;> try walk_at "ev")
      | ((with_reducible refine' e_isDict (by assumption) ?_ ?_ ?_ ?_ ?_) <;> try walk_at "ev")
      | ((with_reducible refine' e_isLT (by assumption) ?_ ?_ ?_ ?_ ?_ ?_) <;> try walk_at "ev"))
      | ((with_reducible refine' e_len (nm := "len") (by assumption) ?_ ?_ ?_ ?_) <;> try walk_at "ev")
      | ((with_reducible refine' e_abs (by assumption) ?_ ?_ ?_) <;> try walk_at "ev")
      | ((with_reducible refine' e_intI (by assumption) ?_ ?_ ?_) <;> try walk_at "ev")
      | ((with_reducible refine' e_list (by assumption) ?_ ?_ ?_ ?_) <;> try walk_at "ev")
      | ((with_reducible refine' e_tuple (by assumption) ?_ ?_ ?_ ?_) <;> try walk_at "ev")
      | ((with_reducible refine' e_gcd (by assumption) ?_ ?_ ?_ ?_ ?_) <;> try walk_at "ev")
      | ((with_reducible refine' e_max2 (by assumption) ?_ ?_ ?_ ?_ ?_) <;> try walk_at "ev")
      | ((with_reducible refine' e_min2 (by assumption) ?_ ?_ ?_ ?_ ?_) <;> try walk_at "ev"))
      | ((with_reducible show EvE _ (.BinOp _ _ _ _) _ _ _ _); first
      | ((with_reducible refine' e_bin ?_ ?_ ?_) <;> try walk_at "ev"))
      | ((with_reducible show EvE _ (.Subscript _ _ _) _ _ _ _); first
      | ((with_reducible refine' e_ix ?_ ?_ ?_ ?_ ?_) <;> try walk_at "ev"))
      | ((with_reducible show EvE _ (.Compare _ _ _ _) _ _ _ _); first
      | ((with_reducible refine' e_cmp ?_ ?_ ?_ ?_) <;> try walk_at "ev"))
      | ((with_reducible show EvE _ (.Attribute _ _ _) _ _ _ _); first
      | ((with_reducible refine' e_top (by assumption) ?_ ?_) <;> try walk_at "ev")
      | ((with_reducible refine' e_bottom (by assumption) ?_ ?_) <;> try walk_at "ev"))
      | ((with_reducible show EvE _ (.UnaryOp _ _ _) _ _ _ _); first
      | ((with_reducible refine' e_not ?_) <;> try walk_at "ev")
      | ((with_reducible refine' e_neg ?_) <;> try walk_at "ev"))
      | ((with_reducible show EvE _ (.Tuple _ _ _) _ _ _ _); first
      | ((with_reducible refine' e_tup ?_ ?_) <;> try walk_at "ev"))
      | ((with_reducible show EvE _ (.List _ _) _ _ _ _); first
      | ((with_reducible refine' e_lst ?_ ?_) <;> try walk_at "ev"))
      | ((with_reducible show EvE _ (.BoolOp _ _ _) _ _ _ _); first
      | ((with_reducible refine' e_one ?_) <;> try walk_at "ev")
      | ((with_reducible refine' e_and ?_ (fun _ => ?_)) <;> try walk_at "ev")
      | ((with_reducible refine' e_or ?_ (fun _ => ?_)) <;> try walk_at "ev"))
      | ((with_reducible show EvE _ (.IfExp _ _ _ _) _ _ _ _); first
      | ((with_reducible refine' e_if ?_ ?_ ?_) <;> first | walk_at "ev" | walk_at "way" | skip)))
  | exact Nat.le_of_ble_eq_true (by rfl)
  | ((with_reducible show EvT _ _ _ _ _ _); first
      | ((with_reducible refine' t_cmp ?_ ?_ ?_ ?_) <;> try walk_at "ev")
      | ((with_reducible refine' t_not ?_) <;> try walk_at "ev")
      | ((with_reducible refine' t_of (w_and ?_ (fun _ => ?_))) <;> try walk_at "ev")
      | ((with_reducible refine' t_of (w_or ?_ (fun _ => ?_))) <;> try walk_at "ev")
      | ((with_reducible refine' t_val ?_ ?_) <;> try walk_at "ev"))
  | ((with_reducible show EvA _ _ _ _ _ _); first
      | ((with_reducible refine' a_cons ?_ ?_ ?_) <;> try walk_at "ev")
      | (with_reducible exact a_nil))
  | ((with_reducible show BinR _ _ _ _ _ _); first
      | (with_reducible exact br_add)
      | (with_reducible exact br_sub)
      | ((with_reducible refine' br_mul ?_) <;> try walk_at "sz")
      | walk_at "br")
  | ((with_reducible show CmpR _ _ _ _ _ _); first
      | (with_reducible exact cr_lt)
      | (with_reducible exact cr_le)
      | (with_reducible exact cr_gt)
      | (with_reducible exact cr_ge)
      | (with_reducible exact cr_eqI)
      | (with_reducible exact cr_neI)
      | (with_reducible exact cr_isN)
      | (with_reducible exact cr_isB)
      | (with_reducible exact cr_eqB)
      | (with_reducible exact cr_eqS)
      | walk_at "cr")
  | ((with_reducible show EvW _ _ _ _ _ _); first
      | ((with_reducible refine' w_and1 ?_) <;> try walk_at "ev")
      | ((with_reducible refine' w_or1 ?_) <;> try walk_at "ev")
      | ((with_reducible refine' w_and ?_ (fun _ => ?_)) <;> try walk_at "ev")
      | ((with_reducible refine' w_or ?_ (fun _ => ?_)) <;> try walk_at "ev"))
  | ((with_reducible show EvK _ _ _ _ _ _); first
      | ((with_reducible refine' k_cons ?_ ?_) <;> try walk_at "ev")
      | (with_reducible exact k_nil))
  | ((with_reducible show Tgt _ _ _); first
      | ((with_reducible refine' Tgt.cons ?_ ?_ ?_ ?_) <;> try walk_at "ev")
      | (with_reducible exact Tgt.nil))
  | walk_at "side"
  | (intros; rfl))
local macro_rules | `(tactic| walk_at "side") => `(tactic| fail)
local macro_rules | `(tactic| walk_at "br") => `(tactic| fail)
local macro_rules | `(tactic| walk_at "cr") => `(tactic| fail)
local macro_rules | `(tactic| walk_at "call") => `(tactic| fail)
local macro_rules | `(tactic| walk_at "way") => `(tactic| first | exact fun z => Bool.noConfusion (show false = true from z) | exact fun z => Bool.noConfusion (show true = false from z) | (intro _; walk_at "ev"))
local macro_rules | `(tactic| walk_at "sz") => `(tactic| assumption)

local macro_rules | `(tactic| walk_at "side") => `(tactic| ((with_reducible show IsN _ _); first | assumption | exact isN_enc _ | exact IsN.int _))
local macro_rules | `(tactic| walk_at "side") => `(tactic| ((with_reducible show _ ≠ _); assumption))
local macro_rules | `(tactic| walk_at "side") => `(tactic| ((with_reducible show (_ : Nat) < _); assumption))
local macro_rules | `(tactic| walk_at "side") => `(tactic| ((with_reducible show Sz _ _); assumption))
local macro_rules | `(tactic| walk_at "side") => `(tactic| ((with_reducible show IsNs _ _); assumption))
local macro_rules | `(tactic| walk_at "side") => `(tactic| ((with_reducible show Sml _); assumption))

local macro_rules | `(tactic| walk_at "call") => `(tactic| ((with_reducible refine' e_call (by assumption : DefP _ "pair_of" _ _ _ _) ?_ ?_ (Fpair_of.mk ?_) ?_ ?_ ?_) <;> try walk_at "ev"))
local macro_rules | `(tactic| walk_at "call") => `(tactic| ((with_reducible refine' e_call (by assumption : DefP _ "quotient" _ _ _ _) ?_ ?_ (Fquotient.mk ?_ ?_) ?_ ?_ ?_) <;> try walk_at "ev"))
local macro_rules | `(tactic| walk_at "call") => `(tactic| ((with_reducible refine' e_call (by assumption : DefP _ "plain" _ _ _ _) ?_ ?_ (Fplain.mk ?_ ?_) ?_ ?_ ?_) <;> try walk_at "ev"))
local macro_rules | `(tactic| walk_at "call") => `(tactic| ((with_reducible refine' e_call (by assumption : DefP _ "common_bottom" _ _ _ _) ?_ ?_ (Fcommon_bottom.mk ?_ ?_ ?_) ?_ ?_ ?_) <;> try walk_at "ev"))
local macro_rules | `(tactic| walk_at "call") => `(tactic| ((with_reducible refine' e_call (by assumption : DefP _ "wholes" _ _ _ _) ?_ ?_ (Fwholes.mk ?_ ?_ ?_ ?_) ?_ ?_ ?_) <;> try walk_at "ev"))
local macro_rules | `(tactic| walk_at "call") => `(tactic| ((with_reducible refine' e_call (by assumption : DefP _ "sum_of" _ _ _ _) ?_ ?_ (Fsum_of.mk ?_ ?_ ?_) ?_ ?_ ?_) <;> try walk_at "ev"))
local macro_rules | `(tactic| walk_at "call") => `(tactic| ((with_reducible refine' e_call (by assumption : DefP _ "add" _ _ _ _) ?_ ?_ (Fadd.mk ?_ ?_ ?_ ?_) ?_ ?_ ?_) <;> try walk_at "ev"))
local macro_rules | `(tactic| walk_at "call") => `(tactic| ((with_reducible refine' e_call (by assumption : DefP _ "less" _ _ _ _) ?_ ?_ (Fless.mk ?_ ?_ ?_ ?_) ?_ ?_ ?_) <;> try walk_at "ev"))
local macro_rules | `(tactic| walk_at "call") => `(tactic| ((with_reducible refine' e_call (by assumption : DefP _ "product" _ _ _ _) ?_ ?_ (Fproduct.mk ?_ ?_ ?_ ?_) ?_ ?_ ?_) <;> try walk_at "ev"))
local macro_rules | `(tactic| walk_at "call") => `(tactic| ((with_reducible refine' e_call (by assumption : DefP _ "divided" _ _ _ _) ?_ ?_ (Fdivided.mk ?_ ?_ ?_ ?_ ?_) ?_ ?_ ?_) <;> try walk_at "ev"))
local macro_rules | `(tactic| walk_at "call") => `(tactic| ((with_reducible refine' e_call (by assumption : DefP _ "sign_of" _ _ _ _) ?_ ?_ (Fsign_of.mk ?_) ?_ ?_ ?_) <;> try walk_at "ev"))
theorem first_at (ns : List Int) (m : Int) (h : m ∈ ns) : ∃ j, ns[j]? = some m ∧ ∀ k : Nat, k < j → ∀ z, ns[k]? = some z → z ≠ m := by
  induction ns with
  | nil => cases h
  | cons n ns ih =>
    by_cases e : n = m
    · exact ⟨0, by simp [e], fun k hk => absurd hk (Nat.not_lt_zero k)⟩
    · obtain ⟨j, h1, h2⟩ := ih (by rcases List.mem_cons.mp h with z | z; exact absurd z.symm e; exact z)
      refine ⟨j + 1, by simpa using h1, fun k hk z hz => ?_⟩
      cases k with
      | zero =>
        simp only [List.getElem?_cons_zero, Option.some.injEq] at hz
        rw [← hz]; exact e
      | succ k => exact h2 k (by omega) z (by simpa using hz)
/-! ### highest, lowest -/
abbrev shighest : Stmt := top 22
abbrev Nhighest : List Str := ["numbers", "keys"]
abbrev Phighest : List Str := ["numbers"]
theorem schighest : FnScope Nhighest Phighest (defScope shighest) := ⟨rfl, rfl, rfl, by decide +kernel, rfl, by decide +kernel, by decide +kernel⟩
theorem bnhighest : ∀ (kV doc pm : Value) (an : Option Addr) (cdv ct : Value) (us : List Value), us.length = Phighest.length → bindArgs (PySem.W.fnOf "highest" "highest" (defArgs shighest) (defBody shighest) (defScope shighest) .none kV doc pm an cdv ct) ⟨us, []⟩ = pure (Phighest.zip us) := fun _ _ _ _ _ _ us hl => match us, hl with | [_], _ => rfl

inductive Fhighest : List D → Store → D → Store → Prop
  | mk {S : Store} {x : D} {ds : List D} {qs : List Rat} {m : Rat} (hx : seqP x = some ds) (h : IsNs ds qs) (hz : Sml qs) (hm : m ∈ qs) (hle : ∀ q ∈ qs, q ≤ m) : Fhighest [x] S (enc m) S
theorem p_highest {B : Bs} (T : Txt B) (P1 : DefP B "common_bottom" scommon_bottom Pcommon_bottom 2 Fcommon_bottom) (P2 : DefP B "wholes" swholes Pwholes 2 Fwholes) (P3 : DefP B "plain" splain Pplain 5 Fplain) {f : Addr} {fd : FuncData} (Fn : Fun B.K "highest" "highest" shighest f fd) (hm : B.mg "highest" = some (.ref f)) : DefP B "highest" shighest Phighest 6 Fhighest := by
  refine def_ok Fn schighest hm bnhighest fun args S d S' hl hF => ?_
  cases hF with
  | @mk _ x ds qs m hx h hz hmm hle =>
    have hc := hz.cb
    have hxa := seqP_A (S := S) hx
    obtain ⟨j, hj, hno⟩ := first_at (qs.map (wh (cb qs))) (wh (cb qs) m) (List.mem_map_of_mem hmm)
    have hq : qs[j]? = some m := by
      rw [List.getElem?_map] at hj
      cases e : qs[j]? with
      | none => rw [e] at hj; cases hj
      | some q =>
        rw [e] at hj
        rw [wh_inj (cb_pos qs) (cb_dvd (List.mem_of_getElem? e)) (cb_dvd hmm) (Option.some.inj hj)]
    obtain ⟨d0, hd0, hn⟩ := h.getQ hq
    have hs8 := (hz.sz m hmm).mono (show 800 ≤ 8000 by decide)
    have hat : atI ds (j : Int) = some d0 := atI_nat hd0
    refine' ss_cons (s_set (i := 1) rfl rfl rfl ?h1 ?n1)
    case h1 => walk_at "ev"
    case n1 =>
    refine' ss_one (s_ret (e_call P3 ?k (a_cons (e_ix ?w1 (e_index (j := j) ?w2 (e_maxL T ?w3 ?sq ?mem ?le ?g1 ?g2) hj hno ?g3 ?g4 ?g5 ?g6) hxa hat ?g7) a_nil ?pl) (Fplain.mk hn hs8) ?g8 ?g9 ?g10) ?r)
    case w1 => walk_at "ev"
    case w2 => walk_at "ev"
    case w3 => walk_at "ev"
    case sq => rfl
    case mem => exact List.mem_map_of_mem hmm
    case le =>
      intro y hy
      obtain ⟨q, hqm, rfl⟩ := List.mem_map.mp hy
      exact (wh_le (cb_pos qs) (cb_dvd hqm) (cb_dvd hmm)).mpr (hle q hqm)
    case r => exact ⟨rfl, .inl rfl⟩
    all_goals try walk_at "ev"
abbrev slowest : Stmt := top 23
abbrev Nlowest : List Str := ["numbers", "keys"]
abbrev Plowest : List Str := ["numbers"]
theorem sclowest : FnScope Nlowest Plowest (defScope slowest) := ⟨rfl, rfl, rfl, by decide +kernel, rfl, by decide +kernel, by decide +kernel⟩
theorem bnlowest : ∀ (kV doc pm : Value) (an : Option Addr) (cdv ct : Value) (us : List Value), us.length = Plowest.length → bindArgs (PySem.W.fnOf "lowest" "lowest" (defArgs slowest) (defBody slowest) (defScope slowest) .none kV doc pm an cdv ct) ⟨us, []⟩ = pure (Plowest.zip us) := fun _ _ _ _ _ _ us hl => match us, hl with | [_], _ => rfl

inductive Flowest : List D → Store → D → Store → Prop
  | mk {S : Store} {x : D} {ds : List D} {qs : List Rat} {m : Rat} (hx : seqP x = some ds) (h : IsNs ds qs) (hz : Sml qs) (hm : m ∈ qs) (hle : ∀ q ∈ qs, m ≤ q) : Flowest [x] S (enc m) S
theorem p_lowest {B : Bs} (T : Txt B) (P1 : DefP B "common_bottom" scommon_bottom Pcommon_bottom 2 Fcommon_bottom) (P2 : DefP B "wholes" swholes Pwholes 2 Fwholes) (P3 : DefP B "plain" splain Pplain 5 Fplain) {f : Addr} {fd : FuncData} (Fn : Fun B.K "lowest" "lowest" slowest f fd) (hm : B.mg "lowest" = some (.ref f)) : DefP B "lowest" slowest Plowest 6 Flowest := by
  refine def_ok Fn sclowest hm bnlowest fun args S d S' hl hF => ?_
  cases hF with
  | @mk _ x ds qs m hx h hz hmm hle =>
    have hc := hz.cb
    have hxa := seqP_A (S := S) hx
    obtain ⟨j, hj, hno⟩ := first_at (qs.map (wh (cb qs))) (wh (cb qs) m) (List.mem_map_of_mem hmm)
    have hq : qs[j]? = some m := by
      rw [List.getElem?_map] at hj
      cases e : qs[j]? with
      | none => rw [e] at hj; cases hj
      | some q =>
        rw [e] at hj
        rw [wh_inj (cb_pos qs) (cb_dvd (List.mem_of_getElem? e)) (cb_dvd hmm) (Option.some.inj hj)]
    obtain ⟨d0, hd0, hn⟩ := h.getQ hq
    have hs8 := (hz.sz m hmm).mono (show 800 ≤ 8000 by decide)
    have hat : atI ds (j : Int) = some d0 := atI_nat hd0
    refine' ss_cons (s_set (i := 1) rfl rfl rfl ?h1 ?n1)
    case h1 => walk_at "ev"
    case n1 =>
    refine' ss_one (s_ret (e_call P3 ?k (a_cons (e_ix ?w1 (e_index (j := j) ?w2 (e_minL T ?w3 ?sq ?mem ?le ?g1 ?g2) hj hno ?g3 ?g4 ?g5 ?g6) hxa hat ?g7) a_nil ?pl) (Fplain.mk hn hs8) ?g8 ?g9 ?g10) ?r)
    case w1 => walk_at "ev"
    case w2 => walk_at "ev"
    case w3 => walk_at "ev"
    case sq => rfl
    case mem => exact List.mem_map_of_mem hmm
    case le =>
      intro y hy
      obtain ⟨q, hqm, rfl⟩ := List.mem_map.mp hy
      exact (wh_le (cb_pos qs) (cb_dvd hmm) (cb_dvd hqm)).mpr (hle q hqm)
    case r => exact ⟨rfl, .inl rfl⟩
    all_goals try walk_at "ev"
/-! ### the checks -/
abbrev sis_number : Stmt := top 9
abbrev Nis_number : List Str := ["value"]
abbrev Pis_number : List Str := ["value"]
theorem scis_number : FnScope Nis_number Pis_number (defScope sis_number) := ⟨rfl, rfl, rfl, by decide +kernel, rfl, by decide +kernel, by decide +kernel⟩
theorem bnis_number : ∀ (kV doc pm : Value) (an : Option Addr) (cdv ct : Value) (us : List Value), us.length = Pis_number.length → bindArgs (PySem.W.fnOf "is_number" "is_number" (defArgs sis_number) (defBody sis_number) (defScope sis_number) .none kV doc pm an cdv ct) ⟨us, []⟩ = pure (Pis_number.zip us) := fun _ _ _ _ _ _ us hl => match us, hl with | [_], _ => rfl

inductive Fis_number : List D → Store → D → Store → Prop
  | mk {S : Store} {x : D} {q : Rat} (h : IsN x q) : Fis_number [x] S (.bl true) S
local macro_rules | `(tactic| walk_at "call") => `(tactic| ((with_reducible refine' e_call (by assumption : DefP _ "is_whole" _ _ _ _) ?_ ?_ (FWhole.mk ?_) ?_ ?_ ?_) <;> try walk_at "ev"))
theorem p_is_number {B : Bs} (T : Txt B) (P1 : DefP B "is_whole" sis_whole ["value"] 1 FWhole) {f : Addr} {fd : FuncData} (Fn : Fun B.K "is_number" "is_number" sis_number f fd) (hm : B.mg "is_number" = some (.ref f)) : DefP B "is_number" sis_number Pis_number 2 Fis_number := by
  refine def_ok Fn scis_number hm bnis_number fun args S d S' hl hF => ?_
  cases hF with
  | @mk _ x q h =>
    have l1 := h.live S
    refine' ss_one (s_ret ?h1 ?r)
    case h1 => walk_at "ev"
    case r => exact ⟨by cases h <;> rfl, .inl rfl⟩
local macro_rules | `(tactic| walk_at "call") => `(tactic| ((with_reducible refine' e_call (by assumption : DefP _ "is_number" _ _ _ _) ?_ ?_ (Fis_number.mk ?_) ?_ ?_ ?_) <;> try walk_at "ev"))
abbrev scheck_number : Stmt := top 26
abbrev Ncheck_number : List Str := ["number"]
abbrev Pcheck_number : List Str := ["number"]
theorem sccheck_number : FnScope Ncheck_number Pcheck_number (defScope scheck_number) := ⟨rfl, rfl, rfl, by decide +kernel, rfl, by decide +kernel, by decide +kernel⟩
theorem bncheck_number : ∀ (kV doc pm : Value) (an : Option Addr) (cdv ct : Value) (us : List Value), us.length = Pcheck_number.length → bindArgs (PySem.W.fnOf "check_number" "check_number" (defArgs scheck_number) (defBody scheck_number) (defScope scheck_number) .none kV doc pm an cdv ct) ⟨us, []⟩ = pure (Pcheck_number.zip us) := fun _ _ _ _ _ _ us hl => match us, hl with | [_], _ => rfl

inductive Fcheck_number : List D → Store → D → Store → Prop
  | mk {S : Store} {x : D} {q : Rat} (h : IsN x q) : Fcheck_number [x] S .non S
theorem p_check_number {B : Bs} (T : Txt B) (P1 : DefP B "is_number" sis_number Pis_number 2 Fis_number) {f : Addr} {fd : FuncData} (Fn : Fun B.K "check_number" "check_number" scheck_number f fd) (hm : B.mg "check_number" = some (.ref f)) : DefP B "check_number" scheck_number Pcheck_number 3 Fcheck_number := by
  refine def_ok Fn sccheck_number hm bncheck_number fun args S d S' hl hF => ?_
  cases hF with
  | @mk _ x q h =>
    refine' ss_one (s_if ?c ?t (fun _ => ss_nil ⟨rfl, .inl rfl⟩))
    case c => walk_at "ev"
    case t => walk_at "way"
local macro_rules | `(tactic| walk_at "call") => `(tactic| ((with_reducible refine' e_call (by assumption : DefP _ "check_number" _ _ _ _) ?_ ?_ (Fcheck_number.mk ?_) ?_ ?_ ?_) <;> try walk_at "ev"))
abbrev scheck_pair : Stmt := top 27
abbrev Ncheck_pair : List Str := ["one", "other"]
abbrev Pcheck_pair : List Str := ["one", "other"]
theorem sccheck_pair : FnScope Ncheck_pair Pcheck_pair (defScope scheck_pair) := ⟨rfl, rfl, rfl, by decide +kernel, rfl, by decide +kernel, by decide +kernel⟩
theorem bncheck_pair : ∀ (kV doc pm : Value) (an : Option Addr) (cdv ct : Value) (us : List Value), us.length = Pcheck_pair.length → bindArgs (PySem.W.fnOf "check_pair" "check_pair" (defArgs scheck_pair) (defBody scheck_pair) (defScope scheck_pair) .none kV doc pm an cdv ct) ⟨us, []⟩ = pure (Pcheck_pair.zip us) := fun _ _ _ _ _ _ us hl => match us, hl with | [_, _], _ => rfl

inductive Fcheck_pair : List D → Store → D → Store → Prop
  | mk {S : Store} {x y : D} {p q : Rat} (h : IsN x p) (g : IsN y q) : Fcheck_pair [x, y] S .non S
theorem p_check_pair {B : Bs} (T : Txt B) (P1 : DefP B "check_number" scheck_number Pcheck_number 3 Fcheck_number) {f : Addr} {fd : FuncData} (Fn : Fun B.K "check_pair" "check_pair" scheck_pair f fd) (hm : B.mg "check_pair" = some (.ref f)) : DefP B "check_pair" scheck_pair Pcheck_pair 4 Fcheck_pair := by
  refine def_ok Fn sccheck_pair hm bncheck_pair fun args S d S' hl hF => ?_
  cases hF with
  | @mk _ x y p q h g =>
    refine' ss_cons (s_expr ?h1 ?n1 ?sw)
    case h1 => walk_at "ev"
    case sw => intros; rfl
    refine' ss_one (s_expr ?h2 ?n2 ?sw2)
    case h2 => walk_at "ev"
    case sw2 => intros; rfl
    exact ⟨rfl, .inl rfl⟩
local macro_rules | `(tactic| walk_at "call") => `(tactic| ((with_reducible refine' e_call (by assumption : DefP _ "check_pair" _ _ _ _) ?_ ?_ (Fcheck_pair.mk ?_ ?_) ?_ ?_ ?_) <;> try walk_at "ev"))
abbrev scheck_numbers : Stmt := top 33
abbrev Ncheck_numbers : List Str := ["numbers", "fewest", "item"]
abbrev Pcheck_numbers : List Str := ["numbers", "fewest"]
theorem sccheck_numbers : FnScope Ncheck_numbers Pcheck_numbers (defScope scheck_numbers) := ⟨rfl, rfl, rfl, by decide +kernel, rfl, by decide +kernel, by decide +kernel⟩
theorem bncheck_numbers : ∀ (kV doc pm : Value) (an : Option Addr) (cdv ct : Value) (us : List Value), us.length = Pcheck_numbers.length → bindArgs (PySem.W.fnOf "check_numbers" "check_numbers" (defArgs scheck_numbers) (defBody scheck_numbers) (defScope scheck_numbers) .none kV doc pm an cdv ct) ⟨us, []⟩ = pure (Pcheck_numbers.zip us) := fun _ _ _ _ _ _ us hl => match us, hl with | [_, _], _ => rfl

inductive Fcheck_numbers : List D → Store → D → Store → Prop
  | mk {S : Store} {x : D} {ds : List D} {qs : List Rat} {n : Int} (hx : seqP x = some ds) (h : IsNs ds qs) (hn : n ≤ (ds.length : Int)) (hl : ds.length ≤ 100000) : Fcheck_numbers [x, .int n] S .non S
theorem seqP_kind {x : D} {ds : List D} (h : seqP x = some ds) : (x.isList || x.isTup) = true := by
  cases x <;> first | rfl | cases h
theorem seqP_live {x : D} {ds : List D} (h : seqP x = some ds) (S : Store) : liveD S x = true := by
  cases x <;> first | rfl | cases h
theorem p_check_numbers {B : Bs} (T : Txt B) (P1 : DefP B "is_number" sis_number Pis_number 2 Fis_number) {f : Addr} {fd : FuncData} (Fn : Fun B.K "check_numbers" "check_numbers" scheck_numbers f fd) (hm : B.mg "check_numbers" = some (.ref f)) : DefP B "check_numbers" scheck_numbers Pcheck_numbers 3 Fcheck_numbers := by
  refine def_ok Fn sccheck_numbers hm bncheck_numbers fun args S d S' hl hF => ?_
  cases hF with
  | @mk _ x ds qs n hx h hn hlen =>
    have hxa := seqP_A (S := S) hx
    have hlv := seqP_live hx S
    have hk := seqP_kind hx
    refine' ss_cons (s_if ?c ?t (fun _ => ss_nil ?n1))
    case c => walk_at "ev"
    case t =>
      intro z
      rw [hk] at z
      have : ¬ ((ds.length : Int) < n) := by omega
      simp [this] at z
    case n1 =>
    refine' ss_one (s_if (t_not (t_val (e_all (bs := ds.map fun _ => true) T (e_lcP (ds := ds) (S1 := S) (res := ds.map fun _ => D.bl true) (j := 2) (i_seq (x := x) ?w hx) rfl rfl rfl rfl (by simp) ?turn hlen) ?sq ?g1 ?g2) ?he)) ?t2 (fun _ => ss_nil ⟨rfl, .inl rfl⟩))
    case w => walk_at "ev"
    case sq => simp [seqL]
    case he => intros; rfl
    case turn =>
      intro i d y hd hy
      obtain ⟨q, hq, hn⟩ := h.get hd
      have hy' : y = .bl true := by
        rw [List.getElem?_map, hd] at hy
        exact (Option.some.inj hy).symm
      subst hy'
      walk_at "ev"
    case t2 =>
      intro z
      simp at z
    all_goals try walk_at "ev"
local macro_rules | `(tactic| walk_at "call") => `(tactic| ((with_reducible refine' e_call (by assumption : DefP _ "check_numbers" _ _ _ _) ?_ ?_ (Fcheck_numbers.mk ?_ ?_ ?_ ?_) ?_ ?_ ?_) <;> try walk_at "ev"))
end DL
/-! text: K6 -/
namespace DL
open PySem L2 QM
/-! the walker: one step by the syntax that stands there, then on; what it can't close stays -/
local macro_rules | `(tactic| walk_at "ev") => `(tactic| first
  | ((with_reducible show _ = _); first | rfl | assumption)
  | ((with_reducible show EvE _ _ _ _ _ _); first
      | ((with_reducible show EvE _ (.Name _ _) _ _ _ _); first
      | ((with_reducible refine' e_name ?_ ?_ ?_) <;> try walk_at "ev"))
      | ((with_reducible show EvE _ (.Constant _ _ _) _ _ _ _); first
      | (with_reducible exact e_int)
      | (with_reducible exact e_str)
      | (with_reducible exact e_bl)
      | (with_reducible exact e_non))
      | ((with_reducible show EvE _ (.Call _ _ _ _) _ _ _ _); first
      | walk_at "call"
      | ((with_reducible show EvE _ (.Call (.Name "isinstance" _) _ _ _) _ _ _ _); first
      | ((with_reducible refine' e_isInt (by assumption) ?_ ?_ ?_ ?_ ?_) <;> try walk_at "ev")
      | ((with_reducible refine' e_isBool (by assumption) ?_ ?_ ?_ ?_ ?_) <;> try walk_at "ev")
      | ((with_reducible refine' e_isRat (by assumption) ?_ ?_ ?_ ?_ ?_) <;> try walk_at "ev")
      | ((with_reducible refine' e_isStr (by assumption) ?_ ?_ ?_ ?_ ?_) <;> try walk_at "ev")
      | ((with_reducible refine' e_isList (by assumption) ?_ ?_ ?_ ?_ ?_) <;> try walk_at "ev")
      | ((with_reducible refine' e_isTup (by assumption) ?_ ?_ ?_ ?_ ?_) <;> try walk_at "ev")
      | ((with_reducible refine' e_isDict (by assumption) ?_ ?_ ?_ ?_ ?_) <;> try walk_at "ev")
      | ((with_reducible refine' e_isLT (by assumption) ?_ ?_ ?_ ?_ ?_ ?_) <;> try walk_at "ev"))
      | ((with_reducible refine' e_len (nm := "len") (by assumption) ?_ ?_ ?_ ?_) <;> try walk_at "ev")
      | ((with_reducible refine' e_abs (by assumption) ?_ ?_ ?_) <;> try walk_at "ev")
      | ((with_reducible refine' e_intI (by assumption) ?_ ?_ ?_) <;> try walk_at "ev")
      | ((with_reducible refine' e_list (by assumption) ?_ ?_ ?_ ?_) <;> try walk_at "ev")
      | ((with_reducible refine' e_tuple (by assumption) ?_ ?_ ?_ ?_) <;> try walk_at "ev")
      | ((with_reducible refine' e_gcd (by assumption) ?_ ?_ ?_ ?_ ?_) <;> try walk_at "ev")
      | ((with_reducible refine' e_max2 (by assumption) ?_ ?_ ?_ ?_ ?_) <;> try walk_at "ev")
      | ((with_reducible refine' e_min2 (by assumption) ?_ ?_ ?_ ?_ ?_) <;> try walk_at "ev"))
      | ((with_reducible show EvE _ (.BinOp _ _ _ _) _ _ _ _); first
      | ((with_reducible refine' e_bin ?_ ?_ ?_) <;> try walk_at "ev"))
      | ((with_reducible show EvE _ (.Subscript _ _ _) _ _ _ _); first
      | ((with_reducible refine' e_ix ?_ ?_ ?_ ?_ ?_) <;> try walk_at "ev"))
      | ((with_reducible show EvE _ (.Compare _ _ _ _) _ _ _ _); first
      | ((with_reducible refine' e_cmp ?_ ?_ ?_ ?_) <;> try walk_at "ev"))
      | ((with_reducible show EvE _ (.Attribute _ _ _) _ _ _ _); first
      | ((with_reducible refine' e_top (by assumption) ?_ ?_) <;> try walk_at "ev")
      | ((with_reducible refine' e_bottom (by assumption) ?_ ?_) <;> try walk_at "ev"))
      | ((with_reducible show EvE _ (.UnaryOp _ _ _) _ _ _ _); first
      | ((with_reducible refine' e_not ?_) <;> try walk_at "ev")
      | ((with_reducible refine' e_neg ?_) <;> try walk_at "ev"))
      | ((with_reducible show EvE _ (.Tuple _ _ _) _ _ _ _); first
      | ((with_reducible refine' e_tup ?_ ?_) <;> try walk_at "ev"))
      | ((with_reducible show EvE _ (.List _ _) _ _ _ _); first
      | ((with_reducible refine' e_lst ?_ ?_) <;> try walk_at "ev"))
      | ((with_reducible show EvE _ (.BoolOp _ _ _) _ _ _ _); first
      | ((with_reducible refine' e_one ?_) <;> try walk_at "ev")
      | ((with_reducible refine' e_and ?_ (fun _ => ?_)) <;> try walk_at "ev")
      | ((with_reducible refine' e_or ?_ (fun _ => ?_)) <;> try walk_at "ev"))
      | ((with_reducible show EvE _ (.IfExp _ _ _ _) _ _ _ _); first
      | ((with_reducible refine' e_if ?_ ?_ ?_) <;> first | walk_at "ev" | walk_at "way" | skip)))
  | exact Nat.le_of_ble_eq_true (by rfl)
  | ((with_reducible show EvT _ _ _ _ _ _); first
      | ((with_reducible refine' t_cmp ?_ ?_ ?_ ?_) <;> try walk_at "ev")
      | ((with_reducible refine' t_not ?_) <;> try walk_at "ev")
      | ((with_reducible refine' t_of (w_and ?_ (fun _ => ?_))) <;> try walk_at "ev")
      | ((with_reducible refine' t_of (w_or ?_ (fun _ => ?_))) <;> try walk_at "ev")
      | ((with_reducible refine' t_val ?_ ?_) <;> try walk_at "ev"))
  | ((with_reducible show EvA _ _ _ _ _ _); first
      | ((with_reducible refine' a_cons ?_ ?_ ?_) <;> try walk_at "ev")
      | (with_reducible exact a_nil))
  | ((with_reducible show BinR _ _ _ _ _ _); first
      | (with_reducible exact br_add)
      | (with_reducible exact br_sub)
      | ((with_reducible refine' br_mul ?_) <;> try walk_at "sz")
      | walk_at "br")
  | ((with_reducible show CmpR _ _ _ _ _ _); first
      | (with_reducible exact cr_lt)
      | (with_reducible exact cr_le)
      | (with_reducible exact cr_gt)
      | (with_reducible exact cr_ge)
      | (with_reducible exact cr_eqI)
      | (with_reducible exact cr_neI)
      | (with_reducible exact cr_isN)
      | (with_reducible exact cr_isB)
      | (with_reducible exact cr_eqB)
      | (with_reducible exact cr_eqS)
      | walk_at "cr")
  | ((with_reducible show EvW _ _ _ _ _ _); first
      | ((with_reducible refine' w_and1 ?_) <;> try walk_at "ev")
      | ((with_reducible refine' w_or1 ?_) <;> try walk_at "ev")
      | ((with_reducible refine' w_and ?_ (fun _ => ?_)) <;> try walk_at "ev")
      | ((with_reducible refine' w_or ?_ (fun _ => ?_)) <;> try walk_at "ev"))
  | ((with_reducible show EvK _ _ _ _ _ _); first
      | ((with_reducible refine' k_cons ?_ ?_) <;> try walk_at "ev")
      | (with_reducible exact k_nil))
  | ((with_reducible show Tgt _ _ _); first
      | ((with_reducible refine' Tgt.cons ?_ ?_ ?_ ?_) <;> try walk_at "ev")
      | (with_reducible exact Tgt.nil))
  | walk_at "side"
  | (intros; rfl))
local macro_rules | `(tactic| walk_at "side") => `(tactic| fail)
local macro_rules | `(tactic| walk_at "br") => `(tactic| fail)
local macro_rules | `(tactic| walk_at "cr") => `(tactic| fail)
local macro_rules | `(tactic| walk_at "call") => `(tactic| fail)
local macro_rules | `(tactic| walk_at "way") => `(tactic| first | exact fun z => Bool.noConfusion (show false = true from z) | exact fun z => Bool.noConfusion (show true = false from z) | (intro _; walk_at "ev"))
local macro_rules | `(tactic| walk_at "sz") => `(tactic| assumption)

local macro_rules | `(tactic| walk_at "side") => `(tactic| ((with_reducible show IsN _ _); first | assumption | exact isN_enc _ | exact IsN.int _))
local macro_rules | `(tactic| walk_at "side") => `(tactic| ((with_reducible show _ ≠ _); assumption))
local macro_rules | `(tactic| walk_at "side") => `(tactic| ((with_reducible show (_ : Nat) < _); assumption))
local macro_rules | `(tactic| walk_at "side") => `(tactic| ((with_reducible show Sz _ _); assumption))
local macro_rules | `(tactic| walk_at "side") => `(tactic| ((with_reducible show IsNs _ _); assumption))
local macro_rules | `(tactic| walk_at "side") => `(tactic| ((with_reducible show Sml _); assumption))

local macro_rules | `(tactic| walk_at "side") => `(tactic| ((with_reducible show _ ∈ _); assumption))
local macro_rules | `(tactic| walk_at "side") => `(tactic| ((with_reducible show ∀ _, _); assumption))
local macro_rules | `(tactic| walk_at "side") => `(tactic| ((with_reducible show (_ : Int) ≤ _); assumption))
local macro_rules | `(tactic| walk_at "side") => `(tactic| ((with_reducible show (_ : Nat) ≤ _); assumption))
local macro_rules | `(tactic| walk_at "call") => `(tactic| ((with_reducible refine' e_call (by assumption : DefP _ "plain" _ _ _ _) ?_ ?_ (Fplain.mk ?_ ?_) ?_ ?_ ?_) <;> try walk_at "ev"))
local macro_rules | `(tactic| walk_at "call") => `(tactic| ((with_reducible refine' e_call (by assumption : DefP _ "sum_of" _ _ _ _) ?_ ?_ (Fsum_of.mk ?_ ?_ ?_) ?_ ?_ ?_) <;> try walk_at "ev"))
local macro_rules | `(tactic| walk_at "call") => `(tactic| ((with_reducible refine' e_call (by assumption : DefP _ "highest" _ _ _ _) ?_ ?_ (Fhighest.mk ?_ ?_ ?_ ?_ ?_) ?_ ?_ ?_) <;> try walk_at "ev"))
local macro_rules | `(tactic| walk_at "call") => `(tactic| ((with_reducible refine' e_call (by assumption : DefP _ "lowest" _ _ _ _) ?_ ?_ (Flowest.mk ?_ ?_ ?_ ?_ ?_) ?_ ?_ ?_) <;> try walk_at "ev"))
local macro_rules | `(tactic| walk_at "call") => `(tactic| ((with_reducible refine' e_call (by assumption : DefP _ "add" _ _ _ _) ?_ ?_ (Fadd.mk ?_ ?_ ?_ ?_) ?_ ?_ ?_) <;> try walk_at "ev"))
local macro_rules | `(tactic| walk_at "call") => `(tactic| ((with_reducible refine' e_call (by assumption : DefP _ "less" _ _ _ _) ?_ ?_ (Fless.mk ?_ ?_ ?_ ?_) ?_ ?_ ?_) <;> try walk_at "ev"))
local macro_rules | `(tactic| walk_at "call") => `(tactic| ((with_reducible refine' e_call (by assumption : DefP _ "product" _ _ _ _) ?_ ?_ (Fproduct.mk ?_ ?_ ?_ ?_) ?_ ?_ ?_) <;> try walk_at "ev"))
local macro_rules | `(tactic| walk_at "call") => `(tactic| ((with_reducible refine' e_call (by assumption : DefP _ "divided" _ _ _ _) ?_ ?_ (Fdivided.mk ?_ ?_ ?_ ?_ ?_) ?_ ?_ ?_) <;> try walk_at "ev"))
local macro_rules | `(tactic| walk_at "call") => `(tactic| ((with_reducible refine' e_call (by assumption : DefP _ "sign_of" _ _ _ _) ?_ ?_ (Fsign_of.mk ?_) ?_ ?_ ?_) <;> try walk_at "ev"))
local macro_rules | `(tactic| walk_at "call") => `(tactic| ((with_reducible refine' e_call (by assumption : DefP _ "check_pair" _ _ _ _) ?_ ?_ (Fcheck_pair.mk ?_ ?_) ?_ ?_ ?_) <;> try walk_at "ev"))
local macro_rules | `(tactic| walk_at "call") => `(tactic| ((with_reducible refine' e_call (by assumption : DefP _ "check_numbers" _ _ _ _) ?_ ?_ (Fcheck_numbers.mk ?_ ?_ ?_ ?_) ?_ ?_ ?_) <;> try walk_at "ev"))
abbrev splus : Stmt := top 28
abbrev Nplus : List Str := ["one", "other"]
abbrev Pplus : List Str := ["one", "other"]
theorem scplus : FnScope Nplus Pplus (defScope splus) := ⟨rfl, rfl, rfl, by decide +kernel, rfl, by decide +kernel, by decide +kernel⟩
theorem bnplus : ∀ (kV doc pm : Value) (an : Option Addr) (cdv ct : Value) (us : List Value), us.length = Pplus.length → bindArgs (PySem.W.fnOf "plus" "plus" (defArgs splus) (defBody splus) (defScope splus) .none kV doc pm an cdv ct) ⟨us, []⟩ = pure (Pplus.zip us) := fun _ _ _ _ _ _ us hl => match us, hl with | [_, _], _ => rfl

inductive Fplus : List D → Store → D → Store → Prop
  | mk {S : Store} {x y : D} {p q : Rat} (h : IsN x p) (g : IsN y q) (hp : Sz 3900 p) (hq : Sz 3900 q) : Fplus [x, y] S (enc (p + q)) S
theorem p_plus {B : Bs} (T : Txt B) (P1 : DefP B "check_pair" scheck_pair Pcheck_pair 4 Fcheck_pair) (P2 : DefP B "plain" splain Pplain 5 Fplain) (P3 : DefP B "add" sadd Padd 5 Fadd) {f : Addr} {fd : FuncData} (Fn : Fun B.K "plus" "plus" splus f fd) (hm : B.mg "plus" = some (.ref f)) : DefP B "plus" splus Pplus 6 Fplus := by
  refine def_ok Fn scplus hm bnplus fun args S d S' hl hF => ?_
  cases hF with
  | @mk _ x y p q h g hp hq =>
    have hp4 := hp.mono (show 3900 ≤ 4000 by decide)
    have hq4 := hq.mono (show 3900 ≤ 4000 by decide)
    have hr : Sz 8000 (p + q) := (sz_add hp hq).mono (by decide)
    refine' ss_cons (s_expr ?h1 ?n1 ?sw)
    case h1 => walk_at "ev"
    case sw => intros; rfl
    refine' ss_one (s_ret ?h2 ?r)
    case h2 => walk_at "ev"
    case r => exact ⟨rfl, .inl rfl⟩
abbrev sminus : Stmt := top 29
abbrev Nminus : List Str := ["one", "other"]
abbrev Pminus : List Str := ["one", "other"]
theorem scminus : FnScope Nminus Pminus (defScope sminus) := ⟨rfl, rfl, rfl, by decide +kernel, rfl, by decide +kernel, by decide +kernel⟩
theorem bnminus : ∀ (kV doc pm : Value) (an : Option Addr) (cdv ct : Value) (us : List Value), us.length = Pminus.length → bindArgs (PySem.W.fnOf "minus" "minus" (defArgs sminus) (defBody sminus) (defScope sminus) .none kV doc pm an cdv ct) ⟨us, []⟩ = pure (Pminus.zip us) := fun _ _ _ _ _ _ us hl => match us, hl with | [_, _], _ => rfl

inductive Fminus : List D → Store → D → Store → Prop
  | mk {S : Store} {x y : D} {p q : Rat} (h : IsN x p) (g : IsN y q) (hp : Sz 3900 p) (hq : Sz 3900 q) : Fminus [x, y] S (enc (p - q)) S
theorem p_minus {B : Bs} (T : Txt B) (P1 : DefP B "check_pair" scheck_pair Pcheck_pair 4 Fcheck_pair) (P2 : DefP B "plain" splain Pplain 5 Fplain) (P3 : DefP B "less" sless Pless 6 Fless) {f : Addr} {fd : FuncData} (Fn : Fun B.K "minus" "minus" sminus f fd) (hm : B.mg "minus" = some (.ref f)) : DefP B "minus" sminus Pminus 7 Fminus := by
  refine def_ok Fn scminus hm bnminus fun args S d S' hl hF => ?_
  cases hF with
  | @mk _ x y p q h g hp hq =>
    have hp4 := hp.mono (show 3900 ≤ 4000 by decide)
    have hq4 := hq.mono (show 3900 ≤ 4000 by decide)
    have hr : Sz 8000 (p - q) := (sz_sub hp hq).mono (by decide)
    refine' ss_cons (s_expr ?h1 ?n1 ?sw)
    case h1 => walk_at "ev"
    case sw => intros; rfl
    refine' ss_one (s_ret ?h2 ?r)
    case h2 => walk_at "ev"
    case r => exact ⟨rfl, .inl rfl⟩
abbrev stimes : Stmt := top 30
abbrev Ntimes : List Str := ["one", "other"]
abbrev Ptimes : List Str := ["one", "other"]
theorem sctimes : FnScope Ntimes Ptimes (defScope stimes) := ⟨rfl, rfl, rfl, by decide +kernel, rfl, by decide +kernel, by decide +kernel⟩
theorem bntimes : ∀ (kV doc pm : Value) (an : Option Addr) (cdv ct : Value) (us : List Value), us.length = Ptimes.length → bindArgs (PySem.W.fnOf "times" "times" (defArgs stimes) (defBody stimes) (defScope stimes) .none kV doc pm an cdv ct) ⟨us, []⟩ = pure (Ptimes.zip us) := fun _ _ _ _ _ _ us hl => match us, hl with | [_, _], _ => rfl

inductive Ftimes : List D → Store → D → Store → Prop
  | mk {S : Store} {x y : D} {p q : Rat} (h : IsN x p) (g : IsN y q) (hp : Sz 3900 p) (hq : Sz 3900 q) : Ftimes [x, y] S (enc (p * q)) S
theorem p_times {B : Bs} (T : Txt B) (P1 : DefP B "check_pair" scheck_pair Pcheck_pair 4 Fcheck_pair) (P2 : DefP B "plain" splain Pplain 5 Fplain) (P3 : DefP B "product" sproduct Pproduct 5 Fproduct) {f : Addr} {fd : FuncData} (Fn : Fun B.K "times" "times" stimes f fd) (hm : B.mg "times" = some (.ref f)) : DefP B "times" stimes Ptimes 6 Ftimes := by
  refine def_ok Fn sctimes hm bntimes fun args S d S' hl hF => ?_
  cases hF with
  | @mk _ x y p q h g hp hq =>
    have hp4 := hp.mono (show 3900 ≤ 4000 by decide)
    have hq4 := hq.mono (show 3900 ≤ 4000 by decide)
    have hr : Sz 8000 (p * q) := (sz_mul hp hq).mono (by decide)
    refine' ss_cons (s_expr ?h1 ?n1 ?sw)
    case h1 => walk_at "ev"
    case sw => intros; rfl
    refine' ss_one (s_ret ?h2 ?r)
    case h2 => walk_at "ev"
    case r => exact ⟨rfl, .inl rfl⟩
abbrev sover : Stmt := top 31
abbrev Nover : List Str := ["one", "other"]
abbrev Pover : List Str := ["one", "other"]
theorem scover : FnScope Nover Pover (defScope sover) := ⟨rfl, rfl, rfl, by decide +kernel, rfl, by decide +kernel, by decide +kernel⟩
theorem bnover : ∀ (kV doc pm : Value) (an : Option Addr) (cdv ct : Value) (us : List Value), us.length = Pover.length → bindArgs (PySem.W.fnOf "over" "over" (defArgs sover) (defBody sover) (defScope sover) .none kV doc pm an cdv ct) ⟨us, []⟩ = pure (Pover.zip us) := fun _ _ _ _ _ _ us hl => match us, hl with | [_, _], _ => rfl

theorem sgn_zero {q : Rat} (h : q ≠ 0) : decide (sgn q = 0) = false := by
  have := num_ne h
  apply decide_eq_false
  unfold sgn
  simp only [decide_eq_true_eq]
  split <;> split <;> omega
inductive Fover : List D → Store → D → Store → Prop
  | mk {S : Store} {x y : D} {p q : Rat} (h : IsN x p) (g : IsN y q) (hp : Sz 3900 p) (hq : Sz 3900 q) (h0 : q ≠ 0) : Fover [x, y] S (enc (p / q)) S
theorem p_over {B : Bs} (T : Txt B) (P1 : DefP B "check_pair" scheck_pair Pcheck_pair 4 Fcheck_pair) (P2 : DefP B "sign_of" ssign_of Psign_of 2 Fsign_of) (P3 : DefP B "divided" sdivided Pdivided 5 Fdivided) {f : Addr} {fd : FuncData} (Fn : Fun B.K "over" "over" sover f fd) (hm : B.mg "over" = some (.ref f)) : DefP B "over" sover Pover 6 Fover := by
  refine def_ok Fn scover hm bnover fun args S d S' hl hF => ?_
  cases hF with
  | @mk _ x y p q h g hp hq h0 =>
    have hp4 := hp.mono (show 3900 ≤ 4000 by decide)
    have hq4 := hq.mono (show 3900 ≤ 4000 by decide)
    refine' ss_cons (s_expr ?h1 ?n1 ?sw)
    case h1 => walk_at "ev"
    case sw => intros; rfl
    refine' ss_cons (s_if ?c ?t (fun _ => ss_nil ?n2))
    case c => walk_at "ev"
    case t =>
      intro z
      rw [sgn_zero h0] at z
      cases z
    case n2 =>
    refine' ss_one (s_ret ?h2 ?r)
    case h2 => walk_at "ev"
    case r => exact ⟨rfl, .inl rfl⟩
abbrev scompare : Stmt := top 32
abbrev Ncompare : List Str := ["one", "other"]
abbrev Pcompare : List Str := ["one", "other"]
theorem sccompare : FnScope Ncompare Pcompare (defScope scompare) := ⟨rfl, rfl, rfl, by decide +kernel, rfl, by decide +kernel, by decide +kernel⟩
theorem bncompare : ∀ (kV doc pm : Value) (an : Option Addr) (cdv ct : Value) (us : List Value), us.length = Pcompare.length → bindArgs (PySem.W.fnOf "compare" "compare" (defArgs scompare) (defBody scompare) (defScope scompare) .none kV doc pm an cdv ct) ⟨us, []⟩ = pure (Pcompare.zip us) := fun _ _ _ _ _ _ us hl => match us, hl with | [_, _], _ => rfl

inductive Fcompare : List D → Store → D → Store → Prop
  | mk {S : Store} {x y : D} {p q : Rat} (h : IsN x p) (g : IsN y q) (hp : Sz 3900 p) (hq : Sz 3900 q) : Fcompare [x, y] S (.int (sgn (p - q))) S
theorem p_compare {B : Bs} (T : Txt B) (P1 : DefP B "check_pair" scheck_pair Pcheck_pair 4 Fcheck_pair) (P2 : DefP B "sign_of" ssign_of Psign_of 2 Fsign_of) (P3 : DefP B "less" sless Pless 6 Fless) {f : Addr} {fd : FuncData} (Fn : Fun B.K "compare" "compare" scompare f fd) (hm : B.mg "compare" = some (.ref f)) : DefP B "compare" scompare Pcompare 7 Fcompare := by
  refine def_ok Fn sccompare hm bncompare fun args S d S' hl hF => ?_
  cases hF with
  | @mk _ x y p q h g hp hq =>
    have hp4 := hp.mono (show 3900 ≤ 4000 by decide)
    have hq4 := hq.mono (show 3900 ≤ 4000 by decide)
    refine' ss_cons (s_expr ?h1 ?n1 ?sw)
    case h1 => walk_at "ev"
    case sw => intros; rfl
    refine' ss_one (s_ret ?h2 ?r)
    case h2 => walk_at "ev"
    case r => exact ⟨rfl, .inl rfl⟩
abbrev stotal : Stmt := top 34
abbrev Ntotal : List Str := ["numbers"]
abbrev Ptotal : List Str := ["numbers"]
theorem sctotal : FnScope Ntotal Ptotal (defScope stotal) := ⟨rfl, rfl, rfl, by decide +kernel, rfl, by decide +kernel, by decide +kernel⟩
theorem bntotal : ∀ (kV doc pm : Value) (an : Option Addr) (cdv ct : Value) (us : List Value), us.length = Ptotal.length → bindArgs (PySem.W.fnOf "total" "total" (defArgs stotal) (defBody stotal) (defScope stotal) .none kV doc pm an cdv ct) ⟨us, []⟩ = pure (Ptotal.zip us) := fun _ _ _ _ _ _ us hl => match us, hl with | [_], _ => rfl

inductive Ftotal : List D → Store → D → Store → Prop
  | mk {S : Store} {x : D} {ds : List D} {qs : List Rat} (hx : seqP x = some ds) (h : IsNs ds qs) (hz : Sml qs) : Ftotal [x] S (enc qs.sum) S
theorem p_total {B : Bs} (T : Txt B) (P1 : DefP B "check_numbers" scheck_numbers Pcheck_numbers 3 Fcheck_numbers) (P2 : DefP B "sum_of" ssum_of Psum_of 5 Fsum_of) {f : Addr} {fd : FuncData} (Fn : Fun B.K "total" "total" stotal f fd) (hm : B.mg "total" = some (.ref f)) : DefP B "total" stotal Ptotal 6 Ftotal := by
  refine def_ok Fn sctotal hm bntotal fun args S d S' hl hF => ?_
  cases hF with
  | @mk _ x ds qs hx h hz =>
    have hn : (0 : Int) ≤ (ds.length : Int) := by omega
    have hl2 : ds.length ≤ 100000 := by have := h.length; have := hz.len; omega
    refine' ss_cons (s_expr ?h1 ?n1 ?sw)
    case h1 => walk_at "ev"
    case sw => intros; rfl
    refine' ss_one (s_ret ?h2 ?r)
    case h2 => walk_at "ev"
    case r => exact ⟨rfl, .inl rfl⟩
abbrev sleast : Stmt := top 35
abbrev Nleast : List Str := ["numbers"]
abbrev Pleast : List Str := ["numbers"]
theorem scleast : FnScope Nleast Pleast (defScope sleast) := ⟨rfl, rfl, rfl, by decide +kernel, rfl, by decide +kernel, by decide +kernel⟩
theorem bnleast : ∀ (kV doc pm : Value) (an : Option Addr) (cdv ct : Value) (us : List Value), us.length = Pleast.length → bindArgs (PySem.W.fnOf "least" "least" (defArgs sleast) (defBody sleast) (defScope sleast) .none kV doc pm an cdv ct) ⟨us, []⟩ = pure (Pleast.zip us) := fun _ _ _ _ _ _ us hl => match us, hl with | [_], _ => rfl

inductive Fleast : List D → Store → D → Store → Prop
  | mk {S : Store} {x : D} {ds : List D} {qs : List Rat} {m : Rat} (hx : seqP x = some ds) (h : IsNs ds qs) (hz : Sml qs) (hm : m ∈ qs) (hle : ∀ q ∈ qs, m ≤ q) : Fleast [x] S (enc m) S
theorem p_least {B : Bs} (T : Txt B) (P1 : DefP B "check_numbers" scheck_numbers Pcheck_numbers 3 Fcheck_numbers) (P2 : DefP B "lowest" slowest Plowest 6 Flowest) {f : Addr} {fd : FuncData} (Fn : Fun B.K "least" "least" sleast f fd) (hm : B.mg "least" = some (.ref f)) : DefP B "least" sleast Pleast 7 Fleast := by
  refine def_ok Fn scleast hm bnleast fun args S d S' hl hF => ?_
  cases hF with
  | @mk _ x ds qs m hx h hz hmm hle =>
    have hlen := h.length
    have hn : (1 : Int) ≤ (ds.length : Int) := by have := List.length_pos_of_mem hmm; omega
    have hl2 : ds.length ≤ 100000 := by have := hz.len; omega
    refine' ss_cons (s_expr ?h1 ?n1 ?sw)
    case h1 => walk_at "ev"
    case sw => intros; rfl
    refine' ss_one (s_ret ?h2 ?r)
    case h2 => walk_at "ev"
    case r => exact ⟨rfl, .inl rfl⟩
abbrev sgreatest : Stmt := top 36
abbrev Ngreatest : List Str := ["numbers"]
abbrev Pgreatest : List Str := ["numbers"]
theorem scgreatest : FnScope Ngreatest Pgreatest (defScope sgreatest) := ⟨rfl, rfl, rfl, by decide +kernel, rfl, by decide +kernel, by decide +kernel⟩
theorem bngreatest : ∀ (kV doc pm : Value) (an : Option Addr) (cdv ct : Value) (us : List Value), us.length = Pgreatest.length → bindArgs (PySem.W.fnOf "greatest" "greatest" (defArgs sgreatest) (defBody sgreatest) (defScope sgreatest) .none kV doc pm an cdv ct) ⟨us, []⟩ = pure (Pgreatest.zip us) := fun _ _ _ _ _ _ us hl => match us, hl with | [_], _ => rfl

inductive Fgreatest : List D → Store → D → Store → Prop
  | mk {S : Store} {x : D} {ds : List D} {qs : List Rat} {m : Rat} (hx : seqP x = some ds) (h : IsNs ds qs) (hz : Sml qs) (hm : m ∈ qs) (hle : ∀ q ∈ qs, q ≤ m) : Fgreatest [x] S (enc m) S
theorem p_greatest {B : Bs} (T : Txt B) (P1 : DefP B "check_numbers" scheck_numbers Pcheck_numbers 3 Fcheck_numbers) (P2 : DefP B "highest" shighest Phighest 6 Fhighest) {f : Addr} {fd : FuncData} (Fn : Fun B.K "greatest" "greatest" sgreatest f fd) (hm : B.mg "greatest" = some (.ref f)) : DefP B "greatest" sgreatest Pgreatest 7 Fgreatest := by
  refine def_ok Fn scgreatest hm bngreatest fun args S d S' hl hF => ?_
  cases hF with
  | @mk _ x ds qs m hx h hz hmm hle =>
    have hlen := h.length
    have hn : (1 : Int) ≤ (ds.length : Int) := by have := List.length_pos_of_mem hmm; omega
    have hl2 : ds.length ≤ 100000 := by have := hz.len; omega
    refine' ss_cons (s_expr ?h1 ?n1 ?sw)
    case h1 => walk_at "ev"
    case sw => intros; rfl
    refine' ss_one (s_ret ?h2 ?r)
    case h2 => walk_at "ev"
    case r => exact ⟨rfl, .inl rfl⟩
end DL
/-! text: K7 -/
namespace DL
open PySem L2 QM
/-! the walker: one step by the syntax that stands there, then on; what it can't close stays -/
local macro_rules | `(tactic| walk_at "ev") => `(tactic| first
  | ((with_reducible show _ = _); first | rfl | assumption)
  | ((with_reducible show EvE _ _ _ _ _ _); first
      | ((with_reducible show EvE _ (.Name _ _) _ _ _ _); first
      | ((with_reducible refine' e_name ?_ ?_ ?_) <;> try walk_at "ev"))
      | ((with_reducible show EvE _ (.Constant _ _ _) _ _ _ _); first
      | (with_reducible exact e_int)
      | (with_reducible exact e_str)
      | (with_reducible exact e_bl)
      | (with_reducible exact e_non))
      | ((with_reducible show EvE _ (.Call _ _ _ _) _ _ _ _); first
      | walk_at "call"
      | ((with_reducible show EvE _ (.Call (.Name "isinstance" _) _ _ _) _ _ _ _); first
      | ((with_reducible refine' e_isInt (by assumption) ?_ ?_ ?_ ?_ ?_) <;> try walk_at "ev")
      | ((with_reducible refine' e_isBool (by assumption) ?_ ?_ ?_ ?_ ?_) <;> try walk_at "ev")
      | ((with_reducible refine' e_isRat (by assumption) ?_ ?_ ?_ ?_ ?_) <;> try walk_at "ev")
      | ((with_reducible refine' e_isStr (by assumption) ?_ ?_ ?_ ?_ ?_) <;> try walk_at "ev")
      | ((with_reducible refine' e_isList (by assumption) ?_ ?_ ?_ ?_ ?_) <;> try walk_at "ev")
      | ((with_reducible refine' e_isTup (by assumption) ?_ ?_ ?_ ?_ ?_) <;> try walk_at "ev")
      | ((with_reducible refine' e_isDict (by assumption) ?_ ?_ ?_ ?_ ?_) <;> try walk_at "ev")
      | ((with_reducible refine' e_isLT (by assumption) ?_ ?_ ?_ ?_ ?_ ?_) <;> try walk_at "ev"))
      | ((with_reducible refine' e_len (nm := "len") (by assumption) ?_ ?_ ?_ ?_) <;> try walk_at "ev")
      | ((with_reducible refine' e_abs (by assumption) ?_ ?_ ?_) <;> try walk_at "ev")
      | ((with_reducible refine' e_intI (by assumption) ?_ ?_ ?_) <;> try walk_at "ev")
      | ((with_reducible refine' e_list (by assumption) ?_ ?_ ?_ ?_) <;> try walk_at "ev")
      | ((with_reducible refine' e_tuple (by assumption) ?_ ?_ ?_ ?_) <;> try walk_at "ev")
      | ((with_reducible refine' e_gcd (by assumption) ?_ ?_ ?_ ?_ ?_) <;> try walk_at "ev")
      | ((with_reducible refine' e_max2 (by assumption) ?_ ?_ ?_ ?_ ?_) <;> try walk_at "ev")
      | ((with_reducible refine' e_min2 (by assumption) ?_ ?_ ?_ ?_ ?_) <;> try walk_at "ev"))
      | ((with_reducible show EvE _ (.BinOp _ _ _ _) _ _ _ _); first
      | ((with_reducible refine' e_bin ?_ ?_ ?_) <;> try walk_at "ev"))
      | ((with_reducible show EvE _ (.Subscript _ _ _) _ _ _ _); first
      | ((with_reducible refine' e_ix ?_ ?_ ?_ ?_ ?_) <;> try walk_at "ev"))
      | ((with_reducible show EvE _ (.Compare _ _ _ _) _ _ _ _); first
      | ((with_reducible refine' e_cmp ?_ ?_ ?_ ?_) <;> try walk_at "ev"))
      | ((with_reducible show EvE _ (.Attribute _ _ _) _ _ _ _); first
      | ((with_reducible refine' e_top (by assumption) ?_ ?_) <;> try walk_at "ev")
      | ((with_reducible refine' e_bottom (by assumption) ?_ ?_) <;> try walk_at "ev"))
      | ((with_reducible show EvE _ (.UnaryOp _ _ _) _ _ _ _); first
      | ((with_reducible refine' e_not ?_) <;> try walk_at "ev")
      | ((with_reducible refine' e_neg ?_) <;> try walk_at "ev"))
      | ((with_reducible show EvE _ (.Tuple _ _ _) _ _ _ _); first
      | ((with_reducible refine' e_tup ?_ ?_) <;> try walk_at "ev"))
      | ((with_reducible show EvE _ (.List _ _) _ _ _ _); first
      | ((with_reducible refine' e_lst ?_ ?_) <;> try walk_at "ev"))
      | ((with_reducible show EvE _ (.BoolOp _ _ _) _ _ _ _); first
      | ((with_reducible refine' e_one ?_) <;> try walk_at "ev")
      | ((with_reducible refine' e_and ?_ (fun _ => ?_)) <;> try walk_at "ev")
      | ((with_reducible refine' e_or ?_ (fun _ => ?_)) <;> try walk_at "ev"))
      | ((with_reducible show EvE _ (.IfExp _ _ _ _) _ _ _ _); first
      | ((with_reducible refine' e_if ?_ ?_ ?_) <;> first | walk_at "ev" | walk_at "way" | skip)))
  | exact Nat.le_of_ble_eq_true (by rfl)
  | ((with_reducible show EvT _ _ _ _ _ _); first
      | ((with_reducible refine' t_cmp ?_ ?_ ?_ ?_) <;> try walk_at "ev")
      | ((with_reducible refine' t_not ?_) <;> try walk_at "ev")
      | ((with_reducible refine' t_of (w_and ?_ (fun _ => ?_))) <;> try walk_at "ev")
      | ((with_reducible refine' t_of (w_or ?_ (fun _ => ?_))) <;> try walk_at "ev")
      | ((with_reducible refine' t_val ?_ ?_) <;> try walk_at "ev"))
  | ((with_reducible show EvA _ _ _ _ _ _); first
      | ((with_reducible refine' a_cons ?_ ?_ ?_) <;> try walk_at "ev")
      | (with_reducible exact a_nil))
  | ((with_reducible show BinR _ _ _ _ _ _); first
      | (with_reducible exact br_add)
      | (with_reducible exact br_sub)
      | ((with_reducible refine' br_mul ?_) <;> try walk_at "sz")
      | walk_at "br")
  | ((with_reducible show CmpR _ _ _ _ _ _); first
      | (with_reducible exact cr_lt)
      | (with_reducible exact cr_le)
      | (with_reducible exact cr_gt)
      | (with_reducible exact cr_ge)
      | (with_reducible exact cr_eqI)
      | (with_reducible exact cr_neI)
      | (with_reducible exact cr_isN)
      | (with_reducible exact cr_isB)
      | (with_reducible exact cr_eqB)
      | (with_reducible exact cr_eqS)
      | walk_at "cr")
  | ((with_reducible show EvW _ _ _ _ _ _); first
      | ((with_reducible refine' w_and1 ?_) <;> try walk_at "ev")
      | ((with_reducible refine' w_or1 ?_) <;> try walk_at "ev")
      | ((with_reducible refine' w_and ?_ (fun _ => ?_)) <;> try walk_at "ev")
      | ((with_reducible refine' w_or ?_ (fun _ => ?_)) <;> try walk_at "ev"))
  | ((with_reducible show EvK _ _ _ _ _ _); first
      | ((with_reducible refine' k_cons ?_ ?_) <;> try walk_at "ev")
      | (with_reducible exact k_nil))
  | ((with_reducible show Tgt _ _ _); first
      | ((with_reducible refine' Tgt.cons ?_ ?_ ?_ ?_) <;> try walk_at "ev")
      | (with_reducible exact Tgt.nil))
  | walk_at "side"
  | (intros; rfl))
local macro_rules | `(tactic| walk_at "side") => `(tactic| fail)
local macro_rules | `(tactic| walk_at "br") => `(tactic| fail)
local macro_rules | `(tactic| walk_at "cr") => `(tactic| fail)
local macro_rules | `(tactic| walk_at "call") => `(tactic| fail)
local macro_rules | `(tactic| walk_at "way") => `(tactic| first | exact fun z => Bool.noConfusion (show false = true from z) | exact fun z => Bool.noConfusion (show true = false from z) | (intro _; walk_at "ev"))
local macro_rules | `(tactic| walk_at "sz") => `(tactic| assumption)

local macro_rules | `(tactic| walk_at "side") => `(tactic| ((with_reducible show IsN _ _); first | assumption | exact isN_enc _ | exact IsN.int _))
local macro_rules | `(tactic| walk_at "side") => `(tactic| ((with_reducible show _ ≠ _); assumption))
local macro_rules | `(tactic| walk_at "side") => `(tactic| ((with_reducible show (_ : Nat) < _); assumption))
local macro_rules | `(tactic| walk_at "side") => `(tactic| ((with_reducible show Sz _ _); assumption))
local macro_rules | `(tactic| walk_at "side") => `(tactic| ((with_reducible show IsNs _ _); assumption))
local macro_rules | `(tactic| walk_at "side") => `(tactic| ((with_reducible show Sml _); assumption))

local macro_rules | `(tactic| walk_at "call") => `(tactic| ((with_reducible refine' e_call (by assumption : DefP _ "plain" _ _ _ _) ?_ ?_ (Fplain.mk ?_ ?_) ?_ ?_ ?_) <;> try walk_at "ev"))
local macro_rules | `(tactic| walk_at "call") => `(tactic| ((with_reducible refine' e_call (by assumption : DefP _ "common_bottom" _ _ _ _) ?_ ?_ (Fcommon_bottom.mk ?_ ?_ ?_) ?_ ?_ ?_) <;> try walk_at "ev"))
local macro_rules | `(tactic| walk_at "call") => `(tactic| ((with_reducible refine' e_call (by assumption : DefP _ "wholes" _ _ _ _) ?_ ?_ (Fwholes.mk ?_ ?_ ?_ ?_) ?_ ?_ ?_) <;> try walk_at "ev"))
local macro_rules | `(tactic| walk_at "call") => `(tactic| ((with_reducible refine' e_call (by assumption : DefP _ "check_numbers" _ _ _ _) ?_ ?_ (Fcheck_numbers.mk ?_ ?_ ?_ ?_) ?_ ?_ ?_) <;> try walk_at "ev"))
def tup1 (d : D) : D := .tup [d]
def inT : D → List D
  | .tup l => l
  | _ => []
theorem flat1 : ∀ ds : List D, ((ds.map tup1).flatMap fun d => (inT d).map ((fun _ x => x) d)) = ds
  | [] => rfl
  | d :: ds => by
    rw [List.map_cons, List.flatMap_cons, flat1 ds]
    rfl
def kk (c : Nat) (q : Rat) : IK := (wh c q, [])
/-! ### row_keys -/
abbrev srow_keys : Stmt := top 24
abbrev Nrow_keys : List Str := ["rows", "common", "row", "number"]
abbrev Prow_keys : List Str := ["rows"]
theorem scrow_keys : FnScope Nrow_keys Prow_keys (defScope srow_keys) := ⟨rfl, rfl, rfl, by decide +kernel, rfl, by decide +kernel, by decide +kernel⟩
theorem bnrow_keys : ∀ (kV doc pm : Value) (an : Option Addr) (cdv ct : Value) (us : List Value), us.length = Prow_keys.length → bindArgs (PySem.W.fnOf "row_keys" "row_keys" (defArgs srow_keys) (defBody srow_keys) (defScope srow_keys) .none kV doc pm an cdv ct) ⟨us, []⟩ = pure (Prow_keys.zip us) := fun _ _ _ _ _ _ us hl => match us, hl with | [_], _ => rfl

inductive Frow_keys : List D → Store → D → Store → Prop
  | mk {S : Store} {ds : List D} {qs : List Rat} (h : IsNs ds qs) (hz : Sml qs) : Frow_keys [.lst (ds.map tup1)] S (.lst ((qs.map (kk (cb qs))).map ikT)) S
theorem p_row_keys {B : Bs} (T : Txt B) (P1 : DefP B "common_bottom" scommon_bottom Pcommon_bottom 2 Fcommon_bottom) (P2 : DefP B "wholes" swholes Pwholes 2 Fwholes) {f : Addr} {fd : FuncData} (Fn : Fun B.K "row_keys" "row_keys" srow_keys f fd) (hm : B.mg "row_keys" = some (.ref f)) : DefP B "row_keys" srow_keys Prow_keys 3 Frow_keys := by
  refine def_ok Fn scrow_keys hm bnrow_keys fun args S d S' hl hF => ?_
  cases hF with
  | @mk _ ds qs h hz =>
    have hc := hz.cb
    have hlen := h.length
    have hz20 := hz.len
    refine' ss_cons (s_set (i := 1) rfl rfl rfl (e_call (ds := [.lst ds]) P1 ?k (a_cons (e_is (e_lc2P (ds := ds.map tup1) (inner := inT) (f := fun _ x => x) (j := 2) (j1 := 3) (i_seq (x := .lst (ds.map tup1)) ?h1 rfl) rfl rfl rfl rfl rfl rfl rfl ?i1 ?e1 ?z1) ?eq rfl) a_nil ?pl) (Fcommon_bottom.mk rfl h hz) ?g3 ?g4 ?g5) ?n1)
    case h1 => walk_at "ev"
    case i1 =>
      intro d hd
      obtain ⟨x, hx, rfl⟩ := List.mem_map.mp hd
      refine i_seq (x := tup1 x) ?_ rfl
      walk_at "ev"
    case e1 =>
      intro d hd x hx
      walk_at "ev"
    case z1 => rw [flat1]; omega
    case eq => rw [flat1]
    case n1 =>
      refine' ss_one (s_ret (d := .lst ((qs.map (kk (cb qs))).map ikT)) (S1 := S) (e_lcP (ds := ds.map tup1) (S1 := S) (j := 2) (i_seq (x := .lst (ds.map tup1)) ?h2 rfl) rfl rfl rfl rfl (by simp [hlen]) ?turn (by rw [List.length_map]; omega)) ⟨rfl, .inl rfl⟩)
      case h2 => walk_at "ev"
      case turn =>
        intro i d y hd hy
        rw [List.getElem?_map] at hd
        cases e1 : ds[i]? with
        | none => rw [e1] at hd; cases hd
        | some x =>
          rw [e1] at hd
          cases hd
          obtain ⟨q, hq, hn⟩ := h.get e1
          have hy' : y = ikT (kk (cb qs) q) := by
            rw [List.getElem?_map, List.getElem?_map, hq] at hy
            exact (Option.some.inj hy).symm
          subst hy'
          have h1 : IsNs [x] [q] := .cons hn .nil
          have z1 : Sml [q] := ⟨fun p hp => by rw [List.mem_singleton] at hp; rw [hp]; exact hz.sz q (List.mem_of_getElem? hq), by simp⟩
          refine' e_tuple (x := .lst ([wh (cb qs) q].map D.int)) (S1 := S) T ?w ?sq ?g1 ?g2
          case w =>
            refine' e_call P2 ?k2 ?a2 (Fwholes.mk (x := tup1 x) (ds := [x]) (qs := [q]) rfl h1 z1 hc) ?g6 ?g7 ?g8
            all_goals try walk_at "ev"
          case sq => rfl
          all_goals rfl
    all_goals try walk_at "ev"
end DL
/-! text: K8 -/
namespace DL
open PySem L2 QM
/-! the walker: one step by the syntax that stands there, then on; what it can't close stays -/
local macro_rules | `(tactic| walk_at "ev") => `(tactic| first
  | ((with_reducible show _ = _); first | rfl | assumption)
  | ((with_reducible show EvE _ _ _ _ _ _); first
      | ((with_reducible show EvE _ (.Name _ _) _ _ _ _); first
      | ((with_reducible refine' e_name ?_ ?_ ?_) <;> try walk_at "ev"))
      | ((with_reducible show EvE _ (.Constant _ _ _) _ _ _ _); first
      | (with_reducible exact e_int)
      | (with_reducible exact e_str)
      | (with_reducible exact e_bl)
      | (with_reducible exact e_non))
      | ((with_reducible show EvE _ (.Call _ _ _ _) _ _ _ _); first
      | walk_at "call"
      | ((with_reducible show EvE _ (.Call (.Name "isinstance" _) _ _ _) _ _ _ _); first
      | ((with_reducible refine' e_isInt (by assumption) ?_ ?_ ?_ ?_ ?_) <;> try walk_at "ev")
      | ((with_reducible refine' e_isBool (by assumption) ?_ ?_ ?_ ?_ ?_) <;> try walk_at "ev")
      | ((with_reducible refine' e_isRat (by assumption) ?_ ?_ ?_ ?_ ?_) <;> try walk_at "ev")
      | ((with_reducible refine' e_isStr (by assumption) ?_ ?_ ?_ ?_ ?_) <;> try walk_at "ev")
      | ((with_reducible refine' e_isList (by assumption) ?_ ?_ ?_ ?_ ?_) <;> try walk_at "ev")
      | ((with_reducible refine' e_isTup (by assumption) ?_ ?_ ?_ ?_ ?_) <;> try walk_at "ev")
      | ((with_reducible refine' e_isDict (by assumption) ?_ ?_ ?_ ?_ ?_) <;> try walk_at "ev")
      | ((with_reducible refine' e_isLT (by assumption) ?_ ?_ ?_ ?_ ?_ ?_) <;> try walk_at "ev"))
      | ((with_reducible refine' e_len (nm := "len") (by assumption) ?_ ?_ ?_ ?_) <;> try walk_at "ev")
      | ((with_reducible refine' e_abs (by assumption) ?_ ?_ ?_) <;> try walk_at "ev")
      | ((with_reducible refine' e_intI (by assumption) ?_ ?_ ?_) <;> try walk_at "ev")
      | ((with_reducible refine' e_list (by assumption) ?_ ?_ ?_ ?_) <;> try walk_at "ev")
      | ((with_reducible refine' e_tuple (by assumption) ?_ ?_ ?_ ?_) <;> try walk_at "ev")
      | ((with_reducible refine' e_gcd (by assumption) ?_ ?_ ?_ ?_ ?_) <;> try walk_at "ev")
      | ((with_reducible refine' e_max2 (by assumption) ?_ ?_ ?_ ?_ ?_) <;> try walk_at "ev")
      | ((with_reducible refine' e_min2 (by assumption) ?_ ?_ ?_ ?_ ?_) <;> try walk_at "ev"))
      | ((with_reducible show EvE _ (.BinOp _ _ _ _) _ _ _ _); first
      | ((with_reducible refine' e_bin ?_ ?_ ?_) <;> try walk_at "ev"))
      | ((with_reducible show EvE _ (.Subscript _ _ _) _ _ _ _); first
      | ((with_reducible refine' e_ix ?_ ?_ ?_ ?_ ?_) <;> try walk_at "ev"))
      | ((with_reducible show EvE _ (.Compare _ _ _ _) _ _ _ _); first
      | ((with_reducible refine' e_cmp ?_ ?_ ?_ ?_) <;> try walk_at "ev"))
      | ((with_reducible show EvE _ (.Attribute _ _ _) _ _ _ _); first
      | ((with_reducible refine' e_top (by assumption) ?_ ?_) <;> try walk_at "ev")
      | ((with_reducible refine' e_bottom (by assumption) ?_ ?_) <;> try walk_at "ev"))
      | ((with_reducible show EvE _ (.UnaryOp _ _ _) _ _ _ _); first
      | ((with_reducible refine' e_not ?_) <;> try walk_at "ev")
      | ((with_reducible refine' e_neg ?_) <;> try walk_at "ev"))
      | ((with_reducible show EvE _ (.Tuple _ _ _) _ _ _ _); first
      | ((with_reducible refine' e_tup ?_ ?_) <;> try walk_at "ev"))
      | ((with_reducible show EvE _ (.List _ _) _ _ _ _); first
      | ((with_reducible refine' e_lst ?_ ?_) <;> try walk_at "ev"))
      | ((with_reducible show EvE _ (.BoolOp _ _ _) _ _ _ _); first
      | ((with_reducible refine' e_one ?_) <;> try walk_at "ev")
      | ((with_reducible refine' e_and ?_ (fun _ => ?_)) <;> try walk_at "ev")
      | ((with_reducible refine' e_or ?_ (fun _ => ?_)) <;> try walk_at "ev"))
      | ((with_reducible show EvE _ (.IfExp _ _ _ _) _ _ _ _); first
      | ((with_reducible refine' e_if ?_ ?_ ?_) <;> first | walk_at "ev" | walk_at "way" | skip)))
  | exact Nat.le_of_ble_eq_true (by rfl)
  | ((with_reducible show EvT _ _ _ _ _ _); first
      | ((with_reducible refine' t_cmp ?_ ?_ ?_ ?_) <;> try walk_at "ev")
      | ((with_reducible refine' t_not ?_) <;> try walk_at "ev")
      | ((with_reducible refine' t_of (w_and ?_ (fun _ => ?_))) <;> try walk_at "ev")
      | ((with_reducible refine' t_of (w_or ?_ (fun _ => ?_))) <;> try walk_at "ev")
      | ((with_reducible refine' t_val ?_ ?_) <;> try walk_at "ev"))
  | ((with_reducible show EvA _ _ _ _ _ _); first
      | ((with_reducible refine' a_cons ?_ ?_ ?_) <;> try walk_at "ev")
      | (with_reducible exact a_nil))
  | ((with_reducible show BinR _ _ _ _ _ _); first
      | (with_reducible exact br_add)
      | (with_reducible exact br_sub)
      | ((with_reducible refine' br_mul ?_) <;> try walk_at "sz")
      | walk_at "br")
  | ((with_reducible show CmpR _ _ _ _ _ _); first
      | (with_reducible exact cr_lt)
      | (with_reducible exact cr_le)
      | (with_reducible exact cr_gt)
      | (with_reducible exact cr_ge)
      | (with_reducible exact cr_eqI)
      | (with_reducible exact cr_neI)
      | (with_reducible exact cr_isN)
      | (with_reducible exact cr_isB)
      | (with_reducible exact cr_eqB)
      | (with_reducible exact cr_eqS)
      | walk_at "cr")
  | ((with_reducible show EvW _ _ _ _ _ _); first
      | ((with_reducible refine' w_and1 ?_) <;> try walk_at "ev")
      | ((with_reducible refine' w_or1 ?_) <;> try walk_at "ev")
      | ((with_reducible refine' w_and ?_ (fun _ => ?_)) <;> try walk_at "ev")
      | ((with_reducible refine' w_or ?_ (fun _ => ?_)) <;> try walk_at "ev"))
  | ((with_reducible show EvK _ _ _ _ _ _); first
      | ((with_reducible refine' k_cons ?_ ?_) <;> try walk_at "ev")
      | (with_reducible exact k_nil))
  | ((with_reducible show Tgt _ _ _); first
      | ((with_reducible refine' Tgt.cons ?_ ?_ ?_ ?_) <;> try walk_at "ev")
      | (with_reducible exact Tgt.nil))
  | walk_at "side"
  | (intros; rfl))
local macro_rules | `(tactic| walk_at "side") => `(tactic| fail)
local macro_rules | `(tactic| walk_at "br") => `(tactic| fail)
local macro_rules | `(tactic| walk_at "cr") => `(tactic| fail)
local macro_rules | `(tactic| walk_at "call") => `(tactic| fail)
local macro_rules | `(tactic| walk_at "way") => `(tactic| first | exact fun z => Bool.noConfusion (show false = true from z) | exact fun z => Bool.noConfusion (show true = false from z) | (intro _; walk_at "ev"))
local macro_rules | `(tactic| walk_at "sz") => `(tactic| assumption)

local macro_rules | `(tactic| walk_at "side") => `(tactic| ((with_reducible show IsN _ _); first | assumption | exact isN_enc _ | exact IsN.int _))
local macro_rules | `(tactic| walk_at "side") => `(tactic| ((with_reducible show _ ≠ _); assumption))
local macro_rules | `(tactic| walk_at "side") => `(tactic| ((with_reducible show (_ : Nat) < _); assumption))
local macro_rules | `(tactic| walk_at "side") => `(tactic| ((with_reducible show Sz _ _); assumption))
local macro_rules | `(tactic| walk_at "side") => `(tactic| ((with_reducible show IsNs _ _); assumption))
local macro_rules | `(tactic| walk_at "side") => `(tactic| ((with_reducible show Sml _); assumption))

local macro_rules | `(tactic| walk_at "side") => `(tactic| ((with_reducible show _ ∈ _); assumption))
local macro_rules | `(tactic| walk_at "side") => `(tactic| ((with_reducible show ∀ _, _); assumption))
local macro_rules | `(tactic| walk_at "side") => `(tactic| ((with_reducible show (_ : Int) ≤ _); assumption))
local macro_rules | `(tactic| walk_at "side") => `(tactic| ((with_reducible show (_ : Nat) ≤ _); assumption))
local macro_rules | `(tactic| walk_at "call") => `(tactic| ((with_reducible refine' e_call (by assumption : DefP _ "plain" _ _ _ _) ?_ ?_ (Fplain.mk ?_ ?_) ?_ ?_ ?_) <;> try walk_at "ev"))
local macro_rules | `(tactic| walk_at "call") => `(tactic| ((with_reducible refine' e_call (by assumption : DefP _ "common_bottom" _ _ _ _) ?_ ?_ (Fcommon_bottom.mk ?_ ?_ ?_) ?_ ?_ ?_) <;> try walk_at "ev"))
local macro_rules | `(tactic| walk_at "call") => `(tactic| ((with_reducible refine' e_call (by assumption : DefP _ "wholes" _ _ _ _) ?_ ?_ (Fwholes.mk ?_ ?_ ?_ ?_) ?_ ?_ ?_) <;> try walk_at "ev"))
local macro_rules | `(tactic| walk_at "call") => `(tactic| ((with_reducible refine' e_call (by assumption : DefP _ "check_numbers" _ _ _ _) ?_ ?_ (Fcheck_numbers.mk ?_ ?_ ?_ ?_) ?_ ?_ ?_) <;> try walk_at "ev"))
local macro_rules | `(tactic| walk_at "call") => `(tactic| ((with_reducible refine' e_call (by assumption : DefP _ "row_keys" _ _ _ _) ?_ ?_ (Frow_keys.mk ?_ ?_) ?_ ?_ ?_) <;> try walk_at "ev"))
/-! ### the table -/
theorem dzD_mem {acc : List (IK × D)} {k : IK} {v : D} {e : IK × D} (h : e ∈ dzD acc k v) : e ∈ acc ∨ e = (k, v) := by
  unfold dzD at h
  split at h
  · obtain ⟨x, hx, rfl⟩ := List.mem_map.mp h
    by_cases z : x.1 = k
    · rw [if_pos z]; exact .inr (by rw [z])
    · rw [if_neg z]; exact .inl hx
  · rcases List.mem_append.mp h with z | z
    · exact .inl z
    · exact .inr (by simpa using z)
theorem dzD_keys {acc : List (IK × D)} {k k' : IK} {v : D} : k' ∈ (dzD acc k v).map (·.1) ↔ k' ∈ acc.map (·.1) ∨ k' = k := by
  unfold dzD
  by_cases q : (acc.any fun e => decide (e.1 = k)) = true
  · rw [if_pos q, List.map_map]
    have e : ((fun x : IK × D => x.1) ∘ fun e => if e.1 = k then (e.1, v) else e) = fun x => x.1 := by
      funext x
      show (if x.1 = k then (x.1, v) else x).1 = x.1
      split <;> rfl
    rw [e]
    constructor
    · exact .inl
    · rintro (z | z)
      · exact z
      · obtain ⟨x, hx, hxk⟩ := List.any_eq_true.mp q
        rw [z]
        exact List.mem_map.mpr ⟨x, hx, by simpa using hxk⟩
  · rw [if_neg q, List.map_append, List.mem_append]
    simp
theorem dzD_nodup {acc : List (IK × D)} {k : IK} {v : D} (h : (acc.map (·.1)).Nodup) : ((dzD acc k v).map (·.1)).Nodup := by
  unfold dzD
  by_cases q : (acc.any fun e => decide (e.1 = k)) = true
  · rw [if_pos q, List.map_map]
    have e : ((fun x : IK × D => x.1) ∘ fun e => if e.1 = k then (e.1, v) else e) = fun x => x.1 := by
      funext x
      show (if x.1 = k then (x.1, v) else x).1 = x.1
      split <;> rfl
    rw [e]
    exact h
  · rw [if_neg q, List.map_append, List.nodup_append]
    refine ⟨h, by simp, fun a ha b hb => ?_⟩
    have hb : b = k := by simpa using hb
    rw [hb]
    rintro rfl
    obtain ⟨x, hx, hxk⟩ := List.mem_map.mp ha
    exact q (List.any_eq_true.mpr ⟨x, hx, by simpa using hxk⟩)
theorem dz_fold : ∀ (l : List (IK × D)) (acc : List (IK × D)), (acc.map (·.1)).Nodup → ((l.foldl (fun a p => dzD a p.1 p.2) acc).map (·.1)).Nodup ∧ (∀ e ∈ l.foldl (fun a p => dzD a p.1 p.2) acc, e ∈ acc ∨ e ∈ l) ∧ ∀ k, k ∈ (l.foldl (fun a p => dzD a p.1 p.2) acc).map (·.1) ↔ k ∈ acc.map (·.1) ∨ k ∈ l.map (·.1)
  | [], acc, h => ⟨h, fun _ z => .inl z, fun k => by simp⟩
  | p :: l, acc, h => by
    obtain ⟨h1, h2, h3⟩ := dz_fold l (dzD acc p.1 p.2) (dzD_nodup h)
    refine ⟨h1, fun e he => ?_, fun k => ?_⟩
    · rcases h2 e he with z | z
      · rcases dzD_mem z with y | y
        · exact .inl y
        · exact .inr (by rw [y]; exact List.mem_cons_self)
      · exact .inr (List.mem_cons_of_mem _ z)
    · rw [List.foldl_cons, h3, dzD_keys, List.map_cons, List.mem_cons]
      constructor
      · rintro ((z | z) | z)
        · exact .inl z
        · exact .inr (.inl z)
        · exact .inr (.inr z)
      · rintro (z | z | z)
        · exact .inl (.inl z)
        · exact .inl (.inr z)
        · exact .inr z
def tbl (ds : List D) (qs : List Rat) : List (IK × D) := dzipD (qs.map (kk (cb qs))) (ds.map tup1)
theorem kk_inj {qs : List Rat} {p q : Rat} (hp : p ∈ qs) (hq : q ∈ qs) (h : kk (cb qs) p = kk (cb qs) q) : p = q := wh_inj (cb_pos qs) (cb_dvd hp) (cb_dvd hq) (Prod.mk.inj h).1
theorem kk_le {qs : List Rat} {p q : Rat} (hp : p ∈ qs) (hq : q ∈ qs) : ikL (kk (cb qs) p) ≤ ikL (kk (cb qs) q) ↔ p ≤ q := by
  rw [← wh_le (cb_pos qs) (cb_dvd hp) (cb_dvd hq)]
  show [wh (cb qs) p] ≤ [wh (cb qs) q] ↔ _
  rw [List.cons_le_cons_iff]
  constructor
  · rintro (z | z)
    · omega
    · omega
  · intro z
    rcases Int.lt_or_eq_of_le z with y | y
    · exact .inl y
    · exact .inr ⟨y, List.nil_le _⟩
theorem tbl_facts {ds : List D} {qs : List Rat} (h : IsNs ds qs) : ((tbl ds qs).map (·.1)).Nodup ∧ (∀ e ∈ tbl ds qs, ∃ q ∈ qs, ∃ d, e.1 = kk (cb qs) q ∧ e.2 = tup1 d ∧ IsN d q) ∧ ∀ k, k ∈ (tbl ds qs).map (·.1) ↔ k ∈ qs.map (kk (cb qs)) := by
  have hlen := h.length
  obtain ⟨h1, h2, h3⟩ := dz_fold ((qs.map (kk (cb qs))).zip (ds.map tup1)) [] List.nodup_nil
  refine ⟨h1, fun e he => ?_, fun k => ?_⟩
  · rcases h2 e he with z | z
    · cases z
    · obtain ⟨i, hi⟩ := List.mem_iff_getElem?.mp z
      rw [List.getElem?_zip_eq_some, List.getElem?_map, List.getElem?_map] at hi
      obtain ⟨i1, i2⟩ := hi
      cases e1 : ds[i]? with
      | none => rw [e1] at i2; cases i2
      | some d =>
        obtain ⟨q, hq, hn⟩ := h.get e1
        rw [e1] at i2
        rw [hq] at i1
        exact ⟨q, List.mem_of_getElem? hq, d, (Option.some.inj i1).symm, (Option.some.inj i2).symm, hn⟩
  · have := h3 k
    rw [List.map_nil, List.map_fst_zip (by simp [hlen])] at this
    simpa [tbl, dzipD] using this
theorem pull {c : Nat} {qs : List Rat} : ∀ {l : List IK}, (∀ k ∈ l, k ∈ qs.map (kk c)) → ∃ ps : List Rat, l = ps.map (kk c) ∧ ∀ p ∈ ps, p ∈ qs
  | [], _ => ⟨[], rfl, fun _ h => nomatch h⟩
  | k :: l, h => by
    obtain ⟨ps, e, hp⟩ := pull (l := l) fun k' hk' => h k' (List.mem_cons_of_mem _ hk')
    obtain ⟨q, hq, rfl⟩ := List.mem_map.mp (h k List.mem_cons_self)
    refine ⟨q :: ps, by rw [e]; rfl, fun p hp' => ?_⟩
    rcases List.mem_cons.mp hp' with z | z
    · rw [z]; exact hq
    · exact hp p z
/-- the sorted keys are those of the distinct numbers, ascending -/
theorem sorted_keys {ds : List D} {qs : List Rat} (h : IsNs ds qs) : (((tbl ds qs).map (·.1)).mergeSort fun a b => decide (ikL a ≤ ikL b)) = (asc qs).map (kk (cb qs)) := by
  obtain ⟨h1, h2, h3⟩ := tbl_facts h
  generalize hl : (tbl ds qs).map (·.1) = l at *
  have perm := List.mergeSort_perm l fun a b => decide (ikL a ≤ ikL b)
  have srt := List.pairwise_mergeSort (le := fun a b => decide (ikL a ≤ ikL b)) (fun a b c hab hbc => by simp only [decide_eq_true_eq] at *; exact List.le_trans hab hbc) (fun a b => by simp only [Bool.or_eq_true, decide_eq_true_eq]; exact List.le_total _ _) l
  have nd : (l.mergeSort fun a b => decide (ikL a ≤ ikL b)).Nodup := perm.nodup_iff.mpr h1
  obtain ⟨ps, e, hp⟩ := pull (c := cb qs) (qs := qs) (l := l.mergeSort fun a b => decide (ikL a ≤ ikL b)) fun k hk => (h3 k).mp (perm.mem_iff.mp hk)
  rw [e] at srt nd ⊢
  congr 1
  refine asc_of ?_ fun p => ⟨hp p, fun hpq => ?_⟩
  · rw [List.pairwise_map] at srt
    have nd2 : ps.Nodup := by
      rw [List.nodup_iff_pairwise_ne, List.pairwise_map] at nd
      rw [List.nodup_iff_pairwise_ne]
      exact nd.imp fun hne e => hne (by rw [e])
    refine (srt.and (List.nodup_iff_pairwise_ne.mp nd2)).imp_of_mem fun ha hb ⟨x, y⟩ => ?_
    simp only [decide_eq_true_eq] at x
    exact Rat.lt_of_le_of_ne ((kk_le (hp _ ha) (hp _ hb)).mp x) y
  · have : kk (cb qs) p ∈ ps.map (kk (cb qs)) := by
      rw [← e, perm.mem_iff]
      exact (h3 _).mpr (List.mem_map_of_mem hpq)
    obtain ⟨p', hp', e'⟩ := List.mem_map.mp this
    rw [← kk_inj (hp _ hp') hpq e']
    exact hp'
/-- the row that the table keeps for a key -/
def rowAt (t : List (IK × D)) (k : IK) : D := ((t.find? fun e => decide (e.1 = k)).map (·.2)).getD .non
theorem row_at : ∀ {t : List (IK × D)} {k : IK}, k ∈ t.map (·.1) → ∃ j : Nat, (t.map (·.1))[j]? = some k ∧ (t.map (·.2))[j]? = some (rowAt t k) ∧ (k, rowAt t k) ∈ t
  | [], k, h => by cases h
  | e :: t, k, h => by
    by_cases z : e.1 = k
    · have hr : rowAt (e :: t) k = e.2 := by unfold rowAt; simp [z]
      refine ⟨0, by simp [z], by simp [hr], ?_⟩
      rw [hr, ← z]
      exact List.mem_cons_self
    · have hr : rowAt (e :: t) k = rowAt t k := by unfold rowAt; simp [z]
      have hm : k ∈ t.map (·.1) := by
        rcases List.mem_cons.mp h with y | y
        · exact absurd y.symm z
        · exact y
      obtain ⟨j, j1, j2, j3⟩ := row_at hm
      exact ⟨j + 1, by simpa using j1, by rw [hr]; simpa using j2, by rw [hr]; exact List.mem_cons_of_mem _ j3⟩
def sortRows (ds : List D) (qs : List Rat) : List D := (asc qs).map fun q => rowAt (tbl ds qs) (kk (cb qs) q)
theorem sortRows_is {ds : List D} {qs : List Rat} (h : IsNs ds qs) : ∃ es, sortRows ds qs = es.map tup1 ∧ IsNs es (asc qs) := by
  obtain ⟨h1, h2, h3⟩ := tbl_facts h
  have key : ∀ l : List Rat, (∀ p ∈ l, p ∈ qs) → ∃ es, l.map (fun q => rowAt (tbl ds qs) (kk (cb qs) q)) = es.map tup1 ∧ IsNs es l := by
    intro l
    induction l with
    | nil => exact fun _ => ⟨[], rfl, .nil⟩
    | cons q l ih =>
      intro hl
      obtain ⟨es, e1, e2⟩ := ih fun p hp => hl p (List.mem_cons_of_mem _ hp)
      have hq := hl q List.mem_cons_self
      obtain ⟨j, _, _, j3⟩ := row_at ((h3 (kk (cb qs) q)).mpr (List.mem_map_of_mem hq))
      obtain ⟨q', hq', d, k1, k2, k3⟩ := h2 _ j3
      have := kk_inj hq hq' k1
      subst this
      exact ⟨d :: es, by rw [List.map_cons, List.map_cons, e1, ← k2], .cons k3 e2⟩
  exact key (asc qs) fun p hp => asc_mem.mp hp
theorem dzD_len (acc : List (IK × D)) (k : IK) (v : D) : (dzD acc k v).length ≤ acc.length + 1 := by
  unfold dzD
  split <;> simp
theorem dz_len : ∀ (l acc : List (IK × D)), (l.foldl (fun a p => dzD a p.1 p.2) acc).length ≤ acc.length + l.length
  | [], acc => Nat.le_refl _
  | p :: l, acc => by
    have h1 := dz_len l (dzD acc p.1 p.2)
    have h2 := dzD_len acc p.1 p.2
    rw [List.foldl_cons, List.length_cons]
    omega
/-! ### sorted_rows -/
abbrev ssorted_rows : Stmt := top 25
abbrev Nsorted_rows : List Str := ["rows", "table", "key"]
abbrev Psorted_rows : List Str := ["rows"]
theorem scsorted_rows : FnScope Nsorted_rows Psorted_rows (defScope ssorted_rows) := ⟨rfl, rfl, rfl, by decide +kernel, rfl, by decide +kernel, by decide +kernel⟩
theorem bnsorted_rows : ∀ (kV doc pm : Value) (an : Option Addr) (cdv ct : Value) (us : List Value), us.length = Psorted_rows.length → bindArgs (PySem.W.fnOf "sorted_rows" "sorted_rows" (defArgs ssorted_rows) (defBody ssorted_rows) (defScope ssorted_rows) .none kV doc pm an cdv ct) ⟨us, []⟩ = pure (Psorted_rows.zip us) := fun _ _ _ _ _ _ us hl => match us, hl with | [_], _ => rfl

inductive Fsorted_rows : List D → Store → D → Store → Prop
  | mk {S : Store} {ds : List D} {qs : List Rat} (h : IsNs ds qs) (hz : Sml qs) : Fsorted_rows [.lst (ds.map tup1)] S (.lst (sortRows ds qs)) S
theorem p_sorted_rows {B : Bs} (T : Txt B) (P1 : DefP B "row_keys" srow_keys Prow_keys 3 Frow_keys) {f : Addr} {fd : FuncData} (Fn : Fun B.K "sorted_rows" "sorted_rows" ssorted_rows f fd) (hm : B.mg "sorted_rows" = some (.ref f)) : DefP B "sorted_rows" ssorted_rows Psorted_rows 4 Fsorted_rows := by
  refine def_ok Fn scsorted_rows hm bnsorted_rows fun args S d S' hl hF => ?_
  cases hF with
  | @mk _ ds qs h hz =>
    have hlen := h.length
    have hz20 := hz.len
    have hal : (asc qs).length = ((tbl ds qs).map (·.1)).length := by rw [← List.length_map (f := kk (cb qs)), ← sorted_keys h, List.length_mergeSort]
    have htl : ((tbl ds qs).map (·.1)).length ≤ 100000 := by
      rw [List.length_map]
      have := dz_len ((qs.map (kk (cb qs))).zip (ds.map tup1)) []
      rw [List.length_zip, List.length_map, List.length_map, List.length_nil] at this
      exact Nat.le_trans this (by omega)
    refine' ss_cons (s_set (i := 1) rfl rfl rfl (e_dictzip (x := .lst ((qs.map (kk (cb qs))).map ikT)) (y := .lst (ds.map tup1)) (ks := qs.map (kk (cb qs))) (ds := ds.map tup1) T ?h1 ?h2 rfl rfl (by simp [hlen]) (by rw [List.length_map]; omega) ?g1 ?g2 ?g3 ?g4) ?n1)
    case h1 => walk_at "ev"
    case h2 => walk_at "ev"
    case n1 =>
      refine' ss_one (s_ret (d := .lst (sortRows ds qs)) (S1 := S) (e_lcP (ds := ((asc qs).map (kk (cb qs))).map ikT) (S1 := S) (j := 2) (i_seq (x := .lst (((asc qs).map (kk (cb qs))).map ikT)) (e_is (e_sortedD (ks := (tbl ds qs).map (·.1)) (vs := (tbl ds qs).map (·.2)) T ?h5 htl ?g5 ?g6) ?eq rfl) rfl) rfl rfl rfl rfl (by simp [sortRows]) ?turn (by rw [List.length_map, List.length_map, hal]; exact htl)) ⟨rfl, .inl rfl⟩)
      case h5 => walk_at "ev"
      case eq => rw [sorted_keys h]
      case turn =>
        intro i d y hd hy
        rw [List.getElem?_map, List.getElem?_map] at hd
        unfold sortRows at hy
        rw [List.getElem?_map] at hy
        cases e1 : (asc qs)[i]? with
        | none => rw [e1] at hd; cases hd
        | some q =>
          rw [e1] at hd hy
          cases hd
          cases hy
          obtain ⟨h1, h2, h3⟩ := tbl_facts h
          have hq : q ∈ qs := asc_mem.mp (List.mem_of_getElem? e1)
          obtain ⟨j, j1, j2, j3⟩ := row_at ((h3 (kk (cb qs) q)).mpr (List.mem_map_of_mem hq))
          refine e_dzget (S1 := S) (ks := (tbl ds qs).map (·.1)) (vs := (tbl ds qs).map (·.2)) (k := kk (cb qs) q) ?a ?b j1 j2 rfl
          case a => walk_at "ev"
          case b => walk_at "ev"
      all_goals try walk_at "ev"
    all_goals try walk_at "ev"
local macro_rules | `(tactic| walk_at "call") => `(tactic| ((with_reducible refine' e_call (by assumption : DefP _ "sorted_rows" _ _ _ _) ?_ ?_ (Fsorted_rows.mk ?_ ?_) ?_ ?_ ?_) <;> try walk_at "ev"))
abbrev sascending : Stmt := top 37
abbrev Nascending : List Str := ["numbers", "row", "number"]
abbrev Pascending : List Str := ["numbers"]
theorem scascending : FnScope Nascending Pascending (defScope sascending) := ⟨rfl, rfl, rfl, by decide +kernel, rfl, by decide +kernel, by decide +kernel⟩
theorem bnascending : ∀ (kV doc pm : Value) (an : Option Addr) (cdv ct : Value) (us : List Value), us.length = Pascending.length → bindArgs (PySem.W.fnOf "ascending" "ascending" (defArgs sascending) (defBody sascending) (defScope sascending) .none kV doc pm an cdv ct) ⟨us, []⟩ = pure (Pascending.zip us) := fun _ _ _ _ _ _ us hl => match us, hl with | [_], _ => rfl

inductive Fascending : List D → Store → D → Store → Prop
  | mk {S : Store} {x : D} {ds : List D} {qs : List Rat} (hx : seqP x = some ds) (h : IsNs ds qs) (hz : Sml qs) : Fascending [x] S (.lst ((asc qs).map enc)) S
theorem p_ascending {B : Bs} (T : Txt B) (P1 : DefP B "check_numbers" scheck_numbers Pcheck_numbers 3 Fcheck_numbers) (P2 : DefP B "sorted_rows" ssorted_rows Psorted_rows 4 Fsorted_rows) (P3 : DefP B "plain" splain Pplain 5 Fplain) {f : Addr} {fd : FuncData} (Fn : Fun B.K "ascending" "ascending" sascending f fd) (hm : B.mg "ascending" = some (.ref f)) : DefP B "ascending" sascending Pascending 6 Fascending := by
  refine def_ok Fn scascending hm bnascending fun args S d S' hl hF => ?_
  cases hF with
  | @mk _ x ds qs hx h hz =>
    have hlen := h.length
    have hz20 := hz.len
    have hn : (0 : Int) ≤ (ds.length : Int) := by omega
    have hl2 : ds.length ≤ 100000 := by omega
    obtain ⟨es, he, hes⟩ := sortRows_is h
    have hel := hes.length
    have hasl : (asc qs).length ≤ 100000 := by
      have h1 := List.length_map (kk (cb qs)) (as := asc qs)
      rw [← sorted_keys h, List.length_mergeSort, List.length_map] at h1
      have := dz_len ((qs.map (kk (cb qs))).zip (ds.map tup1)) []
      rw [List.length_zip, List.length_map, List.length_map, List.length_nil] at this
      rw [← h1]
      exact Nat.le_trans this (by omega)
    refine' ss_cons (s_expr ?h1 ?n1 ?sw)
    case h1 => walk_at "ev"
    case sw => intros; rfl
    case n1 =>
      refine' ss_one (s_ret (d := .lst ((asc qs).map enc)) (S1 := S) (e_lcP (ds := es.map tup1) (S1 := S) (j := 1) (i_seq (x := .lst (es.map tup1)) (e_is (e_call (ds := [.lst (ds.map tup1)]) P2 ?k2 (a_cons (e_lcP (ds := ds) (S1 := S) (j := 2) (i_seq (x := x) ?h4 hx) rfl rfl rfl rfl (by simp) ?turn1 hl2) a_nil ?pl) (Fsorted_rows.mk h hz) ?g6 ?g7 ?g8) (by rw [he]) rfl) rfl) rfl rfl rfl rfl (by simp [hel]) ?turn (by rw [List.length_map, hel]; exact hasl)) ⟨rfl, .inl rfl⟩)
      case h4 => walk_at "ev"
      case turn1 =>
        intro i d y hd hy
        rw [List.getElem?_map, hd] at hy
        cases hy
        unfold tup1
        walk_at "ev"
      case turn =>
        intro i d y hd hy
        rw [List.getElem?_map] at hd hy
        cases e1 : es[i]? with
        | none => rw [e1] at hd; cases hd
        | some e =>
          obtain ⟨q, hq, hn⟩ := hes.get e1
          rw [e1] at hd
          rw [hq] at hy
          cases hd
          cases hy
          have hs8 := (hz.sz q (asc_mem.mp (List.mem_of_getElem? hq))).mono (show 800 ≤ 8000 by decide)
          have hat : atI [e] 0 = some e := rfl
          refine' e_call P3 ?k3 (a_cons (e_ix (x := tup1 e) (ds := [e]) ?w1 ?w2 rfl hat ?w3) a_nil ?pl3) (Fplain.mk hn hs8) ?g11 ?g12 ?g13
          case w1 => walk_at "ev"
          case w2 => walk_at "ev"
          all_goals try walk_at "ev"
      all_goals try walk_at "ev"
end DL
/-! text: K9 -/
namespace DL
open PySem L2 QM
/-! the walker: one step by the syntax that stands there, then on; what it can't close stays -/
local macro_rules | `(tactic| walk_at "ev") => `(tactic| first
  | ((with_reducible show _ = _); first | rfl | assumption)
  | ((with_reducible show EvE _ _ _ _ _ _); first
      | ((with_reducible show EvE _ (.Name _ _) _ _ _ _); first
      | ((with_reducible refine' e_name ?_ ?_ ?_) <;> try walk_at "ev"))
      | ((with_reducible show EvE _ (.Constant _ _ _) _ _ _ _); first
      | (with_reducible exact e_int)
      | (with_reducible exact e_str)
      | (with_reducible exact e_bl)
      | (with_reducible exact e_non))
      | ((with_reducible show EvE _ (.Call _ _ _ _) _ _ _ _); first
      | walk_at "call"
      | ((with_reducible show EvE _ (.Call (.Name "isinstance" _) _ _ _) _ _ _ _); first
      | ((with_reducible refine' e_isInt (by assumption) ?_ ?_ ?_ ?_ ?_) <;> try walk_at "ev")
      | ((with_reducible refine' e_isBool (by assumption) ?_ ?_ ?_ ?_ ?_) <;> try walk_at "ev")
      | ((with_reducible refine' e_isRat (by assumption) ?_ ?_ ?_ ?_ ?_) <;> try walk_at "ev")
      | ((with_reducible refine' e_isStr (by assumption) ?_ ?_ ?_ ?_ ?_) <;> try walk_at "ev")
      | ((with_reducible refine' e_isList (by assumption) ?_ ?_ ?_ ?_ ?_) <;> try walk_at "ev")
      | ((with_reducible refine' e_isTup (by assumption) ?_ ?_ ?_ ?_ ?_) <;> try walk_at "ev")
      | ((with_reducible refine' e_isDict (by assumption) ?_ ?_ ?_ ?_ ?_) <;> try walk_at "ev")
      | ((with_reducible refine' e_isLT (by assumption) ?_ ?_ ?_ ?_ ?_ ?_) <;> try walk_at "ev"))
      | ((with_reducible refine' e_len (nm := "len") (by assumption) ?_ ?_ ?_ ?_) <;> try walk_at "ev")
      | ((with_reducible refine' e_abs (by assumption) ?_ ?_ ?_) <;> try walk_at "ev")
      | ((with_reducible refine' e_intI (by assumption) ?_ ?_ ?_) <;> try walk_at "ev")
      | ((with_reducible refine' e_list (by assumption) ?_ ?_ ?_ ?_) <;> try walk_at "ev")
      | ((with_reducible refine' e_tuple (by assumption) ?_ ?_ ?_ ?_) <;> try walk_at "ev")
      | ((with_reducible refine' e_gcd (by assumption) ?_ ?_ ?_ ?_ ?_) <;> try walk_at "ev")
      | ((with_reducible refine' e_max2 (by assumption) ?_ ?_ ?_ ?_ ?_) <;> try walk_at "ev")
      | ((with_reducible refine' e_min2 (by assumption) ?_ ?_ ?_ ?_ ?_) <;> try walk_at "ev"))
      | ((with_reducible show EvE _ (.BinOp _ _ _ _) _ _ _ _); first
      | ((with_reducible refine' e_bin ?_ ?_ ?_) <;> try walk_at "ev"))
      | ((with_reducible show EvE _ (.Subscript _ _ _) _ _ _ _); first
      | ((with_reducible refine' e_ix ?_ ?_ ?_ ?_ ?_) <;> try walk_at "ev"))
      | ((with_reducible show EvE _ (.Compare _ _ _ _) _ _ _ _); first
      | ((with_reducible refine' e_cmp ?_ ?_ ?_ ?_) <;> try walk_at "ev"))
      | ((with_reducible show EvE _ (.Attribute _ _ _) _ _ _ _); first
      | ((with_reducible refine' e_top (by assumption) ?_ ?_) <;> try walk_at "ev")
      | ((with_reducible refine' e_bottom (by assumption) ?_ ?_) <;> try walk_at "ev"))
      | ((with_reducible show EvE _ (.UnaryOp _ _ _) _ _ _ _); first
      | ((with_reducible refine' e_not ?_) <;> try walk_at "ev")
      | ((with_reducible refine' e_neg ?_) <;> try walk_at "ev"))
      | ((with_reducible show EvE _ (.Tuple _ _ _) _ _ _ _); first
      | ((with_reducible refine' e_tup ?_ ?_) <;> try walk_at "ev"))
      | ((with_reducible show EvE _ (.List _ _) _ _ _ _); first
      | ((with_reducible refine' e_lst ?_ ?_) <;> try walk_at "ev"))
      | ((with_reducible show EvE _ (.BoolOp _ _ _) _ _ _ _); first
      | ((with_reducible refine' e_one ?_) <;> try walk_at "ev")
      | ((with_reducible refine' e_and ?_ (fun _ => ?_)) <;> try walk_at "ev")
      | ((with_reducible refine' e_or ?_ (fun _ => ?_)) <;> try walk_at "ev"))
      | ((with_reducible show EvE _ (.IfExp _ _ _ _) _ _ _ _); first
      | ((with_reducible refine' e_if ?_ ?_ ?_) <;> first | walk_at "ev" | walk_at "way" | skip)))
  | exact Nat.le_of_ble_eq_true (by rfl)
  | ((with_reducible show EvT _ _ _ _ _ _); first
      | ((with_reducible refine' t_cmp ?_ ?_ ?_ ?_) <;> try walk_at "ev")
      | ((with_reducible refine' t_not ?_) <;> try walk_at "ev")
      | ((with_reducible refine' t_of (w_and ?_ (fun _ => ?_))) <;> try walk_at "ev")
      | ((with_reducible refine' t_of (w_or ?_ (fun _ => ?_))) <;> try walk_at "ev")
      | ((with_reducible refine' t_val ?_ ?_) <;> try walk_at "ev"))
  | ((with_reducible show EvA _ _ _ _ _ _); first
      | ((with_reducible refine' a_cons ?_ ?_ ?_) <;> try walk_at "ev")
      | (with_reducible exact a_nil))
  | ((with_reducible show BinR _ _ _ _ _ _); first
      | (with_reducible exact br_add)
      | (with_reducible exact br_sub)
      | ((with_reducible refine' br_mul ?_) <;> try walk_at "sz")
      | walk_at "br")
  | ((with_reducible show CmpR _ _ _ _ _ _); first
      | (with_reducible exact cr_lt)
      | (with_reducible exact cr_le)
      | (with_reducible exact cr_gt)
      | (with_reducible exact cr_ge)
      | (with_reducible exact cr_eqI)
      | (with_reducible exact cr_neI)
      | (with_reducible exact cr_isN)
      | (with_reducible exact cr_isB)
      | (with_reducible exact cr_eqB)
      | (with_reducible exact cr_eqS)
      | walk_at "cr")
  | ((with_reducible show EvW _ _ _ _ _ _); first
      | ((with_reducible refine' w_and1 ?_) <;> try walk_at "ev")
      | ((with_reducible refine' w_or1 ?_) <;> try walk_at "ev")
      | ((with_reducible refine' w_and ?_ (fun _ => ?_)) <;> try walk_at "ev")
      | ((with_reducible refine' w_or ?_ (fun _ => ?_)) <;> try walk_at "ev"))
  | ((with_reducible show EvK _ _ _ _ _ _); first
      | ((with_reducible refine' k_cons ?_ ?_) <;> try walk_at "ev")
      | (with_reducible exact k_nil))
  | ((with_reducible show Tgt _ _ _); first
      | ((with_reducible refine' Tgt.cons ?_ ?_ ?_ ?_) <;> try walk_at "ev")
      | (with_reducible exact Tgt.nil))
  | walk_at "side"
  | (intros; rfl))
local macro_rules | `(tactic| walk_at "side") => `(tactic| fail)
local macro_rules | `(tactic| walk_at "br") => `(tactic| fail)
local macro_rules | `(tactic| walk_at "cr") => `(tactic| fail)
local macro_rules | `(tactic| walk_at "call") => `(tactic| fail)
local macro_rules | `(tactic| walk_at "way") => `(tactic| first | exact fun z => Bool.noConfusion (show false = true from z) | exact fun z => Bool.noConfusion (show true = false from z) | (intro _; walk_at "ev"))
local macro_rules | `(tactic| walk_at "sz") => `(tactic| assumption)

local macro_rules | `(tactic| walk_at "side") => `(tactic| ((with_reducible show IsN _ _); first | assumption | exact isN_enc _ | exact IsN.int _))
local macro_rules | `(tactic| walk_at "side") => `(tactic| ((with_reducible show _ ≠ _); assumption))
local macro_rules | `(tactic| walk_at "side") => `(tactic| ((with_reducible show (_ : Nat) < _); assumption))
local macro_rules | `(tactic| walk_at "side") => `(tactic| ((with_reducible show Sz _ _); assumption))
local macro_rules | `(tactic| walk_at "side") => `(tactic| ((with_reducible show IsNs _ _); assumption))
local macro_rules | `(tactic| walk_at "side") => `(tactic| ((with_reducible show Sml _); assumption))

local macro_rules | `(tactic| walk_at "side") => `(tactic| ((with_reducible show (_ : Int) < _); assumption))
theorem br_mulS {Y : Ctx} {S : Store} {i j : Int} (h : CMul i j) : BinR Y .Mult S (.int i) (.int j) (.int (i * j)) := bin_int (g := fun i j => i * j) (fun X F => op_mul) h
theorem br_divS {Y : Ctx} {S : Store} {i j : Int} (h : CDiv i j) : BinR Y .FloorDiv S (.int i) (.int j) (.int (i / j)) := bin_int (g := fun i j => i / j) (fun X F => op_fdiv) h
theorem br_div64 {Y : Ctx} {S : Store} {i : Int} : BinR Y .FloorDiv S (.int i) (.int 64) (.int (i / 64)) := br_divS ⟨by decide, by decide⟩
theorem br_pow10 {Y : Ctx} {S : Store} {j : Nat} (h : j ≤ 100) : BinR Y .Pow S (.int 10) (.int (j : Int)) (.int (10 ^ j)) := by
  have := br_pow (Y := Y) (S := S) (i := 10) (j := (j : Int)) ⟨by omega, by omega, by decide⟩
  rwa [Int.toNat_natCast] at this
theorem br_pow18 {Y : Ctx} {S : Store} : BinR Y .Pow S (.int 10) (.int 18) (.int (10 ^ 18)) := br_pow10 (j := 18) (by decide)
local macro_rules | `(tactic| walk_at "br") => `(tactic| first
  | (with_reducible exact br_mod (by assumption))
  | (with_reducible exact br_mod (by decide))
  | (with_reducible exact br_div (by assumption))
  | (with_reducible exact br_divS (by assumption))
  | (with_reducible exact br_div64)
  | (with_reducible exact br_pow18))
/-! ### the drawing box -/
structure Bx where
  g : Int
  k : Bool
  s : Int
  c : Int
abbrev Bx.l (b : Bx) : List D := [.int b.g, .bl b.k, .int b.s, .int b.c]
def Bx.nx (b : Bx) : Bx := { b with s := (b.s * 69623 + 1493 * (b.c + 1) + 29) % 2147483629, c := b.c + 1 }
def take (b : Bx) (m : Int) : Int × Bx := if (b.k && decide (0 < b.g)) = true then (b.g % m, { b with g := b.g / m }) else (b.nx.s / 64 % m, b.nx)
theorem take_range {b : Bx} {m : Int} (h : 0 < m) : 0 ≤ (take b m).1 ∧ (take b m).1 < m := by
  unfold take
  split
  · exact ⟨Int.emod_nonneg _ (by omega), Int.emod_lt_of_pos _ h⟩
  · exact ⟨Int.emod_nonneg _ (by omega), Int.emod_lt_of_pos _ h⟩
def bx (S : Store) (i : Nat) (b : Bx) : Store := S.set i (some b.l)
theorem bx_at {S : Store} {i : Nat} {b : Bx} (h : i < S.length) : (bx S i b)[i]? = some (some b.l) := List.getElem?_set_self h
theorem bx_seq {S : Store} {i : Nat} {b : Bx} (h : i < S.length) : seqA (bx S i b) (.cel i) = some b.l := by
  show (bx S i b)[i]?.join = _
  rw [bx_at h]
  rfl
theorem bx_set {S : Store} {i : Nat} {b : Bx} {x} : (bx S i b).set i x = S.set i x := by
  unfold bx
  rw [List.set_set]
theorem bx_bx {S : Store} {i : Nat} {b b' : Bx} : bx (bx S i b) i b' = bx S i b' := bx_set
/-! ### _law_take -/
abbrev s_law_take : Stmt := top 41
abbrev N_law_take : List Str := ["box", "many", "digit"]
abbrev P_law_take : List Str := ["box", "many"]
theorem sc_law_take : FnScope N_law_take P_law_take (defScope s_law_take) := ⟨rfl, rfl, rfl, by decide +kernel, rfl, by decide +kernel, by decide +kernel⟩
theorem bn_law_take : ∀ (kV doc pm : Value) (an : Option Addr) (cdv ct : Value) (us : List Value), us.length = P_law_take.length → bindArgs (PySem.W.fnOf "_law_take" "_law_take" (defArgs s_law_take) (defBody s_law_take) (defScope s_law_take) .none kV doc pm an cdv ct) ⟨us, []⟩ = pure (P_law_take.zip us) := fun _ _ _ _ _ _ us hl => match us, hl with | [_, _], _ => rfl

inductive F_law_take : List D → Store → D → Store → Prop
  | mk {S : Store} {i : Nat} {b : Bx} {m : Int} (hi : i < S.length) (h0 : 0 < m) (h1 : m.natAbs.log2 < 9000) : F_law_take [.cel i, .int m] (bx S i b) (.int (take b m).1) (bx S i (take b m).2)
theorem p_law_take {B : Bs} (T : Txt B) {f : Addr} {fd : FuncData} (Fn : Fun B.K "_law_take" "_law_take" s_law_take f fd) (hm : B.mg "_law_take" = some (.ref f)) : DefP B "_law_take" s_law_take P_law_take 1 F_law_take := by
  refine def_ok Fn sc_law_take hm bn_law_take fun args S d S' hl hF => ?_
  cases hF with
  | @mk S i b m hi h0 h1 =>
    have hb := bx_seq (b := b) hi
    have hdv : CDivW b.g m := ⟨h0, h1⟩
    refine' ss_cons (s_if (k := b.k && decide (0 < b.g)) (S1 := bx S i b) ?c (fun hk => ?t) (fun hk => ss_nil ?n))
    case c => walk_at "ev"
    case t =>
      have ht : take b m = (b.g % m, { b with g := b.g / m }) := by unfold take; rw [if_pos hk]
      refine' ss_cons (s_set (i := 2) rfl rfl rfl ?h1 ?n1)
      case h1 => walk_at "ev"
      case n1 =>
      refine' ss_cons (s_setI (j := 0) (S3 := bx S i b) (ds := b.l) ?e ?o ?ix (bx_at hi) ?hk ?n2)
      case e => walk_at "ev"
      case o => walk_at "ev"
      case ix => walk_at "ev"
      case hk => rfl
      case n2 =>
      refine' ss_one (s_ret ?h2 ?r)
      case h2 => walk_at "ev"
      case r => rw [ht, bx_set]; exact ⟨rfl, .inl rfl⟩
    case n =>
      have ht : take b m = (b.nx.s / 64 % m, b.nx) := by unfold take; rw [if_neg (by rw [hk]; exact Bool.false_ne_true)]
      refine' ss_cons (s_setI (d := .int (b.c + 1)) (j := 3) (S3 := bx S i b) (ds := b.l) ?e ?o ?ix (bx_at hi) ?hk ?n2)
      case e => walk_at "ev"
      case o => walk_at "ev"
      case ix => walk_at "ev"
      case hk => rfl
      case n2 =>
      have e1 : (bx S i b).set i (some (b.l.set 3 (.int (b.c + 1)))) = bx S i { b with c := b.c + 1 } := bx_set
      rw [e1]
      have hb2 := bx_seq (b := { b with c := b.c + 1 }) hi
      have c1 : CMul b.s 69623 := .inr ⟨by decide, by decide⟩
      have c2 : CMul 1493 (b.c + 1) := .inl ⟨by decide, by decide⟩
      refine' ss_cons (s_setI (d := .int b.nx.s) (j := 2) (S3 := bx S i { b with c := b.c + 1 }) (ds := Bx.l { b with c := b.c + 1 }) (e_bin (e_bin (e_bin (e_bin ?e1 ?e2 (br_mulS c1)) (e_bin ?e3 ?e4 (br_mulS c2)) br_add) ?e5 br_add) ?e6 (br_mod (by decide))) ?o2 ?ix2 (bx_at hi) ?hk2 ?n3)
      case e1 => walk_at "ev"
      case e2 => walk_at "ev"
      case e3 => walk_at "ev"
      case e4 => walk_at "ev"
      case e5 => walk_at "ev"
      case e6 => walk_at "ev"
      case o2 => walk_at "ev"
      case ix2 => walk_at "ev"
      case hk2 => rfl
      case n3 =>
      have e2 : (bx S i { b with c := b.c + 1 }).set i (some ((Bx.l { b with c := b.c + 1 }).set 2 (.int b.nx.s))) = bx S i b.nx := bx_set
      rw [e2]
      have hb3 := bx_seq (b := b.nx) hi
      refine' ss_one (s_ret ?h2 ?r)
      case h2 => walk_at "ev"
      case r => rw [ht]; exact ⟨rfl, .inl rfl⟩
local macro_rules | `(tactic| walk_at "call") => `(tactic| ((with_reducible refine' e_call (by assumption : DefP _ "_law_take" _ _ _ _) ?_ ?_ (F_law_take.mk ?_ ?_ ?_) ?_ ?_ ?_) <;> try walk_at "ev"))
/-! ### _law_pick -/
theorem seqP_A2 {x : D} {ds : List D} {S : Store} (h : seqP x = some ds) : seqA S x = some ds := seqP_A h
abbrev s_law_pick : Stmt := top 42
abbrev N_law_pick : List Str := ["box", "items"]
abbrev P_law_pick : List Str := ["box", "items"]
theorem sc_law_pick : FnScope N_law_pick P_law_pick (defScope s_law_pick) := ⟨rfl, rfl, rfl, by decide +kernel, rfl, by decide +kernel, by decide +kernel⟩
theorem bn_law_pick : ∀ (kV doc pm : Value) (an : Option Addr) (cdv ct : Value) (us : List Value), us.length = P_law_pick.length → bindArgs (PySem.W.fnOf "_law_pick" "_law_pick" (defArgs s_law_pick) (defBody s_law_pick) (defScope s_law_pick) .none kV doc pm an cdv ct) ⟨us, []⟩ = pure (P_law_pick.zip us) := fun _ _ _ _ _ _ us hl => match us, hl with | [_, _], _ => rfl

inductive F_law_pick : List D → Store → D → Store → Prop
  | mk {S : Store} {i : Nat} {b : Bx} {x : D} {ds : List D} {d : D} (hi : i < S.length) (hx : seqP x = some ds) (hd : ds[(take b ds.length).1.toNat]? = some d) (hle : ds.length ≤ 100000) : F_law_pick [.cel i, x] (bx S i b) d (bx S i (take b ds.length).2)
theorem p_law_pick {B : Bs} (T : Txt B) (P1 : DefP B "_law_take" s_law_take P_law_take 1 F_law_take) {f : Addr} {fd : FuncData} (Fn : Fun B.K "_law_pick" "_law_pick" s_law_pick f fd) (hm : B.mg "_law_pick" = some (.ref f)) : DefP B "_law_pick" s_law_pick P_law_pick 2 F_law_pick := by
  refine def_ok Fn sc_law_pick hm bn_law_pick fun args S d S' hl hF => ?_
  cases hF with
  | @mk S i b x ds d hi hx hd hle =>
    have hpos : 0 < ds.length := by have := (List.getElem?_eq_some_iff.mp hd).1; omega
    have h0 : (0 : Int) < (ds.length : Int) := by omega
    have h1 : (ds.length : Int).natAbs.log2 < 9000 := by
      refine lg (n := 20) ?_ (by decide) (by decide)
      rw [Int.natAbs_natCast]
      exact Nat.lt_of_le_of_lt hle (show 100000 < 2 ^ 20 by decide)
    have r := take_range (b := b) h0
    have hat : atI ds (take b ds.length).1 = some d := by
      have := atI_nat hd
      rwa [Int.toNat_of_nonneg r.1] at this
    refine' ss_one (s_ret (e_ix (ds := ds) (x := x) ?h1 ?h2 (seqP_A2 hx) hat ?h3) ?r)
    case h1 => walk_at "ev"
    case h2 =>
      have hxa := seqP_A2 (S := bx S i b) hx
      walk_at "ev"
    case h3 => rfl
    case r => exact ⟨rfl, .inl rfl⟩
/-! ### _law_box, _law_cell -/
abbrev s_law_box : Stmt := top 40
abbrev N_law_box : List Str := ["great"]
abbrev P_law_box : List Str := ["great"]
theorem sc_law_box : FnScope N_law_box P_law_box (defScope s_law_box) := ⟨rfl, rfl, rfl, by decide +kernel, rfl, by decide +kernel, by decide +kernel⟩
theorem bn_law_box : ∀ (kV doc pm : Value) (an : Option Addr) (cdv ct : Value) (us : List Value), us.length = P_law_box.length → bindArgs (PySem.W.fnOf "_law_box" "_law_box" (defArgs s_law_box) (defBody s_law_box) (defScope s_law_box) .none kV doc pm an cdv ct) ⟨us, []⟩ = pure (P_law_box.zip us) := fun _ _ _ _ _ _ us hl => match us, hl with | [_], _ => rfl

def boxOf (g : Int) : Bx := ⟨(g.natAbs : Int), decide ((10 : Int) ^ 18 ≤ (g.natAbs : Int)), (g.natAbs : Int) % 2147483629, 0⟩
inductive F_law_box : List D → Store → D → Store → Prop
  | mk {S : Store} {g : Int} : F_law_box [.int g] S (.cel S.length) (bx (S ++ [none]) S.length (boxOf g))
theorem p_law_box {B : Bs} (T : Txt B) {f : Addr} {fd : FuncData} (Fn : Fun B.K "_law_box" "_law_box" s_law_box f fd) (hm : B.mg "_law_box" = some (.ref f)) : DefP B "_law_box" s_law_box P_law_box 1 F_law_box := by
  refine def_ok Fn sc_law_box hm bn_law_box fun args S d S' hl hF => ?_
  cases hF with
  | @mk S g =>
    refine' ss_one (s_ret (e_lstC (S1 := S) (ds := [.int (g.natAbs : Int), .bl (decide ((10 : Int) ^ 18 ≤ (g.natAbs : Int))), .int ((g.natAbs : Int) % 2147483629), .int 0]) ?h1 (show 4 ≤ 100000 by decide)) ?r)
    case h1 => walk_at "ev"
    case r =>
      refine ⟨rfl, .inl ?_⟩
      unfold bx
      rw [List.set_append_right _ _ (Nat.le_refl _), Nat.sub_self]
      rfl
abbrev s_law_cell : Stmt := top 39
abbrev N_law_cell : List Str := ["script", "k"]
abbrev P_law_cell : List Str := ["script", "k"]
theorem sc_law_cell : FnScope N_law_cell P_law_cell (defScope s_law_cell) := ⟨rfl, rfl, rfl, by decide +kernel, rfl, by decide +kernel, by decide +kernel⟩
theorem bn_law_cell : ∀ (kV doc pm : Value) (an : Option Addr) (cdv ct : Value) (us : List Value), us.length = P_law_cell.length → bindArgs (PySem.W.fnOf "_law_cell" "_law_cell" (defArgs s_law_cell) (defBody s_law_cell) (defScope s_law_cell) .none kV doc pm an cdv ct) ⟨us, []⟩ = pure (P_law_cell.zip us) := fun _ _ _ _ _ _ us hl => match us, hl with | [_, _], _ => rfl

def cellOf (ns : List Int) (k : Nat) : Int := if k < ns.length then ns.getD k 0 else 8111 * (k : Int) + (ns.take 1).sum % 1000003
inductive F_law_cell : List D → Store → D → Store → Prop
  | mk {S : Store} {ns : List Int} {k : Nat} : F_law_cell [.fro (ns.map D.int), .int (k : Int)] S (.int (cellOf ns k)) S
theorem p_law_cell {B : Bs} (T : Txt B) {f : Addr} {fd : FuncData} (Fn : Fun B.K "_law_cell" "_law_cell" s_law_cell f fd) (hm : B.mg "_law_cell" = some (.ref f)) : DefP B "_law_cell" s_law_cell P_law_cell 1 F_law_cell := by
  refine def_ok Fn sc_law_cell hm bn_law_cell fun args S d S' hl hF => ?_
  cases hF with
  | @mk S ns k =>
    have hsa : seqA S (.fro (ns.map D.int)) = some (ns.map D.int) := rfl
    have hcut : cutD (ns.map D.int) none (some 1) = (ns.take 1).map D.int := by
      unfold cutD
      cases ns with
      | nil => rfl
      | cons n ns =>
        have e1 : HT.sIx ((n :: ns).map D.int).length 0 none = 0 := rfl
        have e2 : HT.sIx ((n :: ns).map D.int).length ((n :: ns).map D.int).length (some ((1 : Nat) : Int)) = 1 := by
          rw [HT.sIx_nat]
          simp only [List.length_map, List.length_cons]
          omega
        have e2 : HT.sIx ((n :: ns).map D.int).length ((n :: ns).map D.int).length (some 1) = 1 := e2
        rw [e1, e2]
        rfl
    refine' ss_one (s_ret (d := .int (cellOf ns k)) (S1 := S) (e_if (k := decide ((k : Int) < ((ns.map D.int).length : Int))) (S1 := S) ?c ?t ?e) ⟨rfl, .inl rfl⟩)
    case c => walk_at "ev"
    case t =>
      intro hk
      have hk : k < ns.length := by simpa using hk
      have hat : atI (ns.map D.int) (k : Int) = some (.int (cellOf ns k)) := by
        refine atI_nat ?_
        unfold cellOf
        rw [if_pos hk, List.getElem?_map, List.getElem?_eq_getElem hk, List.getD_eq_getElem?_getD, List.getElem?_eq_getElem hk]
        rfl
      walk_at "ev"
    case e =>
      intro hk
      have hk : ¬ k < ns.length := by simpa using hk
      have c2 : CMul 8111 (k : Int) := .inl ⟨by decide, by decide⟩
      have hv : cellOf ns k = 8111 * (k : Int) + (ns.take 1).sum % 1000003 := by unfold cellOf; rw [if_neg hk]
      rw [hv]
      refine' e_bin (e_bin ?e3 ?e4 (br_mulS c2)) (e_bin (e_intI T (e_sum (ns := ns.take 1) T (e_is (e_sliceL (i := none) (j := some 1) (ds := ns.map D.int) (x := .fro (ns.map D.int)) ?e5 .no (.so ?e6) rfl) (by rw [hcut]) rfl) rfl ?g1 ?g2) ?g3 ?g4) ?e7 (br_mod (by decide))) br_add
      case e3 => walk_at "ev"
      case e4 => walk_at "ev"
      case e5 => walk_at "ev"
      case e6 => walk_at "ev"
      case e7 => walk_at "ev"
      all_goals rfl
end DL
/-! text: K10 -/
namespace DL
open PySem L2 QM
/-! the walker: one step by the syntax that stands there, then on; what it can't close stays -/
local macro_rules | `(tactic| walk_at "ev") => `(tactic| first
  | ((with_reducible show _ = _); first | rfl | assumption)
  | ((with_reducible show EvE _ _ _ _ _ _); first
      | ((with_reducible show EvE _ (.Name _ _) _ _ _ _); first
      | ((with_reducible refine' e_name ?_ ?_ ?_) <;> try walk_at "ev"))
      | ((with_reducible show EvE _ (.Constant _ _ _) _ _ _ _); first
      | (with_reducible exact e_int)
      | (with_reducible exact e_str)
      | (with_reducible exact e_bl)
      | (with_reducible exact e_non))
      | ((with_reducible show EvE _ (.Call _ _ _ _) _ _ _ _); first
      | walk_at "call"
      | ((with_reducible show EvE _ (.Call (.Name "isinstance" _) _ _ _) _ _ _ _); first
      | ((with_reducible refine' e_isInt (by assumption) ?_ ?_ ?_ ?_ ?_) <;> try walk_at "ev")
      | ((with_reducible refine' e_isBool (by assumption) ?_ ?_ ?_ ?_ ?_) <;> try walk_at "ev")
      | ((with_reducible refine' e_isRat (by assumption) ?_ ?_ ?_ ?_ ?_) <;> try walk_at "ev")
      | ((with_reducible refine' e_isStr (by assumption) ?_ ?_ ?_ ?_ ?_) <;> try walk_at "ev")
      | ((with_reducible refine' e_isList (by assumption) ?_ ?_ ?_ ?_ ?_) <;> try walk_at "ev")
      | ((with_reducible refine' e_isTup (by assumption) ?_ ?_ ?_ ?_ ?_) <;> try walk_at "ev")
      | ((with_reducible refine' e_isDict (by assumption) ?_ ?_ ?_ ?_ ?_) <;> try walk_at "ev")
      | ((with_reducible refine' e_isLT (by assumption) ?_ ?_ ?_ ?_ ?_ ?_) <;> try walk_at "ev"))
      | ((with_reducible refine' e_len (nm := "len") (by assumption) ?_ ?_ ?_ ?_) <;> try walk_at "ev")
      | ((with_reducible refine' e_abs (by assumption) ?_ ?_ ?_) <;> try walk_at "ev")
      | ((with_reducible refine' e_intI (by assumption) ?_ ?_ ?_) <;> try walk_at "ev")
      | ((with_reducible refine' e_list (by assumption) ?_ ?_ ?_ ?_) <;> try walk_at "ev")
      | ((with_reducible refine' e_tuple (by assumption) ?_ ?_ ?_ ?_) <;> try walk_at "ev")
      | ((with_reducible refine' e_gcd (by assumption) ?_ ?_ ?_ ?_ ?_) <;> try walk_at "ev")
      | ((with_reducible refine' e_max2 (by assumption) ?_ ?_ ?_ ?_ ?_) <;> try walk_at "ev")
      | ((with_reducible refine' e_min2 (by assumption) ?_ ?_ ?_ ?_ ?_) <;> try walk_at "ev"))
      | ((with_reducible show EvE _ (.BinOp _ _ _ _) _ _ _ _); first
      | ((with_reducible refine' e_bin ?_ ?_ ?_) <;> try walk_at "ev"))
      | ((with_reducible show EvE _ (.Subscript _ _ _) _ _ _ _); first
      | ((with_reducible refine' e_ix ?_ ?_ ?_ ?_ ?_) <;> try walk_at "ev"))
      | ((with_reducible show EvE _ (.Compare _ _ _ _) _ _ _ _); first
      | ((with_reducible refine' e_cmp ?_ ?_ ?_ ?_) <;> try walk_at "ev"))
      | ((with_reducible show EvE _ (.Attribute _ _ _) _ _ _ _); first
      | ((with_reducible refine' e_top (by assumption) ?_ ?_) <;> try walk_at "ev")
      | ((with_reducible refine' e_bottom (by assumption) ?_ ?_) <;> try walk_at "ev"))
      | ((with_reducible show EvE _ (.UnaryOp _ _ _) _ _ _ _); first
      | ((with_reducible refine' e_not ?_) <;> try walk_at "ev")
      | ((with_reducible refine' e_neg ?_) <;> try walk_at "ev"))
      | ((with_reducible show EvE _ (.Tuple _ _ _) _ _ _ _); first
      | ((with_reducible refine' e_tup ?_ ?_) <;> try walk_at "ev"))
      | ((with_reducible show EvE _ (.List _ _) _ _ _ _); first
      | ((with_reducible refine' e_lst ?_ ?_) <;> try walk_at "ev"))
      | ((with_reducible show EvE _ (.BoolOp _ _ _) _ _ _ _); first
      | ((with_reducible refine' e_one ?_) <;> try walk_at "ev")
      | ((with_reducible refine' e_and ?_ (fun _ => ?_)) <;> try walk_at "ev")
      | ((with_reducible refine' e_or ?_ (fun _ => ?_)) <;> try walk_at "ev"))
      | ((with_reducible show EvE _ (.IfExp _ _ _ _) _ _ _ _); first
      | ((with_reducible refine' e_if ?_ ?_ ?_) <;> first | walk_at "ev" | walk_at "way" | skip)))
  | exact Nat.le_of_ble_eq_true (by rfl)
  | ((with_reducible show EvT _ _ _ _ _ _); first
      | ((with_reducible refine' t_cmp ?_ ?_ ?_ ?_) <;> try walk_at "ev")
      | ((with_reducible refine' t_not ?_) <;> try walk_at "ev")
      | ((with_reducible refine' t_of (w_and ?_ (fun _ => ?_))) <;> try walk_at "ev")
      | ((with_reducible refine' t_of (w_or ?_ (fun _ => ?_))) <;> try walk_at "ev")
      | ((with_reducible refine' t_val ?_ ?_) <;> try walk_at "ev"))
  | ((with_reducible show EvA _ _ _ _ _ _); first
      | ((with_reducible refine' a_cons ?_ ?_ ?_) <;> try walk_at "ev")
      | (with_reducible exact a_nil))
  | ((with_reducible show BinR _ _ _ _ _ _); first
      | (with_reducible exact br_add)
      | (with_reducible exact br_sub)
      | ((with_reducible refine' br_mul ?_) <;> try walk_at "sz")
      | walk_at "br")
  | ((with_reducible show CmpR _ _ _ _ _ _); first
      | (with_reducible exact cr_lt)
      | (with_reducible exact cr_le)
      | (with_reducible exact cr_gt)
      | (with_reducible exact cr_ge)
      | (with_reducible exact cr_eqI)
      | (with_reducible exact cr_neI)
      | (with_reducible exact cr_isN)
      | (with_reducible exact cr_isB)
      | (with_reducible exact cr_eqB)
      | (with_reducible exact cr_eqS)
      | walk_at "cr")
  | ((with_reducible show EvW _ _ _ _ _ _); first
      | ((with_reducible refine' w_and1 ?_) <;> try walk_at "ev")
      | ((with_reducible refine' w_or1 ?_) <;> try walk_at "ev")
      | ((with_reducible refine' w_and ?_ (fun _ => ?_)) <;> try walk_at "ev")
      | ((with_reducible refine' w_or ?_ (fun _ => ?_)) <;> try walk_at "ev"))
  | ((with_reducible show EvK _ _ _ _ _ _); first
      | ((with_reducible refine' k_cons ?_ ?_) <;> try walk_at "ev")
      | (with_reducible exact k_nil))
  | ((with_reducible show Tgt _ _ _); first
      | ((with_reducible refine' Tgt.cons ?_ ?_ ?_ ?_) <;> try walk_at "ev")
      | (with_reducible exact Tgt.nil))
  | walk_at "side"
  | (intros; rfl))
local macro_rules | `(tactic| walk_at "side") => `(tactic| fail)
local macro_rules | `(tactic| walk_at "br") => `(tactic| fail)
local macro_rules | `(tactic| walk_at "cr") => `(tactic| fail)
local macro_rules | `(tactic| walk_at "call") => `(tactic| fail)
local macro_rules | `(tactic| walk_at "way") => `(tactic| first | exact fun z => Bool.noConfusion (show false = true from z) | exact fun z => Bool.noConfusion (show true = false from z) | (intro _; walk_at "ev"))
local macro_rules | `(tactic| walk_at "sz") => `(tactic| assumption)

local macro_rules | `(tactic| walk_at "side") => `(tactic| ((with_reducible show IsN _ _); first | assumption | exact isN_enc _ | exact IsN.int _))
local macro_rules | `(tactic| walk_at "side") => `(tactic| ((with_reducible show _ ≠ _); assumption))
local macro_rules | `(tactic| walk_at "side") => `(tactic| ((with_reducible show (_ : Nat) < _); assumption))
local macro_rules | `(tactic| walk_at "side") => `(tactic| ((with_reducible show Sz _ _); assumption))
local macro_rules | `(tactic| walk_at "side") => `(tactic| ((with_reducible show IsNs _ _); assumption))
local macro_rules | `(tactic| walk_at "side") => `(tactic| ((with_reducible show Sml _); assumption))

local macro_rules | `(tactic| walk_at "side") => `(tactic| ((with_reducible show (_ : Int) < _); assumption))
local macro_rules | `(tactic| walk_at "br") => `(tactic| first
  | (with_reducible exact br_mod (by assumption))
  | (with_reducible exact br_div (by assumption)))
local macro_rules | `(tactic| walk_at "call") => `(tactic| ((with_reducible refine' e_call (by assumption : DefP _ "_law_take" _ _ _ _) ?_ ?_ (F_law_take.mk ?_ ?_ ?_) ?_ ?_ ?_) <;> try walk_at "ev"))
def pr (q : Rat) : D := .tup [.int q.num, .int (q.den : Int)]
theorem pr_noc (q : Rat) : (pr q).noc = true := rfl
/-! ### _law_low -/
abbrev s_law_low : Stmt := top 44
abbrev N_law_low : List Str := ["top", "bottom", "one", "other", "turn", "sign"]
abbrev P_law_low : List Str := ["top", "bottom"]
theorem sc_law_low : FnScope N_law_low P_law_low (defScope s_law_low) := ⟨rfl, rfl, rfl, by decide +kernel, rfl, by decide +kernel, by decide +kernel⟩
theorem bn_law_low : ∀ (kV doc pm : Value) (an : Option Addr) (cdv ct : Value) (us : List Value), us.length = P_law_low.length → bindArgs (PySem.W.fnOf "_law_low" "_law_low" (defArgs s_law_low) (defBody s_law_low) (defScope s_law_low) .none kV doc pm an cdv ct) ⟨us, []⟩ = pure (P_law_low.zip us) := fun _ _ _ _ _ _ us hl => match us, hl with | [_, _], _ => rfl

inductive F_law_low : List D → Store → D → Store → Prop
  | mk {S : Store} {t b : Int} (h : b ≠ 0) (ht : t.natAbs < 2 ^ 8000) (hb : b.natAbs < 2 ^ 8000) : F_law_low [.int t, .int b] S (pr (Rat.divInt t b)) S
theorem euc_step {a c P k : Nat} (hc : 0 < c) (h1 : k = 0 ∨ c ≤ a) (h2 : a * c * 2 ^ k ≤ 2 * P) (h0 : k = 0 → a * c ≤ P) : (a % c) ≤ c ∧ c * (a % c) * 2 ^ (k + 1) ≤ 2 * P := by
  refine ⟨Nat.le_of_lt (Nat.mod_lt _ hc), ?_⟩
  rcases h1 with z | z
  · subst z
    have hp := h0 rfl
    have : c * (a % c) ≤ a * c := by
      rw [Nat.mul_comm]
      exact Nat.mul_le_mul_right _ (Nat.mod_le _ _)
    omega
  · have h3 : 2 * (c * (a % c)) ≤ a * c := by
      have hm := Nat.mod_lt a hc
      have hd := Nat.div_add_mod a c
      have hq : 1 ≤ a / c := Nat.div_pos z hc
      have : c ≤ c * (a / c) := Nat.le_mul_of_pos_right _ hq
      have h4 : 2 * (a % c) ≤ a := by omega
      calc 2 * (c * (a % c)) = (2 * (a % c)) * c := by rw [Nat.mul_comm c, Nat.mul_assoc]
        _ ≤ a * c := Nat.mul_le_mul_right _ h4
    calc c * (a % c) * 2 ^ (k + 1) = 2 * (c * (a % c)) * 2 ^ k := by rw [Nat.pow_succ]; grind
      _ ≤ a * c * 2 ^ k := Nat.mul_le_mul_right _ h3
      _ ≤ 2 * P := h2
theorem low_num {t b : Int} (h : b ≠ 0) : (if decide (0 < b) = true then 1 else -1) * (t / ((Nat.gcd t.natAbs b.natAbs : Nat) : Int)) = (Rat.divInt t b).num := by
  have hp := gcd_pos (t := t) h
  rw [← num_eq h]
  obtain ⟨c, hc⟩ := dvd_t t b
  unfold gsg
  generalize Nat.gcd t.natAbs b.natAbs = G at *
  have e1 : t / (G : Int) = c := by
    rw [hc]
    exact Int.mul_ediv_cancel_left _ (by omega)
  by_cases hb : 0 < b
  · rw [if_pos (decide_eq_true hb), if_pos hb, e1, fdiv_of (by omega) hc]
    omega
  · rw [if_neg (by simpa using hb), if_neg hb, e1, fdiv_of (c := -c) (by omega) (by rw [Int.neg_mul_neg]; exact hc)]
    omega
theorem low_den {t b : Int} (h : b ≠ 0) : (b.natAbs : Int) / ((Nat.gcd t.natAbs b.natAbs : Nat) : Int) = ((Rat.divInt t b).den : Int) := by
  rw [Rat.den_divInt, if_neg h, ← Int.natCast_ediv]
  have : b.gcd t = Nat.gcd t.natAbs b.natAbs := by unfold Int.gcd; exact Nat.gcd_comm _ _
  rw [this]
theorem p_law_low {B : Bs} (T : Txt B) {f : Addr} {fd : FuncData} (Fn : Fun B.K "_law_low" "_law_low" s_law_low f fd) (hm : B.mg "_law_low" = some (.ref f)) : DefP B "_law_low" s_law_low P_law_low 1 F_law_low := by
  refine def_ok Fn sc_law_low hm bn_law_low fun args S d S' hl hF => ?_
  cases hF with
  | @mk _ t b h ht hb =>
    have hg := gcd_pos (t := t) h
    have hg0 : (0 : Int) < ((Nat.gcd t.natAbs b.natAbs : Nat) : Int) := by omega
    have hgl : ((Nat.gcd t.natAbs b.natAbs : Nat) : Int).natAbs.log2 < 9000 := by
      rw [Int.natAbs_natCast]
      refine Nat.lt_of_le_of_lt (log2_mono (Nat.gcd_le_right _ (by omega))) (lg hb (by decide) (by decide))
    have hdv : ∀ i, CDivW i ((Nat.gcd t.natAbs b.natAbs : Nat) : Int) := fun i => ⟨hg0, hgl⟩
    have hd1 := hdv t
    have hd2 := hdv (b.natAbs : Int)
    -- what comes behind the loop
    have rest : ∀ o, EvSs ⟨B, N_law_low, defScope s_law_low, 0, fun _ => true⟩ (List.drop 2 (defBody s_law_low)) [some (.int t), some (.int b), some (.int ((Nat.gcd t.natAbs b.natAbs : Nat) : Int)), some (.int 0), o, none] S (bodyE S.length (pr (Rat.divInt t b)) S) := by
      intro o
      refine' ss_cons (s_set (i := 5) rfl rfl rfl (e_iteI (i := 1) (j := -1) ?c (fun _ => ?x) (fun _ => ?y)) ?n1)
      case c => walk_at "ev"
      case x => walk_at "ev"
      case y => walk_at "ev"
      case n1 =>
      have c2 : CMul (if decide (0 < b) = true then 1 else -1) (t / ((Nat.gcd t.natAbs b.natAbs : Nat) : Int)) := by
        refine .inl ?_
        split <;> exact ⟨by decide, by decide⟩
      refine' ss_one (s_ret (e_tup (a_cons (e_bin ?h1 ?h2 (br_mulS c2)) (a_cons (e_bin ?h3 ?h4 (br_div hd2)) a_nil rfl) rfl) (show 2 ≤ 100000 by decide)) ?r)
      case h1 => walk_at "ev"
      case h2 => walk_at "ev"
      case h3 => walk_at "ev"
      case h4 => walk_at "ev"
      case r => exact ⟨by rw [low_num h, low_den h]; rfl, .inl rfl⟩
    refine' ss_cons (s_par (i := 2) (j := 3) rfl rfl (by decide) rfl rfl ?w ?a ?n1)
    case w => exact fun env he => by cases env; cases he; rfl
    case a => walk_at "ev"
    case n1 =>
    refine ss_cons (s_for (ds := rngD 20000) (S1 := S) (j := 4) rfl rfl rfl (i_range (n := 20000) T ?h2 (by decide) (by decide) ?g1 ?g2) (fun k Γ' S' => ∃ (a c : Nat) (o : Option D), Γ' = [some (.int t), some (.int b), some (.int (a : Int)), some (.int (c : Int)), o, none] ∧ S' = S ∧ Nat.gcd a c = Nat.gcd t.natAbs b.natAbs ∧ (k = 0 ∨ c ≤ a) ∧ a * c * 2 ^ k ≤ 2 * (t.natAbs * b.natAbs) ∧ (k = 0 → a * c ≤ t.natAbs * b.natAbs)) ⟨t.natAbs, b.natAbs, none, rfl, rfl, rfl, .inl rfl, by omega, fun _ => Nat.le_refl _⟩ ?turn ?done)
    case h2 => walk_at "ev"
    case done =>
      rintro Γ' S' ⟨a, c, o, rfl, rfl, hgc, hca, hP, _⟩
      rw [rngD_len] at hca hP
      have hPb : 2 * (t.natAbs * b.natAbs) < 2 ^ 20000 := by
        have : t.natAbs * b.natAbs < 2 ^ 8000 * 2 ^ 8000 := Nat.mul_lt_mul'' ht hb
        rw [← Nat.pow_add] at this
        have h2 : 2 * 2 ^ (8000 + 8000) ≤ 2 ^ 20000 := by rw [← Nat.pow_succ']; exact Nat.pow_le_pow_right (by decide) (by decide)
        omega
      have hac : a * c = 0 := by
        rcases Nat.eq_zero_or_pos (a * c) with z | z
        · exact z
        · have := Nat.le_mul_of_pos_left (2 ^ 20000) z
          omega
      have hc0 : c = 0 := by
        rcases Nat.mul_eq_zero.mp hac with z | z
        · rcases hca with y | y
          · omega
          · omega
        · exact z
      subst hc0
      rw [Nat.gcd_zero_right] at hgc
      rw [hgc]
      exact rest o
    case turn =>
      rintro k d Γ' S' hd ⟨a, c, o, rfl, rfl, hgc, hca, hP, hP0⟩
      refine' ss_cons (s_if (k := decide ((c : Int) = 0)) ?c (fun hk => ?t) (fun hk => ss_nil ?n))
      case c => walk_at "ev"
      case t =>
        have hc0 : c = 0 := by simpa using hk
        subst hc0
        rw [Nat.gcd_zero_right] at hgc
        rw [hgc]
        exact ss_one (s_break (rest _))
      case n =>
        have hc0 : 0 < c := by
          have : ¬ c = 0 := by simpa using hk
          omega
        have hc1 : (0 : Int) < (c : Int) := by omega
        obtain ⟨z1, z2⟩ := euc_step hc0 hca hP hP0
        refine' ss_one (s_par (i := 2) (j := 3) rfl rfl (by decide) rfl rfl ?w2 ?a2 ?n2)
        case w2 => exact fun env he => by cases env; cases he; rfl
        case a2 => walk_at "ev"
        case n2 =>
          refine ⟨c, a % c, some d, by rw [Int.natCast_emod]; rfl, rfl, ?_, .inr z1, z2, fun z => by omega⟩
          rw [← hgc, Nat.gcd_comm c, ← Nat.gcd_rec, Nat.gcd_comm]
    all_goals try walk_at "ev"
end DL
/-! text: K11 -/
namespace DL
open PySem L2 QM
/-! the walker: one step by the syntax that stands there, then on; what it can't close stays -/
local macro_rules | `(tactic| walk_at "ev") => `(tactic| first
  | ((with_reducible show _ = _); first | rfl | assumption)
  | ((with_reducible show EvE _ _ _ _ _ _); first
      | ((with_reducible show EvE _ (.Name _ _) _ _ _ _); first
      | ((with_reducible refine' e_name ?_ ?_ ?_) <;> try walk_at "ev"))
      | ((with_reducible show EvE _ (.Constant _ _ _) _ _ _ _); first
      | (with_reducible exact e_int)
      | (with_reducible exact e_str)
      | (with_reducible exact e_bl)
      | (with_reducible exact e_non))
      | ((with_reducible show EvE _ (.Call _ _ _ _) _ _ _ _); first
      | walk_at "call"
      | ((with_reducible show EvE _ (.Call (.Name "isinstance" _) _ _ _) _ _ _ _); first
      | ((with_reducible refine' e_isInt (by assumption) ?_ ?_ ?_ ?_ ?_) <;> try walk_at "ev")
      | ((with_reducible refine' e_isBool (by assumption) ?_ ?_ ?_ ?_ ?_) <;> try walk_at "ev")
      | ((with_reducible refine' e_isRat (by assumption) ?_ ?_ ?_ ?_ ?_) <;> try walk_at "ev")
      | ((with_reducible refine' e_isStr (by assumption) ?_ ?_ ?_ ?_ ?_) <;> try walk_at "ev")
      | ((with_reducible refine' e_isList (by assumption) ?_ ?_ ?_ ?_ ?_) <;> try walk_at "ev")
      | ((with_reducible refine' e_isTup (by assumption) ?_ ?_ ?_ ?_ ?_) <;> try walk_at "ev")
      | ((with_reducible refine' e_isDict (by assumption) ?_ ?_ ?_ ?_ ?_) <;> try walk_at "ev")
      | ((with_reducible refine' e_isLT (by assumption) ?_ ?_ ?_ ?_ ?_ ?_) <;> try walk_at "ev"))
      | ((with_reducible refine' e_len (nm := "len") (by assumption) ?_ ?_ ?_ ?_) <;> try walk_at "ev")
      | ((with_reducible refine' e_abs (by assumption) ?_ ?_ ?_) <;> try walk_at "ev")
      | ((with_reducible refine' e_intI (by assumption) ?_ ?_ ?_) <;> try walk_at "ev")
      | ((with_reducible refine' e_list (by assumption) ?_ ?_ ?_ ?_) <;> try walk_at "ev")
      | ((with_reducible refine' e_tuple (by assumption) ?_ ?_ ?_ ?_) <;> try walk_at "ev")
      | ((with_reducible refine' e_gcd (by assumption) ?_ ?_ ?_ ?_ ?_) <;> try walk_at "ev")
      | ((with_reducible refine' e_max2 (by assumption) ?_ ?_ ?_ ?_ ?_) <;> try walk_at "ev")
      | ((with_reducible refine' e_min2 (by assumption) ?_ ?_ ?_ ?_ ?_) <;> try walk_at "ev"))
      | ((with_reducible show EvE _ (.BinOp _ _ _ _) _ _ _ _); first
      | ((with_reducible refine' e_bin ?_ ?_ ?_) <;> try walk_at "ev"))
      | ((with_reducible show EvE _ (.Subscript _ _ _) _ _ _ _); first
      | ((with_reducible refine' e_ix ?_ ?_ ?_ ?_ ?_) <;> try walk_at "ev"))
      | ((with_reducible show EvE _ (.Compare _ _ _ _) _ _ _ _); first
      | ((with_reducible refine' e_cmp ?_ ?_ ?_ ?_) <;> try walk_at "ev"))
      | ((with_reducible show EvE _ (.Attribute _ _ _) _ _ _ _); first
      | ((with_reducible refine' e_top (by assumption) ?_ ?_) <;> try walk_at "ev")
      | ((with_reducible refine' e_bottom (by assumption) ?_ ?_) <;> try walk_at "ev"))
      | ((with_reducible show EvE _ (.UnaryOp _ _ _) _ _ _ _); first
      | ((with_reducible refine' e_not ?_) <;> try walk_at "ev")
      | ((with_reducible refine' e_neg ?_) <;> try walk_at "ev"))
      | ((with_reducible show EvE _ (.Tuple _ _ _) _ _ _ _); first
      | ((with_reducible refine' e_tup ?_ ?_) <;> try walk_at "ev"))
      | ((with_reducible show EvE _ (.List _ _) _ _ _ _); first
      | ((with_reducible refine' e_lst ?_ ?_) <;> try walk_at "ev"))
      | ((with_reducible show EvE _ (.BoolOp _ _ _) _ _ _ _); first
      | ((with_reducible refine' e_one ?_) <;> try walk_at "ev")
      | ((with_reducible refine' e_and ?_ (fun _ => ?_)) <;> try walk_at "ev")
      | ((with_reducible refine' e_or ?_ (fun _ => ?_)) <;> try walk_at "ev"))
      | ((with_reducible show EvE _ (.IfExp _ _ _ _) _ _ _ _); first
      | ((with_reducible refine' e_if ?_ ?_ ?_) <;> first | walk_at "ev" | walk_at "way" | skip)))
  | exact Nat.le_of_ble_eq_true (by rfl)
  | ((with_reducible show EvT _ _ _ _ _ _); first
      | ((with_reducible refine' t_cmp ?_ ?_ ?_ ?_) <;> try walk_at "ev")
      | ((with_reducible refine' t_not ?_) <;> try walk_at "ev")
      | ((with_reducible refine' t_of (w_and ?_ (fun _ => ?_))) <;> try walk_at "ev")
      | ((with_reducible refine' t_of (w_or ?_ (fun _ => ?_))) <;> try walk_at "ev")
      | ((with_reducible refine' t_val ?_ ?_) <;> try walk_at "ev"))
  | ((with_reducible show EvA _ _ _ _ _ _); first
      | ((with_reducible refine' a_cons ?_ ?_ ?_) <;> try walk_at "ev")
      | (with_reducible exact a_nil))
  | ((with_reducible show BinR _ _ _ _ _ _); first
      | (with_reducible exact br_add)
      | (with_reducible exact br_sub)
      | ((with_reducible refine' br_mul ?_) <;> try walk_at "sz")
      | walk_at "br")
  | ((with_reducible show CmpR _ _ _ _ _ _); first
      | (with_reducible exact cr_lt)
      | (with_reducible exact cr_le)
      | (with_reducible exact cr_gt)
      | (with_reducible exact cr_ge)
      | (with_reducible exact cr_eqI)
      | (with_reducible exact cr_neI)
      | (with_reducible exact cr_isN)
      | (with_reducible exact cr_isB)
      | (with_reducible exact cr_eqB)
      | (with_reducible exact cr_eqS)
      | walk_at "cr")
  | ((with_reducible show EvW _ _ _ _ _ _); first
      | ((with_reducible refine' w_and1 ?_) <;> try walk_at "ev")
      | ((with_reducible refine' w_or1 ?_) <;> try walk_at "ev")
      | ((with_reducible refine' w_and ?_ (fun _ => ?_)) <;> try walk_at "ev")
      | ((with_reducible refine' w_or ?_ (fun _ => ?_)) <;> try walk_at "ev"))
  | ((with_reducible show EvK _ _ _ _ _ _); first
      | ((with_reducible refine' k_cons ?_ ?_) <;> try walk_at "ev")
      | (with_reducible exact k_nil))
  | ((with_reducible show Tgt _ _ _); first
      | ((with_reducible refine' Tgt.cons ?_ ?_ ?_ ?_) <;> try walk_at "ev")
      | (with_reducible exact Tgt.nil))
  | walk_at "side"
  | (intros; rfl))
local macro_rules | `(tactic| walk_at "side") => `(tactic| fail)
local macro_rules | `(tactic| walk_at "br") => `(tactic| fail)
local macro_rules | `(tactic| walk_at "cr") => `(tactic| fail)
local macro_rules | `(tactic| walk_at "call") => `(tactic| fail)
local macro_rules | `(tactic| walk_at "way") => `(tactic| first | exact fun z => Bool.noConfusion (show false = true from z) | exact fun z => Bool.noConfusion (show true = false from z) | (intro _; walk_at "ev"))
local macro_rules | `(tactic| walk_at "sz") => `(tactic| assumption)

local macro_rules | `(tactic| walk_at "side") => `(tactic| ((with_reducible show IsN _ _); first | assumption | exact isN_enc _ | exact IsN.int _))
local macro_rules | `(tactic| walk_at "side") => `(tactic| ((with_reducible show _ ≠ _); assumption))
local macro_rules | `(tactic| walk_at "side") => `(tactic| ((with_reducible show (_ : Nat) < _); assumption))
local macro_rules | `(tactic| walk_at "side") => `(tactic| ((with_reducible show Sz _ _); assumption))
local macro_rules | `(tactic| walk_at "side") => `(tactic| ((with_reducible show IsNs _ _); assumption))
local macro_rules | `(tactic| walk_at "side") => `(tactic| ((with_reducible show Sml _); assumption))

local macro_rules | `(tactic| walk_at "call") => `(tactic| ((with_reducible refine' e_call (by assumption : DefP _ "_law_take" _ _ _ _) ?_ ?_ (F_law_take.mk ?_ ?_ ?_) ?_ ?_ ?_) <;> try walk_at "ev"))
local macro_rules | `(tactic| walk_at "call") => `(tactic| ((with_reducible refine' e_call (by assumption : DefP _ "_law_low" _ _ _ _) ?_ ?_ (F_law_low.mk ?_ ?_ ?_) ?_ ?_ ?_) <;> try walk_at "ev"))
local macro_rules | `(tactic| walk_at "call") => `(tactic| ((with_reducible refine' e_call (by assumption : DefP _ "_law_pick" _ _ _ _) ?_ ?_ (F_law_pick.mk ?_ ?_ ?_ ?_) ?_ ?_ ?_) <;> try walk_at "ev"))
/-! ### the law's own arithmetic -/
theorem lt4 {n : Int} {k : Nat} (h : n.natAbs < 2 ^ k) (hk : k ≤ 8000) : n.natAbs < 2 ^ 8000 := Nat.lt_of_lt_of_le h (Nat.pow_le_pow_right (by decide) hk)
abbrev s_law_plus : Stmt := top 45
abbrev N_law_plus : List Str := ["x", "y"]
abbrev P_law_plus : List Str := ["x", "y"]
theorem sc_law_plus : FnScope N_law_plus P_law_plus (defScope s_law_plus) := ⟨rfl, rfl, rfl, by decide +kernel, rfl, by decide +kernel, by decide +kernel⟩
theorem bn_law_plus : ∀ (kV doc pm : Value) (an : Option Addr) (cdv ct : Value) (us : List Value), us.length = P_law_plus.length → bindArgs (PySem.W.fnOf "_law_plus" "_law_plus" (defArgs s_law_plus) (defBody s_law_plus) (defScope s_law_plus) .none kV doc pm an cdv ct) ⟨us, []⟩ = pure (P_law_plus.zip us) := fun _ _ _ _ _ _ us hl => match us, hl with | [_, _], _ => rfl

inductive F_law_plus : List D → Store → D → Store → Prop
  | mk {S : Store} {p q : Rat} (hp : Sz 3900 p) (hq : Sz 3900 q) : F_law_plus [pr p, pr q] S (pr (p + q)) S
theorem p_law_plus {B : Bs} (T : Txt B) (P1 : DefP B "_law_low" s_law_low P_law_low 1 F_law_low) {f : Addr} {fd : FuncData} (Fn : Fun B.K "_law_plus" "_law_plus" s_law_plus f fd) (hm : B.mg "_law_plus" = some (.ref f)) : DefP B "_law_plus" s_law_plus P_law_plus 2 F_law_plus := by
  refine def_ok Fn sc_law_plus hm bn_law_plus fun args S d S' hl hF => ?_
  cases hF with
  | @mk _ p q hp hq =>
    have a1 : seqA S (pr p) = some [.int p.num, .int (p.den : Int)] := rfl
    have a2 : seqA S (pr q) = some [.int q.num, .int (q.den : Int)] := rfl
    have m1 : CMulW p.num q.den := mulW hp.1 (nat_lt hq.2) (by decide) (by decide) (by decide)
    have m2 : CMulW q.num p.den := mulW hq.1 (nat_lt hp.2) (by decide) (by decide) (by decide)
    have m3 : CMulW p.den q.den := mulW (nat_lt hp.2) (nat_lt hq.2) (by decide) (by decide) (by decide)
    have n1 : (p.den : Int) * q.den ≠ 0 := Int.mul_ne_zero (den_ne p) (den_ne q)
    have z1 : (p.num * q.den + q.num * p.den).natAbs < 2 ^ 8000 := lt4 (add_lt (mul_lt hp.1 (nat_lt hq.2)) (mul_lt hq.1 (nat_lt hp.2))) (by decide)
    have z2 : ((p.den : Int) * q.den).natAbs < 2 ^ 8000 := lt4 (mul_lt (nat_lt hp.2) (nat_lt hq.2)) (by decide)
    refine' ss_one (s_ret ?h ?r)
    case h => walk_at "ev"
    case r => exact ⟨by rw [add_div], .inl rfl⟩
abbrev s_law_minus : Stmt := top 46
abbrev N_law_minus : List Str := ["x", "y"]
abbrev P_law_minus : List Str := ["x", "y"]
theorem sc_law_minus : FnScope N_law_minus P_law_minus (defScope s_law_minus) := ⟨rfl, rfl, rfl, by decide +kernel, rfl, by decide +kernel, by decide +kernel⟩
theorem bn_law_minus : ∀ (kV doc pm : Value) (an : Option Addr) (cdv ct : Value) (us : List Value), us.length = P_law_minus.length → bindArgs (PySem.W.fnOf "_law_minus" "_law_minus" (defArgs s_law_minus) (defBody s_law_minus) (defScope s_law_minus) .none kV doc pm an cdv ct) ⟨us, []⟩ = pure (P_law_minus.zip us) := fun _ _ _ _ _ _ us hl => match us, hl with | [_, _], _ => rfl

inductive F_law_minus : List D → Store → D → Store → Prop
  | mk {S : Store} {p q : Rat} (hp : Sz 3900 p) (hq : Sz 3900 q) : F_law_minus [pr p, pr q] S (pr (p - q)) S
theorem p_law_minus {B : Bs} (T : Txt B) (P1 : DefP B "_law_low" s_law_low P_law_low 1 F_law_low) {f : Addr} {fd : FuncData} (Fn : Fun B.K "_law_minus" "_law_minus" s_law_minus f fd) (hm : B.mg "_law_minus" = some (.ref f)) : DefP B "_law_minus" s_law_minus P_law_minus 2 F_law_minus := by
  refine def_ok Fn sc_law_minus hm bn_law_minus fun args S d S' hl hF => ?_
  cases hF with
  | @mk _ p q hp hq =>
    have a1 : seqA S (pr p) = some [.int p.num, .int (p.den : Int)] := rfl
    have a2 : seqA S (pr q) = some [.int q.num, .int (q.den : Int)] := rfl
    have m1 : CMulW p.num q.den := mulW hp.1 (nat_lt hq.2) (by decide) (by decide) (by decide)
    have m2 : CMulW q.num p.den := mulW hq.1 (nat_lt hp.2) (by decide) (by decide) (by decide)
    have m3 : CMulW p.den q.den := mulW (nat_lt hp.2) (nat_lt hq.2) (by decide) (by decide) (by decide)
    have n1 : (p.den : Int) * q.den ≠ 0 := Int.mul_ne_zero (den_ne p) (den_ne q)
    have z1 : (p.num * q.den - q.num * p.den).natAbs < 2 ^ 8000 := lt4 (sub_lt (mul_lt hp.1 (nat_lt hq.2)) (mul_lt hq.1 (nat_lt hp.2))) (by decide)
    have z2 : ((p.den : Int) * q.den).natAbs < 2 ^ 8000 := lt4 (mul_lt (nat_lt hp.2) (nat_lt hq.2)) (by decide)
    refine' ss_one (s_ret ?h ?r)
    case h => walk_at "ev"
    case r => exact ⟨by rw [sub_div], .inl rfl⟩
abbrev s_law_times : Stmt := top 47
abbrev N_law_times : List Str := ["x", "y"]
abbrev P_law_times : List Str := ["x", "y"]
theorem sc_law_times : FnScope N_law_times P_law_times (defScope s_law_times) := ⟨rfl, rfl, rfl, by decide +kernel, rfl, by decide +kernel, by decide +kernel⟩
theorem bn_law_times : ∀ (kV doc pm : Value) (an : Option Addr) (cdv ct : Value) (us : List Value), us.length = P_law_times.length → bindArgs (PySem.W.fnOf "_law_times" "_law_times" (defArgs s_law_times) (defBody s_law_times) (defScope s_law_times) .none kV doc pm an cdv ct) ⟨us, []⟩ = pure (P_law_times.zip us) := fun _ _ _ _ _ _ us hl => match us, hl with | [_, _], _ => rfl

inductive F_law_times : List D → Store → D → Store → Prop
  | mk {S : Store} {p q : Rat} (hp : Sz 3900 p) (hq : Sz 3900 q) : F_law_times [pr p, pr q] S (pr (p * q)) S
theorem p_law_times {B : Bs} (T : Txt B) (P1 : DefP B "_law_low" s_law_low P_law_low 1 F_law_low) {f : Addr} {fd : FuncData} (Fn : Fun B.K "_law_times" "_law_times" s_law_times f fd) (hm : B.mg "_law_times" = some (.ref f)) : DefP B "_law_times" s_law_times P_law_times 2 F_law_times := by
  refine def_ok Fn sc_law_times hm bn_law_times fun args S d S' hl hF => ?_
  cases hF with
  | @mk _ p q hp hq =>
    have a1 : seqA S (pr p) = some [.int p.num, .int (p.den : Int)] := rfl
    have a2 : seqA S (pr q) = some [.int q.num, .int (q.den : Int)] := rfl
    have m1 : CMulW p.num q.num := mulW hp.1 hq.1 (by decide) (by decide) (by decide)
    have m3 : CMulW p.den q.den := mulW (nat_lt hp.2) (nat_lt hq.2) (by decide) (by decide) (by decide)
    have n1 : (p.den : Int) * q.den ≠ 0 := Int.mul_ne_zero (den_ne p) (den_ne q)
    have z1 : (p.num * q.num).natAbs < 2 ^ 8000 := lt4 (mul_lt hp.1 hq.1) (by decide)
    have z2 : ((p.den : Int) * q.den).natAbs < 2 ^ 8000 := lt4 (mul_lt (nat_lt hp.2) (nat_lt hq.2)) (by decide)
    refine' ss_one (s_ret ?h ?r)
    case h => walk_at "ev"
    case r => exact ⟨by rw [mul_div], .inl rfl⟩
abbrev s_law_over : Stmt := top 48
abbrev N_law_over : List Str := ["x", "y"]
abbrev P_law_over : List Str := ["x", "y"]
theorem sc_law_over : FnScope N_law_over P_law_over (defScope s_law_over) := ⟨rfl, rfl, rfl, by decide +kernel, rfl, by decide +kernel, by decide +kernel⟩
theorem bn_law_over : ∀ (kV doc pm : Value) (an : Option Addr) (cdv ct : Value) (us : List Value), us.length = P_law_over.length → bindArgs (PySem.W.fnOf "_law_over" "_law_over" (defArgs s_law_over) (defBody s_law_over) (defScope s_law_over) .none kV doc pm an cdv ct) ⟨us, []⟩ = pure (P_law_over.zip us) := fun _ _ _ _ _ _ us hl => match us, hl with | [_, _], _ => rfl

inductive F_law_over : List D → Store → D → Store → Prop
  | mk {S : Store} {p q : Rat} (hp : Sz 3900 p) (hq : Sz 3900 q) (h0 : q ≠ 0) : F_law_over [pr p, pr q] S (pr (p / q)) S
theorem p_law_over {B : Bs} (T : Txt B) (P1 : DefP B "_law_low" s_law_low P_law_low 1 F_law_low) {f : Addr} {fd : FuncData} (Fn : Fun B.K "_law_over" "_law_over" s_law_over f fd) (hm : B.mg "_law_over" = some (.ref f)) : DefP B "_law_over" s_law_over P_law_over 2 F_law_over := by
  refine def_ok Fn sc_law_over hm bn_law_over fun args S d S' hl hF => ?_
  cases hF with
  | @mk _ p q hp hq h0 =>
    have a1 : seqA S (pr p) = some [.int p.num, .int (p.den : Int)] := rfl
    have a2 : seqA S (pr q) = some [.int q.num, .int (q.den : Int)] := rfl
    have m1 : CMulW p.num q.den := mulW hp.1 (nat_lt hq.2) (by decide) (by decide) (by decide)
    have m3 : CMulW p.den q.num := mulW (nat_lt hp.2) hq.1 (by decide) (by decide) (by decide)
    have n1 : (p.den : Int) * q.num ≠ 0 := Int.mul_ne_zero (den_ne p) (num_ne h0)
    have z1 : (p.num * q.den).natAbs < 2 ^ 8000 := lt4 (mul_lt hp.1 (nat_lt hq.2)) (by decide)
    have z2 : ((p.den : Int) * q.num).natAbs < 2 ^ 8000 := lt4 (mul_lt (nat_lt hp.2) hq.1) (by decide)
    refine' ss_one (s_ret ?h ?r)
    case h => walk_at "ev"
    case r => exact ⟨by rw [quo_div], .inl rfl⟩
abbrev s_law_less : Stmt := top 49
abbrev N_law_less : List Str := ["x", "y"]
abbrev P_law_less : List Str := ["x", "y"]
theorem sc_law_less : FnScope N_law_less P_law_less (defScope s_law_less) := ⟨rfl, rfl, rfl, by decide +kernel, rfl, by decide +kernel, by decide +kernel⟩
theorem bn_law_less : ∀ (kV doc pm : Value) (an : Option Addr) (cdv ct : Value) (us : List Value), us.length = P_law_less.length → bindArgs (PySem.W.fnOf "_law_less" "_law_less" (defArgs s_law_less) (defBody s_law_less) (defScope s_law_less) .none kV doc pm an cdv ct) ⟨us, []⟩ = pure (P_law_less.zip us) := fun _ _ _ _ _ _ us hl => match us, hl with | [_, _], _ => rfl

inductive F_law_less : List D → Store → D → Store → Prop
  | mk {S : Store} {p q : Rat} (hp : Sz 3900 p) (hq : Sz 3900 q) : F_law_less [pr p, pr q] S (.bl (decide (p < q))) S
theorem p_law_less {B : Bs} (T : Txt B) {f : Addr} {fd : FuncData} (Fn : Fun B.K "_law_less" "_law_less" s_law_less f fd) (hm : B.mg "_law_less" = some (.ref f)) : DefP B "_law_less" s_law_less P_law_less 1 F_law_less := by
  refine def_ok Fn sc_law_less hm bn_law_less fun args S d S' hl hF => ?_
  cases hF with
  | @mk _ p q hp hq =>
    have a1 : seqA S (pr p) = some [.int p.num, .int (p.den : Int)] := rfl
    have a2 : seqA S (pr q) = some [.int q.num, .int (q.den : Int)] := rfl
    have m1 : CMulW p.num q.den := mulW hp.1 (nat_lt hq.2) (by decide) (by decide) (by decide)
    have m2 : CMulW q.num p.den := mulW hq.1 (nat_lt hp.2) (by decide) (by decide) (by decide)
    refine' ss_one (s_ret ?h ?r)
    case h => walk_at "ev"
    case r => exact ⟨by simp only [Rat.lt_iff], .inl rfl⟩
abbrev s_law_num : Stmt := top 51
abbrev N_law_num : List Str := ["x"]
abbrev P_law_num : List Str := ["x"]
theorem sc_law_num : FnScope N_law_num P_law_num (defScope s_law_num) := ⟨rfl, rfl, rfl, by decide +kernel, rfl, by decide +kernel, by decide +kernel⟩
theorem bn_law_num : ∀ (kV doc pm : Value) (an : Option Addr) (cdv ct : Value) (us : List Value), us.length = P_law_num.length → bindArgs (PySem.W.fnOf "_law_num" "_law_num" (defArgs s_law_num) (defBody s_law_num) (defScope s_law_num) .none kV doc pm an cdv ct) ⟨us, []⟩ = pure (P_law_num.zip us) := fun _ _ _ _ _ _ us hl => match us, hl with | [_], _ => rfl

def due (q : Rat) : D := .tup [.str "#", .int q.num, .int (q.den : Int)]
inductive F_law_num : List D → Store → D → Store → Prop
  | mk {S : Store} {p : Rat} : F_law_num [pr p] S (due p) S
theorem p_law_num {B : Bs} (T : Txt B) {f : Addr} {fd : FuncData} (Fn : Fun B.K "_law_num" "_law_num" s_law_num f fd) (hm : B.mg "_law_num" = some (.ref f)) : DefP B "_law_num" s_law_num P_law_num 1 F_law_num := by
  refine def_ok Fn sc_law_num hm bn_law_num fun args S d S' hl hF => ?_
  cases hF with
  | @mk _ p =>
    have a1 : seqA S (pr p) = some [.int p.num, .int (p.den : Int)] := rfl
    refine' ss_one (s_ret ?h ?r)
    case h => walk_at "ev"
    case r => exact ⟨rfl, .inl rfl⟩
local macro_rules | `(tactic| walk_at "call") => `(tactic| ((with_reducible refine' e_call (by assumption : DefP _ "_law_plus" _ _ _ _) ?_ ?_ (F_law_plus.mk ?_ ?_) ?_ ?_ ?_) <;> try walk_at "ev"))
abbrev s_law_sum : Stmt := top 50
abbrev N_law_sum : List Str := ["numbers", "found", "one"]
abbrev P_law_sum : List Str := ["numbers"]
theorem sc_law_sum : FnScope N_law_sum P_law_sum (defScope s_law_sum) := ⟨rfl, rfl, rfl, by decide +kernel, rfl, by decide +kernel, by decide +kernel⟩
theorem bn_law_sum : ∀ (kV doc pm : Value) (an : Option Addr) (cdv ct : Value) (us : List Value), us.length = P_law_sum.length → bindArgs (PySem.W.fnOf "_law_sum" "_law_sum" (defArgs s_law_sum) (defBody s_law_sum) (defScope s_law_sum) .none kV doc pm an cdv ct) ⟨us, []⟩ = pure (P_law_sum.zip us) := fun _ _ _ _ _ _ us hl => match us, hl with | [_], _ => rfl

inductive F_law_sum : List D → Store → D → Store → Prop
  | mk {S : Store} {qs : List Rat} (hz : ∀ q ∈ qs, Sz 150 q) (hl : qs.length ≤ 20) : F_law_sum [.lst (qs.map pr)] S (pr qs.sum) S
theorem p_law_sum {B : Bs} (T : Txt B) (P1 : DefP B "_law_plus" s_law_plus P_law_plus 2 F_law_plus) {f : Addr} {fd : FuncData} (Fn : Fun B.K "_law_sum" "_law_sum" s_law_sum f fd) (hm : B.mg "_law_sum" = some (.ref f)) : DefP B "_law_sum" s_law_sum P_law_sum 3 F_law_sum := by
  refine def_ok Fn sc_law_sum hm bn_law_sum fun args S d S' hl hF => ?_
  cases hF with
  | @mk _ qs hz hle =>
    refine' ss_cons (s_set (i := 1) rfl rfl rfl ?h1 ?n1)
    case h1 => walk_at "ev"
    case n1 =>
    refine ss_cons (s_for (ds := qs.map pr) (S1 := S) (j := 2) rfl rfl rfl (i_seq (x := .lst (qs.map pr)) ?h2 rfl) (fun i Γ' S' => ∃ o, Γ' = [some (.lst (qs.map pr)), some (pr (qs.take i).sum), o] ∧ S' = S) ⟨none, rfl, rfl⟩ ?turn ?done)
    case h2 => walk_at "ev"
    case done =>
      rintro Γ' S' ⟨o, rfl, rfl⟩
      rw [List.length_map, List.take_length]
      refine' ss_one (s_ret ?h3 ?r)
      case h3 => walk_at "ev"
      case r => exact ⟨rfl, .inl rfl⟩
    case turn =>
      rintro i d Γ' S' hd ⟨o, rfl, rfl⟩
      rw [List.getElem?_map] at hd
      cases e1 : qs[i]? with
      | none => rw [e1] at hd; cases hd
      | some q =>
        rw [e1] at hd
        cases hd
        have hs1 : Sz 3900 (qs.take i).sum := (sz_sum fun p hp => hz p (List.mem_of_mem_take hp)).mono (by
          have : (qs.take i).length ≤ 20 := by rw [List.length_take]; omega
          omega)
        have hs2 : Sz 3900 q := (hz q (List.mem_of_getElem? e1)).mono (by decide)
        refine' ss_one (s_set (i := 1) rfl rfl rfl ?h4 ?n4)
        case h4 => walk_at "ev"
        case n4 =>
          refine ⟨some (pr q), ?_, rfl⟩
          rw [List.take_add_one, e1]
          show _ = [_, some (pr (qs.take i ++ [q]).sum), _]
          rw [sum_snoc]
          rfl
end DL
/-! text: K12 -/
namespace DL
open PySem L2 QM
/-! the walker: one step by the syntax that stands there, then on; what it can't close stays -/
local macro_rules | `(tactic| walk_at "ev") => `(tactic| first
  | ((with_reducible show _ = _); first | rfl | assumption)
  | ((with_reducible show EvE _ _ _ _ _ _); first
      | ((with_reducible show EvE _ (.Name _ _) _ _ _ _); first
      | ((with_reducible refine' e_name ?_ ?_ ?_) <;> try walk_at "ev"))
      | ((with_reducible show EvE _ (.Constant _ _ _) _ _ _ _); first
      | (with_reducible exact e_int)
      | (with_reducible exact e_str)
      | (with_reducible exact e_bl)
      | (with_reducible exact e_non))
      | ((with_reducible show EvE _ (.Call _ _ _ _) _ _ _ _); first
      | walk_at "call"
      | ((with_reducible show EvE _ (.Call (.Name "isinstance" _) _ _ _) _ _ _ _); first
      | ((with_reducible refine' e_isInt (by assumption) ?_ ?_ ?_ ?_ ?_) <;> try walk_at "ev")
      | ((with_reducible refine' e_isBool (by assumption) ?_ ?_ ?_ ?_ ?_) <;> try walk_at "ev")
      | ((with_reducible refine' e_isRat (by assumption) ?_ ?_ ?_ ?_ ?_) <;> try walk_at "ev")
      | ((with_reducible refine' e_isStr (by assumption) ?_ ?_ ?_ ?_ ?_) <;> try walk_at "ev")
      | ((with_reducible refine' e_isList (by assumption) ?_ ?_ ?_ ?_ ?_) <;> try walk_at "ev")
      | ((with_reducible refine' e_isTup (by assumption) ?_ ?_ ?_ ?_ ?_) <;> try walk_at "ev")
      | ((with_reducible refine' e_isDict (by assumption) ?_ ?_ ?_ ?_ ?_) <;> try walk_at "ev")
      | ((with_reducible refine' e_isLT (by assumption) ?_ ?_ ?_ ?_ ?_ ?_) <;> try walk_at "ev"))
      | ((with_reducible refine' e_len (nm := "len") (by assumption) ?_ ?_ ?_ ?_) <;> try walk_at "ev")
      | ((with_reducible refine' e_abs (by assumption) ?_ ?_ ?_) <;> try walk_at "ev")
      | ((with_reducible refine' e_intI (by assumption) ?_ ?_ ?_) <;> try walk_at "ev")
      | ((with_reducible refine' e_list (by assumption) ?_ ?_ ?_ ?_) <;> try walk_at "ev")
      | ((with_reducible refine' e_tuple (by assumption) ?_ ?_ ?_ ?_) <;> try walk_at "ev")
      | ((with_reducible refine' e_gcd (by assumption) ?_ ?_ ?_ ?_ ?_) <;> try walk_at "ev")
      | ((with_reducible refine' e_max2 (by assumption) ?_ ?_ ?_ ?_ ?_) <;> try walk_at "ev")
      | ((with_reducible refine' e_min2 (by assumption) ?_ ?_ ?_ ?_ ?_) <;> try walk_at "ev"))
      | ((with_reducible show EvE _ (.BinOp _ _ _ _) _ _ _ _); first
      | ((with_reducible refine' e_bin ?_ ?_ ?_) <;> try walk_at "ev"))
      | ((with_reducible show EvE _ (.Subscript _ _ _) _ _ _ _); first
      | ((with_reducible refine' e_ix ?_ ?_ ?_ ?_ ?_) <;> try walk_at "ev"))
      | ((with_reducible show EvE _ (.Compare _ _ _ _) _ _ _ _); first
      | ((with_reducible refine' e_cmp ?_ ?_ ?_ ?_) <;> try walk_at "ev"))
      | ((with_reducible show EvE _ (.Attribute _ _ _) _ _ _ _); first
      | ((with_reducible refine' e_top (by assumption) ?_ ?_) <;> try walk_at "ev")
      | ((with_reducible refine' e_bottom (by assumption) ?_ ?_) <;> try walk_at "ev"))
      | ((with_reducible show EvE _ (.UnaryOp _ _ _) _ _ _ _); first
      | ((with_reducible refine' e_not ?_) <;> try walk_at "ev")
      | ((with_reducible refine' e_neg ?_) <;> try walk_at "ev"))
      | ((with_reducible show EvE _ (.Tuple _ _ _) _ _ _ _); first
      | ((with_reducible refine' e_tup ?_ ?_) <;> try walk_at "ev"))
      | ((with_reducible show EvE _ (.List _ _) _ _ _ _); first
      | ((with_reducible refine' e_lst ?_ ?_) <;> try walk_at "ev"))
      | ((with_reducible show EvE _ (.BoolOp _ _ _) _ _ _ _); first
      | ((with_reducible refine' e_one ?_) <;> try walk_at "ev")
      | ((with_reducible refine' e_and ?_ (fun _ => ?_)) <;> try walk_at "ev")
      | ((with_reducible refine' e_or ?_ (fun _ => ?_)) <;> try walk_at "ev"))
      | ((with_reducible show EvE _ (.IfExp _ _ _ _) _ _ _ _); first
      | ((with_reducible refine' e_if ?_ ?_ ?_) <;> first | walk_at "ev" | walk_at "way" | skip)))
  | exact Nat.le_of_ble_eq_true (by rfl)
  | ((with_reducible show EvT _ _ _ _ _ _); first
      | ((with_reducible refine' t_cmp ?_ ?_ ?_ ?_) <;> try walk_at "ev")
      | ((with_reducible refine' t_not ?_) <;> try walk_at "ev")
      | ((with_reducible refine' t_of (w_and ?_ (fun _ => ?_))) <;> try walk_at "ev")
      | ((with_reducible refine' t_of (w_or ?_ (fun _ => ?_))) <;> try walk_at "ev")
      | ((with_reducible refine' t_val ?_ ?_) <;> try walk_at "ev"))
  | ((with_reducible show EvA _ _ _ _ _ _); first
      | ((with_reducible refine' a_cons ?_ ?_ ?_) <;> try walk_at "ev")
      | (with_reducible exact a_nil))
  | ((with_reducible show BinR _ _ _ _ _ _); first
      | (with_reducible exact br_add)
      | (with_reducible exact br_sub)
      | ((with_reducible refine' br_mul ?_) <;> try walk_at "sz")
      | walk_at "br")
  | ((with_reducible show CmpR _ _ _ _ _ _); first
      | (with_reducible exact cr_lt)
      | (with_reducible exact cr_le)
      | (with_reducible exact cr_gt)
      | (with_reducible exact cr_ge)
      | (with_reducible exact cr_eqI)
      | (with_reducible exact cr_neI)
      | (with_reducible exact cr_isN)
      | (with_reducible exact cr_isB)
      | (with_reducible exact cr_eqB)
      | (with_reducible exact cr_eqS)
      | walk_at "cr")
  | ((with_reducible show EvW _ _ _ _ _ _); first
      | ((with_reducible refine' w_and1 ?_) <;> try walk_at "ev")
      | ((with_reducible refine' w_or1 ?_) <;> try walk_at "ev")
      | ((with_reducible refine' w_and ?_ (fun _ => ?_)) <;> try walk_at "ev")
      | ((with_reducible refine' w_or ?_ (fun _ => ?_)) <;> try walk_at "ev"))
  | ((with_reducible show EvK _ _ _ _ _ _); first
      | ((with_reducible refine' k_cons ?_ ?_) <;> try walk_at "ev")
      | (with_reducible exact k_nil))
  | ((with_reducible show Tgt _ _ _); first
      | ((with_reducible refine' Tgt.cons ?_ ?_ ?_ ?_) <;> try walk_at "ev")
      | (with_reducible exact Tgt.nil))
  | walk_at "side"
  | (intros; rfl))
local macro_rules | `(tactic| walk_at "side") => `(tactic| fail)
local macro_rules | `(tactic| walk_at "br") => `(tactic| fail)
local macro_rules | `(tactic| walk_at "cr") => `(tactic| fail)
local macro_rules | `(tactic| walk_at "call") => `(tactic| fail)
local macro_rules | `(tactic| walk_at "way") => `(tactic| first | exact fun z => Bool.noConfusion (show false = true from z) | exact fun z => Bool.noConfusion (show true = false from z) | (intro _; walk_at "ev"))
local macro_rules | `(tactic| walk_at "sz") => `(tactic| assumption)

local macro_rules | `(tactic| walk_at "side") => `(tactic| ((with_reducible show IsN _ _); first | assumption | exact isN_enc _ | exact IsN.int _))
local macro_rules | `(tactic| walk_at "side") => `(tactic| ((with_reducible show _ ≠ _); assumption))
local macro_rules | `(tactic| walk_at "side") => `(tactic| ((with_reducible show (_ : Nat) < _); assumption))
local macro_rules | `(tactic| walk_at "side") => `(tactic| ((with_reducible show Sz _ _); assumption))
local macro_rules | `(tactic| walk_at "side") => `(tactic| ((with_reducible show IsNs _ _); assumption))
local macro_rules | `(tactic| walk_at "side") => `(tactic| ((with_reducible show Sml _); assumption))

local macro_rules | `(tactic| walk_at "side") => `(tactic| ((with_reducible show (_ : Int) < _); assumption))
local macro_rules | `(tactic| walk_at "call") => `(tactic| ((with_reducible refine' e_call (by assumption : DefP _ "_law_take" _ _ _ _) ?_ ?_ (F_law_take.mk ?_ ?_ ?_) ?_ ?_ ?_) <;> try walk_at "ev"))
local macro_rules | `(tactic| walk_at "call") => `(tactic| ((with_reducible refine' e_call (by assumption : DefP _ "_law_low" _ _ _ _) ?_ ?_ (F_law_low.mk ?_ ?_ ?_) ?_ ?_ ?_) <;> try walk_at "ev"))
local macro_rules | `(tactic| walk_at "call") => `(tactic| ((with_reducible refine' e_call (by assumption : DefP _ "_law_pick" _ _ _ _) ?_ ?_ (F_law_pick.mk ?_ ?_ ?_ ?_) ?_ ?_ ?_) <;> try walk_at "ev"))
/-! ### _law_mixed -/
def mixS (st : Bx × List Rat × List Rat) : Bx × List Rat × List Rat := ((take st.1 (st.2.1.length : Nat)).2, st.2.1.eraseIdx (take st.1 (st.2.1.length : Nat)).1.toNat, st.2.2 ++ [st.2.1.getD (take st.1 (st.2.1.length : Nat)).1.toNat 0])
def mixN : Nat → Bx × List Rat × List Rat → Bx × List Rat × List Rat
  | 0, st => st
  | k + 1, st => mixS (mixN k st)
def mixF (b : Bx) (qs : List Rat) : List Rat × Bx := ((mixN qs.length (b, qs, [])).2.2, (mixN qs.length (b, qs, [])).1)
theorem mixS_facts {st : Bx × List Rat × List Rat} (h : 0 < st.2.1.length) : ∃ t : Nat, (take st.1 (st.2.1.length : Nat)).1 = (t : Int) ∧ t < st.2.1.length ∧ ∃ x, st.2.1[t]? = some x ∧ mixS st = ((take st.1 (st.2.1.length : Nat)).2, st.2.1.eraseIdx t, st.2.2 ++ [x]) := by
  have r := take_range (b := st.1) (m := (st.2.1.length : Nat)) (by omega)
  refine ⟨(take st.1 (st.2.1.length : Nat)).1.toNat, by omega, by omega, st.2.1[(take st.1 (st.2.1.length : Nat)).1.toNat]'(by omega), List.getElem?_eq_getElem _, ?_⟩
  unfold mixS
  rw [List.getD_eq_getElem?_getD, List.getElem?_eq_getElem (by omega)]
  rfl
theorem mixN_facts (b : Bx) (qs : List Rat) : ∀ k, k ≤ qs.length → (mixN k (b, qs, [])).2.1.length = qs.length - k ∧ ((mixN k (b, qs, [])).2.2 ++ (mixN k (b, qs, [])).2.1).Perm qs
  | 0, _ => ⟨rfl, .refl _⟩
  | k + 1, hk => by
    obtain ⟨h1, h2⟩ := mixN_facts b qs k (by omega)
    obtain ⟨t, _, ht, x, hx, e⟩ := mixS_facts (st := mixN k (b, qs, [])) (by omega)
    show (mixS (mixN k (b, qs, []))).2.1.length = _ ∧ _
    show _ ∧ ((mixS (mixN k (b, qs, []))).2.2 ++ (mixS (mixN k (b, qs, []))).2.1).Perm qs
    rw [e]
    refine ⟨?_, ?_⟩
    · show ((mixN k (b, qs, [])).2.1.eraseIdx t).length = _
      rw [List.length_eraseIdx, if_pos ht]
      omega
    · show ((mixN k (b, qs, [])).2.2 ++ [x] ++ (mixN k (b, qs, [])).2.1.eraseIdx t).Perm qs
      rw [List.append_assoc, List.singleton_append]
      exact (List.Perm.append_left _ (erase_perm hx)).trans h2
theorem mixF_perm (b : Bx) (qs : List Rat) : (mixF b qs).1.Perm qs := by
  obtain ⟨h1, h2⟩ := mixN_facts b qs qs.length (Nat.le_refl _)
  have : (mixN qs.length (b, qs, [])).2.1 = [] := List.eq_nil_of_length_eq_zero (by omega)
  rw [this, List.append_nil] at h2
  exact h2
theorem map_erase {α β : Type} (f : α → β) : ∀ (l : List α) (j : Nat), (l.eraseIdx j).map f = (l.map f).eraseIdx j
  | [], _ => rfl
  | _ :: _, 0 => rfl
  | x :: l, j + 1 => by
    show f x :: (l.eraseIdx j).map f = f x :: (l.map f).eraseIdx j
    rw [map_erase f l j]
def mxS (S : Store) (i : Nat) (b : Bx) (l f : List D) : Store := bx (S ++ [some l, some f]) i b
theorem bx_len {S : Store} {i : Nat} {b : Bx} : (bx S i b).length = S.length := List.length_set
theorem bx_app {S : Store} {i : Nat} {b : Bx} {r : Store} (h : i < S.length) : bx S i b ++ r = bx (S ++ r) i b := by
  unfold bx
  rw [List.set_append_left _ _ h]
theorem bx_other {S : Store} {i j : Nat} {b : Bx} (h : i ≠ j) : (bx S i b)[j]? = S[j]? := List.getElem?_set_ne h
theorem mx_l {S : Store} {i : Nat} {b : Bx} {l f : List D} (h : i < S.length) : (mxS S i b l f)[S.length]? = some (some l) := by
  unfold mxS
  rw [bx_other (by omega), List.getElem?_append_right (Nat.le_refl _), Nat.sub_self]
  rfl
theorem mx_f {S : Store} {i : Nat} {b : Bx} {l f : List D} (h : i < S.length) : (mxS S i b l f)[S.length + 1]? = some (some f) := by
  unfold mxS
  rw [bx_other (by omega), List.getElem?_append_right (by omega), show S.length + 1 - S.length = 1 by omega]
  rfl
theorem mx_setl {S : Store} {i : Nat} {b : Bx} {l f l' : List D} (h : i < S.length) : (mxS S i b l f).set S.length (some l') = mxS S i b l' f := by
  unfold mxS bx
  rw [List.set_comm _ _ (by omega), List.set_append_right _ _ (Nat.le_refl _), Nat.sub_self]
  rfl
theorem mx_setf {S : Store} {i : Nat} {b : Bx} {l f : List D} {f'} (h : i < S.length) : (mxS S i b l f).set (S.length + 1) f' = bx (S ++ [some l, f']) i b := by
  unfold mxS bx
  rw [List.set_comm _ _ (by omega), List.set_append_right _ _ (by omega), show S.length + 1 - S.length = 1 by omega]
  rfl
theorem nocs_prs : ∀ qs : List Rat, nocs (qs.map pr) = true
  | [] => rfl
  | q :: qs => by
    rw [List.map_cons]
    simp only [nocs, Bool.and_eq_true]
    exact ⟨rfl, nocs_prs qs⟩
theorem nocS_bx {S : Store} {i : Nat} {b : Bx} (h : nocS S) : nocS (bx S i b) := by
  intro j c e
  by_cases hj : i = j
  · subst hj
    have hl : i < S.length := by rw [← bx_len (b := b)]; exact (List.getElem?_eq_some_iff.mp e).1
    rw [bx_at hl] at e
    cases e
    rfl
  · rw [bx_other hj] at e
    exact h j c e
abbrev s_law_mixed : Stmt := top 43
abbrev N_law_mixed : List Str := ["box", "items", "left", "found", "turn"]
abbrev P_law_mixed : List Str := ["box", "items"]
theorem sc_law_mixed : FnScope N_law_mixed P_law_mixed (defScope s_law_mixed) := ⟨rfl, rfl, rfl, by decide +kernel, rfl, by decide +kernel, by decide +kernel⟩
theorem bn_law_mixed : ∀ (kV doc pm : Value) (an : Option Addr) (cdv ct : Value) (us : List Value), us.length = P_law_mixed.length → bindArgs (PySem.W.fnOf "_law_mixed" "_law_mixed" (defArgs s_law_mixed) (defBody s_law_mixed) (defScope s_law_mixed) .none kV doc pm an cdv ct) ⟨us, []⟩ = pure (P_law_mixed.zip us) := fun _ _ _ _ _ _ us hl => match us, hl with | [_, _], _ => rfl

inductive F_law_mixed : List D → Store → D → Store → Prop
  | mk {S : Store} {i : Nat} {b : Bx} {qs : List Rat} (hi : i < S.length) (hn : nocS S) (hle : qs.length ≤ 20) : F_law_mixed [.cel i, .lst (qs.map pr)] (bx S i b) (.lst ((mixF b qs).1.map pr)) (bx S i (mixF b qs).2)
theorem p_law_mixed {B : Bs} (T : Txt B) (P1 : DefP B "_law_take" s_law_take P_law_take 1 F_law_take) {f : Addr} {fd : FuncData} (Fn : Fun B.K "_law_mixed" "_law_mixed" s_law_mixed f fd) (hm : B.mg "_law_mixed" = some (.ref f)) : DefP B "_law_mixed" s_law_mixed P_law_mixed 2 F_law_mixed := by
  refine def_ok Fn sc_law_mixed hm bn_law_mixed fun args S d S' hl hF => ?_
  cases hF with
  | @mk S i b qs hi hn hle =>
    have e1 : bx S i b ++ [some (qs.map pr)] ++ [some []] = mxS S i b (qs.map pr) [] := by
      rw [List.append_assoc, bx_app hi]
      rfl
    refine' ss_cons (s_par (i := 2) (j := 3) (x := .cel S.length) (y := .cel (S.length + 1)) (S1 := mxS S i b (qs.map pr) []) rfl rfl (by decide) rfl rfl ?w ?a ?n1)
    case w => exact fun env he => by cases env; cases he; rfl
    case a =>
      refine a_cons (S1 := bx S i b ++ [some (qs.map pr)]) (e_is (e_listC (x := .lst (qs.map pr)) (ds := qs.map pr) (S1 := bx S i b) T ?h1 rfl ?g1 ?g2) (by rw [bx_len]) rfl) (a_cons (e_is (e_lstC (ds := []) a_nil (by show 0 ≤ 100000; decide)) (by rw [List.length_append, bx_len]; rfl) e1) a_nil rfl) rfl
      case h1 => walk_at "ev"
      all_goals rfl
    case n1 =>
    have fin : ∀ o, EvSs ⟨B, N_law_mixed, defScope s_law_mixed, 1, fun _ => true⟩ (List.drop 2 (defBody s_law_mixed)) [some (.cel i), some (.lst (qs.map pr)), some (.cel S.length), some (.cel (S.length + 1)), o] (mxS S i (mixF b qs).2 [] ((mixF b qs).1.map pr)) (bodyE (bx S i b).length (.lst ((mixF b qs).1.map pr)) (bx S i (mixF b qs).2)) := by
      intro o
      refine' ss_one (s_ret (e_frz (i := S.length + 1) (S1 := mxS S i (mixF b qs).2 [] ((mixF b qs).1.map pr)) ?h (mx_f hi)) ?r)
      case h => walk_at "ev"
      case r =>
        refine ⟨rfl, .inr ⟨[some [], none], ?_, by rw [bx_len, bx_len], nocs_prs _, nocS_bx hn⟩⟩
        rw [mx_setf hi, bx_app hi]
    have hlen : seqA (mxS S i b (qs.map pr) []) (.cel S.length) = some (qs.map pr) := by
      show (mxS S i b (qs.map pr) [])[S.length]?.join = _
      rw [mx_l hi]
      rfl
    refine ss_cons (s_for (ds := rngD (((qs.map pr).length : Nat) : Int).toNat) (S1 := mxS S i b (qs.map pr) []) (j := 4) rfl rfl rfl (i_range (n := ((qs.map pr).length : Int)) T ?h2 (by rw [List.length_map]; omega) (by omega) ?q1 ?q2) (fun k Γ' S' => ∃ o, Γ' = [some (.cel i), some (.lst (qs.map pr)), some (.cel S.length), some (.cel (S.length + 1)), o] ∧
      S' = mxS S i (mixN k (b, qs, [])).1 ((mixN k (b, qs, [])).2.1.map pr) ((mixN k (b, qs, [])).2.2.map pr)) ⟨none, rfl, rfl⟩ ?turn ?done)
    case h2 => walk_at "ev"
    case done =>
      rintro Γ' S' ⟨o, rfl, rfl⟩
      rw [rngD_len, Int.toNat_natCast, List.length_map]
      obtain ⟨h1, h2⟩ := mixN_facts b qs qs.length (Nat.le_refl _)
      have e0 : (mixN qs.length (b, qs, [])).2.1 = [] := List.eq_nil_of_length_eq_zero (by omega)
      rw [e0]
      exact fin o
    case turn =>
      rintro k d Γ' S' hd ⟨o, rfl, rfl⟩
      obtain ⟨hk, _⟩ := rngD_get hd
      rw [Int.toNat_natCast, List.length_map] at hk
      obtain ⟨h1, h2⟩ := mixN_facts b qs k (by omega)
      show EvSs _ _ _ _ _
      generalize hst : mixN k (b, qs, []) = st at *
      obtain ⟨b1, l1, f1⟩ := st
      have h1 : l1.length = qs.length - k := h1
      obtain ⟨t, ht, htl, x, hx, e⟩ := mixS_facts (st := (b1, l1, f1)) (by show 0 < l1.length; omega)
      have ht : (take b1 (l1.length : Nat)).1 = (t : Int) := ht
      have hx : l1[t]? = some x := hx
      have e : mixS (b1, l1, f1) = ((take b1 (l1.length : Nat)).2, l1.eraseIdx t, f1 ++ [x]) := e
      have hi2 : i < (S ++ [some (l1.map pr), some (f1.map pr)]).length := by rw [List.length_append]; omega
      have hm0 : (0 : Int) < ((l1.map pr).length : Int) := by rw [List.length_map]; omega
      have hm1 : ((l1.map pr).length : Int).natAbs.log2 < 9000 := by
        refine lg (n := 20) ?_ (by decide) (by decide)
        rw [Int.natAbs_natCast, List.length_map]
        exact Nat.lt_of_le_of_lt (show l1.length ≤ 20 by omega) (by decide)
      have hsl : seqA (mxS S i b1 (l1.map pr) (f1.map pr)) (.cel S.length) = some (l1.map pr) := by
        show (mxS S i b1 (l1.map pr) (f1.map pr))[S.length]?.join = _
        rw [mx_l hi]
        rfl
      refine ss_one (s_app (i := S.length + 1) (S1 := mxS S i b1 (l1.map pr) (f1.map pr)) (ds0 := f1.map pr) (d := pr x) (S2 := mxS S i (take b1 (l1.length : Nat)).2 ((l1.eraseIdx t).map pr) (f1.map pr)) (ds := f1.map pr) ?o1 (mx_f hi) (e_is (e_popAt (i := S.length) (k := t) (S1 := mxS S i b1 (l1.map pr) (f1.map pr)) (ds0 := l1.map pr) (S2 := mxS S i (take b1 (l1.length : Nat)).2 (l1.map pr) (f1.map pr)) (ds := l1.map pr) (d := pr x) ?o2 (mx_l hi) (e_is (e_call P1 ?k1 (S1 := mxS S i b1 (l1.map pr) (f1.map pr)) (a_cons (S1 := mxS S i b1 (l1.map pr) (f1.map pr)) ?o3 (a_cons (e_len (nm := "len") T ?o4 hsl ?g3 ?g4) a_nil ?pl) ?pl2) (F_law_take.mk hi2 hm0 hm1) ?g5 ?g6 ?g7) (by rw [List.length_map, ht]) (by rw [List.length_map]; rfl)) (mx_l hi) (by rw [List.getElem?_map, hx]; rfl) (by rw [List.length_map]; omega) ?g8 ?g9 ?g10 ?g11) rfl (by rw [mx_setl hi, map_erase])) (mx_f hi) ?z ?nn ?y1 ?y2 ?y3 ?y4 ?y5)
      case o1 => walk_at "ev"
      case o2 => walk_at "ev"
      case o3 => walk_at "ev"
      case o4 => walk_at "ev"
      case z =>
        have hp := (mixN_facts b qs k (by omega)).2.length_eq
        rw [hst, List.length_append] at hp
        have hp : f1.length + l1.length = qs.length := hp
        rw [List.length_map]; omega
      case nn =>
        refine ⟨some d, rfl, ?_⟩
        show _ = mxS S i (mixS (mixN k (b, qs, []))).1 ((mixS (mixN k (b, qs, []))).2.1.map pr) ((mixS (mixN k (b, qs, []))).2.2.map pr)
        rw [hst, e, mx_setf hi, List.map_append]
        rfl
      all_goals try walk_at "ev"
    all_goals try walk_at "ev"
end DL
/-! text: K13 -/
namespace DL
open PySem L2 QM
/-! the walker: one step by the syntax that stands there, then on; what it can't close stays -/
local macro_rules | `(tactic| walk_at "ev") => `(tactic| first
  | ((with_reducible show _ = _); first | rfl | assumption)
  | ((with_reducible show EvE _ _ _ _ _ _); first
      | ((with_reducible show EvE _ (.Name _ _) _ _ _ _); first
      | ((with_reducible refine' e_name ?_ ?_ ?_) <;> try walk_at "ev"))
      | ((with_reducible show EvE _ (.Constant _ _ _) _ _ _ _); first
      | (with_reducible exact e_int)
      | (with_reducible exact e_str)
      | (with_reducible exact e_bl)
      | (with_reducible exact e_non))
      | ((with_reducible show EvE _ (.Call _ _ _ _) _ _ _ _); first
      | walk_at "call"
      | ((with_reducible show EvE _ (.Call (.Name "isinstance" _) _ _ _) _ _ _ _); first
      | ((with_reducible refine' e_isInt (by assumption) ?_ ?_ ?_ ?_ ?_) <;> try walk_at "ev")
      | ((with_reducible refine' e_isBool (by assumption) ?_ ?_ ?_ ?_ ?_) <;> try walk_at "ev")
      | ((with_reducible refine' e_isRat (by assumption) ?_ ?_ ?_ ?_ ?_) <;> try walk_at "ev")
      | ((with_reducible refine' e_isStr (by assumption) ?_ ?_ ?_ ?_ ?_) <;> try walk_at "ev")
      | ((with_reducible refine' e_isList (by assumption) ?_ ?_ ?_ ?_ ?_) <;> try walk_at "ev")
      | ((with_reducible refine' e_isTup (by assumption) ?_ ?_ ?_ ?_ ?_) <;> try walk_at "ev")
      | ((with_reducible refine' e_isDict (by assumption) ?_ ?_ ?_ ?_ ?_) <;> try walk_at "ev")
      | ((with_reducible refine' e_isLT (by assumption) ?_ ?_ ?_ ?_ ?_ ?_) <;> try walk_at "ev"))
      | ((with_reducible refine' e_len (nm := "len") (by assumption) ?_ ?_ ?_ ?_) <;> try walk_at "ev")
      | ((with_reducible refine' e_abs (by assumption) ?_ ?_ ?_) <;> try walk_at "ev")
      | ((with_reducible refine' e_intI (by assumption) ?_ ?_ ?_) <;> try walk_at "ev")
      | ((with_reducible refine' e_list (by assumption) ?_ ?_ ?_ ?_) <;> try walk_at "ev")
      | ((with_reducible refine' e_tuple (by assumption) ?_ ?_ ?_ ?_) <;> try walk_at "ev")
      | ((with_reducible refine' e_gcd (by assumption) ?_ ?_ ?_ ?_ ?_) <;> try walk_at "ev")
      | ((with_reducible refine' e_max2 (by assumption) ?_ ?_ ?_ ?_ ?_) <;> try walk_at "ev")
      | ((with_reducible refine' e_min2 (by assumption) ?_ ?_ ?_ ?_ ?_) <;> try walk_at "ev"))
      | ((with_reducible show EvE _ (.BinOp _ _ _ _) _ _ _ _); first
      | ((with_reducible refine' e_bin ?_ ?_ ?_) <;> try walk_at "ev"))
      | ((with_reducible show EvE _ (.Subscript _ _ _) _ _ _ _); first
      | ((with_reducible refine' e_ix ?_ ?_ ?_ ?_ ?_) <;> try walk_at "ev"))
      | ((with_reducible show EvE _ (.Compare _ _ _ _) _ _ _ _); first
      | ((with_reducible refine' e_cmp ?_ ?_ ?_ ?_) <;> try walk_at "ev"))
      | ((with_reducible show EvE _ (.Attribute _ _ _) _ _ _ _); first
      | ((with_reducible refine' e_top (by assumption) ?_ ?_) <;> try walk_at "ev")
      | ((with_reducible refine' e_bottom (by assumption) ?_ ?_) <;> try walk_at "ev"))
      | ((with_reducible show EvE _ (.UnaryOp _ _ _) _ _ _ _); first
      | ((with_reducible refine' e_not ?_) <;> try walk_at "ev")
      | ((with_reducible refine' e_neg ?_) <;> try walk_at "ev"))
      | ((with_reducible show EvE _ (.Tuple _ _ _) _ _ _ _); first
      | ((with_reducible refine' e_tup ?_ ?_) <;> try walk_at "ev"))
      | ((with_reducible show EvE _ (.List _ _) _ _ _ _); first
      | ((with_reducible refine' e_lst ?_ ?_) <;> try walk_at "ev"))
      | ((with_reducible show EvE _ (.BoolOp _ _ _) _ _ _ _); first
      | ((with_reducible refine' e_one ?_) <;> try walk_at "ev")
      | ((with_reducible refine' e_and ?_ (fun _ => ?_)) <;> try walk_at "ev")
      | ((with_reducible refine' e_or ?_ (fun _ => ?_)) <;> try walk_at "ev"))
      | ((with_reducible show EvE _ (.IfExp _ _ _ _) _ _ _ _); first
      | ((with_reducible refine' e_if ?_ ?_ ?_) <;> first | walk_at "ev" | walk_at "way" | skip)))
  | exact Nat.le_of_ble_eq_true (by rfl)
  | ((with_reducible show EvT _ _ _ _ _ _); first
      | ((with_reducible refine' t_cmp ?_ ?_ ?_ ?_) <;> try walk_at "ev")
      | ((with_reducible refine' t_not ?_) <;> try walk_at "ev")
      | ((with_reducible refine' t_of (w_and ?_ (fun _ => ?_))) <;> try walk_at "ev")
      | ((with_reducible refine' t_of (w_or ?_ (fun _ => ?_))) <;> try walk_at "ev")
      | ((with_reducible refine' t_val ?_ ?_) <;> try walk_at "ev"))
  | ((with_reducible show EvA _ _ _ _ _ _); first
      | ((with_reducible refine' a_cons ?_ ?_ ?_) <;> try walk_at "ev")
      | (with_reducible exact a_nil))
  | ((with_reducible show BinR _ _ _ _ _ _); first
      | (with_reducible exact br_add)
      | (with_reducible exact br_sub)
      | ((with_reducible refine' br_mul ?_) <;> try walk_at "sz")
      | walk_at "br")
  | ((with_reducible show CmpR _ _ _ _ _ _); first
      | (with_reducible exact cr_lt)
      | (with_reducible exact cr_le)
      | (with_reducible exact cr_gt)
      | (with_reducible exact cr_ge)
      | (with_reducible exact cr_eqI)
      | (with_reducible exact cr_neI)
      | (with_reducible exact cr_isN)
      | (with_reducible exact cr_isB)
      | (with_reducible exact cr_eqB)
      | (with_reducible exact cr_eqS)
      | walk_at "cr")
  | ((with_reducible show EvW _ _ _ _ _ _); first
      | ((with_reducible refine' w_and1 ?_) <;> try walk_at "ev")
      | ((with_reducible refine' w_or1 ?_) <;> try walk_at "ev")
      | ((with_reducible refine' w_and ?_ (fun _ => ?_)) <;> try walk_at "ev")
      | ((with_reducible refine' w_or ?_ (fun _ => ?_)) <;> try walk_at "ev"))
  | ((with_reducible show EvK _ _ _ _ _ _); first
      | ((with_reducible refine' k_cons ?_ ?_) <;> try walk_at "ev")
      | (with_reducible exact k_nil))
  | ((with_reducible show Tgt _ _ _); first
      | ((with_reducible refine' Tgt.cons ?_ ?_ ?_ ?_) <;> try walk_at "ev")
      | (with_reducible exact Tgt.nil))
  | walk_at "side"
  | (intros; rfl))
local macro_rules | `(tactic| walk_at "side") => `(tactic| fail)
local macro_rules | `(tactic| walk_at "br") => `(tactic| fail)
local macro_rules | `(tactic| walk_at "cr") => `(tactic| fail)
local macro_rules | `(tactic| walk_at "call") => `(tactic| fail)
local macro_rules | `(tactic| walk_at "way") => `(tactic| first | exact fun z => Bool.noConfusion (show false = true from z) | exact fun z => Bool.noConfusion (show true = false from z) | (intro _; walk_at "ev"))
local macro_rules | `(tactic| walk_at "sz") => `(tactic| assumption)

local macro_rules | `(tactic| walk_at "side") => `(tactic| ((with_reducible show IsN _ _); first | assumption | exact isN_enc _ | exact IsN.int _))
local macro_rules | `(tactic| walk_at "side") => `(tactic| ((with_reducible show _ ≠ _); assumption))
local macro_rules | `(tactic| walk_at "side") => `(tactic| ((with_reducible show (_ : Nat) < _); assumption))
local macro_rules | `(tactic| walk_at "side") => `(tactic| ((with_reducible show Sz _ _); assumption))
local macro_rules | `(tactic| walk_at "side") => `(tactic| ((with_reducible show IsNs _ _); assumption))
local macro_rules | `(tactic| walk_at "side") => `(tactic| ((with_reducible show Sml _); assumption))

local macro_rules | `(tactic| walk_at "side") => `(tactic| ((with_reducible show (_ : Int) < _); first | assumption | decide))
local macro_rules | `(tactic| walk_at "side") => `(tactic| ((with_reducible show Nat.log2 _ < _); decide +kernel))
local macro_rules | `(tactic| walk_at "call") => `(tactic| ((with_reducible refine' e_call (by assumption : DefP _ "_law_take" _ _ _ _) ?_ ?_ (F_law_take.mk ?_ ?_ ?_) ?_ ?_ ?_) <;> try walk_at "ev"))
local macro_rules | `(tactic| walk_at "call") => `(tactic| ((with_reducible refine' e_call (by assumption : DefP _ "_law_low" _ _ _ _) ?_ ?_ (F_law_low.mk ?_ ?_ ?_) ?_ ?_ ?_) <;> try walk_at "ev"))
local macro_rules | `(tactic| walk_at "call") => `(tactic| ((with_reducible refine' e_call (by assumption : DefP _ "_law_pick" _ _ _ _) ?_ ?_ (F_law_pick.mk ?_ ?_ ?_ ?_) ?_ ?_ ?_) <;> try walk_at "ev"))
theorem br_pow19 {Y : Ctx} {S : Store} : BinR Y .Pow S (.int 10) (.int 19) (.int (10 ^ 19)) := br_pow10 (j := 19) (by decide)
theorem br_pow6 {Y : Ctx} {S : Store} : BinR Y .Pow S (.int 10) (.int 6) (.int (10 ^ 6)) := br_pow10 (j := 6) (by decide)
local macro_rules | `(tactic| walk_at "br") => `(tactic| first
  | (with_reducible exact br_pow18)
  | (with_reducible exact br_pow19)
  | (with_reducible exact br_pow6))
/-! ### _law_give -/
theorem kv_of {t : Int} (h0 : 0 ≤ t) (h4 : t < 4) : ∃ kv : Int, atI ([.int 1, .int 2, .int (-1), .int 3] : List D) t = some (.int kv) ∧ kv ≠ 0 ∧ kv.natAbs ≤ 3 := by
  have : t = 0 ∨ t = 1 ∨ t = 2 ∨ t = 3 := by omega
  rcases this with z | z | z | z <;> subst z
  · exact ⟨1, rfl, by decide, by decide⟩
  · exact ⟨2, rfl, by decide, by decide⟩
  · exact ⟨-1, rfl, by decide, by decide⟩
  · exact ⟨3, rfl, by decide, by decide⟩
def giveF (b : Bx) (q : Rat) : D × Bx := (if (decide ((q.den : Int) = 1) && decide ((take b 4).1 < 2)) = true then .int q.num else .rat q.num (q.den : Int), (take (take b 4).2 4).2)
theorem isN_num {q : Rat} (h : q.den = 1) : IsN (.int q.num) q := by
  have e : ((q.num : Rat)) = q := Rat.ext (Rat.num_intCast _) (by rw [Rat.den_intCast, h])
  have := IsN.int q.num
  rwa [e] at this
theorem giveF_isN (b : Bx) (q : Rat) : IsN (giveF b q).1 q := by
  unfold giveF
  split
  · rename_i h
    simp only [Bool.and_eq_true, decide_eq_true_eq] at h
    exact isN_num (by omega)
  · exact .rat q
abbrev s_law_give : Stmt := top 52
abbrev N_law_give : List Str := ["box", "x", "way", "k"]
abbrev P_law_give : List Str := ["box", "x"]
theorem sc_law_give : FnScope N_law_give P_law_give (defScope s_law_give) := ⟨rfl, rfl, rfl, by decide +kernel, rfl, by decide +kernel, by decide +kernel⟩
theorem bn_law_give : ∀ (kV doc pm : Value) (an : Option Addr) (cdv ct : Value) (us : List Value), us.length = P_law_give.length → bindArgs (PySem.W.fnOf "_law_give" "_law_give" (defArgs s_law_give) (defBody s_law_give) (defScope s_law_give) .none kV doc pm an cdv ct) ⟨us, []⟩ = pure (P_law_give.zip us) := fun _ _ _ _ _ _ us hl => match us, hl with | [_, _], _ => rfl

inductive F_law_give : List D → Store → D → Store → Prop
  | mk {S : Store} {i : Nat} {b : Bx} {q : Rat} (hi : i < S.length) (hz : Sz 400 q) : F_law_give [.cel i, pr q] (bx S i b) (giveF b q).1 (bx S i (giveF b q).2)
theorem p_law_give {B : Bs} (T : Txt B) (R : RatP B 2) (P1 : DefP B "_law_take" s_law_take P_law_take 1 F_law_take) {f : Addr} {fd : FuncData} (Fn : Fun B.K "_law_give" "_law_give" s_law_give f fd) (hm : B.mg "_law_give" = some (.ref f)) : DefP B "_law_give" s_law_give P_law_give 4 F_law_give := by
  refine def_ok Fn sc_law_give hm bn_law_give fun args S d S' hl hF => ?_
  cases hF with
  | @mk S i b q hi hz =>
    have h4 : (0 : Int) < 4 := by decide
    have r1 := take_range (b := b) h4
    have r2 := take_range (b := (take b 4).2) h4
    obtain ⟨kv, hat, hk0, hk3⟩ := kv_of r2.1 r2.2
    generalize hS : bx S i (giveF b q).2 = S2
    have a1 : seqA S2 (pr q) = some [.int q.num, .int (q.den : Int)] := rfl
    refine' ss_cons (s_par (i := 2) (j := 3) (x := .int (take b 4).1) (y := .int kv) (S1 := S2) rfl rfl (by decide) rfl rfl ?w ?a ?n1)
    case w => exact fun env he => by cases env; cases he; rfl
    case a =>
      refine a_cons (S1 := bx S i (take b 4).2) ?h1 (a_cons (S1 := S2) (e_ix (ds := [.int 1, .int 2, .int (-1), .int 3]) (x := .lst [.int 1, .int 2, .int (-1), .int 3]) (i := (take (take b 4).2 4).1) (S1 := bx S i (take b 4).2) ?h2 ?h3 rfl hat rfl) a_nil rfl) rfl
      case h1 => walk_at "ev"
      case h2 => walk_at "ev"
      case h3 =>
        rw [← hS]
        walk_at "ev"
    case n1 =>
    -- the factor
    refine' ss_cons (s_set (i := 3) rfl rfl rfl (e_iteI (k := decide (max (q.num.natAbs : Int) (q.den : Int) < 3 * 10 ^ 19)) (i := kv) (j := -1) ?c (fun _ => ?x) (fun _ => ?y)) ?n2)
    case c =>
      refine' t_cmp ?c1 (e_bin ?c2 (e_bin ?c3 ?c4 br_pow19) (br_mulS (.inl ⟨by decide, by decide⟩))) cr_lt rfl
      case c1 => walk_at "ev"
      case c2 => walk_at "ev"
      case c3 => walk_at "ev"
      case c4 => walk_at "ev"
    case x => walk_at "ev"
    case y => walk_at "ev"
    case n2 =>
    have hk : ∀ c : Bool, (if c = true then kv else -1) ≠ 0 ∧ (if c = true then kv else -1).natAbs ≤ 3 := fun c => by
      cases c
      · exact ⟨show (-1 : Int) ≠ 0 by decide, show (-1 : Int).natAbs ≤ 3 by decide⟩
      · exact ⟨hk0, hk3⟩
    obtain ⟨k0, k3⟩ := hk (decide (max (q.num.natAbs : Int) (q.den : Int) < 3 * 10 ^ 19))
    generalize (if decide (max (q.num.natAbs : Int) (q.den : Int) < 3 * 10 ^ 19) = true then kv else -1) = k at k0 k3 ⊢
    refine' ss_cons (s_if (k := decide ((q.den : Int) = 1) && decide ((take b 4).1 < 2)) ?c5 (fun hk => ?t) (fun hk => ss_nil ?n3))
    case c5 => walk_at "ev"
    case t =>
      refine' ss_one (s_ret ?h5 ?r)
      case h5 => walk_at "ev"
      case r =>
        refine ⟨?_, .inl rfl⟩
        unfold giveF
        rw [if_pos hk]
    case n3 =>
      have m1 : CMulW q.num k := mulW hz.1 (show k.natAbs < 2 ^ 2 by omega) (by decide) (by decide) (by decide)
      have m2 : CMulW (q.den : Int) k := mulW (nat_lt hz.2) (show k.natAbs < 2 ^ 2 by omega) (by decide) (by decide) (by decide)
      have n1 : (q.den : Int) * k ≠ 0 := Int.mul_ne_zero (den_ne q) k0
      have n2 : ((q.den : Int) * k).natAbs.log2 < 9000 := lg (mul_lt (nat_lt hz.2) (show k.natAbs < 2 ^ 2 by omega)) (by decide) (by decide)
      refine' ss_one (s_ret (e_ratio T R ?k1 ?h6 ?h7 n1 n2 ?g1 ?g2 ?g3) ?r)
      case h6 => walk_at "ev"
      case h7 => walk_at "ev"
      case r =>
        refine ⟨?_, .inl rfl⟩
        rw [num_eq n1, den_eq n1, Rat.divInt_mul_right k0, Rat.num_divInt_den]
        unfold giveF
        rw [if_neg (by rw [hk]; exact Bool.false_ne_true)]
      all_goals try walk_at "ev"
local macro_rules | `(tactic| walk_at "call") => `(tactic| ((with_reducible refine' e_call (by assumption : DefP _ "_law_give" _ _ _ _) ?_ ?_ (F_law_give.mk ?_ ?_) ?_ ?_ ?_) <;> try walk_at "ev"))
/-! ### _law_given -/
def gvS (st : List D × Bx) (q : Rat) : List D × Bx := (st.1 ++ [(giveF st.2 q).1], (giveF st.2 q).2)
def givenF (b : Bx) (qs : List Rat) : List D × Bx := qs.foldl gvS ([], b)
theorem given_take {b : Bx} {qs : List Rat} {i : Nat} {q : Rat} (h : qs[i]? = some q) : givenF b (qs.take (i + 1)) = gvS (givenF b (qs.take i)) q := by
  unfold givenF
  rw [List.take_add_one, h, List.foldl_append]
  rfl
theorem IsNs.snoc {ds : List D} {qs : List Rat} {d : D} {q : Rat} (h : IsNs ds qs) (g : IsN d q) : IsNs (ds ++ [d]) (qs ++ [q]) := by
  induction h with
  | nil => exact .cons g .nil
  | cons a _ ih => exact .cons a ih
theorem given_isNs (b : Bx) (qs : List Rat) : IsNs (givenF b qs).1 qs := by
  have key : ∀ (l : List Rat) (ds : List D) (b : Bx) (ps : List Rat), IsNs ds ps → IsNs (l.foldl gvS (ds, b)).1 (ps ++ l) := by
    intro l
    induction l with
    | nil => intro ds b ps h; simpa using h
    | cons q l ih =>
      intro ds b ps h
      rw [List.foldl_cons]
      have := ih (ds ++ [(giveF b q).1]) (giveF b q).2 (ps ++ [q]) (h.snoc (giveF_isN b q))
      rw [List.append_assoc, List.singleton_append] at this
      exact this
  have := key qs [] b [] .nil
  simpa [givenF] using this
abbrev s_law_given : Stmt := top 53
abbrev N_law_given : List Str := ["box", "row", "x"]
abbrev P_law_given : List Str := ["box", "row"]
theorem sc_law_given : FnScope N_law_given P_law_given (defScope s_law_given) := ⟨rfl, rfl, rfl, by decide +kernel, rfl, by decide +kernel, by decide +kernel⟩
theorem bn_law_given : ∀ (kV doc pm : Value) (an : Option Addr) (cdv ct : Value) (us : List Value), us.length = P_law_given.length → bindArgs (PySem.W.fnOf "_law_given" "_law_given" (defArgs s_law_given) (defBody s_law_given) (defScope s_law_given) .none kV doc pm an cdv ct) ⟨us, []⟩ = pure (P_law_given.zip us) := fun _ _ _ _ _ _ us hl => match us, hl with | [_, _], _ => rfl

inductive F_law_given : List D → Store → D → Store → Prop
  | mk {S : Store} {i : Nat} {b : Bx} {qs : List Rat} (hi : i < S.length) (hz : ∀ q ∈ qs, Sz 400 q) (hle : qs.length ≤ 20) : F_law_given [.cel i, .lst (qs.map pr)] (bx S i b) (.tup (givenF b qs).1) (bx S i (givenF b qs).2)
theorem p_law_given {B : Bs} (T : Txt B) (P1 : DefP B "_law_give" s_law_give P_law_give 4 F_law_give) {f : Addr} {fd : FuncData} (Fn : Fun B.K "_law_given" "_law_given" s_law_given f fd) (hm : B.mg "_law_given" = some (.ref f)) : DefP B "_law_given" s_law_given P_law_given 5 F_law_given := by
  refine def_ok Fn sc_law_given hm bn_law_given fun args S d S' hl hF => ?_
  cases hF with
  | @mk S i b qs hi hz hle =>
    refine' ss_one (s_ret (e_tuple (x := .lst (givenF b qs).1) (S1 := bx S i (givenF b qs).2) T (e_lcG (ds := qs.map pr) (S1 := bx S i b) (res := (givenF b qs).1) (Se := bx S i (givenF b qs).2) [("x", 2)] (i_seq (x := .lst (qs.map pr)) ?h1 rfl) (g_name (i := 2) rfl rfl rfl) (fun _ _ => trivial) (fun k hk => by simpa using hk) rfl
      (fun k acc S' => acc = (givenF b (qs.take k)).1 ∧ S' = bx S i (givenF b (qs.take k)).2) ⟨rfl, rfl⟩ ?turn ?done (by rw [List.length_map]; omega)) rfl ?g1 ?g2) ?r)
    case h1 => walk_at "ev"
    case turn =>
      rintro k d acc S' hd ⟨rfl, rfl⟩
      rw [List.getElem?_map] at hd
      cases e1 : qs[k]? with
      | none => rw [e1] at hd; cases hd
      | some q =>
        rw [e1] at hd
        cases hd
        have hzq := hz q (List.mem_of_getElem? e1)
        refine ⟨true, _, .no, fun _ => ⟨(giveF (givenF b (qs.take k)).2 q).1, bx S i (giveF (givenF b (qs.take k)).2 q).2, ?_, ?_, ?_⟩, fun z => nomatch z⟩
        · walk_at "ev"
        · rw [given_take e1]; rfl
        · rw [given_take e1]; rfl
    case done =>
      rintro acc S' ⟨rfl, rfl⟩
      rw [List.length_map, List.take_length]
      exact ⟨rfl, rfl⟩
    case r => exact ⟨rfl, .inl rfl⟩
    all_goals rfl
end DL
/-! text: K14 -/
namespace DL
open PySem L2 QM
/-! the walker: one step by the syntax that stands there, then on; what it can't close stays -/
local macro_rules | `(tactic| walk_at "ev") => `(tactic| first
  | ((with_reducible show _ = _); first | rfl | assumption)
  | ((with_reducible show EvE _ _ _ _ _ _); first
      | ((with_reducible show EvE _ (.Name _ _) _ _ _ _); first
      | ((with_reducible refine' e_name ?_ ?_ ?_) <;> try walk_at "ev"))
      | ((with_reducible show EvE _ (.Constant _ _ _) _ _ _ _); first
      | (with_reducible exact e_int)
      | (with_reducible exact e_str)
      | (with_reducible exact e_bl)
      | (with_reducible exact e_non))
      | ((with_reducible show EvE _ (.Call _ _ _ _) _ _ _ _); first
      | walk_at "call"
      | ((with_reducible show EvE _ (.Call (.Name "isinstance" _) _ _ _) _ _ _ _); first
      | ((with_reducible refine' e_isInt (by assumption) ?_ ?_ ?_ ?_ ?_) <;> try walk_at "ev")
      | ((with_reducible refine' e_isBool (by assumption) ?_ ?_ ?_ ?_ ?_) <;> try walk_at "ev")
      | ((with_reducible refine' e_isRat (by assumption) ?_ ?_ ?_ ?_ ?_) <;> try walk_at "ev")
      | ((with_reducible refine' e_isStr (by assumption) ?_ ?_ ?_ ?_ ?_) <;> try walk_at "ev")
      | ((with_reducible refine' e_isList (by assumption) ?_ ?_ ?_ ?_ ?_) <;> try walk_at "ev")
      | ((with_reducible refine' e_isTup (by assumption) ?_ ?_ ?_ ?_ ?_) <;> try walk_at "ev")
      | ((with_reducible refine' e_isDict (by assumption) ?_ ?_ ?_ ?_ ?_) <;> try walk_at "ev")
      | ((with_reducible refine' e_isLT (by assumption) ?_ ?_ ?_ ?_ ?_ ?_) <;> try walk_at "ev"))
      | ((with_reducible refine' e_len (nm := "len") (by assumption) ?_ ?_ ?_ ?_) <;> try walk_at "ev")
      | ((with_reducible refine' e_abs (by assumption) ?_ ?_ ?_) <;> try walk_at "ev")
      | ((with_reducible refine' e_intI (by assumption) ?_ ?_ ?_) <;> try walk_at "ev")
      | ((with_reducible refine' e_list (by assumption) ?_ ?_ ?_ ?_) <;> try walk_at "ev")
      | ((with_reducible refine' e_tuple (by assumption) ?_ ?_ ?_ ?_) <;> try walk_at "ev")
      | ((with_reducible refine' e_gcd (by assumption) ?_ ?_ ?_ ?_ ?_) <;> try walk_at "ev")
      | ((with_reducible refine' e_max2 (by assumption) ?_ ?_ ?_ ?_ ?_) <;> try walk_at "ev")
      | ((with_reducible refine' e_min2 (by assumption) ?_ ?_ ?_ ?_ ?_) <;> try walk_at "ev"))
      | ((with_reducible show EvE _ (.BinOp _ _ _ _) _ _ _ _); first
      | ((with_reducible refine' e_bin ?_ ?_ ?_) <;> try walk_at "ev"))
      | ((with_reducible show EvE _ (.Subscript _ _ _) _ _ _ _); first
      | ((with_reducible refine' e_ix ?_ ?_ ?_ ?_ ?_) <;> try walk_at "ev"))
      | ((with_reducible show EvE _ (.Compare _ _ _ _) _ _ _ _); first
      | ((with_reducible refine' e_cmp ?_ ?_ ?_ ?_) <;> try walk_at "ev"))
      | ((with_reducible show EvE _ (.Attribute _ _ _) _ _ _ _); first
      | ((with_reducible refine' e_top (by assumption) ?_ ?_) <;> try walk_at "ev")
      | ((with_reducible refine' e_bottom (by assumption) ?_ ?_) <;> try walk_at "ev"))
      | ((with_reducible show EvE _ (.UnaryOp _ _ _) _ _ _ _); first
      | ((with_reducible refine' e_not ?_) <;> try walk_at "ev")
      | ((with_reducible refine' e_neg ?_) <;> try walk_at "ev"))
      | ((with_reducible show EvE _ (.Tuple _ _ _) _ _ _ _); first
      | ((with_reducible refine' e_tup ?_ ?_) <;> try walk_at "ev"))
      | ((with_reducible show EvE _ (.List _ _) _ _ _ _); first
      | ((with_reducible refine' e_lst ?_ ?_) <;> try walk_at "ev"))
      | ((with_reducible show EvE _ (.BoolOp _ _ _) _ _ _ _); first
      | ((with_reducible refine' e_one ?_) <;> try walk_at "ev")
      | ((with_reducible refine' e_and ?_ (fun _ => ?_)) <;> try walk_at "ev")
      | ((with_reducible refine' e_or ?_ (fun _ => ?_)) <;> try walk_at "ev"))
      | ((with_reducible show EvE _ (.IfExp _ _ _ _) _ _ _ _); first
      | ((with_reducible refine' e_if ?_ ?_ ?_) <;> first | walk_at "ev" | walk_at "way" | skip)))
  | exact Nat.le_of_ble_eq_true (by rfl)
  | ((with_reducible show EvT _ _ _ _ _ _); first
      | ((with_reducible refine' t_cmp ?_ ?_ ?_ ?_) <;> try walk_at "ev")
      | ((with_reducible refine' t_not ?_) <;> try walk_at "ev")
      | ((with_reducible refine' t_of (w_and ?_ (fun _ => ?_))) <;> try walk_at "ev")
      | ((with_reducible refine' t_of (w_or ?_ (fun _ => ?_))) <;> try walk_at "ev")
      | ((with_reducible refine' t_val ?_ ?_) <;> try walk_at "ev"))
  | ((with_reducible show EvA _ _ _ _ _ _); first
      | ((with_reducible refine' a_cons ?_ ?_ ?_) <;> try walk_at "ev")
      | (with_reducible exact a_nil))
  | ((with_reducible show BinR _ _ _ _ _ _); first
      | (with_reducible exact br_add)
      | (with_reducible exact br_sub)
      | ((with_reducible refine' br_mul ?_) <;> try walk_at "sz")
      | walk_at "br")
  | ((with_reducible show CmpR _ _ _ _ _ _); first
      | (with_reducible exact cr_lt)
      | (with_reducible exact cr_le)
      | (with_reducible exact cr_gt)
      | (with_reducible exact cr_ge)
      | (with_reducible exact cr_eqI)
      | (with_reducible exact cr_neI)
      | (with_reducible exact cr_isN)
      | (with_reducible exact cr_isB)
      | (with_reducible exact cr_eqB)
      | (with_reducible exact cr_eqS)
      | walk_at "cr")
  | ((with_reducible show EvW _ _ _ _ _ _); first
      | ((with_reducible refine' w_and1 ?_) <;> try walk_at "ev")
      | ((with_reducible refine' w_or1 ?_) <;> try walk_at "ev")
      | ((with_reducible refine' w_and ?_ (fun _ => ?_)) <;> try walk_at "ev")
      | ((with_reducible refine' w_or ?_ (fun _ => ?_)) <;> try walk_at "ev"))
  | ((with_reducible show EvK _ _ _ _ _ _); first
      | ((with_reducible refine' k_cons ?_ ?_) <;> try walk_at "ev")
      | (with_reducible exact k_nil))
  | ((with_reducible show Tgt _ _ _); first
      | ((with_reducible refine' Tgt.cons ?_ ?_ ?_ ?_) <;> try walk_at "ev")
      | (with_reducible exact Tgt.nil))
  | walk_at "side"
  | (intros; rfl))
local macro_rules | `(tactic| walk_at "side") => `(tactic| fail)
local macro_rules | `(tactic| walk_at "br") => `(tactic| fail)
local macro_rules | `(tactic| walk_at "cr") => `(tactic| fail)
local macro_rules | `(tactic| walk_at "call") => `(tactic| fail)
local macro_rules | `(tactic| walk_at "way") => `(tactic| first | exact fun z => Bool.noConfusion (show false = true from z) | exact fun z => Bool.noConfusion (show true = false from z) | (intro _; walk_at "ev"))
local macro_rules | `(tactic| walk_at "sz") => `(tactic| assumption)

local macro_rules | `(tactic| walk_at "side") => `(tactic| ((with_reducible show IsN _ _); first | assumption | exact isN_enc _ | exact IsN.int _))
local macro_rules | `(tactic| walk_at "side") => `(tactic| ((with_reducible show _ ≠ _); assumption))
local macro_rules | `(tactic| walk_at "side") => `(tactic| ((with_reducible show (_ : Nat) < _); assumption))
local macro_rules | `(tactic| walk_at "side") => `(tactic| ((with_reducible show Sz _ _); assumption))
local macro_rules | `(tactic| walk_at "side") => `(tactic| ((with_reducible show IsNs _ _); assumption))
local macro_rules | `(tactic| walk_at "side") => `(tactic| ((with_reducible show Sml _); assumption))

local macro_rules | `(tactic| walk_at "side") => `(tactic| ((with_reducible show (_ : Int) < _); first | assumption | decide))
local macro_rules | `(tactic| walk_at "side") => `(tactic| ((with_reducible show Nat.log2 _ < _); decide +kernel))
local macro_rules | `(tactic| walk_at "call") => `(tactic| ((with_reducible refine' e_call (by assumption : DefP _ "_law_take" _ _ _ _) ?_ ?_ (F_law_take.mk ?_ ?_ ?_) ?_ ?_ ?_) <;> try walk_at "ev"))
local macro_rules | `(tactic| walk_at "call") => `(tactic| ((with_reducible refine' e_call (by assumption : DefP _ "_law_low" _ _ _ _) ?_ ?_ (F_law_low.mk ?_ ?_ ?_) ?_ ?_ ?_) <;> try walk_at "ev"))
local macro_rules | `(tactic| walk_at "call") => `(tactic| ((with_reducible refine' e_call (by assumption : DefP _ "_law_pick" _ _ _ _) ?_ ?_ (F_law_pick.mk ?_ ?_ ?_ ?_) ?_ ?_ ?_) <;> try walk_at "ev"))
local macro_rules | `(tactic| walk_at "call") => `(tactic| ((with_reducible refine' e_call (by assumption : DefP _ "_law_less" _ _ _ _) ?_ ?_ (F_law_less.mk ?_ ?_) ?_ ?_ ?_) <;> try walk_at "ev"))
local macro_rules | `(tactic| walk_at "br") => `(tactic| first
  | (with_reducible exact br_pow18)
  | (with_reducible exact br_pow19)
  | (with_reducible exact br_pow6))
/-! ### _law_number -/
def n3a (b : Bx) : Bx := (take (take (take b 9).2 2).2 1000).2
def n3t (b : Bx) : Int := if decide ((take (take b 9).2 2).1 = 0) = true then 10 ^ 19 - (take (take (take b 9).2 2).2 1000).1 else (take (take (take b 9).2 2).2 1000).1 - 10 ^ 19
def n3v (b : Bx) : Int := ([1, 7, 10 ^ 18 + (take (n3a b) 99).1, 10 ^ 6] : List Int).getD (take (take (n3a b) 99).2 4).1.toNat 1
def numF (b : Bx) : Rat × Bx :=
  if decide ((take b 9).1 < 4) = true then (((take (take b 9).2 11).1 - 5 : Int), (take (take b 9).2 11).2)
  else if decide ((take b 9).1 < 8) = true then (Rat.divInt ((take (take b 9).2 15).1 - 7) (1 + (take (take (take b 9).2 15).2 6).1), (take (take (take b 9).2 15).2 6).2)
  else (Rat.divInt (n3t b) (n3v b), (take (take (n3a b) 99).2 4).2)
theorem n3v_facts (b : Bx) : ([D.int 1, .int 7, .int (10 ^ 18 + (take (n3a b) 99).1), .int (10 ^ 6)] : List D)[(take (take (n3a b) 99).2 4).1.toNat]? = some (.int (n3v b)) ∧ n3v b ≠ 0 ∧ (n3v b).natAbs < 2 ^ 70 := by
  have r1 := take_range (b := n3a b) (m := 99) (by decide)
  have r2 := take_range (b := (take (n3a b) 99).2) (m := 4) (by decide)
  unfold n3v
  generalize (take (take (n3a b) 99).2 4).1 = t at *
  generalize (take (n3a b) 99).1 = u at *
  have : t = 0 ∨ t = 1 ∨ t = 2 ∨ t = 3 := by omega
  rcases this with z | z | z | z <;> subst z
  · exact ⟨rfl, show (1 : Int) ≠ 0 by decide, show (1 : Int).natAbs < 2 ^ 70 by decide⟩
  · exact ⟨rfl, show (7 : Int) ≠ 0 by decide, show (7 : Int).natAbs < 2 ^ 70 by decide⟩
  · refine ⟨rfl, ?_, ?_⟩
    · show (10 : Int) ^ 18 + u ≠ 0
      omega
    · show ((10 : Int) ^ 18 + u).natAbs < 2 ^ 70
      omega
  · exact ⟨rfl, show (10 ^ 6 : Int) ≠ 0 by decide, show (10 ^ 6 : Int).natAbs < 2 ^ 70 by decide⟩
theorem n3t_facts (b : Bx) : (n3t b).natAbs < 2 ^ 70 := by
  have r1 := take_range (b := (take (take b 9).2 2).2) (m := 1000) (by decide)
  unfold n3t
  split <;> omega
theorem numF_sz (b : Bx) : Sz 70 (numF b).1 := by
  unfold numF
  split
  · have r := take_range (b := (take b 9).2) (m := 11) (by decide)
    refine sz_int (by decide) ?_
    omega
  · split
    · have r := take_range (b := (take b 9).2) (m := 15) (by decide)
      have r2 := take_range (b := (take (take b 9).2 15).2) (m := 6) (by decide)
      refine sz_div (by omega) (by omega) (by omega)
    · obtain ⟨_, h1, h2⟩ := n3v_facts b
      exact sz_div h1 (n3t_facts b) h2
abbrev s_law_number : Stmt := top 55
abbrev N_law_number : List Str := ["box", "way"]
abbrev P_law_number : List Str := ["box"]
theorem sc_law_number : FnScope N_law_number P_law_number (defScope s_law_number) := ⟨rfl, rfl, rfl, by decide +kernel, rfl, by decide +kernel, by decide +kernel⟩
theorem bn_law_number : ∀ (kV doc pm : Value) (an : Option Addr) (cdv ct : Value) (us : List Value), us.length = P_law_number.length → bindArgs (PySem.W.fnOf "_law_number" "_law_number" (defArgs s_law_number) (defBody s_law_number) (defScope s_law_number) .none kV doc pm an cdv ct) ⟨us, []⟩ = pure (P_law_number.zip us) := fun _ _ _ _ _ _ us hl => match us, hl with | [_], _ => rfl

inductive F_law_number : List D → Store → D → Store → Prop
  | mk {S : Store} {i : Nat} {b : Bx} (hi : i < S.length) : F_law_number [.cel i] (bx S i b) (pr (numF b).1) (bx S i (numF b).2)
theorem p_law_number {B : Bs} (T : Txt B) (P1 : DefP B "_law_take" s_law_take P_law_take 1 F_law_take) (P2 : DefP B "_law_low" s_law_low P_law_low 1 F_law_low) (P3 : DefP B "_law_pick" s_law_pick P_law_pick 2 F_law_pick) {f : Addr} {fd : FuncData} (Fn : Fun B.K "_law_number" "_law_number" s_law_number f fd) (hm : B.mg "_law_number" = some (.ref f)) : DefP B "_law_number" s_law_number P_law_number 3 F_law_number := by
  refine def_ok Fn sc_law_number hm bn_law_number fun args S d S' hl hF => ?_
  cases hF with
  | @mk S i b hi =>
    refine' ss_cons (s_set (i := 1) rfl rfl rfl ?h1 ?n1)
    case h1 => walk_at "ev"
    case n1 =>
    refine' ss_cons (s_if (k := decide ((take b 9).1 < 4)) ?c1 (fun hk => ?t1) (fun hk => ss_nil ?n2))
    case c1 => walk_at "ev"
    case t1 =>
      refine' ss_one (s_ret ?h2 ?r2)
      case h2 => walk_at "ev"
      case r2 =>
        unfold numF
        rw [if_pos hk]
        refine ⟨?_, .inl rfl⟩
        unfold pr
        simp only [Rat.num_intCast, Rat.den_intCast]
        rfl
    case n2 =>
    refine' ss_cons (s_if (k := decide ((take b 9).1 < 8)) ?c3 (fun hk3 => ?t3) (fun hk3 => ss_nil ?n3))
    case c3 => walk_at "ev"
    case t3 =>
      have r := take_range (b := (take b 9).2) (m := 15) (by decide)
      have r2 := take_range (b := (take (take b 9).2 15).2) (m := 6) (by decide)
      have q0 : 1 + (take (take (take b 9).2 15).2 6).1 ≠ 0 := by omega
      have q1 : ((take (take b 9).2 15).1 - 7).natAbs < 2 ^ 8000 := lt4 (k := 10) (by omega) (by decide)
      have q2 : (1 + (take (take (take b 9).2 15).2 6).1).natAbs < 2 ^ 8000 := lt4 (k := 10) (by omega) (by decide)
      refine' ss_one (s_ret ?h4 ?r4)
      case h4 => walk_at "ev"
      case r4 =>
        unfold numF
        rw [if_neg (by rw [hk]; exact Bool.false_ne_true), if_pos hk3]
        exact ⟨rfl, .inl rfl⟩
    case n3 =>
      obtain ⟨v1, v2, v3⟩ := n3v_facts b
      have t1 := n3t_facts b
      have q1 : (n3t b).natAbs < 2 ^ 8000 := lt4 t1 (by decide)
      have q2 : (n3v b).natAbs < 2 ^ 8000 := lt4 v3 (by decide)
      refine' ss_one (s_ret (e_call (ds := [.int (n3t b), .int (n3v b)]) (S1 := bx S i (take (take (n3a b) 99).2 4).2) P2 ?k5 (a_cons (S1 := bx S i (n3a b)) (e_if (k := decide ((take (take b 9).2 2).1 = 0)) (S1 := bx S i (take (take b 9).2 2).2) ?c5 (fun hk5 => ?x5) (fun hk5 => ?y5)) (a_cons (S1 := bx S i (take (take (n3a b) 99).2 4).2)
        (e_call (ds := [.cel i, .lst [.int 1, .int 7, .int (10 ^ 18 + (take (n3a b) 99).1), .int (10 ^ 6)]]) (S1 := bx S i (take (n3a b) 99).2) P3 ?k6 (a_cons (S1 := bx S i (n3a b)) ?h6 (a_cons (e_lst ?h7 (show 4 ≤ 100000 by decide)) a_nil rfl) rfl) (F_law_pick.mk hi rfl v1 (show 4 ≤ 100000 by decide)) ?g1 ?g2 ?g3) a_nil rfl) rfl) (F_law_low.mk v2 q1 q2) ?g4 ?g5 ?g6) ?r5)
      case c5 => walk_at "ev"
      case x5 =>
        have e1 : n3t b = 10 ^ 19 - (take (take (take b 9).2 2).2 1000).1 := by unfold n3t; rw [if_pos hk5]
        rw [e1]
        unfold n3a
        walk_at "ev"
      case y5 =>
        have e1 : n3t b = (take (take (take b 9).2 2).2 1000).1 - 10 ^ 19 := by unfold n3t; rw [if_neg (by rw [hk5]; exact Bool.false_ne_true)]
        rw [e1]
        unfold n3a
        walk_at "ev"
      case h6 => walk_at "ev"
      case h7 => walk_at "ev"
      case r5 =>
        unfold numF
        rw [if_neg (by rw [hk]; exact Bool.false_ne_true), if_neg (by rw [hk3]; exact Bool.false_ne_true)]
        exact ⟨rfl, .inl rfl⟩
      all_goals try walk_at "ev"
/-! ### _law_small -/
def smV (t : Int) : Int := ([1, 1, 2, 3, 5] : List Int).getD t.toNat 1
theorem smV_facts {t : Int} (h0 : 0 ≤ t) (h5 : t < 5) : atI ([.int 1, .int 1, .int 2, .int 3, .int 5] : List D) t = some (.int (smV t)) ∧ smV t ≠ 0 ∧ (smV t).natAbs < 2 ^ 5 := by
  have : t = 0 ∨ t = 1 ∨ t = 2 ∨ t = 3 ∨ t = 4 := by omega
  rcases this with z | z | z | z | z <;> subst z <;> exact ⟨rfl, by decide, by decide⟩
def smF (b : Bx) : Rat × Bx := (Rat.divInt ((take b 13).1 - 6) (smV (take (take b 13).2 5).1), (take (take b 13).2 5).2)
theorem smF_sz (b : Bx) : Sz 5 (smF b).1 := by
  have r := take_range (b := b) (m := 13) (by decide)
  have r2 := take_range (b := (take b 13).2) (m := 5) (by decide)
  obtain ⟨_, h1, h2⟩ := smV_facts r2.1 r2.2
  exact sz_div h1 (by omega) h2
abbrev s_law_small : Stmt := top 56
abbrev N_law_small : List Str := ["box"]
abbrev P_law_small : List Str := ["box"]
theorem sc_law_small : FnScope N_law_small P_law_small (defScope s_law_small) := ⟨rfl, rfl, rfl, by decide +kernel, rfl, by decide +kernel, by decide +kernel⟩
theorem bn_law_small : ∀ (kV doc pm : Value) (an : Option Addr) (cdv ct : Value) (us : List Value), us.length = P_law_small.length → bindArgs (PySem.W.fnOf "_law_small" "_law_small" (defArgs s_law_small) (defBody s_law_small) (defScope s_law_small) .none kV doc pm an cdv ct) ⟨us, []⟩ = pure (P_law_small.zip us) := fun _ _ _ _ _ _ us hl => match us, hl with | [_], _ => rfl

inductive F_law_small : List D → Store → D → Store → Prop
  | mk {S : Store} {i : Nat} {b : Bx} (hi : i < S.length) : F_law_small [.cel i] (bx S i b) (pr (smF b).1) (bx S i (smF b).2)
theorem p_law_small {B : Bs} (T : Txt B) (P1 : DefP B "_law_take" s_law_take P_law_take 1 F_law_take) (P2 : DefP B "_law_low" s_law_low P_law_low 1 F_law_low) {f : Addr} {fd : FuncData} (Fn : Fun B.K "_law_small" "_law_small" s_law_small f fd) (hm : B.mg "_law_small" = some (.ref f)) : DefP B "_law_small" s_law_small P_law_small 2 F_law_small := by
  refine def_ok Fn sc_law_small hm bn_law_small fun args S d S' hl hF => ?_
  cases hF with
  | @mk S i b hi =>
    have r := take_range (b := b) (m := 13) (by decide)
    have r2 := take_range (b := (take b 13).2) (m := 5) (by decide)
    obtain ⟨hat, h1, h2⟩ := smV_facts r2.1 r2.2
    have q1 : ((take b 13).1 - 6).natAbs < 2 ^ 8000 := lt4 (k := 10) (by omega) (by decide)
    have q2 : (smV (take (take b 13).2 5).1).natAbs < 2 ^ 8000 := lt4 h2 (by decide)
    refine' ss_one (s_ret (e_call (S1 := bx S i (take (take b 13).2 5).2) P2 ?k5 (a_cons (S1 := bx S i (take b 13).2) ?h1 (a_cons (e_ix (ds := [.int 1, .int 1, .int 2, .int 3, .int 5]) (x := .lst [.int 1, .int 1, .int 2, .int 3, .int 5]) (i := (take (take b 13).2 5).1) (S1 := bx S i (take b 13).2) ?h2 ?h3 rfl hat rfl) a_nil rfl) rfl) (F_law_low.mk h1 q1 q2) ?g4 ?g5 ?g6) ?r5)
    case h1 => walk_at "ev"
    case h2 => walk_at "ev"
    case h3 => walk_at "ev"
    case r5 => exact ⟨rfl, .inl rfl⟩
    all_goals try walk_at "ev"
end DL
/-! text: K15 -/
namespace DL
open PySem L2 QM
/-! the walker: one step by the syntax that stands there, then on; what it can't close stays -/
local macro_rules | `(tactic| walk_at "ev") => `(tactic| first
  | ((with_reducible show _ = _); first | rfl | assumption)
  | ((with_reducible show EvE _ _ _ _ _ _); first
      | ((with_reducible show EvE _ (.Name _ _) _ _ _ _); first
      | ((with_reducible refine' e_name ?_ ?_ ?_) <;> try walk_at "ev"))
      | ((with_reducible show EvE _ (.Constant _ _ _) _ _ _ _); first
      | (with_reducible exact e_int)
      | (with_reducible exact e_str)
      | (with_reducible exact e_bl)
      | (with_reducible exact e_non))
      | ((with_reducible show EvE _ (.Call _ _ _ _) _ _ _ _); first
      | walk_at "call"
      | ((with_reducible show EvE _ (.Call (.Name "isinstance" _) _ _ _) _ _ _ _); first
      | ((with_reducible refine' e_isInt (by assumption) ?_ ?_ ?_ ?_ ?_) <;> try walk_at "ev")
      | ((with_reducible refine' e_isBool (by assumption) ?_ ?_ ?_ ?_ ?_) <;> try walk_at "ev")
      | ((with_reducible refine' e_isRat (by assumption) ?_ ?_ ?_ ?_ ?_) <;> try walk_at "ev")
      | ((with_reducible refine' e_isStr (by assumption) ?_ ?_ ?_ ?_ ?_) <;> try walk_at "ev")
      | ((with_reducible refine' e_isList (by assumption) ?_ ?_ ?_ ?_ ?_) <;> try walk_at "ev")
      | ((with_reducible refine' e_isTup (by assumption) ?_ ?_ ?_ ?_ ?_) <;> try walk_at "ev")
      | ((with_reducible refine' e_isDict (by assumption) ?_ ?_ ?_ ?_ ?_) <;> try walk_at "ev")
      | ((with_reducible refine' e_isLT (by assumption) ?_ ?_ ?_ ?_ ?_ ?_) <;> try walk_at "ev"))
      | ((with_reducible refine' e_len (nm := "len") (by assumption) ?_ ?_ ?_ ?_) <;> try walk_at "ev")
      | ((with_reducible refine' e_abs (by assumption) ?_ ?_ ?_) <;> try walk_at "ev")
      | ((with_reducible refine' e_intI (by assumption) ?_ ?_ ?_) <;> try walk_at "ev")
      | ((with_reducible refine' e_list (by assumption) ?_ ?_ ?_ ?_) <;> try walk_at "ev")
      | ((with_reducible refine' e_tuple (by assumption) ?_ ?_ ?_ ?_) <;> try walk_at "ev")
      | ((with_reducible refine' e_gcd (by assumption) ?_ ?_ ?_ ?_ ?_) <;> try walk_at "ev")
      | ((with_reducible refine' e_max2 (by assumption) ?_ ?_ ?_ ?_ ?_) <;> try walk_at "ev")
      | ((with_reducible refine' e_min2 (by assumption) ?_ ?_ ?_ ?_ ?_) <;> try walk_at "ev"))
      | ((with_reducible show EvE _ (.BinOp _ _ _ _) _ _ _ _); first
      | ((with_reducible refine' e_bin ?_ ?_ ?_) <;> try walk_at "ev"))
      | ((with_reducible show EvE _ (.Subscript _ _ _) _ _ _ _); first
      | ((with_reducible refine' e_ix ?_ ?_ ?_ ?_ ?_) <;> try walk_at "ev"))
      | ((with_reducible show EvE _ (.Compare _ _ _ _) _ _ _ _); first
      | ((with_reducible refine' e_cmp ?_ ?_ ?_ ?_) <;> try walk_at "ev"))
      | ((with_reducible show EvE _ (.Attribute _ _ _) _ _ _ _); first
      | ((with_reducible refine' e_top (by assumption) ?_ ?_) <;> try walk_at "ev")
      | ((with_reducible refine' e_bottom (by assumption) ?_ ?_) <;> try walk_at "ev"))
      | ((with_reducible show EvE _ (.UnaryOp _ _ _) _ _ _ _); first
      | ((with_reducible refine' e_not ?_) <;> try walk_at "ev")
      | ((with_reducible refine' e_neg ?_) <;> try walk_at "ev"))
      | ((with_reducible show EvE _ (.Tuple _ _ _) _ _ _ _); first
      | ((with_reducible refine' e_tup ?_ ?_) <;> try walk_at "ev"))
      | ((with_reducible show EvE _ (.List _ _) _ _ _ _); first
      | ((with_reducible refine' e_lst ?_ ?_) <;> try walk_at "ev"))
      | ((with_reducible show EvE _ (.BoolOp _ _ _) _ _ _ _); first
      | ((with_reducible refine' e_one ?_) <;> try walk_at "ev")
      | ((with_reducible refine' e_and ?_ (fun _ => ?_)) <;> try walk_at "ev")
      | ((with_reducible refine' e_or ?_ (fun _ => ?_)) <;> try walk_at "ev"))
      | ((with_reducible show EvE _ (.IfExp _ _ _ _) _ _ _ _); first
      | ((with_reducible refine' e_if ?_ ?_ ?_) <;> first | walk_at "ev" | walk_at "way" | skip)))
  | exact Nat.le_of_ble_eq_true (by rfl)
  | ((with_reducible show EvT _ _ _ _ _ _); first
      | ((with_reducible refine' t_cmp ?_ ?_ ?_ ?_) <;> try walk_at "ev")
      | ((with_reducible refine' t_not ?_) <;> try walk_at "ev")
      | ((with_reducible refine' t_of (w_and ?_ (fun _ => ?_))) <;> try walk_at "ev")
      | ((with_reducible refine' t_of (w_or ?_ (fun _ => ?_))) <;> try walk_at "ev")
      | ((with_reducible refine' t_val ?_ ?_) <;> try walk_at "ev"))
  | ((with_reducible show EvA _ _ _ _ _ _); first
      | ((with_reducible refine' a_cons ?_ ?_ ?_) <;> try walk_at "ev")
      | (with_reducible exact a_nil))
  | ((with_reducible show BinR _ _ _ _ _ _); first
      | (with_reducible exact br_add)
      | (with_reducible exact br_sub)
      | ((with_reducible refine' br_mul ?_) <;> try walk_at "sz")
      | walk_at "br")
  | ((with_reducible show CmpR _ _ _ _ _ _); first
      | (with_reducible exact cr_lt)
      | (with_reducible exact cr_le)
      | (with_reducible exact cr_gt)
      | (with_reducible exact cr_ge)
      | (with_reducible exact cr_eqI)
      | (with_reducible exact cr_neI)
      | (with_reducible exact cr_isN)
      | (with_reducible exact cr_isB)
      | (with_reducible exact cr_eqB)
      | (with_reducible exact cr_eqS)
      | walk_at "cr")
  | ((with_reducible show EvW _ _ _ _ _ _); first
      | ((with_reducible refine' w_and1 ?_) <;> try walk_at "ev")
      | ((with_reducible refine' w_or1 ?_) <;> try walk_at "ev")
      | ((with_reducible refine' w_and ?_ (fun _ => ?_)) <;> try walk_at "ev")
      | ((with_reducible refine' w_or ?_ (fun _ => ?_)) <;> try walk_at "ev"))
  | ((with_reducible show EvK _ _ _ _ _ _); first
      | ((with_reducible refine' k_cons ?_ ?_) <;> try walk_at "ev")
      | (with_reducible exact k_nil))
  | ((with_reducible show Tgt _ _ _); first
      | ((with_reducible refine' Tgt.cons ?_ ?_ ?_ ?_) <;> try walk_at "ev")
      | (with_reducible exact Tgt.nil))
  | walk_at "side"
  | (intros; rfl))
local macro_rules | `(tactic| walk_at "side") => `(tactic| fail)
local macro_rules | `(tactic| walk_at "br") => `(tactic| fail)
local macro_rules | `(tactic| walk_at "cr") => `(tactic| fail)
local macro_rules | `(tactic| walk_at "call") => `(tactic| fail)
local macro_rules | `(tactic| walk_at "way") => `(tactic| first | exact fun z => Bool.noConfusion (show false = true from z) | exact fun z => Bool.noConfusion (show true = false from z) | (intro _; walk_at "ev"))
local macro_rules | `(tactic| walk_at "sz") => `(tactic| assumption)

local macro_rules | `(tactic| walk_at "side") => `(tactic| ((with_reducible show IsN _ _); first | assumption | exact isN_enc _ | exact IsN.int _))
local macro_rules | `(tactic| walk_at "side") => `(tactic| ((with_reducible show _ ≠ _); assumption))
local macro_rules | `(tactic| walk_at "side") => `(tactic| ((with_reducible show (_ : Nat) < _); assumption))
local macro_rules | `(tactic| walk_at "side") => `(tactic| ((with_reducible show Sz _ _); assumption))
local macro_rules | `(tactic| walk_at "side") => `(tactic| ((with_reducible show IsNs _ _); assumption))
local macro_rules | `(tactic| walk_at "side") => `(tactic| ((with_reducible show Sml _); assumption))

local macro_rules | `(tactic| walk_at "side") => `(tactic| ((with_reducible show (_ : Int) < _); first | assumption | decide))
local macro_rules | `(tactic| walk_at "call") => `(tactic| ((with_reducible refine' e_call (by assumption : DefP _ "_law_less" _ _ _ _) ?_ ?_ (F_law_less.mk ?_ ?_) ?_ ?_ ?_) <;> try walk_at "ev"))
local macro_rules | `(tactic| walk_at "call") => `(tactic| ((with_reducible refine' e_call (by assumption : DefP _ "_law_num" _ _ _ _) ?_ ?_ (F_law_num.mk) ?_ ?_ ?_) <;> try walk_at "ev"))
local macro_rules | `(tactic| walk_at "call") => `(tactic| ((with_reducible refine' e_call (by assumption : DefP _ "_law_sum" _ _ _ _) ?_ ?_ (F_law_sum.mk ?_ ?_) ?_ ?_ ?_) <;> try walk_at "ev"))
/-! ### _law_sides -/
def prP (q : Rat) : PyData := .tuple [.int q.num, .int (q.den : Int)]
theorem pr_py (q : Rat) : (pr q).py = some (prP q) := by simp [pr, D.py, pyAll, prP]
theorem prs_py : ∀ qs : List Rat, pyAll (qs.map pr) = some (qs.map prP)
  | [] => by simp [pyAll]
  | q :: qs => by
    rw [List.map_cons, pyAll, pr_py, prs_py qs]
    rfl
theorem pr_shaped (q : Rat) : SeqAt.shaped (prP q) = true := by
  simp [SeqAt.shaped, prP, PyData.canLay0, PyData.canLayAll0, PyData.depth, PyData.depthAll]
theorem prs_lay : ∀ qs : List Rat, PyData.canLayAll0 (qs.map prP) = true ∧ PyData.depthAll (qs.map prP) ≤ 1
  | [] => by simp [PyData.canLayAll0, PyData.depthAll]
  | q :: qs => by
    obtain ⟨h1, h2⟩ := prs_lay qs
    rw [List.map_cons]
    refine ⟨?_, ?_⟩
    · rw [PyData.canLayAll0, h1]
      simp [prP, PyData.canLay0, PyData.canLayAll0]
    · rw [PyData.depthAll]
      have : PyData.depth (prP q) ≤ 1 := by simp [prP, PyData.depth, PyData.depthAll]
      omega
theorem prs_shaped (qs : List Rat) : SeqAt.shaped (.list (qs.map prP)) = true := by
  obtain ⟨h1, h2⟩ := prs_lay qs
  have e : SeqAt.shaped (.list (qs.map prP)) = (PyData.canLayAll0 (qs.map prP) && decide (PyData.depthAll (qs.map prP) + 1 ≤ 64)) := by
    simp only [SeqAt.shaped, PyData.canLay0, PyData.depth]
    rfl
  rw [e, h1, Bool.true_and, decide_eq_true_eq]
  omega
theorem pr_eqv (p q : Rat) : PyData.eqv (prP p) (prP q) = decide (p = q) := by
  simp only [prP, PyData.eqv, PyData.eqvAll, Bool.and_true]
  rw [Bool.eq_iff_iff]
  simp only [Bool.and_eq_true, beq_iff_eq, decide_eq_true_eq]
  constructor
  · rintro ⟨h1, h2⟩
    exact Rat.ext h1 (by omega)
  · rintro rfl
    exact ⟨rfl, rfl⟩
theorem prs_any (qs : List Rat) (q : Rat) : (qs.map prP).any (fun z => PyData.eqv z (prP q)) = decide (q ∈ qs) := by
  induction qs with
  | nil => simp
  | cons p qs ih =>
    rw [List.map_cons, List.any_cons, ih, pr_eqv, Bool.eq_iff_iff]
    simp only [Bool.or_eq_true, decide_eq_true_eq, List.mem_cons]
    constructor
    · rintro (h | h)
      · exact .inl h.symm
      · exact .inr h
    · rintro (h | h)
      · exact .inl h.symm
      · exact .inr h
def unpr : D → Rat
  | .tup [.int n, .int d] => Rat.divInt n d
  | _ => 0
theorem unpr_pr (q : Rat) : unpr (pr q) = q := Rat.num_divInt_den q
theorem filter_prs (f : Rat → Bool) : ∀ qs : List Rat, ((qs.map pr).filter (fun d => f (unpr d))).map id = (qs.filter f).map pr
  | [] => rfl
  | q :: qs => by
    have ih := filter_prs f qs
    rw [List.map_id] at ih ⊢
    rw [List.map_cons, List.filter_cons, unpr_pr, List.filter_cons]
    split
    · rw [List.map_cons, ih]
    · exact ih
theorem asc_nodup (l : List Rat) : (asc l).Nodup := (asc_sorted l).imp fun h e => by rw [e] at h; exact lt_irr _ h
theorem asc_len (l : List Rat) : (asc l).length ≤ l.length := (asc_nodup l).length_le_of_subset fun p hp => asc_mem.mp hp
abbrev s_law_sides : Stmt := top 57
abbrev N_law_sides : List Str := ["numbers", "found", "one", "other"]
abbrev P_law_sides : List Str := ["numbers"]
theorem sc_law_sides : FnScope N_law_sides P_law_sides (defScope s_law_sides) := ⟨rfl, rfl, rfl, by decide +kernel, rfl, by decide +kernel, by decide +kernel⟩
theorem bn_law_sides : ∀ (kV doc pm : Value) (an : Option Addr) (cdv ct : Value) (us : List Value), us.length = P_law_sides.length → bindArgs (PySem.W.fnOf "_law_sides" "_law_sides" (defArgs s_law_sides) (defBody s_law_sides) (defScope s_law_sides) .none kV doc pm an cdv ct) ⟨us, []⟩ = pure (P_law_sides.zip us) := fun _ _ _ _ _ _ us hl => match us, hl with | [_], _ => rfl

inductive F_law_sides : List D → Store → D → Store → Prop
  | mk {S : Store} {qs : List Rat} (hz : ∀ q ∈ qs, Sz 400 q) (hl : qs.length ≤ 20) : F_law_sides [.lst (qs.map pr)] S (.lst ((asc qs).map pr)) S
theorem p_law_sides {B : Bs} (T : Txt B) (P1 : DefP B "_law_less" s_law_less P_law_less 1 F_law_less) {f : Addr} {fd : FuncData} (Fn : Fun B.K "_law_sides" "_law_sides" s_law_sides f fd) (hm : B.mg "_law_sides" = some (.ref f)) : DefP B "_law_sides" s_law_sides P_law_sides 2 F_law_sides := by
  refine def_ok Fn sc_law_sides hm bn_law_sides fun args S d S' hl hF => ?_
  cases hF with
  | @mk _ qs hz hle =>
    refine' ss_cons (s_set (i := 1) (d := .lst (([] : List Rat).map pr)) rfl rfl rfl (e_lst a_nil (show 0 ≤ 100000 by decide)) ?n1)
    case n1 =>
    refine ss_cons (s_for (ds := qs.map pr) (S1 := S) (j := 2) rfl rfl rfl (i_seq (x := .lst (qs.map pr)) ?h2 rfl) (fun i Γ' S' => ∃ o, Γ' = [some (.lst (qs.map pr)), some (.lst ((asc (qs.take i)).map pr)), o, none] ∧ S' = S) ⟨none, rfl, rfl⟩ ?turn ?done)
    case h2 => walk_at "ev"
    case done =>
      rintro Γ' S' ⟨o, rfl, rfl⟩
      rw [List.length_map, List.take_length]
      refine' ss_one (s_ret ?h3 ?r)
      case h3 => walk_at "ev"
      case r => exact ⟨rfl, .inl rfl⟩
    case turn =>
      rintro i d Γ' S' hd ⟨o, rfl, rfl⟩
      rw [List.getElem?_map] at hd
      cases e1 : qs[i]? with
      | none => rw [e1] at hd; cases hd
      | some q =>
        rw [e1] at hd
        cases hd
        have hq := List.mem_of_getElem? e1
        have hzq : Sz 3900 q := (hz q hq).mono (by decide)
        have hzf : ∀ p ∈ asc (qs.take i), Sz 3900 p := fun p hp => (hz p (List.mem_of_mem_take (asc_mem.mp hp))).mono (by decide)
        have hlf : (asc (qs.take i)).length ≤ 20 := Nat.le_trans (asc_len _) (by rw [List.length_take]; omega)
        have hnext : asc (qs.take (i + 1)) = ins (asc (qs.take i)) q := by rw [List.take_add_one, e1]; exact asc_snoc
        generalize asc (qs.take i) = fs at *
        refine' ss_one (s_if (k := !decide (q ∈ fs)) ?c (fun hk => ?t) (fun hk => ss_nil ?n))
        case c =>
          have cmp := cr_niD (Y := ⟨B, N_law_sides, defScope s_law_sides, 1, fun _ => true⟩) (S := S') (pr_py q) (show (D.lst (fs.map pr)).py = some (.list (fs.map prP)) by rw [D.py, prs_py]; rfl) (pr_shaped q) (prs_shaped fs)
          rw [prs_any] at cmp
          refine' t_cmp ?c1 ?c2 cmp rfl
          case c1 => walk_at "ev"
          case c2 => walk_at "ev"
        case n =>
          have hm' : q ∈ fs := by simpa using hk
          refine ⟨some (pr q), ?_, rfl⟩
          rw [hnext]
          unfold ins
          rw [if_pos hm']
          rfl
        case t =>
          have hm' : ¬ q ∈ fs := by simpa using hk
          have f1 := filter_prs (fun p => decide (p < q)) fs
          have f2 := filter_prs (fun p => decide (q < p)) fs
          refine' ss_one (s_set (i := 1) (d := .lst ((fs.filter (fun p => decide (p < q))).map pr ++ [pr q] ++ (fs.filter (fun p => decide (q < p))).map pr)) rfl rfl rfl (e_bin (x := .lst ((fs.filter (fun p => decide (p < q))).map pr ++ [pr q])) (y := .lst ((fs.filter (fun p => decide (q < p))).map pr)) (S1 := S') (e_bin (x := .lst ((fs.filter (fun p => decide (p < q))).map pr)) (y := .lst [pr q]) (S1 := S') (e_is (e_lcF (ds := fs.map pr) (S1 := S') (j := 3) (f := fun d => decide (unpr d < q)) (g := id) (i_seq (x := .lst (fs.map pr)) ?i1 rfl) rfl rfl rfl rfl ?t1 ?s1 ?z1) (by rw [f1]) rfl) (e_lst (a_cons ?o1 a_nil rfl) (show 1 ≤ 100000 by decide)) (br_cat rfl rfl ?z3)) (e_is (e_lcF (ds := fs.map pr) (S1 := S') (j := 3) (f := fun d => decide (q < unpr d)) (g := id) (i_seq (x := .lst (fs.map pr)) ?i2 rfl) rfl rfl rfl rfl ?t2 ?s2 ?z2) (by rw [f2]) rfl) (br_cat rfl rfl ?z4)) ?n4)
          case i1 => walk_at "ev"
          case i2 => walk_at "ev"
          case o1 => walk_at "ev"
          case t1 =>
            intro d hd
            obtain ⟨p, hp, rfl⟩ := List.mem_map.mp hd
            have hzp := hzf p hp
            simp only [unpr_pr]
            refine' t_val ?v ?w
            case v => walk_at "ev"
            case w => intros; rfl
          case t2 =>
            intro d hd
            obtain ⟨p, hp, rfl⟩ := List.mem_map.mp hd
            have hzp := hzf p hp
            simp only [unpr_pr]
            refine' t_val ?v ?w
            case v => walk_at "ev"
            case w => intros; rfl
          case s1 =>
            intro d hd _
            show EvE _ _ _ _ d _
            walk_at "ev"
          case s2 =>
            intro d hd _
            show EvE _ _ _ _ d _
            walk_at "ev"
          case z1 => rw [List.length_map]; omega
          case z2 => rw [List.length_map]; omega
          case z3 =>
            have := List.length_filter_le (fun p => decide (p < q)) fs
            rw [List.length_map, List.length_singleton]
            omega
          case z4 =>
            have h1 := List.length_filter_le (fun p => decide (p < q)) fs
            have h2 := List.length_filter_le (fun p => decide (q < p)) fs
            rw [List.length_append, List.length_map, List.length_map, List.length_singleton]
            omega
          case n4 =>
            refine ⟨some (pr q), ?_, rfl⟩
            rw [hnext]
            unfold ins
            rw [if_neg hm', List.map_append, List.map_append]
            rfl
end DL
/-! text: K16 -/
namespace DL
open PySem L2 QM
/-! the walker: one step by the syntax that stands there, then on; what it can't close stays -/
local macro_rules | `(tactic| walk_at "ev") => `(tactic| first
  | ((with_reducible show _ = _); first | rfl | assumption)
  | ((with_reducible show EvE _ _ _ _ _ _); first
      | ((with_reducible show EvE _ (.Name _ _) _ _ _ _); first
      | ((with_reducible refine' e_name ?_ ?_ ?_) <;> try walk_at "ev"))
      | ((with_reducible show EvE _ (.Constant _ _ _) _ _ _ _); first
      | (with_reducible exact e_int)
      | (with_reducible exact e_str)
      | (with_reducible exact e_bl)
      | (with_reducible exact e_non))
      | ((with_reducible show EvE _ (.Call _ _ _ _) _ _ _ _); first
      | walk_at "call"
      | ((with_reducible show EvE _ (.Call (.Name "isinstance" _) _ _ _) _ _ _ _); first
      | ((with_reducible refine' e_isInt (by assumption) ?_ ?_ ?_ ?_ ?_) <;> try walk_at "ev")
      | ((with_reducible refine' e_isBool (by assumption) ?_ ?_ ?_ ?_ ?_) <;> try walk_at "ev")
      | ((with_reducible refine' e_isRat (by assumption) ?_ ?_ ?_ ?_ ?_) <;> try walk_at "ev")
      | ((with_reducible refine' e_isStr (by assumption) ?_ ?_ ?_ ?_ ?_) <;> try walk_at "ev")
      | ((with_reducible refine' e_isList (by assumption) ?_ ?_ ?_ ?_ ?_) <;> try walk_at "ev")
      | ((with_reducible refine' e_isTup (by assumption) ?_ ?_ ?_ ?_ ?_) <;> try walk_at "ev")
      | ((with_reducible refine' e_isDict (by assumption) ?_ ?_ ?_ ?_ ?_) <;> try walk_at "ev")
      | ((with_reducible refine' e_isLT (by assumption) ?_ ?_ ?_ ?_ ?_ ?_) <;> try walk_at "ev"))
      | ((with_reducible refine' e_len (nm := "len") (by assumption) ?_ ?_ ?_ ?_) <;> try walk_at "ev")
      | ((with_reducible refine' e_abs (by assumption) ?_ ?_ ?_) <;> try walk_at "ev")
      | ((with_reducible refine' e_intI (by assumption) ?_ ?_ ?_) <;> try walk_at "ev")
      | ((with_reducible refine' e_list (by assumption) ?_ ?_ ?_ ?_) <;> try walk_at "ev")
      | ((with_reducible refine' e_tuple (by assumption) ?_ ?_ ?_ ?_) <;> try walk_at "ev")
      | ((with_reducible refine' e_gcd (by assumption) ?_ ?_ ?_ ?_ ?_) <;> try walk_at "ev")
      | ((with_reducible refine' e_max2 (by assumption) ?_ ?_ ?_ ?_ ?_) <;> try walk_at "ev")
      | ((with_reducible refine' e_min2 (by assumption) ?_ ?_ ?_ ?_ ?_) <;> try walk_at "ev"))
      | ((with_reducible show EvE _ (.BinOp _ _ _ _) _ _ _ _); first
      | ((with_reducible refine' e_bin ?_ ?_ ?_) <;> try walk_at "ev"))
      | ((with_reducible show EvE _ (.Subscript _ _ _) _ _ _ _); first
      | ((with_reducible refine' e_ix ?_ ?_ ?_ ?_ ?_) <;> try walk_at "ev"))
      | ((with_reducible show EvE _ (.Compare _ _ _ _) _ _ _ _); first
      | ((with_reducible refine' e_cmp ?_ ?_ ?_ ?_) <;> try walk_at "ev"))
      | ((with_reducible show EvE _ (.Attribute _ _ _) _ _ _ _); first
      | ((with_reducible refine' e_top (by assumption) ?_ ?_) <;> try walk_at "ev")
      | ((with_reducible refine' e_bottom (by assumption) ?_ ?_) <;> try walk_at "ev"))
      | ((with_reducible show EvE _ (.UnaryOp _ _ _) _ _ _ _); first
      | ((with_reducible refine' e_not ?_) <;> try walk_at "ev")
      | ((with_reducible refine' e_neg ?_) <;> try walk_at "ev"))
      | ((with_reducible show EvE _ (.Tuple _ _ _) _ _ _ _); first
      | ((with_reducible refine' e_tup ?_ ?_) <;> try walk_at "ev"))
      | ((with_reducible show EvE _ (.List _ _) _ _ _ _); first
      | ((with_reducible refine' e_lst ?_ ?_) <;> try walk_at "ev"))
      | ((with_reducible show EvE _ (.BoolOp _ _ _) _ _ _ _); first
      | ((with_reducible refine' e_one ?_) <;> try walk_at "ev")
      | ((with_reducible refine' e_and ?_ (fun _ => ?_)) <;> try walk_at "ev")
      | ((with_reducible refine' e_or ?_ (fun _ => ?_)) <;> try walk_at "ev"))
      | ((with_reducible show EvE _ (.IfExp _ _ _ _) _ _ _ _); first
      | ((with_reducible refine' e_if ?_ ?_ ?_) <;> first | walk_at "ev" | walk_at "way" | skip)))
  | exact Nat.le_of_ble_eq_true (by rfl)
  | ((with_reducible show EvT _ _ _ _ _ _); first
      | ((with_reducible refine' t_cmp ?_ ?_ ?_ ?_) <;> try walk_at "ev")
      | ((with_reducible refine' t_not ?_) <;> try walk_at "ev")
      | ((with_reducible refine' t_of (w_and ?_ (fun _ => ?_))) <;> try walk_at "ev")
      | ((with_reducible refine' t_of (w_or ?_ (fun _ => ?_))) <;> try walk_at "ev")
      | ((with_reducible refine' t_val ?_ ?_) <;> try walk_at "ev"))
  | ((with_reducible show EvA _ _ _ _ _ _); first
      | ((with_reducible refine' a_cons ?_ ?_ ?_) <;> try walk_at "ev")
      | (with_reducible exact a_nil))
  | ((with_reducible show BinR _ _ _ _ _ _); first
      | (with_reducible exact br_add)
      | (with_reducible exact br_sub)
      | ((with_reducible refine' br_mul ?_) <;> try walk_at "sz")
      | walk_at "br")
  | ((with_reducible show CmpR _ _ _ _ _ _); first
      | (with_reducible exact cr_lt)
      | (with_reducible exact cr_le)
      | (with_reducible exact cr_gt)
      | (with_reducible exact cr_ge)
      | (with_reducible exact cr_eqI)
      | (with_reducible exact cr_neI)
      | (with_reducible exact cr_isN)
      | (with_reducible exact cr_isB)
      | (with_reducible exact cr_eqB)
      | (with_reducible exact cr_eqS)
      | walk_at "cr")
  | ((with_reducible show EvW _ _ _ _ _ _); first
      | ((with_reducible refine' w_and1 ?_) <;> try walk_at "ev")
      | ((with_reducible refine' w_or1 ?_) <;> try walk_at "ev")
      | ((with_reducible refine' w_and ?_ (fun _ => ?_)) <;> try walk_at "ev")
      | ((with_reducible refine' w_or ?_ (fun _ => ?_)) <;> try walk_at "ev"))
  | ((with_reducible show EvK _ _ _ _ _ _); first
      | ((with_reducible refine' k_cons ?_ ?_) <;> try walk_at "ev")
      | (with_reducible exact k_nil))
  | ((with_reducible show Tgt _ _ _); first
      | ((with_reducible refine' Tgt.cons ?_ ?_ ?_ ?_) <;> try walk_at "ev")
      | (with_reducible exact Tgt.nil))
  | walk_at "side"
  | (intros; rfl))
local macro_rules | `(tactic| walk_at "side") => `(tactic| fail)
local macro_rules | `(tactic| walk_at "br") => `(tactic| fail)
local macro_rules | `(tactic| walk_at "cr") => `(tactic| fail)
local macro_rules | `(tactic| walk_at "call") => `(tactic| fail)
local macro_rules | `(tactic| walk_at "way") => `(tactic| first | exact fun z => Bool.noConfusion (show false = true from z) | exact fun z => Bool.noConfusion (show true = false from z) | (intro _; walk_at "ev"))
local macro_rules | `(tactic| walk_at "sz") => `(tactic| assumption)

local macro_rules | `(tactic| walk_at "side") => `(tactic| ((with_reducible show IsN _ _); first | assumption | exact isN_enc _ | exact IsN.int _))
local macro_rules | `(tactic| walk_at "side") => `(tactic| ((with_reducible show _ ≠ _); assumption))
local macro_rules | `(tactic| walk_at "side") => `(tactic| ((with_reducible show (_ : Nat) < _); assumption))
local macro_rules | `(tactic| walk_at "side") => `(tactic| ((with_reducible show Sz _ _); assumption))
local macro_rules | `(tactic| walk_at "side") => `(tactic| ((with_reducible show IsNs _ _); assumption))
local macro_rules | `(tactic| walk_at "side") => `(tactic| ((with_reducible show Sml _); assumption))

/-! ### _law_is -/
theorem cr_neB {Y : Ctx} {S : Store} {i j : Bool} : CmpR Y .NotEq S (.bl i) (.bl j) (.bl (!(i == j))) := by
  intro X F
  refine ⟨_, op_ne, fun W vx vy H hO hx hy Q hQ => ?_⟩
  simp only [Rep] at hx hy
  subst hx; subst hy
  refine ⟨rfl, hQ W _ H (.refl W) hO ?_⟩
  simp only [Rep, dec_bl]
local macro_rules | `(tactic| walk_at "cr") => `(tactic| (with_reducible exact cr_neB))
theorem t_is {Y : Ctx} {e : Expr} {Γ : Gam} {S S1 : Store} {k k' : Bool} (h : EvT Y e Γ S k S1) (hk : k = k') : EvT Y e Γ S k' S1 := hk ▸ h
theorem e_isb {Y : Ctx} {e : Expr} {Γ : Gam} {S S1 : Store} {k k' : Bool} (h : EvE Y e Γ S (.bl k) S1) (hk : k = k') : EvE Y e Γ S (.bl k') S1 := hk ▸ h
/-- what is told fits what is due -/
inductive Mt : Nat → D → D → Prop
  | whole (k : Nat) (i : Int) : Mt k (.int i) (.tup [.str "#", .int i, .int 1])
  | rat (k : Nat) (n d : Int) (h : d ≠ 1) : Mt (k + 1) (.rat n d) (.tup [.str "#", .int n, .int d])
  | int (k : Nat) (i : Int) : Mt k (.int i) (.int i)
  | lst (k : Nat) (ts ds : List D) (hl : ts.length = ds.length) (hle : ds.length ≤ 100000) (h : ∀ (i : Nat) t d, ts[i]? = some t → ds[i]? = some d → Mt k t d) : Mt (k + 1) (.lst ts) (.lst ds)
theorem Mt.num {k : Nat} (q : Rat) : Mt (k + 1) (enc q) (due q) := by
  unfold enc due
  split
  · rename_i h
    rw [h]
    exact .whole _ _
  · rename_i h
    exact .rat _ _ _ (by omega)
def F_law_is (n : Nat) (args : List D) (S : Store) (d : D) (S' : Store) : Prop := ∃ t u, args = [t, u] ∧ d = .bl true ∧ S' = S ∧ Mt n t u
abbrev s_law_is : Stmt := top 54
abbrev N_law_is : List Str := ["told", "due", "key", "k"]
abbrev P_law_is : List Str := ["told", "due"]
theorem sc_law_is : FnScope N_law_is P_law_is (defScope s_law_is) := ⟨rfl, rfl, rfl, by decide +kernel, rfl, by decide +kernel, by decide +kernel⟩
theorem bn_law_is : ∀ (kV doc pm : Value) (an : Option Addr) (cdv ct : Value) (us : List Value), us.length = P_law_is.length → bindArgs (PySem.W.fnOf "_law_is" "_law_is" (defArgs s_law_is) (defBody s_law_is) (defScope s_law_is) .none kV doc pm an cdv ct) ⟨us, []⟩ = pure (P_law_is.zip us) := fun _ _ _ _ _ _ us hl => match us, hl with | [_, _], _ => rfl

theorem is_step {B : Bs} (T : Txt B) (n : Nat) (hP : ∀ m, n = m + 1 → DefP B "_law_is" s_law_is P_law_is n (F_law_is m)) {f : Addr} {fd : FuncData} (Fn : Fun B.K "_law_is" "_law_is" s_law_is f fd) (hm : B.mg "_law_is" = some (.ref f)) : DefP B "_law_is" s_law_is P_law_is (n + 1) (F_law_is n) := by
  refine def_ok Fn sc_law_is hm bn_law_is fun args S d S' hl hF => ?_
  obtain ⟨t, u, rfl, rfl, rfl, hM⟩ := hF
  cases hM with
  | whole k i =>
    refine' ss_cons (s_if (k := true) (t_is ?c ?ck) (fun hk => ?t) (fun hk => nomatch hk))
    case c => walk_at "ev"
    case ck => simp [D.isTup, D.isStr]
    case t =>
      refine' ss_cons (s_if (k := true) (t_is ?c2 ?ck2) (fun hk => ?t2) (fun hk => nomatch hk))
      case c2 => walk_at "ev"
      case ck2 => simp
      case t2 =>
        refine' ss_one (s_ret (e_isb (k' := true) ?h ?hk) ⟨rfl, .inl rfl⟩)
        case h => walk_at "ev"
        case hk => simp [D.isInt, D.isBool]
  | rat k n d hd =>
    have P := hP k rfl
    refine' ss_cons (s_if (k := true) (t_is ?c ?ck) (fun hk => ?t) (fun hk => nomatch hk))
    case c => walk_at "ev"
    case ck => simp [D.isTup, D.isStr]
    case t =>
      refine' ss_cons (s_if (k := decide (d = 1)) ?c2 (fun hk2 => ?t2) (fun hk2 => ss_nil ?n2))
      case c2 => walk_at "ev"
      case t2 => exact absurd (of_decide_eq_true hk2) hd
      case n2 =>
        refine' ss_one (s_ret (e_isb (k' := true) (e_and (k := true) (j := true) (e_isb ?h1 ?hk1) (fun _ => e_and (k := true) (j := true) ?h2 (fun _ => e_one ?h3))) rfl) ⟨rfl, .inl rfl⟩)
        case h1 => walk_at "ev"
        case hk1 => rfl
        case h2 =>
          refine e_call (ds := [.int n, .tup [.str "#", .int n, .int 1]]) P (Nat.le_refl _) (a_cons (S1 := S') (e_top (k := d) T ?a1 ?a2) (a_cons ?a3 a_nil rfl) rfl) ⟨_, _, rfl, rfl, rfl, .whole k n⟩ rfl rfl rfl
          case a1 => walk_at "ev"
          case a2 => intros; rfl
          case a3 => walk_at "ev"
        case h3 =>
          refine e_call (ds := [.int d, .tup [.str "#", .int d, .int 1]]) P (Nat.le_refl _) (a_cons (S1 := S') (e_bottom (t := n) T ?b1 ?b2) (a_cons ?b3 a_nil rfl) rfl) ⟨_, _, rfl, rfl, rfl, .whole k d⟩ rfl rfl rfl
          case b1 => walk_at "ev"
          case b2 => intros; rfl
          case b3 => walk_at "ev"
  | int k i =>
    refine' ss_cons (s_if (k := false) (t_of (w_andF (t_is ?c ?ck))) (fun hk => nomatch hk) (fun _ => ss_nil ?n1))
    case c => walk_at "ev"
    case ck => rfl
    case n1 =>
    refine' ss_cons (s_if (k := false) (t_is ?c2 ?ck2) (fun hk => nomatch hk) (fun _ => ss_nil ?n2))
    case c2 => walk_at "ev"
    case ck2 => rfl
    case n2 =>
    refine' ss_cons (s_if (k := true) (t_is ?c3 ?ck3) (fun hk => ?t3) (fun hk => nomatch hk))
    case c3 => walk_at "ev"
    case ck3 => rfl
    case t3 =>
      refine' ss_one (s_ret (e_isb (k' := true) ?h ?hk) ⟨rfl, .inl rfl⟩)
      case h => walk_at "ev"
      case hk => simp [D.isInt, D.isBool]
  | lst k ts ds hlen hle hall =>
    have P := hP k rfl
    refine' ss_cons (s_if (k := false) (t_of (w_andF (t_is ?c ?ck))) (fun hk => nomatch hk) (fun _ => ss_nil ?n1))
    case c => walk_at "ev"
    case ck => rfl
    case n1 =>
    refine' ss_cons (s_if (k := false) (t_is ?c2 ?ck2) (fun hk => nomatch hk) (fun _ => ss_nil ?n2))
    case c2 => walk_at "ev"
    case ck2 => rfl
    case n2 =>
    refine' ss_cons (s_if (k := false) (t_is ?c3 ?ck3) (fun hk => nomatch hk) (fun _ => ss_nil ?n3))
    case c3 => walk_at "ev"
    case ck3 => rfl
    case n3 =>
    refine' ss_cons (s_if (k := false) (t_is ?c4 ?ck4) (fun hk => nomatch hk) (fun _ => ss_nil ?n4))
    case c4 => walk_at "ev"
    case ck4 => rfl
    case n4 =>
    refine' ss_cons (s_if (k := false) (t_is ?c5 ?ck5) (fun hk => nomatch hk) (fun _ => ss_nil ?n5))
    case c5 => walk_at "ev"
    case ck5 => rfl
    case n5 =>
    refine' ss_cons (s_if (k := false) (t_is ?c6 ?ck6) (fun hk => nomatch hk) (fun _ => ss_nil ?n6))
    case c6 => walk_at "ev"
    case ck6 => rfl
    case n6 =>
    have sa : seqA S' (.lst ts) = some ts := rfl
    have sb : seqA S' (.lst ds) = some ds := rfl
    refine' ss_cons (s_if (k := false) (t_is ?c7 ?ck7) (fun hk => nomatch hk) (fun _ => ss_nil ?n7))
    case c7 => walk_at "ev"
    case ck7 => simp [D.isList, D.isTup, hlen]
    case n7 =>
    refine' ss_one (s_ret (d := .bl true) (e_cmp (x := .lst []) (y := .lst []) (S1 := S') (e_is (d := .lst (((rngD ds.length).filter fun _ => !true).map id)) (e_lcF (ds := rngD ((ds.length : Nat) : Int).toNat) (S1 := S') (j := 3) (f := fun _ => !true) (g := id) (i_range (n := ((ds.length : Nat) : Int)) T ?r1 (by omega) (by omega) ?q1 ?q2) rfl rfl rfl rfl ?t1 ?s1 ?z1) (by simp) rfl) (e_lst a_nil (show 0 ≤ 100000 by decide)) (cr_eqD (q := .list []) (q2 := .list []) (by simp [D.py, pyAll]) (by simp [D.py, pyAll]) (by decide) (by decide)) rfl) ⟨rfl, .inl rfl⟩)
    case r1 => walk_at "ev"
    case z1 => rw [rngD_len]; omega
    case s1 => intro d hd hk; cases hk
    case t1 =>
      intro d hd
      obtain ⟨j, hj⟩ := List.mem_iff_getElem?.mp hd
      obtain ⟨hjl, rfl⟩ := rngD_get hj
      have hjl : j < ds.length := by simpa using hjl
      have g1 : ts[j]? = some ts[j] := List.getElem?_eq_getElem (by omega)
      have g2 : ds[j]? = some ds[j] := List.getElem?_eq_getElem hjl
      have a1 : atI ts (j : Int) = some ts[j] := atI_nat g1
      have a2 : atI ds (j : Int) = some ds[j] := atI_nat g2
      refine t_not (t_val (e_call (ds := [ts[j], ds[j]]) P (Nat.le_refl _) (a_cons (S1 := S') ?b4 (a_cons ?b5 a_nil rfl) rfl) ⟨_, _, rfl, rfl, rfl, hall j _ _ g1 g2⟩ rfl rfl rfl) ?w)
      case b4 => walk_at "ev"
      case b5 => walk_at "ev"
      case w => intros; rfl
    all_goals try walk_at "ev"
theorem p_law_is {B : Bs} (T : Txt B) {f : Addr} {fd : FuncData} (Fn : Fun B.K "_law_is" "_law_is" s_law_is f fd) (hm : B.mg "_law_is" = some (.ref f)) : ∀ n, DefP B "_law_is" s_law_is P_law_is (n + 1) (F_law_is n)
  | 0 => is_step T 0 (fun m h => by omega) Fn hm
  | n + 1 => is_step T (n + 1) (fun m h => by
    have e : m = n := by omega
    rw [e]
    exact p_law_is T Fn hm n) Fn hm
end DL
/-! text: K17 -/
namespace DL
open PySem L2 QM
/-! the walker: one step by the syntax that stands there, then on; what it can't close stays -/
local macro_rules | `(tactic| walk_at "ev") => `(tactic| first
  | ((with_reducible show _ = _); first | rfl | assumption)
  | ((with_reducible show EvE _ _ _ _ _ _); first
      | ((with_reducible show EvE _ (.Name _ _) _ _ _ _); first
      | ((with_reducible refine' e_name ?_ ?_ ?_) <;> try walk_at "ev"))
      | ((with_reducible show EvE _ (.Constant _ _ _) _ _ _ _); first
      | (with_reducible exact e_int)
      | (with_reducible exact e_str)
      | (with_reducible exact e_bl)
      | (with_reducible exact e_non))
      | ((with_reducible show EvE _ (.Call _ _ _ _) _ _ _ _); first
      | walk_at "call"
      | ((with_reducible show EvE _ (.Call (.Name "isinstance" _) _ _ _) _ _ _ _); first
      | ((with_reducible refine' e_isInt (by assumption) ?_ ?_ ?_ ?_ ?_) <;> try walk_at "ev")
      | ((with_reducible refine' e_isBool (by assumption) ?_ ?_ ?_ ?_ ?_) <;> try walk_at "ev")
      | ((with_reducible refine' e_isRat (by assumption) ?_ ?_ ?_ ?_ ?_) <;> try walk_at "ev")
      | ((with_reducible refine' e_isStr (by assumption) ?_ ?_ ?_ ?_ ?_) <;> try walk_at "ev")
      | ((with_reducible refine' e_isList (by assumption) ?_ ?_ ?_ ?_ ?_) <;> try walk_at "ev")
      | ((with_reducible refine' e_isTup (by assumption) ?_ ?_ ?_ ?_ ?_) <;> try walk_at "ev")
      | ((with_reducible refine' e_isDict (by assumption) ?_ ?_ ?_ ?_ ?_) <;> try walk_at "ev")
      | ((with_reducible refine' e_isLT (by assumption) ?_ ?_ ?_ ?_ ?_ ?_) <;> try walk_at "ev"))
      | ((with_reducible refine' e_len (nm := "len") (by assumption) ?_ ?_ ?_ ?_) <;> try walk_at "ev")
      | ((with_reducible refine' e_abs (by assumption) ?_ ?_ ?_) <;> try walk_at "ev")
      | ((with_reducible refine' e_intI (by assumption) ?_ ?_ ?_) <;> try walk_at "ev")
      | ((with_reducible refine' e_list (by assumption) ?_ ?_ ?_ ?_) <;> try walk_at "ev")
      | ((with_reducible refine' e_tuple (by assumption) ?_ ?_ ?_ ?_) <;> try walk_at "ev")
      | ((with_reducible refine' e_gcd (by assumption) ?_ ?_ ?_ ?_ ?_) <;> try walk_at "ev")
      | ((with_reducible refine' e_max2 (by assumption) ?_ ?_ ?_ ?_ ?_) <;> try walk_at "ev")
      | ((with_reducible refine' e_min2 (by assumption) ?_ ?_ ?_ ?_ ?_) <;> try walk_at "ev"))
      | ((with_reducible show EvE _ (.BinOp _ _ _ _) _ _ _ _); first
      | ((with_reducible refine' e_bin ?_ ?_ ?_) <;> try walk_at "ev"))
      | ((with_reducible show EvE _ (.Subscript _ _ _) _ _ _ _); first
      | ((with_reducible refine' e_ix ?_ ?_ ?_ ?_ ?_) <;> try walk_at "ev"))
      | ((with_reducible show EvE _ (.Compare _ _ _ _) _ _ _ _); first
      | ((with_reducible refine' e_cmp ?_ ?_ ?_ ?_) <;> try walk_at "ev"))
      | ((with_reducible show EvE _ (.Attribute _ _ _) _ _ _ _); first
      | ((with_reducible refine' e_top (by assumption) ?_ ?_) <;> try walk_at "ev")
      | ((with_reducible refine' e_bottom (by assumption) ?_ ?_) <;> try walk_at "ev"))
      | ((with_reducible show EvE _ (.UnaryOp _ _ _) _ _ _ _); first
      | ((with_reducible refine' e_not ?_) <;> try walk_at "ev")
      | ((with_reducible refine' e_neg ?_) <;> try walk_at "ev"))
      | ((with_reducible show EvE _ (.Tuple _ _ _) _ _ _ _); first
      | ((with_reducible refine' e_tup ?_ ?_) <;> try walk_at "ev"))
      | ((with_reducible show EvE _ (.List _ _) _ _ _ _); first
      | ((with_reducible refine' e_lst ?_ ?_) <;> try walk_at "ev"))
      | ((with_reducible show EvE _ (.BoolOp _ _ _) _ _ _ _); first
      | ((with_reducible refine' e_one ?_) <;> try walk_at "ev")
      | ((with_reducible refine' e_and ?_ (fun _ => ?_)) <;> try walk_at "ev")
      | ((with_reducible refine' e_or ?_ (fun _ => ?_)) <;> try walk_at "ev"))
      | ((with_reducible show EvE _ (.IfExp _ _ _ _) _ _ _ _); first
      | ((with_reducible refine' e_if ?_ ?_ ?_) <;> first | walk_at "ev" | walk_at "way" | skip)))
  | exact Nat.le_of_ble_eq_true (by rfl)
  | ((with_reducible show EvT _ _ _ _ _ _); first
      | ((with_reducible refine' t_cmp ?_ ?_ ?_ ?_) <;> try walk_at "ev")
      | ((with_reducible refine' t_not ?_) <;> try walk_at "ev")
      | ((with_reducible refine' t_of (w_and ?_ (fun _ => ?_))) <;> try walk_at "ev")
      | ((with_reducible refine' t_of (w_or ?_ (fun _ => ?_))) <;> try walk_at "ev")
      | ((with_reducible refine' t_val ?_ ?_) <;> try walk_at "ev"))
  | ((with_reducible show EvA _ _ _ _ _ _); first
      | ((with_reducible refine' a_cons ?_ ?_ ?_) <;> try walk_at "ev")
      | (with_reducible exact a_nil))
  | ((with_reducible show BinR _ _ _ _ _ _); first
      | (with_reducible exact br_add)
      | (with_reducible exact br_sub)
      | ((with_reducible refine' br_mul ?_) <;> try walk_at "sz")
      | walk_at "br")
  | ((with_reducible show CmpR _ _ _ _ _ _); first
      | (with_reducible exact cr_lt)
      | (with_reducible exact cr_le)
      | (with_reducible exact cr_gt)
      | (with_reducible exact cr_ge)
      | (with_reducible exact cr_eqI)
      | (with_reducible exact cr_neI)
      | (with_reducible exact cr_isN)
      | (with_reducible exact cr_isB)
      | (with_reducible exact cr_eqB)
      | (with_reducible exact cr_eqS)
      | walk_at "cr")
  | ((with_reducible show EvW _ _ _ _ _ _); first
      | ((with_reducible refine' w_and1 ?_) <;> try walk_at "ev")
      | ((with_reducible refine' w_or1 ?_) <;> try walk_at "ev")
      | ((with_reducible refine' w_and ?_ (fun _ => ?_)) <;> try walk_at "ev")
      | ((with_reducible refine' w_or ?_ (fun _ => ?_)) <;> try walk_at "ev"))
  | ((with_reducible show EvK _ _ _ _ _ _); first
      | ((with_reducible refine' k_cons ?_ ?_) <;> try walk_at "ev")
      | (with_reducible exact k_nil))
  | ((with_reducible show Tgt _ _ _); first
      | ((with_reducible refine' Tgt.cons ?_ ?_ ?_ ?_) <;> try walk_at "ev")
      | (with_reducible exact Tgt.nil))
  | walk_at "side"
  | (intros; rfl))
local macro_rules | `(tactic| walk_at "side") => `(tactic| fail)
local macro_rules | `(tactic| walk_at "br") => `(tactic| fail)
local macro_rules | `(tactic| walk_at "cr") => `(tactic| fail)
local macro_rules | `(tactic| walk_at "call") => `(tactic| fail)
local macro_rules | `(tactic| walk_at "way") => `(tactic| first | exact fun z => Bool.noConfusion (show false = true from z) | exact fun z => Bool.noConfusion (show true = false from z) | (intro _; walk_at "ev"))
local macro_rules | `(tactic| walk_at "sz") => `(tactic| assumption)

local macro_rules | `(tactic| walk_at "side") => `(tactic| ((with_reducible show IsN _ _); first | assumption | exact isN_enc _ | exact IsN.int _))
local macro_rules | `(tactic| walk_at "side") => `(tactic| ((with_reducible show _ ≠ _); assumption))
local macro_rules | `(tactic| walk_at "side") => `(tactic| ((with_reducible show (_ : Nat) < _); assumption))
local macro_rules | `(tactic| walk_at "side") => `(tactic| ((with_reducible show Sz _ _); assumption))
local macro_rules | `(tactic| walk_at "side") => `(tactic| ((with_reducible show IsNs _ _); assumption))
local macro_rules | `(tactic| walk_at "side") => `(tactic| ((with_reducible show Sml _); assumption))

local macro_rules | `(tactic| walk_at "side") => `(tactic| ((with_reducible show ∀ _, _); assumption))
local macro_rules | `(tactic| walk_at "side") => `(tactic| ((with_reducible show (_ : Nat) ≤ _); assumption))
local macro_rules | `(tactic| walk_at "call") => `(tactic| ((with_reducible refine' e_call (by assumption : DefP _ "_law_less" _ _ _ _) ?_ ?_ (F_law_less.mk ?_ ?_) ?_ ?_ ?_) <;> try walk_at "ev"))
local macro_rules | `(tactic| walk_at "call") => `(tactic| ((with_reducible refine' e_call (by assumption : DefP _ "_law_num" _ _ _ _) ?_ ?_ (F_law_num.mk) ?_ ?_ ?_) <;> try walk_at "ev"))
local macro_rules | `(tactic| walk_at "call") => `(tactic| ((with_reducible refine' e_call (by assumption : DefP _ "_law_sum" _ _ _ _) ?_ ?_ (F_law_sum.mk ?_ ?_) ?_ ?_ ?_) <;> try walk_at "ev"))
local macro_rules | `(tactic| walk_at "call") => `(tactic| ((with_reducible refine' e_call (by assumption : DefP _ "_law_sides" _ _ _ _) ?_ ?_ (F_law_sides.mk ?_ ?_) ?_ ?_ ?_) <;> try walk_at "ev"))
/-! ### _law_all -/
def allF (b : Bx) (qs : List Rat) : Bx := (givenF (mixF b qs).2 (mixF b qs).1).2
def toldL (qs : List Rat) : D := .lst [enc qs.sum, enc (mn qs), enc (mx qs), .lst ((asc qs).map enc)]
abbrev s_law_all : Stmt := top 58
abbrev N_law_all : List Str := ["box", "numbers", "named", "some"]
abbrev P_law_all : List Str := ["box", "numbers", "named"]
theorem sc_law_all : FnScope N_law_all P_law_all (defScope s_law_all) := ⟨rfl, rfl, rfl, by decide +kernel, rfl, by decide +kernel, by decide +kernel⟩
theorem bn_law_all : ∀ (kV doc pm : Value) (an : Option Addr) (cdv ct : Value) (us : List Value), us.length = P_law_all.length → bindArgs (PySem.W.fnOf "_law_all" "_law_all" (defArgs s_law_all) (defBody s_law_all) (defScope s_law_all) .none kV doc pm an cdv ct) ⟨us, []⟩ = pure (P_law_all.zip us) := fun _ _ _ _ _ _ us hl => match us, hl with | [_, _, _], _ => rfl

inductive F_law_all : List D → Store → D → Store → Prop
  | mk {S : Store} {i : Nat} {b : Bx} {qs : List Rat} {k : Bool} (hi : i < S.length) (hn : nocS S) (hz : ∀ q ∈ qs, Sz 150 q) (hle : qs.length ≤ 10) (h0 : qs ≠ []) : F_law_all [.cel i, .lst (qs.map pr), .bl k] (bx S i b) (toldL qs) (bx S i (allF b qs))
theorem kw1 {nm : Str} {st : Stmt} (h : ∀ (kV doc pm : Value) (an : Option Addr) (cdv ct : Value) (w : Value), bindArgs (PySem.W.fnOf nm nm (defArgs st) (defBody st) (defScope st) .none kV doc pm an cdv ct) ⟨[], [(("numbers" : Str), w)]⟩ = pure [(("numbers" : Str), w)]) :
    ∀ (kV doc pm : Value) (an : Option Addr) (cdv ct : Value) (ws : List Value), ws.length = (["numbers"] : List Str).length → bindArgs (PySem.W.fnOf nm nm (defArgs st) (defBody st) (defScope st) .none kV doc pm an cdv ct) ⟨[], (["numbers"] : List Str).zip ws⟩ = pure ((["numbers"] : List Str).zip ws) := fun kV doc pm an cdv ct ws hl => match ws, hl with | [w], _ => h kV doc pm an cdv ct w
theorem p_law_all {B : Bs} (T : Txt B) (P1 : DefP B "_law_mixed" s_law_mixed P_law_mixed 2 F_law_mixed) (P2 : DefP B "_law_given" s_law_given P_law_given 5 F_law_given) (P3 : DefP B "total" stotal Ptotal 6 Ftotal) (P4 : DefP B "least" sleast Pleast 7 Fleast) (P5 : DefP B "greatest" sgreatest Pgreatest 7 Fgreatest) (P6 : DefP B "ascending" sascending Pascending 6 Fascending)
    {f : Addr} {fd : FuncData} (Fn : Fun B.K "_law_all" "_law_all" s_law_all f fd) (hm : B.mg "_law_all" = some (.ref f)) : DefP B "_law_all" s_law_all P_law_all 8 F_law_all := by
  refine def_ok Fn sc_law_all hm bn_law_all fun args S d S' hl hF => ?_
  cases hF with
  | @mk S i b qs k hi hn hz hle h0 =>
    have hp := mixF_perm b qs
    have hz2 : ∀ q ∈ (mixF b qs).1, Sz 400 q := fun q hq => (hz q (hp.mem_iff.mp hq)).mono (by decide)
    have hle1 : qs.length ≤ 20 := by omega
    have hle2 : (mixF b qs).1.length ≤ 10 := by rw [hp.length_eq]; exact hle
    have hle3 : (mixF b qs).1.length ≤ 20 := by omega
    have hsm : Sml (mixF b qs).1 := ⟨fun q hq => (hz2 q hq).mono (by decide), hle2⟩
    have hns := given_isNs (mixF b qs).2 (mixF b qs).1
    have e1 : (mixF b qs).1.sum = qs.sum := perm_sum hp
    have e2 : asc (mixF b qs).1 = asc qs := asc_congr fun p => hp.mem_iff
    have hmn : mn qs ∈ (mixF b qs).1 := hp.mem_iff.mpr (mn_mem h0)
    have hmx : mx qs ∈ (mixF b qs).1 := hp.mem_iff.mpr (mx_mem h0)
    have hmn2 : ∀ q ∈ (mixF b qs).1, mn qs ≤ q := fun q hq => mn_le (hp.mem_iff.mp hq)
    have hmx2 : ∀ q ∈ (mixF b qs).1, q ≤ mx qs := fun q hq => le_mx (hp.mem_iff.mp hq)
    refine' ss_cons (s_set (i := 3) (d := .lst (givenF (mixF b qs).2 (mixF b qs).1).1) (S1 := bx S i (allF b qs)) rfl rfl rfl (e_list (x := .tup (givenF (mixF b qs).2 (mixF b qs).1).1) T (e_call (S1 := bx S i (mixF b qs).2) P2 ?k1 (a_cons (S1 := bx S i b) ?h1 (a_cons (e_call (S1 := bx S i b) P1 ?k2 (a_cons (S1 := bx S i b) ?h2 (a_cons (S1 := bx S i b) ?h3 a_nil rfl) rfl) (F_law_mixed.mk hi hn hle1) ?g1 ?g2 ?g3) a_nil rfl) rfl) (F_law_given.mk hi hz2 hle3) ?g4 ?g5 ?g6) rfl ?g7 ?g8) ?n1)
    case h1 => walk_at "ev"
    case h2 => walk_at "ev"
    case h3 => walk_at "ev"
    case n1 =>
      generalize (givenF (mixF b qs).2 (mixF b qs).1).1 = ds at hns ⊢
      generalize bx S i (allF b qs) = S2
      generalize (mixF b qs).1 = ms at *
      refine' ss_cons (s_if (k := k) ?c (fun hk => ?t) (fun hk => ss_nil ?n2))
      case c => walk_at "ev"
      case t =>
        refine' ss_one (s_ret (e_lst (ds := [enc qs.sum, enc (mn qs), enc (mx qs), .lst ((asc qs).map enc)]) (S1 := S2) (a_cons (S1 := S2) ?a1 (a_cons (S1 := S2) ?a2 (a_cons (S1 := S2) ?a3 (a_cons (S1 := S2) ?a4 a_nil rfl) rfl) rfl) rfl) (show 4 ≤ 100000 by decide)) ⟨rfl, .inl rfl⟩)
        case a1 =>
          rw [← e1]
          refine e_kw (ks := ["numbers"]) (ds := [.lst ds]) P3 ?k5 (k_cons ?x1 k_nil) (kw1 fun _ _ _ _ _ _ _ => rfl) (Ftotal.mk rfl hns hsm) ?ra1 ?rb1 ?rc1 ?rd1 ?re1 ?rf1
          case x1 => walk_at "ev"
          all_goals first | rfl | (intros; rfl) | walk_at "ev"
        case a2 =>
          refine e_kw (ks := ["numbers"]) (ds := [.lst ds]) P4 ?k6 (k_cons ?x2 k_nil) (kw1 fun _ _ _ _ _ _ _ => rfl) (Fleast.mk rfl hns hsm hmn hmn2) ?ra2 ?rb2 ?rc2 ?rd2 ?re2 ?rf2
          case x2 => walk_at "ev"
          all_goals first | rfl | (intros; rfl) | walk_at "ev"
        case a3 =>
          refine e_kw (ks := ["numbers"]) (ds := [.lst ds]) P5 ?k7 (k_cons ?x3 k_nil) (kw1 fun _ _ _ _ _ _ _ => rfl) (Fgreatest.mk rfl hns hsm hmx hmx2) ?ra3 ?rb3 ?rc3 ?rd3 ?re3 ?rf3
          case x3 => walk_at "ev"
          all_goals first | rfl | (intros; rfl) | walk_at "ev"
        case a4 =>
          rw [← e2]
          refine e_kw (ks := ["numbers"]) (ds := [.lst ds]) P6 ?k8 (k_cons ?x4 k_nil) (kw1 fun _ _ _ _ _ _ _ => rfl) (Fascending.mk rfl hns hsm) ?ra4 ?rb4 ?rc4 ?rd4 ?re4 ?rf4
          case x4 => walk_at "ev"
          all_goals first | rfl | (intros; rfl) | walk_at "ev"
      case n2 =>
        have sq : seqA S2 (.lst ds) = some ds := rfl
        refine' ss_one (s_ret (e_lst (ds := [enc qs.sum, enc (mn qs), enc (mx qs), .lst ((asc qs).map enc)]) (S1 := S2) (a_cons (S1 := S2) ?b1 (a_cons (S1 := S2) ?b2 (a_cons (S1 := S2) ?b3 (a_cons (S1 := S2) ?b4 a_nil rfl) rfl) rfl) rfl) (show 4 ≤ 100000 by decide)) ⟨rfl, .inl rfl⟩)
        case b1 =>
          rw [← e1]
          refine e_call (ds := [.tup ds]) (S1 := S2) P3 ?k9 (a_cons (e_tuple (S1 := S2) (x := .lst ds) T ?y1 sq ?ra5 ?rb5) a_nil rfl) (Ftotal.mk rfl hns hsm) ?rc5 ?rd5 ?re5
          case y1 => walk_at "ev"
          all_goals first | rfl | walk_at "ev"
        case b2 =>
          refine e_call (ds := [.lst ds]) (S1 := S2) P4 ?k10 (a_cons ?y2 a_nil rfl) (Fleast.mk rfl hns hsm hmn hmn2) ?rc6 ?rd6 ?re6
          case y2 => walk_at "ev"
          all_goals first | rfl | walk_at "ev"
        case b3 =>
          refine e_call (ds := [.tup ds]) (S1 := S2) P5 ?k11 (a_cons (e_tuple (S1 := S2) (x := .lst ds) T ?y3 sq ?ra7 ?rb7) a_nil rfl) (Fgreatest.mk rfl hns hsm hmx hmx2) ?rc7 ?rd7 ?re7
          case y3 => walk_at "ev"
          all_goals first | rfl | walk_at "ev"
        case b4 =>
          rw [← e2]
          refine e_call (ds := [.lst ds]) (S1 := S2) P6 ?k12 (a_cons ?y4 a_nil rfl) (Fascending.mk rfl hns hsm) ?rc8 ?rd8 ?re8
          case y4 => walk_at "ev"
          all_goals first | rfl | walk_at "ev"
    all_goals first | rfl | walk_at "ev"
/-! ### _law_due -/
def dueL (qs : List Rat) : D := .lst [due qs.sum, due (mn qs), due (mx qs), .lst ((asc qs).map due)]
abbrev s_law_due : Stmt := top 59
abbrev N_law_due : List Str := ["numbers", "sides", "x"]
abbrev P_law_due : List Str := ["numbers"]
theorem sc_law_due : FnScope N_law_due P_law_due (defScope s_law_due) := ⟨rfl, rfl, rfl, by decide +kernel, rfl, by decide +kernel, by decide +kernel⟩
theorem bn_law_due : ∀ (kV doc pm : Value) (an : Option Addr) (cdv ct : Value) (us : List Value), us.length = P_law_due.length → bindArgs (PySem.W.fnOf "_law_due" "_law_due" (defArgs s_law_due) (defBody s_law_due) (defScope s_law_due) .none kV doc pm an cdv ct) ⟨us, []⟩ = pure (P_law_due.zip us) := fun _ _ _ _ _ _ us hl => match us, hl with | [_], _ => rfl

inductive F_law_due : List D → Store → D → Store → Prop
  | mk {S : Store} {qs : List Rat} (hz : ∀ q ∈ qs, Sz 150 q) (hle : qs.length ≤ 20) (h0 : qs ≠ []) : F_law_due [.lst (qs.map pr)] S (dueL qs) S
theorem p_law_due {B : Bs} (T : Txt B) (P1 : DefP B "_law_sides" s_law_sides P_law_sides 2 F_law_sides) (P2 : DefP B "_law_num" s_law_num P_law_num 1 F_law_num) (P3 : DefP B "_law_sum" s_law_sum P_law_sum 3 F_law_sum) {f : Addr} {fd : FuncData} (Fn : Fun B.K "_law_due" "_law_due" s_law_due f fd) (hm : B.mg "_law_due" = some (.ref f)) : DefP B "_law_due" s_law_due P_law_due 4 F_law_due := by
  refine def_ok Fn sc_law_due hm bn_law_due fun args S d S' hl hF => ?_
  cases hF with
  | @mk S qs hz hle h0 =>
    have hz4 : ∀ q ∈ qs, Sz 400 q := fun q hq => (hz q hq).mono (by decide)
    have hal := asc_len qs
    have a0 : atI ((asc qs).map pr) 0 = some (pr (mn qs)) := by
      refine atI_nat (j := 0) ?_
      rw [List.getElem?_map, mn_at h0]
      rfl
    have hpos : 0 < (asc qs).length := List.length_pos_iff.mpr (asc_ne h0)
    have a1 : atI ((asc qs).map pr) (-1) = some (pr (mx qs)) := by
      unfold atI ixN
      rw [List.length_map, if_neg (by omega), if_pos (by omega), Option.bind_some, List.getElem?_map, show (-1 + ((asc qs).length : Int)).toNat = (asc qs).length - 1 by omega, mx_at h0]
      rfl
    have sq : seqA S (.lst ((asc qs).map pr)) = some ((asc qs).map pr) := rfl
    refine' ss_cons (s_set (i := 1) rfl rfl rfl ?h1 ?n1)
    case h1 => walk_at "ev"
    case n1 =>
    refine' ss_one (s_ret (e_lst (ds := [due qs.sum, due (mn qs), due (mx qs), .lst ((asc qs).map due)]) (S1 := S) (a_cons (S1 := S) ?b1 (a_cons (S1 := S) ?b2 (a_cons (S1 := S) ?b3 (a_cons (S1 := S) ?b4 a_nil rfl) rfl) rfl) rfl) (show 4 ≤ 100000 by decide)) ⟨rfl, .inl rfl⟩)
    case b1 => walk_at "ev"
    case b2 => walk_at "ev"
    case b3 => walk_at "ev"
    case b4 =>
      refine e_lcP (ds := (asc qs).map pr) (S1 := S) (j := 2) (i_seq (x := .lst ((asc qs).map pr)) ?h2 rfl) rfl rfl rfl rfl (by simp) ?turn (by rw [List.length_map]; omega)
      case h2 => walk_at "ev"
      case turn =>
        intro j d y hd hy
        rw [List.getElem?_map] at hd hy
        cases e1 : (asc qs)[j]? with
        | none => rw [e1] at hd; cases hd
        | some q =>
          rw [e1] at hd hy
          cases hd
          cases hy
          walk_at "ev"
/-! ### _law_sign -/
theorem sgn_neg {q : Rat} (h : q < 0) : sgn q = -1 := by
  have : q.num < 0 := by
    have := (Rat.lt_iff q 0).mp h
    simpa using this
  unfold sgn
  rw [if_neg (fun z => by have := of_decide_eq_true z; omega), if_pos (decide_eq_true this)]
  rfl
theorem sgn_pos {q : Rat} (h : 0 < q) : sgn q = 1 := by
  have : 0 < q.num := by
    have := (Rat.lt_iff 0 q).mp h
    simpa using this
  unfold sgn
  rw [if_pos (decide_eq_true this), if_neg (fun z => by have := of_decide_eq_true z; omega)]
  rfl
theorem sgn_nul : sgn 0 = 0 := by decide
abbrev s_law_sign : Stmt := top 61
abbrev N_law_sign : List Str := ["x", "y"]
abbrev P_law_sign : List Str := ["x", "y"]
theorem sc_law_sign : FnScope N_law_sign P_law_sign (defScope s_law_sign) := ⟨rfl, rfl, rfl, by decide +kernel, rfl, by decide +kernel, by decide +kernel⟩
theorem bn_law_sign : ∀ (kV doc pm : Value) (an : Option Addr) (cdv ct : Value) (us : List Value), us.length = P_law_sign.length → bindArgs (PySem.W.fnOf "_law_sign" "_law_sign" (defArgs s_law_sign) (defBody s_law_sign) (defScope s_law_sign) .none kV doc pm an cdv ct) ⟨us, []⟩ = pure (P_law_sign.zip us) := fun _ _ _ _ _ _ us hl => match us, hl with | [_, _], _ => rfl

inductive F_law_sign : List D → Store → D → Store → Prop
  | mk {S : Store} {p q : Rat} (hp : Sz 3900 p) (hq : Sz 3900 q) : F_law_sign [pr p, pr q] S (.int (sgn (p - q))) S
theorem p_law_sign {B : Bs} (T : Txt B) (P1 : DefP B "_law_less" s_law_less P_law_less 1 F_law_less) {f : Addr} {fd : FuncData} (Fn : Fun B.K "_law_sign" "_law_sign" s_law_sign f fd) (hm : B.mg "_law_sign" = some (.ref f)) : DefP B "_law_sign" s_law_sign P_law_sign 2 F_law_sign := by
  refine def_ok Fn sc_law_sign hm bn_law_sign fun args S d S' hl hF => ?_
  cases hF with
  | @mk S p q hp hq =>
    refine' ss_one (s_ret (d := .int (sgn (p - q))) (S1 := S) (e_if (k := decide (p < q)) (S1 := S) (t_val ?c ?w) (fun hk => ?x) (fun hk => e_if (k := decide (q < p)) (S1 := S) (t_val ?c2 ?w2) (fun hk2 => ?x2) (fun hk2 => ?x3))) ⟨rfl, .inl rfl⟩)
    case c => walk_at "ev"
    case w => intros; rfl
    case c2 => walk_at "ev"
    case w2 => intros; rfl
    case x =>
      have hk : p < q := by simpa using hk
      rw [sgn_neg (by grind)]
      walk_at "ev"
    case x2 =>
      have hk : q < p := by simpa using hk2
      rw [sgn_pos (by grind)]
      walk_at "ev"
    case x3 =>
      have h1 : ¬ p < q := by simpa using hk
      have h2 : ¬ q < p := by simpa using hk2
      have : p - q = 0 := by grind
      rw [this, sgn_nul]
      walk_at "ev"
end DL
/-! text: K18 -/
namespace DL
open PySem L2 QM
/-! the walker: one step by the syntax that stands there, then on; what it can't close stays -/
local macro_rules | `(tactic| walk_at "ev") => `(tactic| first
  | ((with_reducible show _ = _); first | rfl | assumption)
  | ((with_reducible show EvE _ _ _ _ _ _); first
      | ((with_reducible show EvE _ (.Name _ _) _ _ _ _); first
      | ((with_reducible refine' e_name ?_ ?_ ?_) <;> try walk_at "ev"))
      | ((with_reducible show EvE _ (.Constant _ _ _) _ _ _ _); first
      | (with_reducible exact e_int)
      | (with_reducible exact e_str)
      | (with_reducible exact e_bl)
      | (with_reducible exact e_non))
      | ((with_reducible show EvE _ (.Call _ _ _ _) _ _ _ _); first
      | walk_at "call"
      | ((with_reducible show EvE _ (.Call (.Name "isinstance" _) _ _ _) _ _ _ _); first
      | ((with_reducible refine' e_isInt (by assumption) ?_ ?_ ?_ ?_ ?_) <;> try walk_at "ev")
      | ((with_reducible refine' e_isBool (by assumption) ?_ ?_ ?_ ?_ ?_) <;> try walk_at "ev")
      | ((with_reducible refine' e_isRat (by assumption) ?_ ?_ ?_ ?_ ?_) <;> try walk_at "ev")
      | ((with_reducible refine' e_isStr (by assumption) ?_ ?_ ?_ ?_ ?_) <;> try walk_at "ev")
      | ((with_reducible refine' e_isList (by assumption) ?_ ?_ ?_ ?_ ?_) <;> try walk_at "ev")
      | ((with_reducible refine' e_isTup (by assumption) ?_ ?_ ?_ ?_ ?_) <;> try walk_at "ev")
      | ((with_reducible refine' e_isDict (by assumption) ?_ ?_ ?_ ?_ ?_) <;> try walk_at "ev")
      | ((with_reducible refine' e_isLT (by assumption) ?_ ?_ ?_ ?_ ?_ ?_) <;> try walk_at "ev"))
      | ((with_reducible refine' e_len (nm := "len") (by assumption) ?_ ?_ ?_ ?_) <;> try walk_at "ev")
      | ((with_reducible refine' e_abs (by assumption) ?_ ?_ ?_) <;> try walk_at "ev")
      | ((with_reducible refine' e_intI (by assumption) ?_ ?_ ?_) <;> try walk_at "ev")
      | ((with_reducible refine' e_list (by assumption) ?_ ?_ ?_ ?_) <;> try walk_at "ev")
      | ((with_reducible refine' e_tuple (by assumption) ?_ ?_ ?_ ?_) <;> try walk_at "ev")
      | ((with_reducible refine' e_gcd (by assumption) ?_ ?_ ?_ ?_ ?_) <;> try walk_at "ev")
      | ((with_reducible refine' e_max2 (by assumption) ?_ ?_ ?_ ?_ ?_) <;> try walk_at "ev")
      | ((with_reducible refine' e_min2 (by assumption) ?_ ?_ ?_ ?_ ?_) <;> try walk_at "ev"))
      | ((with_reducible show EvE _ (.BinOp _ _ _ _) _ _ _ _); first
      | ((with_reducible refine' e_bin ?_ ?_ ?_) <;> try walk_at "ev"))
      | ((with_reducible show EvE _ (.Subscript _ _ _) _ _ _ _); first
      | ((with_reducible refine' e_ix ?_ ?_ ?_ ?_ ?_) <;> try walk_at "ev"))
      | ((with_reducible show EvE _ (.Compare _ _ _ _) _ _ _ _); first
      | ((with_reducible refine' e_cmp ?_ ?_ ?_ ?_) <;> try walk_at "ev"))
      | ((with_reducible show EvE _ (.Attribute _ _ _) _ _ _ _); first
      | ((with_reducible refine' e_top (by assumption) ?_ ?_) <;> try walk_at "ev")
      | ((with_reducible refine' e_bottom (by assumption) ?_ ?_) <;> try walk_at "ev"))
      | ((with_reducible show EvE _ (.UnaryOp _ _ _) _ _ _ _); first
      | ((with_reducible refine' e_not ?_) <;> try walk_at "ev")
      | ((with_reducible refine' e_neg ?_) <;> try walk_at "ev"))
      | ((with_reducible show EvE _ (.Tuple _ _ _) _ _ _ _); first
      | ((with_reducible refine' e_tup ?_ ?_) <;> try walk_at "ev"))
      | ((with_reducible show EvE _ (.List _ _) _ _ _ _); first
      | ((with_reducible refine' e_lst ?_ ?_) <;> try walk_at "ev"))
      | ((with_reducible show EvE _ (.BoolOp _ _ _) _ _ _ _); first
      | ((with_reducible refine' e_one ?_) <;> try walk_at "ev")
      | ((with_reducible refine' e_and ?_ (fun _ => ?_)) <;> try walk_at "ev")
      | ((with_reducible refine' e_or ?_ (fun _ => ?_)) <;> try walk_at "ev"))
      | ((with_reducible show EvE _ (.IfExp _ _ _ _) _ _ _ _); first
      | ((with_reducible refine' e_if ?_ ?_ ?_) <;> first | walk_at "ev" | walk_at "way" | skip)))
  | exact Nat.le_of_ble_eq_true (by rfl)
  | ((with_reducible show EvT _ _ _ _ _ _); first
      | ((with_reducible refine' t_cmp ?_ ?_ ?_ ?_) <;> try walk_at "ev")
      | ((with_reducible refine' t_not ?_) <;> try walk_at "ev")
      | ((with_reducible refine' t_of (w_and ?_ (fun _ => ?_))) <;> try walk_at "ev")
      | ((with_reducible refine' t_of (w_or ?_ (fun _ => ?_))) <;> try walk_at "ev")
      | ((with_reducible refine' t_val ?_ ?_) <;> try walk_at "ev"))
  | ((with_reducible show EvA _ _ _ _ _ _); first
      | ((with_reducible refine' a_cons ?_ ?_ ?_) <;> try walk_at "ev")
      | (with_reducible exact a_nil))
  | ((with_reducible show BinR _ _ _ _ _ _); first
      | (with_reducible exact br_add)
      | (with_reducible exact br_sub)
      | ((with_reducible refine' br_mul ?_) <;> try walk_at "sz")
      | walk_at "br")
  | ((with_reducible show CmpR _ _ _ _ _ _); first
      | (with_reducible exact cr_lt)
      | (with_reducible exact cr_le)
      | (with_reducible exact cr_gt)
      | (with_reducible exact cr_ge)
      | (with_reducible exact cr_eqI)
      | (with_reducible exact cr_neI)
      | (with_reducible exact cr_isN)
      | (with_reducible exact cr_isB)
      | (with_reducible exact cr_eqB)
      | (with_reducible exact cr_eqS)
      | walk_at "cr")
  | ((with_reducible show EvW _ _ _ _ _ _); first
      | ((with_reducible refine' w_and1 ?_) <;> try walk_at "ev")
      | ((with_reducible refine' w_or1 ?_) <;> try walk_at "ev")
      | ((with_reducible refine' w_and ?_ (fun _ => ?_)) <;> try walk_at "ev")
      | ((with_reducible refine' w_or ?_ (fun _ => ?_)) <;> try walk_at "ev"))
  | ((with_reducible show EvK _ _ _ _ _ _); first
      | ((with_reducible refine' k_cons ?_ ?_) <;> try walk_at "ev")
      | (with_reducible exact k_nil))
  | ((with_reducible show Tgt _ _ _); first
      | ((with_reducible refine' Tgt.cons ?_ ?_ ?_ ?_) <;> try walk_at "ev")
      | (with_reducible exact Tgt.nil))
  | walk_at "side"
  | (intros; rfl))
local macro_rules | `(tactic| walk_at "side") => `(tactic| fail)
local macro_rules | `(tactic| walk_at "br") => `(tactic| fail)
local macro_rules | `(tactic| walk_at "cr") => `(tactic| fail)
local macro_rules | `(tactic| walk_at "call") => `(tactic| fail)
local macro_rules | `(tactic| walk_at "way") => `(tactic| first | exact fun z => Bool.noConfusion (show false = true from z) | exact fun z => Bool.noConfusion (show true = false from z) | (intro _; walk_at "ev"))
local macro_rules | `(tactic| walk_at "sz") => `(tactic| assumption)

local macro_rules | `(tactic| walk_at "side") => `(tactic| ((with_reducible show IsN _ _); first | assumption | exact isN_enc _ | exact IsN.int _))
local macro_rules | `(tactic| walk_at "side") => `(tactic| ((with_reducible show _ ≠ _); assumption))
local macro_rules | `(tactic| walk_at "side") => `(tactic| ((with_reducible show (_ : Nat) < _); assumption))
local macro_rules | `(tactic| walk_at "side") => `(tactic| ((with_reducible show Sz _ _); assumption))
local macro_rules | `(tactic| walk_at "side") => `(tactic| ((with_reducible show IsNs _ _); assumption))
local macro_rules | `(tactic| walk_at "side") => `(tactic| ((with_reducible show Sml _); assumption))

local macro_rules | `(tactic| walk_at "side") => `(tactic| ((with_reducible show (_ : Int) < _); first | assumption | decide))
local macro_rules | `(tactic| walk_at "side") => `(tactic| ((with_reducible show ∀ _, _); assumption))
local macro_rules | `(tactic| walk_at "side") => `(tactic| ((with_reducible show (_ : Nat) ≤ _); assumption))
local macro_rules | `(tactic| walk_at "call") => `(tactic| ((with_reducible refine' e_call (by assumption : DefP _ "_law_take" _ _ _ _) ?_ ?_ (F_law_take.mk ?_ ?_ ?_) ?_ ?_ ?_) <;> try walk_at "ev"))
local macro_rules | `(tactic| walk_at "call") => `(tactic| ((with_reducible refine' e_call (by assumption : DefP _ "_law_small" _ _ _ _) ?_ ?_ (F_law_small.mk ?_) ?_ ?_ ?_) <;> try walk_at "ev"))
local macro_rules | `(tactic| walk_at "call") => `(tactic| ((with_reducible refine' e_call (by assumption : DefP _ "_law_plus" _ _ _ _) ?_ ?_ (F_law_plus.mk ?_ ?_) ?_ ?_ ?_) <;> try walk_at "ev"))
local macro_rules | `(tactic| walk_at "call") => `(tactic| ((with_reducible refine' e_call (by assumption : DefP _ "_law_times" _ _ _ _) ?_ ?_ (F_law_times.mk ?_ ?_) ?_ ?_ ?_) <;> try walk_at "ev"))
local macro_rules | `(tactic| walk_at "call") => `(tactic| ((with_reducible refine' e_call (by assumption : DefP _ "_law_num" _ _ _ _) ?_ ?_ (F_law_num.mk) ?_ ?_ ?_) <;> try walk_at "ev"))
local macro_rules | `(tactic| walk_at "call") => `(tactic| ((with_reducible refine' e_call (by assumption : DefP _ "_law_sum" _ _ _ _) ?_ ?_ (F_law_sum.mk ?_ ?_) ?_ ?_ ?_) <;> try walk_at "ev"))
local macro_rules | `(tactic| walk_at "call") => `(tactic| ((with_reducible refine' e_call (by assumption : DefP _ "_law_sides" _ _ _ _) ?_ ?_ (F_law_sides.mk ?_ ?_) ?_ ?_ ?_) <;> try walk_at "ev"))
local macro_rules | `(tactic| walk_at "call") => `(tactic| ((with_reducible refine' e_call (by assumption : DefP _ "_law_give" _ _ _ _) ?_ ?_ (F_law_give.mk ?_ ?_) ?_ ?_ ?_) <;> try walk_at "ev"))
/-- the defs that the law's parts call -/
structure Dfs (B : Bs) : Prop where
  txt : Txt B
  take : DefP B "_law_take" s_law_take P_law_take 1 F_law_take
  pick : DefP B "_law_pick" s_law_pick P_law_pick 2 F_law_pick
  low : DefP B "_law_low" s_law_low P_law_low 1 F_law_low
  lplus : DefP B "_law_plus" s_law_plus P_law_plus 2 F_law_plus
  lminus : DefP B "_law_minus" s_law_minus P_law_minus 2 F_law_minus
  ltimes : DefP B "_law_times" s_law_times P_law_times 2 F_law_times
  lover : DefP B "_law_over" s_law_over P_law_over 2 F_law_over
  less : DefP B "_law_less" s_law_less P_law_less 1 F_law_less
  sum : DefP B "_law_sum" s_law_sum P_law_sum 3 F_law_sum
  num : DefP B "_law_num" s_law_num P_law_num 1 F_law_num
  give : DefP B "_law_give" s_law_give P_law_give 4 F_law_give
  given : DefP B "_law_given" s_law_given P_law_given 5 F_law_given
  is : ∀ n, DefP B "_law_is" s_law_is P_law_is (n + 1) (F_law_is n)
  number : DefP B "_law_number" s_law_number P_law_number 3 F_law_number
  small : DefP B "_law_small" s_law_small P_law_small 2 F_law_small
  sides : DefP B "_law_sides" s_law_sides P_law_sides 2 F_law_sides
  all : DefP B "_law_all" s_law_all P_law_all 8 F_law_all
  due : DefP B "_law_due" s_law_due P_law_due 4 F_law_due
  sign : DefP B "_law_sign" s_law_sign P_law_sign 2 F_law_sign
  total : DefP B "total" stotal Ptotal 6 Ftotal
  plus : DefP B "plus" splus Pplus 6 Fplus
  minus : DefP B "minus" sminus Pminus 7 Fminus
  times : DefP B "times" stimes Ptimes 6 Ftimes
  over : DefP B "over" sover Pover 6 Fover
  compare : DefP B "compare" scompare Pcompare 7 Fcompare
theorem mt_nums {k : Nat} : ∀ qs : List Rat, qs.length ≤ 100000 → Mt (k + 2) (.lst (qs.map enc)) (.lst (qs.map due)) := fun qs h => .lst _ _ _ (by simp) (by simpa using h) fun i t d h1 h2 => by
  rw [List.getElem?_map] at h1 h2
  cases e : qs[i]? with
  | none => rw [e] at h1; cases h1
  | some q =>
    rw [e] at h1 h2
    cases h1
    cases h2
    exact Mt.num q
theorem Mt.mono : ∀ {k : Nat} {t d : D}, Mt k t d → Mt (k + 1) t d
  | _, _, _, .whole k i => .whole _ _
  | _, _, _, .rat k n d h => .rat _ _ _ h
  | _, _, _, .int k i => .int _ _
  | _, _, _, .lst k ts ds hl hle h => .lst _ _ _ hl hle fun i t d h1 h2 => (h i t d h1 h2).mono
/-- lists, item by item -/
inductive Mts (k : Nat) : List D → List D → Prop
  | nil : Mts k [] []
  | cons {t d : D} {ts ds : List D} (h : Mt k t d) (r : Mts k ts ds) : Mts k (t :: ts) (d :: ds)
theorem Mts.len {k : Nat} {ts ds : List D} (h : Mts k ts ds) : ts.length = ds.length := by
  induction h with
  | nil => rfl
  | cons _ _ ih => simp [ih]
theorem Mts.at_ {k : Nat} {ts ds : List D} (h : Mts k ts ds) : ∀ (i : Nat) t d, ts[i]? = some t → ds[i]? = some d → Mt k t d := by
  induction h with
  | nil => intro i t d h; simp at h
  | cons h r ih =>
    intro i t d h1 h2
    cases i with
    | zero =>
      simp only [List.getElem?_cons_zero, Option.some.injEq] at h1 h2
      subst h1; subst h2
      exact h
    | succ i => exact ih i t d (by simpa using h1) (by simpa using h2)
theorem Mts.mt {k : Nat} {ts ds : List D} (h : Mts k ts ds) (hl : ds.length ≤ 100000) : Mt (k + 1) (.lst ts) (.lst ds) := .lst _ _ _ h.len hl h.at_
theorem mt_all {qs : List Rat} (h : qs.length ≤ 20) : Mt 3 (toldL qs) (dueL qs) := by
  have := asc_len qs
  exact Mts.mt (.cons (Mt.num _) (.cons (Mt.num _) (.cons (Mt.num _) (.cons (mt_nums _ (by omega)) .nil)))) (show 4 ≤ 100000 by decide)
/-! ### _law_list_right -/
abbrev s_law_list_right : Stmt := top 60
abbrev N_law_list_right : List Str := ["box", "numbers", "named", "more", "factor", "shifted", "scaled", "some", "first", "by", "own", "sides", "cut", "parts", "chain", "one", "x"]
abbrev P_law_list_right : List Str := ["box", "numbers", "named"]
theorem sc_law_list_right : FnScope N_law_list_right P_law_list_right (defScope s_law_list_right) := ⟨rfl, rfl, rfl, by decide +kernel, rfl, by decide +kernel, by decide +kernel⟩
theorem bn_law_list_right : ∀ (kV doc pm : Value) (an : Option Addr) (cdv ct : Value) (us : List Value), us.length = P_law_list_right.length → bindArgs (PySem.W.fnOf "_law_list_right" "_law_list_right" (defArgs s_law_list_right) (defBody s_law_list_right) (defScope s_law_list_right) .none kV doc pm an cdv ct) ⟨us, []⟩ = pure (P_law_list_right.zip us) := fun _ _ _ _ _ _ us hl => match us, hl with | [_, _, _], _ => rfl

abbrev Ylr (B : Bs) : Ctx := ⟨B, N_law_list_right, defScope s_law_list_right, 8, fun _ => true⟩
abbrev lrB (n : Nat) : List Stmt := List.drop n (defBody s_law_list_right)
theorem kw2 {nm : Str} {st : Stmt} (h : ∀ (kV doc pm : Value) (an : Option Addr) (cdv ct : Value) (w u : Value), bindArgs (PySem.W.fnOf nm nm (defArgs st) (defBody st) (defScope st) .none kV doc pm an cdv ct) ⟨[], [(("one" : Str), w), (("other" : Str), u)]⟩ = pure [(("one" : Str), w), (("other" : Str), u)]) :
    ∀ (kV doc pm : Value) (an : Option Addr) (cdv ct : Value) (ws : List Value), ws.length = (["one", "other"] : List Str).length → bindArgs (PySem.W.fnOf nm nm (defArgs st) (defBody st) (defScope st) .none kV doc pm an cdv ct) ⟨[], (["one", "other"] : List Str).zip ws⟩ = pure ((["one", "other"] : List Str).zip ws) := fun kV doc pm an cdv ct ws hl => match ws, hl with | [w, u], _ => h kV doc pm an cdv ct w u
/-- the chain and the end -/
theorem lr_D {B : Bs} (F : Dfs B) {S : Store} {i n : Nat} {b : Bx} {qs : List Rat} {k : Bool} {u v : Rat} (hi : i < S.length) (hz : ∀ q ∈ qs, Sz 80 q) (hle : qs.length ≤ 8) (hu : Sz 800 u) (hv : Sz 800 v) (huv : u + v = qs.sum) (o3 o4 o5 o6 o7 o8 o9 o10 o11 o12 o14 o15 o16 : Option D) :
    EvSs (Ylr B) (lrB 10) [some (.cel i), some (.lst (qs.map pr)), some (.bl k), o3, o4, o5, o6, o7, o8, o9, o10, o11, o12, some (.lst [enc u, enc v]), o14, o15, o16] (bx S i b) (bodyE n (.bl true) (bx S i (givenF b qs).2)) := by
  have T := F.txt
  have P1 := F.given
  have P2 := F.plus
  have P3 := F.total
  have P4 := F.num
  have P5 := F.sum
  have P6 := F.is 3
  have hz4 : ∀ q ∈ qs, Sz 400 q := fun q hq => (hz q hq).mono (by decide)
  have hz15 : ∀ q ∈ qs, Sz 150 q := fun q hq => (hz q hq).mono (by decide)
  have hle20 : qs.length ≤ 20 := by omega
  have hns := given_isNs b qs
  have hdl := hns.length
  refine' ss_cons (s_set (i := 14) rfl rfl rfl ?h0 ?n0)
  case h0 => walk_at "ev"
  case n0 =>
  refine ss_cons (s_for (ds := (givenF b qs).1) (S1 := bx S i (givenF b qs).2) (j := 15) rfl rfl rfl (i_seq (x := .tup (givenF b qs).1) (e_call P1 ?k1 (a_cons (S1 := bx S i b) ?h1 (a_cons (S1 := bx S i b) ?h2 a_nil rfl) rfl) (F_law_given.mk hi hz4 hle20) ?g1 ?g2 ?g3) rfl)
    (fun j Γ' S' => ∃ o, Γ' = [some (.cel i), some (.lst (qs.map pr)), some (.bl k), o3, o4, o5, o6, o7, o8, o9, o10, o11, o12, some (.lst [enc u, enc v]), some (enc (qs.take j).sum), o, o16] ∧ S' = bx S i (givenF b qs).2) ⟨o15, ?z0, rfl⟩ ?turn ?done)
  case h1 => walk_at "ev"
  case h2 => walk_at "ev"
  case z0 =>
    have : enc (qs.take 0).sum = .int 0 := enc_int 0
    rw [this]
    rfl
  case done =>
    rintro Γ' S' ⟨o, rfl, rfl⟩
    rw [hdl, List.take_length]
    generalize bx S i (givenF b qs).2 = S2
    have hns2 : IsNs [enc u, enc v] [u, v] := .cons (isN_enc u) (.cons (isN_enc v) .nil)
    have hsm : Sml [u, v] := ⟨fun q hq => by
      rcases List.mem_cons.mp hq with z | z
      · rw [z]; exact hu
      · rw [List.mem_singleton] at z; rw [z]; exact hv, by show 2 ≤ 10; decide⟩
    have huv2 : [u, v].sum = qs.sum := by
      rw [List.sum_cons, List.sum_cons, List.sum_nil, ← huv]
      grind
    have hmt : Mt 3 (.lst [enc qs.sum, enc qs.sum]) (.lst [due qs.sum, due qs.sum]) := Mts.mt (.cons (Mt.num _) (.cons (Mt.num _) .nil)) (show 2 ≤ 100000 by decide)
    refine' ss_one (s_ret (d := .bl true) (S1 := S2) (e_call (ds := [.lst [enc qs.sum, enc qs.sum], .lst [due qs.sum, due qs.sum]]) P6 ?k5 (a_cons (S1 := S2) (e_lst (a_cons (S1 := S2) (e_is (d := enc [u, v].sum) (S1 := S2) ?t1 (by rw [huv2]) rfl) (a_cons (S1 := S2) ?t2 a_nil rfl) rfl) (show 2 ≤ 100000 by decide)) (a_cons (S1 := S2) (e_is (d := .lst (List.replicate (2 : Int).toNat [due qs.sum]).flatten) (S1 := S2) (e_bin (x := .lst [due qs.sum]) (y := .int 2) (S1 := S2) (e_lst (a_cons (S1 := S2) ?t3 a_nil rfl) (show 1 ≤ 100000 by decide)) ?t4 (br_rep rfl (by decide) (by decide) (show 1 * 2 ≤ 100000 by decide))) rfl rfl) a_nil rfl) rfl) ⟨_, _, rfl, rfl, rfl, hmt⟩ ?g5 ?g6 ?g7) ⟨rfl, .inl rfl⟩)
    case t1 =>
      refine e_call (ds := [.lst [enc u, enc v]]) (S1 := S2) P3 ?k6 (a_cons ?t5 a_nil rfl) (Ftotal.mk rfl hns2 hsm) ?g8 ?g9 ?g10
      case t5 => walk_at "ev"
      all_goals first | rfl | walk_at "ev"
    case t2 => walk_at "ev"
    case t3 => walk_at "ev"
    case t4 => walk_at "ev"
    all_goals first | rfl | walk_at "ev"
  case turn =>
    rintro j d Γ' S' hd ⟨o, rfl, rfl⟩
    generalize bx S i (givenF b qs).2 = S2
    obtain ⟨q, hq, hn⟩ := hns.get hd
    have hqm := List.mem_of_getElem? hq
    have hzq : Sz 3900 q := (hz q hqm).mono (by decide)
    have hzs : Sz 3900 (qs.take j).sum := (sz_sum fun p hp => hz p (List.mem_of_mem_take hp)).mono (by
      have : (qs.take j).length ≤ 8 := by rw [List.length_take]; omega
      omega)
    have hnx : (qs.take (j + 1)).sum = (qs.take j).sum + q := by rw [List.take_add_one, hq]; exact sum_snoc
    rw [hnx]
    generalize (qs.take j).sum = s at hzs ⊢
    have hi1 := isN_enc s
    refine' ss_one (s_set (i := 14) (d := enc (s + q)) (S1 := S2) rfl rfl rfl (e_if (k := k) (S1 := S2) ?c (fun hk => ?x) (fun hk => ?y)) ⟨some d, rfl, rfl⟩)
    case c => walk_at "ev"
    case x =>
      refine e_kw (ks := ["one", "other"]) (ds := [enc s, d]) P2 ?k7 (k_cons (S1 := S2) ?x1 (k_cons (S1 := S2) ?x2 k_nil)) (kw2 fun _ _ _ _ _ _ _ _ => rfl) (Fplus.mk hi1 hn hzs hzq) ?r1 ?r2 ?r3 ?r4 ?r5 ?r6
      case x1 => walk_at "ev"
      case x2 => walk_at "ev"
      all_goals first | rfl | (intros; rfl) | walk_at "ev"
    case y =>
      refine e_call (ds := [enc s, d]) (S1 := S2) P2 ?k8 (a_cons (S1 := S2) ?y1 (a_cons (S1 := S2) ?y2 a_nil rfl) rfl) (Fplus.mk hi1 hn hzs hzq) ?r7 ?r8 ?r9
      case y1 => walk_at "ev"
      case y2 => walk_at "ev"
      all_goals first | rfl | walk_at "ev"
  all_goals first | rfl | walk_at "ev"
end DL
/-! text: K19 -/
namespace DL
open PySem L2 QM
/-! the walker: one step by the syntax that stands there, then on; what it can't close stays -/
local macro_rules | `(tactic| walk_at "ev") => `(tactic| first
  | ((with_reducible show _ = _); first | rfl | assumption)
  | ((with_reducible show EvE _ _ _ _ _ _); first
      | ((with_reducible show EvE _ (.Name _ _) _ _ _ _); first
      | ((with_reducible refine' e_name ?_ ?_ ?_) <;> try walk_at "ev"))
      | ((with_reducible show EvE _ (.Constant _ _ _) _ _ _ _); first
      | (with_reducible exact e_int)
      | (with_reducible exact e_str)
      | (with_reducible exact e_bl)
      | (with_reducible exact e_non))
      | ((with_reducible show EvE _ (.Call _ _ _ _) _ _ _ _); first
      | walk_at "call"
      | ((with_reducible show EvE _ (.Call (.Name "isinstance" _) _ _ _) _ _ _ _); first
      | ((with_reducible refine' e_isInt (by assumption) ?_ ?_ ?_ ?_ ?_) <;> try walk_at "ev")
      | ((with_reducible refine' e_isBool (by assumption) ?_ ?_ ?_ ?_ ?_) <;> try walk_at "ev")
      | ((with_reducible refine' e_isRat (by assumption) ?_ ?_ ?_ ?_ ?_) <;> try walk_at "ev")
      | ((with_reducible refine' e_isStr (by assumption) ?_ ?_ ?_ ?_ ?_) <;> try walk_at "ev")
      | ((with_reducible refine' e_isList (by assumption) ?_ ?_ ?_ ?_ ?_) <;> try walk_at "ev")
      | ((with_reducible refine' e_isTup (by assumption) ?_ ?_ ?_ ?_ ?_) <;> try walk_at "ev")
      | ((with_reducible refine' e_isDict (by assumption) ?_ ?_ ?_ ?_ ?_) <;> try walk_at "ev")
      | ((with_reducible refine' e_isLT (by assumption) ?_ ?_ ?_ ?_ ?_ ?_) <;> try walk_at "ev"))
      | ((with_reducible refine' e_len (nm := "len") (by assumption) ?_ ?_ ?_ ?_) <;> try walk_at "ev")
      | ((with_reducible refine' e_abs (by assumption) ?_ ?_ ?_) <;> try walk_at "ev")
      | ((with_reducible refine' e_intI (by assumption) ?_ ?_ ?_) <;> try walk_at "ev")
      | ((with_reducible refine' e_list (by assumption) ?_ ?_ ?_ ?_) <;> try walk_at "ev")
      | ((with_reducible refine' e_tuple (by assumption) ?_ ?_ ?_ ?_) <;> try walk_at "ev")
      | ((with_reducible refine' e_gcd (by assumption) ?_ ?_ ?_ ?_ ?_) <;> try walk_at "ev")
      | ((with_reducible refine' e_max2 (by assumption) ?_ ?_ ?_ ?_ ?_) <;> try walk_at "ev")
      | ((with_reducible refine' e_min2 (by assumption) ?_ ?_ ?_ ?_ ?_) <;> try walk_at "ev"))
      | ((with_reducible show EvE _ (.BinOp _ _ _ _) _ _ _ _); first
      | ((with_reducible refine' e_bin ?_ ?_ ?_) <;> try walk_at "ev"))
      | ((with_reducible show EvE _ (.Subscript _ _ _) _ _ _ _); first
      | ((with_reducible refine' e_ix ?_ ?_ ?_ ?_ ?_) <;> try walk_at "ev"))
      | ((with_reducible show EvE _ (.Compare _ _ _ _) _ _ _ _); first
      | ((with_reducible refine' e_cmp ?_ ?_ ?_ ?_) <;> try walk_at "ev"))
      | ((with_reducible show EvE _ (.Attribute _ _ _) _ _ _ _); first
      | ((with_reducible refine' e_top (by assumption) ?_ ?_) <;> try walk_at "ev")
      | ((with_reducible refine' e_bottom (by assumption) ?_ ?_) <;> try walk_at "ev"))
      | ((with_reducible show EvE _ (.UnaryOp _ _ _) _ _ _ _); first
      | ((with_reducible refine' e_not ?_) <;> try walk_at "ev")
      | ((with_reducible refine' e_neg ?_) <;> try walk_at "ev"))
      | ((with_reducible show EvE _ (.Tuple _ _ _) _ _ _ _); first
      | ((with_reducible refine' e_tup ?_ ?_) <;> try walk_at "ev"))
      | ((with_reducible show EvE _ (.List _ _) _ _ _ _); first
      | ((with_reducible refine' e_lst ?_ ?_) <;> try walk_at "ev"))
      | ((with_reducible show EvE _ (.BoolOp _ _ _) _ _ _ _); first
      | ((with_reducible refine' e_one ?_) <;> try walk_at "ev")
      | ((with_reducible refine' e_and ?_ (fun _ => ?_)) <;> try walk_at "ev")
      | ((with_reducible refine' e_or ?_ (fun _ => ?_)) <;> try walk_at "ev"))
      | ((with_reducible show EvE _ (.IfExp _ _ _ _) _ _ _ _); first
      | ((with_reducible refine' e_if ?_ ?_ ?_) <;> first | walk_at "ev" | walk_at "way" | skip)))
  | exact Nat.le_of_ble_eq_true (by rfl)
  | ((with_reducible show EvT _ _ _ _ _ _); first
      | ((with_reducible refine' t_cmp ?_ ?_ ?_ ?_) <;> try walk_at "ev")
      | ((with_reducible refine' t_not ?_) <;> try walk_at "ev")
      | ((with_reducible refine' t_of (w_and ?_ (fun _ => ?_))) <;> try walk_at "ev")
      | ((with_reducible refine' t_of (w_or ?_ (fun _ => ?_))) <;> try walk_at "ev")
      | ((with_reducible refine' t_val ?_ ?_) <;> try walk_at "ev"))
  | ((with_reducible show EvA _ _ _ _ _ _); first
      | ((with_reducible refine' a_cons ?_ ?_ ?_) <;> try walk_at "ev")
      | (with_reducible exact a_nil))
  | ((with_reducible show BinR _ _ _ _ _ _); first
      | (with_reducible exact br_add)
      | (with_reducible exact br_sub)
      | ((with_reducible refine' br_mul ?_) <;> try walk_at "sz")
      | walk_at "br")
  | ((with_reducible show CmpR _ _ _ _ _ _); first
      | (with_reducible exact cr_lt)
      | (with_reducible exact cr_le)
      | (with_reducible exact cr_gt)
      | (with_reducible exact cr_ge)
      | (with_reducible exact cr_eqI)
      | (with_reducible exact cr_neI)
      | (with_reducible exact cr_isN)
      | (with_reducible exact cr_isB)
      | (with_reducible exact cr_eqB)
      | (with_reducible exact cr_eqS)
      | walk_at "cr")
  | ((with_reducible show EvW _ _ _ _ _ _); first
      | ((with_reducible refine' w_and1 ?_) <;> try walk_at "ev")
      | ((with_reducible refine' w_or1 ?_) <;> try walk_at "ev")
      | ((with_reducible refine' w_and ?_ (fun _ => ?_)) <;> try walk_at "ev")
      | ((with_reducible refine' w_or ?_ (fun _ => ?_)) <;> try walk_at "ev"))
  | ((with_reducible show EvK _ _ _ _ _ _); first
      | ((with_reducible refine' k_cons ?_ ?_) <;> try walk_at "ev")
      | (with_reducible exact k_nil))
  | ((with_reducible show Tgt _ _ _); first
      | ((with_reducible refine' Tgt.cons ?_ ?_ ?_ ?_) <;> try walk_at "ev")
      | (with_reducible exact Tgt.nil))
  | walk_at "side"
  | (intros; rfl))
local macro_rules | `(tactic| walk_at "side") => `(tactic| fail)
local macro_rules | `(tactic| walk_at "br") => `(tactic| fail)
local macro_rules | `(tactic| walk_at "cr") => `(tactic| fail)
local macro_rules | `(tactic| walk_at "call") => `(tactic| fail)
local macro_rules | `(tactic| walk_at "way") => `(tactic| first | exact fun z => Bool.noConfusion (show false = true from z) | exact fun z => Bool.noConfusion (show true = false from z) | (intro _; walk_at "ev"))
local macro_rules | `(tactic| walk_at "sz") => `(tactic| assumption)

local macro_rules | `(tactic| walk_at "side") => `(tactic| ((with_reducible show IsN _ _); first | assumption | exact isN_enc _ | exact IsN.int _))
local macro_rules | `(tactic| walk_at "side") => `(tactic| ((with_reducible show _ ≠ _); assumption))
local macro_rules | `(tactic| walk_at "side") => `(tactic| ((with_reducible show (_ : Nat) < _); assumption))
local macro_rules | `(tactic| walk_at "side") => `(tactic| ((with_reducible show Sz _ _); assumption))
local macro_rules | `(tactic| walk_at "side") => `(tactic| ((with_reducible show IsNs _ _); assumption))
local macro_rules | `(tactic| walk_at "side") => `(tactic| ((with_reducible show Sml _); assumption))

local macro_rules | `(tactic| walk_at "side") => `(tactic| ((with_reducible show (_ : Int) < _); first | assumption | decide))
local macro_rules | `(tactic| walk_at "side") => `(tactic| ((with_reducible show ∀ _, _); assumption))
local macro_rules | `(tactic| walk_at "side") => `(tactic| ((with_reducible show (_ : Nat) ≤ _); assumption))
local macro_rules | `(tactic| walk_at "call") => `(tactic| ((with_reducible refine' e_call (by assumption : DefP _ "_law_take" _ _ _ _) ?_ ?_ (F_law_take.mk ?_ ?_ ?_) ?_ ?_ ?_) <;> try walk_at "ev"))
local macro_rules | `(tactic| walk_at "call") => `(tactic| ((with_reducible refine' e_call (by assumption : DefP _ "_law_small" _ _ _ _) ?_ ?_ (F_law_small.mk ?_) ?_ ?_ ?_) <;> try walk_at "ev"))
local macro_rules | `(tactic| walk_at "call") => `(tactic| ((with_reducible refine' e_call (by assumption : DefP _ "_law_plus" _ _ _ _) ?_ ?_ (F_law_plus.mk ?_ ?_) ?_ ?_ ?_) <;> try walk_at "ev"))
local macro_rules | `(tactic| walk_at "call") => `(tactic| ((with_reducible refine' e_call (by assumption : DefP _ "_law_times" _ _ _ _) ?_ ?_ (F_law_times.mk ?_ ?_) ?_ ?_ ?_) <;> try walk_at "ev"))
local macro_rules | `(tactic| walk_at "call") => `(tactic| ((with_reducible refine' e_call (by assumption : DefP _ "_law_num" _ _ _ _) ?_ ?_ (F_law_num.mk) ?_ ?_ ?_) <;> try walk_at "ev"))
local macro_rules | `(tactic| walk_at "call") => `(tactic| ((with_reducible refine' e_call (by assumption : DefP _ "_law_sum" _ _ _ _) ?_ ?_ (F_law_sum.mk ?_ ?_) ?_ ?_ ?_) <;> try walk_at "ev"))
local macro_rules | `(tactic| walk_at "call") => `(tactic| ((with_reducible refine' e_call (by assumption : DefP _ "_law_sides" _ _ _ _) ?_ ?_ (F_law_sides.mk ?_ ?_) ?_ ?_ ?_) <;> try walk_at "ev"))
local macro_rules | `(tactic| walk_at "call") => `(tactic| ((with_reducible refine' e_call (by assumption : DefP _ "_law_give" _ _ _ _) ?_ ?_ (F_law_give.mk ?_ ?_) ?_ ?_ ?_) <;> try walk_at "ev"))
theorem s_setLcP {Y : Ctx} {Γ : Gam} {S S1 : Store} {ds res : List D} {E : DE} {i j : Nat} {nm nm1 : Str} {py p1 p2 pos : Pos} {iter elt : Expr} {scope : Scope} (hsl : slot Y.N nm = some i) (hl : onlyL Y.sc nm = true)
    (hsw : ∀ env : Env, env.scope = Y.sc → swapsWith (.ListComp elt [⟨.Name nm1 p1, iter, [], 0⟩] scope p2) (some (.Name nm py)) pos.line env = pure true) (hi : EvI Y (.Name nm1 p1) iter Γ S ds S1) (hj : slot Y.N nm1 = some j) (hl1 : locB (relS scope Y.sc) nm1 = true) (hf : fnlB (blkY Y scope) nm1 = true) (hb : blkC Y.N Y.sc scope [(nm1, j)] = true)
    (hlen : res.length = ds.length) (hs : ∀ (i : Nat) d y, ds[i]? = some d → res[i]? = some y → EvE (blkY Y scope) elt ((Γ.set j none).set j (some d)) S1 y S1) (hz : ds.length ≤ 100000) (hn : E.nx (Γ.set i (some (.lst res))) S1) (hst : noSetB iter = true := by rfl) :
    EvS Y (.Assign [.Name nm py] (.ListComp elt [⟨.Name nm1 p1, iter, [], 0⟩] scope p2) pos) Γ S E := by
  refine s_setLc [(nm1, j)] hsl hl hsw hi (g_name hj hl1 hf) (fun _ _ => trivial) (fun k hk => by simpa using hk) hb (fun i acc S' => acc = res.take i ∧ S' = S1) ⟨rfl, rfl⟩ (fun i d acc S' hd ⟨h1, h2⟩ => ?_) (fun acc S' ⟨h1, h2⟩ => ⟨by rw [h1, ← hlen, List.take_length], h2⟩) hz hn hst
  subst h2
  have hil : i < res.length := by rw [hlen]; exact (List.getElem?_eq_some_iff.mp hd).1
  have hy : res[i]? = some res[i] := List.getElem?_eq_getElem hil
  refine ⟨true, S', .no, fun _ => ⟨res[i], S', hs i d _ hd hy, ?_, rfl⟩, fun z => nomatch z⟩
  rw [h1, List.take_succ, hy]
  rfl
def gvL (b : Bx) (L : List (List Rat)) : Bx := L.foldl (fun b l => (givenF b l).2) b
theorem cut_from {α : Type} {l : List α} {c : Nat} (h : c ≤ l.length) : cutD l (some (c : Int)) none = l.drop c := by
  unfold cutD
  rw [HT.sIx_nat, HT.sIx_none, Nat.min_eq_left h, List.take_of_length_le (by simp)]
theorem cut_to {α : Type} {l : List α} {c : Nat} (h : c ≤ l.length) : cutD l none (some (c : Int)) = l.take c := by
  unfold cutD
  rw [HT.sIx_nat, HT.sIx_none, Nat.min_eq_left h, List.drop_zero, Nat.sub_zero]
def lrC (b : Bx) (qs : List Rat) : Bx := (givenF (gvL (take b ((qs.length : Int) + 1)).2 [qs.drop (take b ((qs.length : Int) + 1)).1.toNat, qs.take (take b ((qs.length : Int) + 1)).1.toNat]) qs).2
/-- the parts, behind them the end -/
theorem lr_C {B : Bs} (F : Dfs B) {S : Store} {i n : Nat} {b : Bx} {qs : List Rat} {k : Bool} (hi : i < S.length) (hz : ∀ q ∈ qs, Sz 80 q) (hle : qs.length ≤ 8) (o3 o4 o5 o6 o7 o8 o9 o10 o11 o12 o13 o14 o15 o16 : Option D) :
    EvSs (Ylr B) (lrB 8) [some (.cel i), some (.lst (qs.map pr)), some (.bl k), o3, o4, o5, o6, o7, o8, o9, o10, o11, o12, o13, o14, o15, o16] (bx S i b) (bodyE n (.bl true) (bx S i (lrC b qs))) := by
  have T := F.txt
  have P1 := F.given
  have P2 := F.take
  have P3 := F.total
  have m0 : (0 : Int) < (qs.length : Int) + 1 := by omega
  have ml : ((qs.length : Int) + 1).natAbs.log2 < 9000 := lg (n := 10) (by omega) (by decide) (by decide)
  have rg := take_range (b := b) m0
  obtain ⟨c, hc⟩ : ∃ c : Nat, (take b ((qs.length : Int) + 1)).1 = (c : Int) := ⟨_, (Int.toNat_of_nonneg rg.1).symm⟩
  have hcl : c ≤ qs.length := by omega
  have hcl2 : c ≤ (qs.map pr).length := by rw [List.length_map]; exact hcl
  refine' ss_cons (s_set (i := 12) (d := .int (c : Int)) (S1 := bx S i (take b ((qs.length : Int) + 1)).2) rfl rfl rfl (e_is (e_call (ds := [.cel i, .int ((qs.length : Int) + 1)]) (S1 := bx S i b) P2 ?k1 (a_cons (S1 := bx S i b) ?h1 (a_cons (S1 := bx S i b) (e_is (d := .int (((qs.map pr).length : Int) + 1)) (S1 := bx S i b) (e_bin (S1 := bx S i b) (e_len (nm := "len") (ds := qs.map pr) (x := .lst (qs.map pr)) T ?h2 rfl ?g1 ?g2) ?h3 br_add) (by rw [List.length_map]) rfl) a_nil rfl) rfl) (F_law_take.mk hi m0 ml) ?g3 ?g4 ?g5) (by rw [hc]) rfl) ?n1)
  case h1 => walk_at "ev"
  case h2 => walk_at "ev"
  case h3 => walk_at "ev"
  case k1 | g1 | g2 | g3 | g4 | g5 => first | rfl | walk_at "ev"
  case n1 =>
  have hd1 : lrC b qs = (givenF (gvL (take b ((qs.length : Int) + 1)).2 [qs.drop c, qs.take c]) qs).2 := by
    unfold lrC
    rw [hc, Int.toNat_natCast]
  rw [hd1]
  generalize (take b ((qs.length : Int) + 1)).2 = b1
  have hL : ∀ l ∈ [qs.drop c, qs.take c], (∀ q ∈ l, Sz 80 q) ∧ l.length ≤ 8 := by
    intro l hl
    rcases List.mem_cons.mp hl with z | z
    · rw [z]; exact ⟨fun q hq => hz q (List.mem_of_mem_drop hq), by rw [List.length_drop]; omega⟩
    · rw [List.mem_singleton] at z
      rw [z]; exact ⟨fun q hq => hz q (List.mem_of_mem_take hq), by rw [List.length_take]; omega⟩
  generalize hLL : [qs.drop c, qs.take c] = L at hL
  refine' ss_cons (s_setLc (ds := L.map fun l => .lst (l.map pr)) (S1 := bx S i b1) (res := L.map fun l => enc l.sum) (Se := bx S i (gvL b1 L)) (i := 13) [("some", 7)] rfl rfl (fun env he => by cases env; cases he; rfl) (i_seq (x := .tup (L.map fun l => .lst (l.map pr))) ?it rfl) (g_name (i := 7) rfl rfl rfl) (fun _ _ => trivial) (fun k hk => by simpa using hk) rfl
    (fun j acc S' => acc = (L.take j).map (fun l => enc l.sum) ∧ S' = bx S i (gvL b1 (L.take j))) ⟨rfl, rfl⟩ ?turn ?done ?zz ?n2)
  case it =>
    subst hLL
    refine e_tup (ds := [.lst ((qs.drop c).map pr), .lst ((qs.take c).map pr)]) (a_cons (S1 := bx S i b1) (e_is (e_sliceL (i := some (c : Int)) (j := none) (ds := qs.map pr) (x := .lst (qs.map pr)) ?e1 (.so ?e2) .no rfl) (by rw [cut_from hcl2, List.map_drop]) rfl) (a_cons (S1 := bx S i b1) (e_is (e_sliceL (i := none) (j := some (c : Int)) (ds := qs.map pr) (x := .lst (qs.map pr)) ?e3 .no (.so ?e4) rfl) (by rw [cut_to hcl2, List.map_take]) rfl) a_nil rfl) rfl) (show 2 ≤ 100000 by decide)
    case e1 => walk_at "ev"
    case e2 => walk_at "ev"
    case e3 => walk_at "ev"
    case e4 => walk_at "ev"
  case turn =>
    rintro j d acc S' hd ⟨rfl, rfl⟩
    rw [List.getElem?_map] at hd
    cases e1 : L[j]? with
    | none => rw [e1] at hd; cases hd
    | some l =>
      rw [e1] at hd
      cases hd
      obtain ⟨hzl, hll⟩ := hL l (List.mem_of_getElem? e1)
      have hz4 : ∀ q ∈ l, Sz 400 q := fun q hq => (hzl q hq).mono (by decide)
      have hl20 : l.length ≤ 20 := by omega
      have hns := given_isNs (gvL b1 (L.take j)) l
      have hsm : Sml l := ⟨fun q hq => (hzl q hq).mono (by decide), by omega⟩
      have hnx : gvL b1 (L.take (j + 1)) = (givenF (gvL b1 (L.take j)) l).2 := by
        unfold gvL
        rw [List.take_add_one, e1, List.foldl_append]
        rfl
      refine ⟨true, _, .no, fun _ => ⟨enc l.sum, bx S i (givenF (gvL b1 (L.take j)) l).2, ?_, ?_, by rw [hnx]⟩, fun z => nomatch z⟩
      · refine e_call (ds := [.lst (givenF (gvL b1 (L.take j)) l).1]) (S1 := bx S i (givenF (gvL b1 (L.take j)) l).2) P3 ?k4 (a_cons (e_list (x := .tup (givenF (gvL b1 (L.take j)) l).1) T (e_call (ds := [.cel i, .lst (l.map pr)]) (S1 := bx S i (gvL b1 (L.take j))) P1 ?k5 (a_cons (S1 := bx S i (gvL b1 (L.take j))) ?t1 (a_cons (S1 := bx S i (gvL b1 (L.take j))) ?t2 a_nil rfl) rfl) (F_law_given.mk hi hz4 hl20) ?r1 ?r2 ?r3) rfl ?r4 ?r5) a_nil rfl) (Ftotal.mk rfl hns hsm) ?r6 ?r7 ?r8
        case t1 => walk_at "ev"
        case t2 => walk_at "ev"
        all_goals first | rfl | walk_at "ev"
      · rw [List.take_add_one, e1, List.map_append]
        rfl
  case done =>
    rintro acc S' ⟨rfl, rfl⟩
    rw [List.length_map, List.take_length]
    exact ⟨rfl, rfl⟩
  case zz =>
    subst hLL
    show 2 ≤ 100000
    decide
  case n2 =>
    subst hLL
    have hs1 : ∀ l ∈ [qs.drop c, qs.take c], Sz 800 l.sum := fun l hl => (sz_sum (hL l hl).1).mono (by have := (hL l hl).2; omega)
    exact lr_D F hi hz hle (hs1 _ (by simp)) (hs1 _ (by simp)) (sum_cut qs c) o3 o4 o5 o6 o7 o8 o9 o10 o11 (some (.int (c : Int))) o14 o15 o16
  all_goals first | rfl | walk_at "ev"
end DL
/-! text: K20 -/
namespace DL
open PySem L2 QM
/-! the walker: one step by the syntax that stands there, then on; what it can't close stays -/
local macro_rules | `(tactic| walk_at "ev") => `(tactic| first
  | ((with_reducible show _ = _); first | rfl | assumption)
  | ((with_reducible show EvE _ _ _ _ _ _); first
      | ((with_reducible show EvE _ (.Name _ _) _ _ _ _); first
      | ((with_reducible refine' e_name ?_ ?_ ?_) <;> try walk_at "ev"))
      | ((with_reducible show EvE _ (.Constant _ _ _) _ _ _ _); first
      | (with_reducible exact e_int)
      | (with_reducible exact e_str)
      | (with_reducible exact e_bl)
      | (with_reducible exact e_non))
      | ((with_reducible show EvE _ (.Call _ _ _ _) _ _ _ _); first
      | walk_at "call"
      | ((with_reducible show EvE _ (.Call (.Name "isinstance" _) _ _ _) _ _ _ _); first
      | ((with_reducible refine' e_isInt (by assumption) ?_ ?_ ?_ ?_ ?_) <;> try walk_at "ev")
      | ((with_reducible refine' e_isBool (by assumption) ?_ ?_ ?_ ?_ ?_) <;> try walk_at "ev")
      | ((with_reducible refine' e_isRat (by assumption) ?_ ?_ ?_ ?_ ?_) <;> try walk_at "ev")
      | ((with_reducible refine' e_isStr (by assumption) ?_ ?_ ?_ ?_ ?_) <;> try walk_at "ev")
      | ((with_reducible refine' e_isList (by assumption) ?_ ?_ ?_ ?_ ?_) <;> try walk_at "ev")
      | ((with_reducible refine' e_isTup (by assumption) ?_ ?_ ?_ ?_ ?_) <;> try walk_at "ev")
      | ((with_reducible refine' e_isDict (by assumption) ?_ ?_ ?_ ?_ ?_) <;> try walk_at "ev")
      | ((with_reducible refine' e_isLT (by assumption) ?_ ?_ ?_ ?_ ?_ ?_) <;> try walk_at "ev"))
      | ((with_reducible refine' e_len (nm := "len") (by assumption) ?_ ?_ ?_ ?_) <;> try walk_at "ev")
      | ((with_reducible refine' e_abs (by assumption) ?_ ?_ ?_) <;> try walk_at "ev")
      | ((with_reducible refine' e_intI (by assumption) ?_ ?_ ?_) <;> try walk_at "ev")
      | ((with_reducible refine' e_list (by assumption) ?_ ?_ ?_ ?_) <;> try walk_at "ev")
      | ((with_reducible refine' e_tuple (by assumption) ?_ ?_ ?_ ?_) <;> try walk_at "ev")
      | ((with_reducible refine' e_gcd (by assumption) ?_ ?_ ?_ ?_ ?_) <;> try walk_at "ev")
      | ((with_reducible refine' e_max2 (by assumption) ?_ ?_ ?_ ?_ ?_) <;> try walk_at "ev")
      | ((with_reducible refine' e_min2 (by assumption) ?_ ?_ ?_ ?_ ?_) <;> try walk_at "ev"))
      | ((with_reducible show EvE _ (.BinOp _ _ _ _) _ _ _ _); first
      | ((with_reducible refine' e_bin ?_ ?_ ?_) <;> try walk_at "ev"))
      | ((with_reducible show EvE _ (.Subscript _ _ _) _ _ _ _); first
      | ((with_reducible refine' e_ix ?_ ?_ ?_ ?_ ?_) <;> try walk_at "ev"))
      | ((with_reducible show EvE _ (.Compare _ _ _ _) _ _ _ _); first
      | ((with_reducible refine' e_cmp ?_ ?_ ?_ ?_) <;> try walk_at "ev"))
      | ((with_reducible show EvE _ (.Attribute _ _ _) _ _ _ _); first
      | ((with_reducible refine' e_top (by assumption) ?_ ?_) <;> try walk_at "ev")
      | ((with_reducible refine' e_bottom (by assumption) ?_ ?_) <;> try walk_at "ev"))
      | ((with_reducible show EvE _ (.UnaryOp _ _ _) _ _ _ _); first
      | ((with_reducible refine' e_not ?_) <;> try walk_at "ev")
      | ((with_reducible refine' e_neg ?_) <;> try walk_at "ev"))
      | ((with_reducible show EvE _ (.Tuple _ _ _) _ _ _ _); first
      | ((with_reducible refine' e_tup ?_ ?_) <;> try walk_at "ev"))
      | ((with_reducible show EvE _ (.List _ _) _ _ _ _); first
      | ((with_reducible refine' e_lst ?_ ?_) <;> try walk_at "ev"))
      | ((with_reducible show EvE _ (.BoolOp _ _ _) _ _ _ _); first
      | ((with_reducible refine' e_one ?_) <;> try walk_at "ev")
      | ((with_reducible refine' e_and ?_ (fun _ => ?_)) <;> try walk_at "ev")
      | ((with_reducible refine' e_or ?_ (fun _ => ?_)) <;> try walk_at "ev"))
      | ((with_reducible show EvE _ (.IfExp _ _ _ _) _ _ _ _); first
      | ((with_reducible refine' e_if ?_ ?_ ?_) <;> first | walk_at "ev" | walk_at "way" | skip)))
  | exact Nat.le_of_ble_eq_true (by rfl)
  | ((with_reducible show EvT _ _ _ _ _ _); first
      | ((with_reducible refine' t_cmp ?_ ?_ ?_ ?_) <;> try walk_at "ev")
      | ((with_reducible refine' t_not ?_) <;> try walk_at "ev")
      | ((with_reducible refine' t_of (w_and ?_ (fun _ => ?_))) <;> try walk_at "ev")
      | ((with_reducible refine' t_of (w_or ?_ (fun _ => ?_))) <;> try walk_at "ev")
      | ((with_reducible refine' t_val ?_ ?_) <;> try walk_at "ev"))
  | ((with_reducible show EvA _ _ _ _ _ _); first
      | ((with_reducible refine' a_cons ?_ ?_ ?_) <;> try walk_at "ev")
      | (with_reducible exact a_nil))
  | ((with_reducible show BinR _ _ _ _ _ _); first
      | (with_reducible exact br_add)
      | (with_reducible exact br_sub)
      | ((with_reducible refine' br_mul ?_) <;> try walk_at "sz")
      | walk_at "br")
  | ((with_reducible show CmpR _ _ _ _ _ _); first
      | (with_reducible exact cr_lt)
      | (with_reducible exact cr_le)
      | (with_reducible exact cr_gt)
      | (with_reducible exact cr_ge)
      | (with_reducible exact cr_eqI)
      | (with_reducible exact cr_neI)
      | (with_reducible exact cr_isN)
      | (with_reducible exact cr_isB)
      | (with_reducible exact cr_eqB)
      | (with_reducible exact cr_eqS)
      | walk_at "cr")
  | ((with_reducible show EvW _ _ _ _ _ _); first
      | ((with_reducible refine' w_and1 ?_) <;> try walk_at "ev")
      | ((with_reducible refine' w_or1 ?_) <;> try walk_at "ev")
      | ((with_reducible refine' w_and ?_ (fun _ => ?_)) <;> try walk_at "ev")
      | ((with_reducible refine' w_or ?_ (fun _ => ?_)) <;> try walk_at "ev"))
  | ((with_reducible show EvK _ _ _ _ _ _); first
      | ((with_reducible refine' k_cons ?_ ?_) <;> try walk_at "ev")
      | (with_reducible exact k_nil))
  | ((with_reducible show Tgt _ _ _); first
      | ((with_reducible refine' Tgt.cons ?_ ?_ ?_ ?_) <;> try walk_at "ev")
      | (with_reducible exact Tgt.nil))
  | walk_at "side"
  | (intros; rfl))
local macro_rules | `(tactic| walk_at "side") => `(tactic| fail)
local macro_rules | `(tactic| walk_at "br") => `(tactic| fail)
local macro_rules | `(tactic| walk_at "cr") => `(tactic| fail)
local macro_rules | `(tactic| walk_at "call") => `(tactic| fail)
local macro_rules | `(tactic| walk_at "way") => `(tactic| first | exact fun z => Bool.noConfusion (show false = true from z) | exact fun z => Bool.noConfusion (show true = false from z) | (intro _; walk_at "ev"))
local macro_rules | `(tactic| walk_at "sz") => `(tactic| assumption)

local macro_rules | `(tactic| walk_at "side") => `(tactic| ((with_reducible show IsN _ _); first | assumption | exact isN_enc _ | exact IsN.int _))
local macro_rules | `(tactic| walk_at "side") => `(tactic| ((with_reducible show _ ≠ _); assumption))
local macro_rules | `(tactic| walk_at "side") => `(tactic| ((with_reducible show (_ : Nat) < _); assumption))
local macro_rules | `(tactic| walk_at "side") => `(tactic| ((with_reducible show Sz _ _); assumption))
local macro_rules | `(tactic| walk_at "side") => `(tactic| ((with_reducible show IsNs _ _); assumption))
local macro_rules | `(tactic| walk_at "side") => `(tactic| ((with_reducible show Sml _); assumption))

local macro_rules | `(tactic| walk_at "side") => `(tactic| ((with_reducible show (_ : Int) < _); first | assumption | decide))
local macro_rules | `(tactic| walk_at "side") => `(tactic| ((with_reducible show ∀ _, _); assumption))
local macro_rules | `(tactic| walk_at "side") => `(tactic| ((with_reducible show (_ : Nat) ≤ _); assumption))
local macro_rules | `(tactic| walk_at "call") => `(tactic| ((with_reducible refine' e_call (by assumption : DefP _ "_law_take" _ _ _ _) ?_ ?_ (F_law_take.mk ?_ ?_ ?_) ?_ ?_ ?_) <;> try walk_at "ev"))
local macro_rules | `(tactic| walk_at "call") => `(tactic| ((with_reducible refine' e_call (by assumption : DefP _ "_law_small" _ _ _ _) ?_ ?_ (F_law_small.mk ?_) ?_ ?_ ?_) <;> try walk_at "ev"))
local macro_rules | `(tactic| walk_at "call") => `(tactic| ((with_reducible refine' e_call (by assumption : DefP _ "_law_plus" _ _ _ _) ?_ ?_ (F_law_plus.mk ?_ ?_) ?_ ?_ ?_) <;> try walk_at "ev"))
local macro_rules | `(tactic| walk_at "call") => `(tactic| ((with_reducible refine' e_call (by assumption : DefP _ "_law_times" _ _ _ _) ?_ ?_ (F_law_times.mk ?_ ?_) ?_ ?_ ?_) <;> try walk_at "ev"))
local macro_rules | `(tactic| walk_at "call") => `(tactic| ((with_reducible refine' e_call (by assumption : DefP _ "_law_num" _ _ _ _) ?_ ?_ (F_law_num.mk) ?_ ?_ ?_) <;> try walk_at "ev"))
local macro_rules | `(tactic| walk_at "call") => `(tactic| ((with_reducible refine' e_call (by assumption : DefP _ "_law_sum" _ _ _ _) ?_ ?_ (F_law_sum.mk ?_ ?_) ?_ ?_ ?_) <;> try walk_at "ev"))
local macro_rules | `(tactic| walk_at "call") => `(tactic| ((with_reducible refine' e_call (by assumption : DefP _ "_law_sides" _ _ _ _) ?_ ?_ (F_law_sides.mk ?_ ?_) ?_ ?_ ?_) <;> try walk_at "ev"))
local macro_rules | `(tactic| walk_at "call") => `(tactic| ((with_reducible refine' e_call (by assumption : DefP _ "_law_give" _ _ _ _) ?_ ?_ (F_law_give.mk ?_ ?_) ?_ ?_ ?_) <;> try walk_at "ev"))
/-- [_law_num(x) for x in _law_sides(l)] -/
theorem e_dues {Y : Ctx} {Γ : Gam} {S : Store} {B : Bs} {l : List Rat} {nm1 : Str} {p1 p2 p3 p4 p5 p6 pos : Pos} {a : Expr} {scope : Scope} {j : Nat} (F : Dfs Y.B) (hk : 2 ≤ Y.k) (ha : EvE Y a Γ S (.lst (l.map pr)) S) (hz : ∀ q ∈ l, Sz 400 q) (hle : l.length ≤ 20)
    (hg : glB Y.sc "_law_sides" = true) (hg2 : glB (blkY Y scope).sc "_law_num" = true) (hp : plainB a = true) (hj : slot Y.N nm1 = some j) (hl1 : locB (relS scope Y.sc) nm1 = true) (hv : visB (relS scope Y.sc) nm1 = true) (hf : fnlB (blkY Y scope) nm1 = true) (hb : blkC Y.N Y.sc scope [(nm1, j)] = true) (hjl : j < Γ.length) :
    EvE Y (.ListComp (.Call (.Name "_law_num" p1) [.Name nm1 p2] [] p3) [⟨.Name nm1 p4, .Call (.Name "_law_sides" p5) [a] [] p6, [], 0⟩] scope pos) Γ S (.lst ((asc l).map due)) S := by
  have P1 := F.sides
  have P2 := F.num
  have := asc_len l
  refine e_lcP (ds := (asc l).map pr) (S1 := S) (j := j) (i_seq (x := .lst ((asc l).map pr)) (e_call (ds := [.lst (l.map pr)]) (S1 := S) P1 hk (a_cons ha a_nil hp) (F_law_sides.mk hz hle) hg rfl (by simp [hp])) rfl) hj hl1 hf hb (by simp) ?turn (by rw [List.length_map]; omega)
  intro i d y hd hy
  rw [List.getElem?_map] at hd hy
  cases e1 : (asc l)[i]? with
  | none => rw [e1] at hd; cases hd
  | some q =>
    rw [e1] at hd hy
    cases hd
    cases hy
    refine e_call (Y := blkY Y scope) (ds := [pr q]) (S1 := S) P2 (show 1 ≤ Y.k by omega) (a_cons (S1 := S) (e_name hj hv (by rw [List.getElem?_set_self (by rw [List.length_set]; exact hjl)])) a_nil rfl) F_law_num.mk hg2 rfl rfl
def lrB1 (b : Bx) (qs : List Rat) (m f : Rat) : Bx := (giveF (giveF (allF b qs) f).2 m).2
/-- the told ones moved and scaled -/
theorem lr_B {B : Bs} (F : Dfs B) {S : Store} {i n : Nat} {b : Bx} {qs : List Rat} {k : Bool} {m f : Rat} (hi : i < S.length) (hn : nocS S) (hz : ∀ q ∈ qs, Sz 70 q) (hle : qs.length ≤ 8) (h0 : qs ≠ []) (hm : Sz 5 m) (hf : Sz 5 f) (hf0 : f ≠ 0) (o7 o8 o9 o10 o11 o12 o13 o14 o15 o16 : Option D) :
    EvSs (Ylr B) (lrB 4) [some (.cel i), some (.lst (qs.map pr)), some (.bl k), some (pr m), some (pr f), some (.lst ((qs.map (· + m)).map pr)), some (.lst ((qs.map (· * f)).map pr)), o7, o8, o9, o10, o11, o12, o13, o14, o15, o16] (bx S i b) (bodyE n (.bl true) (bx S i (lrC (lrB1 b qs m f) qs))) := by
  have T := F.txt
  have P1 := F.all
  have P2 := F.give
  have P3 := F.times
  have P4 := F.plus
  have P5 := F.num
  have P6 := F.sum
  have P7 := F.is 3
  have hz80 : ∀ q ∈ qs, Sz 80 q := fun q hq => (hz q hq).mono (by decide)
  have hz15 : ∀ q ∈ qs, Sz 150 q := fun q hq => (hz q hq).mono (by decide)
  have hle10 : qs.length ≤ 10 := by omega
  have hm4 : Sz 400 m := hm.mono (by decide)
  have hf4 : Sz 400 f := hf.mono (by decide)
  have hal := asc_len qs
  refine' ss_cons (s_unp2 (is := [8, 9, 10]) (ds := [toldL qs, (giveF (allF b qs) f).1, (giveF (giveF (allF b qs) f).2 m).1]) (S1 := bx S i (lrB1 b qs m f)) ?tg (e_tup ?a (show 3 ≤ 100000 by decide)) rfl ?n1 ?w rfl)
  case tg => walk_at "ev"
  case w => exact fun env he => by cases env; cases he; rfl
  case a =>
    refine a_cons (S1 := bx S i (allF b qs)) (e_call (ds := [.cel i, .lst (qs.map pr), .bl k]) (S1 := bx S i b) P1 ?k1 (a_cons (S1 := bx S i b) ?h1 (a_cons (S1 := bx S i b) ?h2 (a_cons (S1 := bx S i b) ?h3 a_nil rfl) rfl) rfl) (F_law_all.mk hi hn hz15 hle10 h0) ?g1 ?g2 ?g3)
      (a_cons (S1 := bx S i (giveF (allF b qs) f).2) ?h4 (a_cons (S1 := bx S i (lrB1 b qs m f)) ?h5 a_nil rfl) rfl) rfl
    case h1 => walk_at "ev"
    case h2 => walk_at "ev"
    case h3 => walk_at "ev"
    case h4 => walk_at "ev"
    case h5 =>
      unfold lrB1
      walk_at "ev"
    all_goals first | rfl | walk_at "ev"
  case n1 =>
  have iby := giveF_isN (allF b qs) f
  have iown := giveF_isN (giveF (allF b qs) f).2 m
  generalize (giveF (allF b qs) f).1 = byD at iby ⊢
  generalize (giveF (giveF (allF b qs) f).2 m).1 = ownD at iown ⊢
  generalize hb2 : lrB1 b qs m f = b2
  have szs : ∀ p ∈ asc qs, Sz 3900 p := fun p hp => (hz p (asc_mem.mp hp)).mono (by decide)
  have szm : Sz 3900 m := hm.mono (by decide)
  have szf : Sz 3900 f := hf.mono (by decide)
  have hsc : ∀ q ∈ qs.map (· * f), Sz 400 q := fun q hq => by
    obtain ⟨p, hp, rfl⟩ := List.mem_map.mp hq
    exact (sz_mul (hz p hp) hf).mono (by decide)
  have hsc15 : ∀ q ∈ qs.map (· * f), Sz 150 q := fun q hq => by
    obtain ⟨p, hp, rfl⟩ := List.mem_map.mp hq
    exact (sz_mul (hz p hp) hf).mono (by decide)
  have hsh : ∀ q ∈ qs.map (· + m), Sz 400 q := fun q hq => by
    obtain ⟨p, hp, rfl⟩ := List.mem_map.mp hq
    exact (sz_add (hz p hp) hm).mono (by decide)
  have hl1 : (qs.map (· * f)).length ≤ 20 := by rw [List.length_map]; omega
  have hl2 : (qs.map (· + m)).length ≤ 20 := by rw [List.length_map]; omega
  have aat : atI ([enc qs.sum, enc (mn qs), enc (mx qs), .lst ((asc qs).map enc)] : List D) 3 = some (.lst ((asc qs).map enc)) := rfl
  -- sides
  refine' ss_cons (s_setLcP (ds := (asc qs).map enc) (res := (asc qs).map fun p => enc (p * f)) (S1 := bx S i b2) (i := 11) (j := 16) rfl rfl (fun env he => by cases env; cases he; rfl) (i_seq (x := .lst ((asc qs).map enc)) (e_ix (x := toldL qs) (S1 := bx S i b2) ?i1 ?i2 rfl aat rfl) rfl) rfl rfl rfl rfl (by simp) ?turn (by rw [List.length_map]; omega) ?n2)
  case i1 => walk_at "ev"
  case i2 => walk_at "ev"
  case turn =>
    intro j d y hd hy
    rw [List.getElem?_map] at hd hy
    cases e1 : (asc qs)[j]? with
    | none => rw [e1] at hd; cases hd
    | some p =>
      rw [e1] at hd hy
      cases hd
      cases hy
      have hip := isN_enc p
      have szp := szs p (List.mem_of_getElem? e1)
      refine e_call (ds := [enc p, byD]) (S1 := bx S i b2) P3 ?k2 (a_cons (S1 := bx S i b2) ?t1 (a_cons (S1 := bx S i b2) ?t2 a_nil rfl) rfl) (Ftimes.mk hip iby szp szf) ?r1 ?r2 ?r3
      case t1 => walk_at "ev"
      case t2 => walk_at "ev"
      all_goals first | rfl | walk_at "ev"
  case n2 =>
  -- moved
  have m1 : Mt 3 (.lst ((asc qs).map fun p => enc (p + m))) (.lst ((asc (qs.map (· + m))).map due)) := by
    rw [asc_add]
    have := mt_nums (k := 1) ((asc qs).map (· + m)) (by rw [List.length_map]; omega)
    rw [List.map_map] at this
    exact this
  refine' ss_cons (s_if (k := !true) (S1 := bx S i b2) (t_not (t_val (e_call (ds := [.lst ((asc qs).map fun p => enc (p + m)), .lst ((asc (qs.map (· + m))).map due)]) (S1 := bx S i b2) P7 ?k3 (a_cons (S1 := bx S i b2) (e_lcP (ds := (asc qs).map enc) (S1 := bx S i b2) (j := 16) (i_seq (x := .lst ((asc qs).map enc)) (e_ix (x := toldL qs) (S1 := bx S i b2) ?i3 ?i4 rfl aat rfl) rfl) rfl rfl rfl rfl (by simp) ?turn2 (by rw [List.length_map]; omega))
    (a_cons (S1 := bx S i b2) (e_dues (j := 16) (B := B) F (show 2 ≤ 8 by decide) ?i5 hsh hl2 rfl rfl rfl rfl rfl rfl rfl rfl (show 16 < 17 by decide)) a_nil rfl) rfl) ⟨_, _, rfl, rfl, rfl, m1⟩ ?g4 ?g5 ?g6) ?w1)) (fun hk => nomatch hk) (fun _ => ss_nil ?n3))
  case i3 => walk_at "ev"
  case i4 => walk_at "ev"
  case i5 => walk_at "ev"
  case w1 => intros; rfl
  case turn2 =>
    intro j d y hd hy
    rw [List.getElem?_map] at hd hy
    cases e1 : (asc qs)[j]? with
    | none => rw [e1] at hd; cases hd
    | some p =>
      rw [e1] at hd hy
      cases hd
      cases hy
      have hip := isN_enc p
      have szp := szs p (List.mem_of_getElem? e1)
      refine e_call (ds := [enc p, ownD]) (S1 := bx S i b2) P4 ?k4 (a_cons (S1 := bx S i b2) ?t3 (a_cons (S1 := bx S i b2) ?t4 a_nil rfl) rfl) (Fplus.mk hip iown szp szm) ?r4 ?r5 ?r6
      case t3 => walk_at "ev"
      case t4 => walk_at "ev"
      all_goals first | rfl | walk_at "ev"
  case k3 | g4 | g5 | g6 => first | rfl | walk_at "ev"
  case n3 =>
  -- scaled
  have m2 : Mt 3 (.lst ((asc (qs.map (· * f))).map enc)) (.lst ((asc (qs.map (· * f))).map due)) := mt_nums (k := 1) _ (by have := asc_len (qs.map (· * f)); omega)
  have m3 : Mt 3 (enc (qs.sum * f)) (due (qs.map (· * f)).sum) := by
    rw [sum_mul]
    exact Mt.num _
  have fat : seqA (bx S i b2) (pr f) = some [.int f.num, .int (f.den : Int)] := rfl
  refine' ss_cons (s_if (k := false || false) (S1 := bx S i b2) (t_of (w_or (k := false) (j := false) (t_is (t_not (t_val (e_call (ds := [.lst ((asc (qs.map (· * f))).map enc), .lst ((asc (qs.map (· * f))).map due)]) (S1 := bx S i b2) P7 ?k5 (a_cons (S1 := bx S i b2) (e_if (k := decide (0 < f.num)) (S1 := bx S i b2) ?c5 (fun hk => ?x5) (fun hk => ?y5))
    (a_cons (S1 := bx S i b2) (e_dues (j := 16) (B := B) F (show 2 ≤ 8 by decide) ?i6 hsc hl1 rfl rfl rfl rfl rfl rfl rfl rfl (show 16 < 17 by decide)) a_nil rfl) rfl) ⟨_, _, rfl, rfl, rfl, m2⟩ ?g7 ?g8 ?g9) ?w2)) (k' := false) rfl)
    (fun _ => w_or1 (t_is (t_not (t_val (e_call (ds := [enc (qs.sum * f), due (qs.map (· * f)).sum]) (S1 := bx S i b2) P7 ?k6 (a_cons (S1 := bx S i b2) ?x6 (a_cons (S1 := bx S i b2) ?y6 a_nil rfl) rfl) ⟨_, _, rfl, rfl, rfl, m3⟩ ?g10 ?g11 ?g12) ?w3)) (k' := false) rfl)))) (fun hk => nomatch hk) (fun _ => ss_nil ?n4))
  case c5 => walk_at "ev"
  case i6 => walk_at "ev"
  case w2 => intros; rfl
  case w3 => intros; rfl
  case x5 =>
    have hp : 0 < f := by
      rw [Rat.lt_iff]
      simpa using of_decide_eq_true hk
    have e1 : D.lst ((asc (qs.map (· * f))).map enc) = D.lst ((asc qs).map fun p => enc (p * f)) := by
      rw [asc_pos qs hp, List.map_map]
      rfl
    rw [e1]
    walk_at "ev"
  case y5 =>
    have hp : f < 0 := by
      have h1 : ¬ 0 < f := fun z => by
        rw [Rat.lt_iff] at z
        simp at z
        simp at hk
        omega
      rcases lt_or hf0 with z | z
      · exact z
      · exact absurd z h1
    have e1 : D.lst ((asc (qs.map (· * f))).map enc) = D.lst ((asc qs).map fun p => enc (p * f)).reverse := by
      rw [asc_neg qs hp, List.map_reverse, List.map_map]
      rfl
    rw [e1]
    refine e_rev (ds := (asc qs).map fun p => enc (p * f)) (x := .lst ((asc qs).map fun p => enc (p * f))) (S1 := bx S i b2) ?z1 rfl
    walk_at "ev"
  case x6 =>
    have aat0 : atI ([enc qs.sum, enc (mn qs), enc (mx qs), .lst ((asc qs).map enc)] : List D) 0 = some (enc qs.sum) := rfl
    have hip := isN_enc qs.sum
    have szp : Sz 3900 qs.sum := (sz_sum hz).mono (by omega)
    refine e_call (ds := [enc qs.sum, byD]) (S1 := bx S i b2) P3 ?k7 (a_cons (S1 := bx S i b2) (e_ix (x := toldL qs) (S1 := bx S i b2) ?t5 ?t6 rfl aat0 rfl) (a_cons (S1 := bx S i b2) ?t7 a_nil rfl) rfl) (Ftimes.mk hip iby szp szf) ?r7 ?r8 ?r9
    case t5 => walk_at "ev"
    case t6 => walk_at "ev"
    case t7 => walk_at "ev"
    all_goals first | rfl | walk_at "ev"
  case y6 => walk_at "ev"
  case n4 => exact lr_C F hi hz80 hle _ _ _ _ _ _ _ _ _ _ _ _ _ _
  all_goals first | rfl | walk_at "ev"
end DL
/-! text: K21 -/
namespace DL
open PySem L2 QM
/-! the walker: one step by the syntax that stands there, then on; what it can't close stays -/
local macro_rules | `(tactic| walk_at "ev") => `(tactic| first
  | ((with_reducible show _ = _); first | rfl | assumption)
  | ((with_reducible show EvE _ _ _ _ _ _); first
      | ((with_reducible show EvE _ (.Name _ _) _ _ _ _); first
      | ((with_reducible refine' e_name ?_ ?_ ?_) <;> try walk_at "ev"))
      | ((with_reducible show EvE _ (.Constant _ _ _) _ _ _ _); first
      | (with_reducible exact e_int)
      | (with_reducible exact e_str)
      | (with_reducible exact e_bl)
      | (with_reducible exact e_non))
      | ((with_reducible show EvE _ (.Call _ _ _ _) _ _ _ _); first
      | walk_at "call"
      | ((with_reducible show EvE _ (.Call (.Name "isinstance" _) _ _ _) _ _ _ _); first
      | ((with_reducible refine' e_isInt (by assumption) ?_ ?_ ?_ ?_ ?_) <;> try walk_at "ev")
      | ((with_reducible refine' e_isBool (by assumption) ?_ ?_ ?_ ?_ ?_) <;> try walk_at "ev")
      | ((with_reducible refine' e_isRat (by assumption) ?_ ?_ ?_ ?_ ?_) <;> try walk_at "ev")
      | ((with_reducible refine' e_isStr (by assumption) ?_ ?_ ?_ ?_ ?_) <;> try walk_at "ev")
      | ((with_reducible refine' e_isList (by assumption) ?_ ?_ ?_ ?_ ?_) <;> try walk_at "ev")
      | ((with_reducible refine' e_isTup (by assumption) ?_ ?_ ?_ ?_ ?_) <;> try walk_at "ev")
      | ((with_reducible refine' e_isDict (by assumption) ?_ ?_ ?_ ?_ ?_) <;> try walk_at "ev")
      | ((with_reducible refine' e_isLT (by assumption) ?_ ?_ ?_ ?_ ?_ ?_) <;> try walk_at "ev"))
      | ((with_reducible refine' e_len (nm := "len") (by assumption) ?_ ?_ ?_ ?_) <;> try walk_at "ev")
      | ((with_reducible refine' e_abs (by assumption) ?_ ?_ ?_) <;> try walk_at "ev")
      | ((with_reducible refine' e_intI (by assumption) ?_ ?_ ?_) <;> try walk_at "ev")
      | ((with_reducible refine' e_list (by assumption) ?_ ?_ ?_ ?_) <;> try walk_at "ev")
      | ((with_reducible refine' e_tuple (by assumption) ?_ ?_ ?_ ?_) <;> try walk_at "ev")
      | ((with_reducible refine' e_gcd (by assumption) ?_ ?_ ?_ ?_ ?_) <;> try walk_at "ev")
      | ((with_reducible refine' e_max2 (by assumption) ?_ ?_ ?_ ?_ ?_) <;> try walk_at "ev")
      | ((with_reducible refine' e_min2 (by assumption) ?_ ?_ ?_ ?_ ?_) <;> try walk_at "ev"))
      | ((with_reducible show EvE _ (.BinOp _ _ _ _) _ _ _ _); first
      | ((with_reducible refine' e_bin ?_ ?_ ?_) <;> try walk_at "ev"))
      | ((with_reducible show EvE _ (.Subscript _ _ _) _ _ _ _); first
      | ((with_reducible refine' e_ix ?_ ?_ ?_ ?_ ?_) <;> try walk_at "ev"))
      | ((with_reducible show EvE _ (.Compare _ _ _ _) _ _ _ _); first
      | ((with_reducible refine' e_cmp ?_ ?_ ?_ ?_) <;> try walk_at "ev"))
      | ((with_reducible show EvE _ (.Attribute _ _ _) _ _ _ _); first
      | ((with_reducible refine' e_top (by assumption) ?_ ?_) <;> try walk_at "ev")
      | ((with_reducible refine' e_bottom (by assumption) ?_ ?_) <;> try walk_at "ev"))
      | ((with_reducible show EvE _ (.UnaryOp _ _ _) _ _ _ _); first
      | ((with_reducible refine' e_not ?_) <;> try walk_at "ev")
      | ((with_reducible refine' e_neg ?_) <;> try walk_at "ev"))
      | ((with_reducible show EvE _ (.Tuple _ _ _) _ _ _ _); first
      | ((with_reducible refine' e_tup ?_ ?_) <;> try walk_at "ev"))
      | ((with_reducible show EvE _ (.List _ _) _ _ _ _); first
      | ((with_reducible refine' e_lst ?_ ?_) <;> try walk_at "ev"))
      | ((with_reducible show EvE _ (.BoolOp _ _ _) _ _ _ _); first
      | ((with_reducible refine' e_one ?_) <;> try walk_at "ev")
      | ((with_reducible refine' e_and ?_ (fun _ => ?_)) <;> try walk_at "ev")
      | ((with_reducible refine' e_or ?_ (fun _ => ?_)) <;> try walk_at "ev"))
      | ((with_reducible show EvE _ (.IfExp _ _ _ _) _ _ _ _); first
      | ((with_reducible refine' e_if ?_ ?_ ?_) <;> first | walk_at "ev" | walk_at "way" | skip)))
  | exact Nat.le_of_ble_eq_true (by rfl)
  | ((with_reducible show EvT _ _ _ _ _ _); first
      | ((with_reducible refine' t_cmp ?_ ?_ ?_ ?_) <;> try walk_at "ev")
      | ((with_reducible refine' t_not ?_) <;> try walk_at "ev")
      | ((with_reducible refine' t_of (w_and ?_ (fun _ => ?_))) <;> try walk_at "ev")
      | ((with_reducible refine' t_of (w_or ?_ (fun _ => ?_))) <;> try walk_at "ev")
      | ((with_reducible refine' t_val ?_ ?_) <;> try walk_at "ev"))
  | ((with_reducible show EvA _ _ _ _ _ _); first
      | ((with_reducible refine' a_cons ?_ ?_ ?_) <;> try walk_at "ev")
      | (with_reducible exact a_nil))
  | ((with_reducible show BinR _ _ _ _ _ _); first
      | (with_reducible exact br_add)
      | (with_reducible exact br_sub)
      | ((with_reducible refine' br_mul ?_) <;> try walk_at "sz")
      | walk_at "br")
  | ((with_reducible show CmpR _ _ _ _ _ _); first
      | (with_reducible exact cr_lt)
      | (with_reducible exact cr_le)
      | (with_reducible exact cr_gt)
      | (with_reducible exact cr_ge)
      | (with_reducible exact cr_eqI)
      | (with_reducible exact cr_neI)
      | (with_reducible exact cr_isN)
      | (with_reducible exact cr_isB)
      | (with_reducible exact cr_eqB)
      | (with_reducible exact cr_eqS)
      | walk_at "cr")
  | ((with_reducible show EvW _ _ _ _ _ _); first
      | ((with_reducible refine' w_and1 ?_) <;> try walk_at "ev")
      | ((with_reducible refine' w_or1 ?_) <;> try walk_at "ev")
      | ((with_reducible refine' w_and ?_ (fun _ => ?_)) <;> try walk_at "ev")
      | ((with_reducible refine' w_or ?_ (fun _ => ?_)) <;> try walk_at "ev"))
  | ((with_reducible show EvK _ _ _ _ _ _); first
      | ((with_reducible refine' k_cons ?_ ?_) <;> try walk_at "ev")
      | (with_reducible exact k_nil))
  | ((with_reducible show Tgt _ _ _); first
      | ((with_reducible refine' Tgt.cons ?_ ?_ ?_ ?_) <;> try walk_at "ev")
      | (with_reducible exact Tgt.nil))
  | walk_at "side"
  | (intros; rfl))
local macro_rules | `(tactic| walk_at "side") => `(tactic| fail)
local macro_rules | `(tactic| walk_at "br") => `(tactic| fail)
local macro_rules | `(tactic| walk_at "cr") => `(tactic| fail)
local macro_rules | `(tactic| walk_at "call") => `(tactic| fail)
local macro_rules | `(tactic| walk_at "way") => `(tactic| first | exact fun z => Bool.noConfusion (show false = true from z) | exact fun z => Bool.noConfusion (show true = false from z) | (intro _; walk_at "ev"))
local macro_rules | `(tactic| walk_at "sz") => `(tactic| assumption)

local macro_rules | `(tactic| walk_at "side") => `(tactic| ((with_reducible show IsN _ _); first | assumption | exact isN_enc _ | exact IsN.int _))
local macro_rules | `(tactic| walk_at "side") => `(tactic| ((with_reducible show _ ≠ _); assumption))
local macro_rules | `(tactic| walk_at "side") => `(tactic| ((with_reducible show (_ : Nat) < _); assumption))
local macro_rules | `(tactic| walk_at "side") => `(tactic| ((with_reducible show Sz _ _); assumption))
local macro_rules | `(tactic| walk_at "side") => `(tactic| ((with_reducible show IsNs _ _); assumption))
local macro_rules | `(tactic| walk_at "side") => `(tactic| ((with_reducible show Sml _); assumption))

local macro_rules | `(tactic| walk_at "side") => `(tactic| ((with_reducible show (_ : Int) < _); first | assumption | decide))
local macro_rules | `(tactic| walk_at "side") => `(tactic| ((with_reducible show ∀ _, _); assumption))
local macro_rules | `(tactic| walk_at "side") => `(tactic| ((with_reducible show (_ : Nat) ≤ _); assumption))
local macro_rules | `(tactic| walk_at "cr") => `(tactic| (with_reducible exact cr_neI))
local macro_rules | `(tactic| walk_at "call") => `(tactic| ((with_reducible refine' e_call (by assumption : DefP _ "_law_take" _ _ _ _) ?_ ?_ (F_law_take.mk ?_ ?_ ?_) ?_ ?_ ?_) <;> try walk_at "ev"))
local macro_rules | `(tactic| walk_at "call") => `(tactic| ((with_reducible refine' e_call (by assumption : DefP _ "_law_small" _ _ _ _) ?_ ?_ (F_law_small.mk ?_) ?_ ?_ ?_) <;> try walk_at "ev"))
local macro_rules | `(tactic| walk_at "call") => `(tactic| ((with_reducible refine' e_call (by assumption : DefP _ "_law_plus" _ _ _ _) ?_ ?_ (F_law_plus.mk ?_ ?_) ?_ ?_ ?_) <;> try walk_at "ev"))
local macro_rules | `(tactic| walk_at "call") => `(tactic| ((with_reducible refine' e_call (by assumption : DefP _ "_law_times" _ _ _ _) ?_ ?_ (F_law_times.mk ?_ ?_) ?_ ?_ ?_) <;> try walk_at "ev"))
local macro_rules | `(tactic| walk_at "call") => `(tactic| ((with_reducible refine' e_call (by assumption : DefP _ "_law_num" _ _ _ _) ?_ ?_ (F_law_num.mk) ?_ ?_ ?_) <;> try walk_at "ev"))
local macro_rules | `(tactic| walk_at "call") => `(tactic| ((with_reducible refine' e_call (by assumption : DefP _ "_law_sum" _ _ _ _) ?_ ?_ (F_law_sum.mk ?_ ?_) ?_ ?_ ?_) <;> try walk_at "ev"))
local macro_rules | `(tactic| walk_at "call") => `(tactic| ((with_reducible refine' e_call (by assumption : DefP _ "_law_sides" _ _ _ _) ?_ ?_ (F_law_sides.mk ?_ ?_) ?_ ?_ ?_) <;> try walk_at "ev"))
local macro_rules | `(tactic| walk_at "call") => `(tactic| ((with_reducible refine' e_call (by assumption : DefP _ "_law_give" _ _ _ _) ?_ ?_ (F_law_give.mk ?_ ?_) ?_ ?_ ?_) <;> try walk_at "ev"))
def fac (q : Rat) : Rat := if (!decide (q.num = 0)) = true then q else Rat.divInt (-2) 3
theorem fac_ne (q : Rat) : fac q ≠ 0 := by
  unfold fac
  split
  · rename_i h
    intro z
    rw [z] at h
    exact Bool.noConfusion h
  · decide
theorem fac_sz {q : Rat} (h : Sz 5 q) : Sz 5 (fac q) := by
  unfold fac
  split
  · exact h
  · exact sz_div (by decide) (by decide) (by decide)
def alt (k : Bool) : Nat → Bool
  | 0 => k
  | j + 1 => !(alt k j)
theorem alt4 (k : Bool) : alt k 4 = k := by cases k <;> rfl
def alL (b : Bx) (L : List (List Rat)) : Bx := L.foldl allF b
def LL (qs : List Rat) (m f : Rat) : List (List Rat) := [qs, qs.map (· + m), qs.map (· * f), qs ++ qs.take 1]
/-- the four lists -/
theorem lr_A3 {B : Bs} (F : Dfs B) {S : Store} {i n : Nat} {b : Bx} {qs : List Rat} {k : Bool} {m f : Rat} (hi : i < S.length) (hn : nocS S) (hz : ∀ q ∈ qs, Sz 70 q) (hle : qs.length ≤ 8) (h0 : qs ≠ []) (hm : Sz 5 m) (hf : Sz 5 f) (hf0 : f ≠ 0) (o7 o8 o9 o10 o11 o12 o13 o14 o15 o16 : Option D) :
    EvSs (Ylr B) (lrB 3) [some (.cel i), some (.lst (qs.map pr)), some (.bl k), some (pr m), some (pr f), some (.lst ((qs.map (· + m)).map pr)), some (.lst ((qs.map (· * f)).map pr)), o7, o8, o9, o10, o11, o12, o13, o14, o15, o16] (bx S i b) (bodyE n (.bl true) (bx S i (lrC (lrB1 (alL b (LL qs m f)) qs m f) qs))) := by
  have T := F.txt
  have P1 := F.all
  have P2 := F.due
  have P7 := F.is 3
  have hpos : 0 < qs.length := List.length_pos_iff.mpr h0
  have hL : ∀ l ∈ LL qs m f, (∀ q ∈ l, Sz 150 q) ∧ l.length ≤ 10 ∧ l ≠ [] := by
    intro l hl
    unfold LL at hl
    simp only [List.mem_cons, List.not_mem_nil, or_false] at hl
    rcases hl with z | z | z | z <;> subst z
    · exact ⟨fun q hq => (hz q hq).mono (by decide), by omega, h0⟩
    · exact ⟨fun q hq => by
        obtain ⟨p, hp, rfl⟩ := List.mem_map.mp hq
        exact (sz_add (hz p hp) hm).mono (by decide), by rw [List.length_map]; omega, by simpa using h0⟩
    · exact ⟨fun q hq => by
        obtain ⟨p, hp, rfl⟩ := List.mem_map.mp hq
        exact (sz_mul (hz p hp) hf).mono (by decide), by rw [List.length_map]; omega, by simpa using h0⟩
    · exact ⟨fun q hq => by
        rcases List.mem_append.mp hq with y | y
        · exact (hz q y).mono (by decide)
        · exact (hz q (List.mem_of_mem_take y)).mono (by decide), by rw [List.length_append, List.length_take]; omega, by simp [h0]⟩
  have hcl : 1 ≤ (qs.map pr).length := by rw [List.length_map]; omega
  generalize hLL : LL qs m f = L at hL ⊢
  refine ss_cons (s_for (ds := L.map fun l => .lst (l.map pr)) (S1 := bx S i b) (j := 7) rfl rfl rfl (i_seq (x := .tup (L.map fun l => .lst (l.map pr))) ?it rfl)
    (fun j Γ' S' => ∃ o, Γ' = [some (.cel i), some (.lst (qs.map pr)), some (.bl (alt k j)), some (pr m), some (pr f), some (.lst ((qs.map (· + m)).map pr)), some (.lst ((qs.map (· * f)).map pr)), o, o8, o9, o10, o11, o12, o13, o14, o15, o16] ∧ S' = bx S i (alL b (L.take j))) ⟨o7, rfl, rfl⟩ ?turn ?done)
  case it =>
    subst hLL
    refine e_tup (ds := [.lst (qs.map pr), .lst ((qs.map (· + m)).map pr), .lst ((qs.map (· * f)).map pr), .lst ((qs ++ qs.take 1).map pr)]) (a_cons (S1 := bx S i b) ?e1 (a_cons (S1 := bx S i b) ?e2 (a_cons (S1 := bx S i b) ?e3 (a_cons (S1 := bx S i b) (e_is (d := .lst (qs.map pr ++ (qs.map pr).take 1)) (S1 := bx S i b) (e_bin (x := .lst (qs.map pr)) (y := .lst ((qs.map pr).take 1)) (S1 := bx S i b) ?e4 (e_is (e_sliceL (i := none) (j := some 1) (ds := qs.map pr) (x := .lst (qs.map pr)) ?e5 .no (.so ?e6) rfl) (by rw [show (1 : Int) = ((1 : Nat) : Int) from rfl, cut_to hcl]) rfl) (br_cat rfl rfl (by rw [List.length_take, List.length_map]; omega))) (by rw [List.map_append, List.map_take]) rfl) a_nil rfl) rfl) rfl) rfl) (show 4 ≤ 100000 by decide)
    case e1 => walk_at "ev"
    case e2 => walk_at "ev"
    case e3 => walk_at "ev"
    case e4 => walk_at "ev"
    case e5 => walk_at "ev"
    case e6 => walk_at "ev"
  case done =>
    rintro Γ' S' ⟨o, rfl, rfl⟩
    subst hLL
    rw [List.length_map, List.take_length]
    have e4 : alt k (LL qs m f).length = k := alt4 k
    rw [e4]
    exact lr_B F hi hn hz hle h0 hm hf hf0 o o8 o9 o10 o11 o12 o13 o14 o15 o16
  case turn =>
    rintro j d Γ' S' hd ⟨o, rfl, rfl⟩
    rw [List.getElem?_map] at hd
    cases e1 : L[j]? with
    | none => rw [e1] at hd; cases hd
    | some l =>
      rw [e1] at hd
      cases hd
      obtain ⟨h1, h2, h3⟩ := hL l (List.mem_of_getElem? e1)
      have hmt := mt_all (qs := l) (by omega)
      have h20 : l.length ≤ 20 := by omega
      have hnx : alL b (L.take (j + 1)) = allF (alL b (L.take j)) l := by
        unfold alL
        rw [List.take_add_one, e1, List.foldl_append]
        rfl
      rw [hnx]
      generalize alL b (L.take j) = b1
      refine' ss_cons (s_if (k := !true) (S1 := bx S i (allF b1 l)) (t_not (t_val (e_call (ds := [toldL l, dueL l]) (S1 := bx S i (allF b1 l)) P7 ?k1 (a_cons (S1 := bx S i (allF b1 l)) (e_call (ds := [.cel i, .lst (l.map pr), .bl (alt k j)]) (S1 := bx S i b1) P1 ?k2 (a_cons (S1 := bx S i b1) ?t1 (a_cons (S1 := bx S i b1) ?t2 (a_cons (S1 := bx S i b1) ?t3 a_nil rfl) rfl) rfl) (F_law_all.mk hi hn h1 h2 h3) ?g1 ?g2 ?g3)
        (a_cons (S1 := bx S i (allF b1 l)) (e_call (ds := [.lst (l.map pr)]) (S1 := bx S i (allF b1 l)) P2 ?k3 (a_cons (S1 := bx S i (allF b1 l)) ?t4 a_nil rfl) (F_law_due.mk h1 h20 h3) ?g4 ?g5 ?g6) a_nil rfl) rfl) ⟨_, _, rfl, rfl, rfl, hmt⟩ ?g7 ?g8 ?g9) ?w1)) (fun hk => nomatch hk) (fun _ => ss_nil ?n1))
      case t1 => walk_at "ev"
      case t2 => walk_at "ev"
      case t3 => walk_at "ev"
      case t4 => walk_at "ev"
      case w1 => intros; rfl
      case k1 | k2 | k3 | g1 | g2 | g3 | g4 | g5 | g6 | g7 | g8 | g9 => first | rfl | walk_at "ev"
      case n1 =>
      refine' ss_one (s_set (i := 2) rfl rfl rfl ?h5 ?n2)
      case h5 => walk_at "ev"
      case n2 => exact ⟨some (.lst (l.map pr)), rfl, rfl⟩
def lrF (b : Bx) (qs : List Rat) : Bx := lrC (lrB1 (alL (smF (smF b).2).2 (LL qs (smF b).1 (fac (smF (smF b).2).1))) qs (smF b).1 (fac (smF (smF b).2).1)) qs
inductive F_law_list_right : List D → Store → D → Store → Prop
  | mk {S : Store} {i : Nat} {b : Bx} {qs : List Rat} {k : Bool} (hi : i < S.length) (hn : nocS S) (hz : ∀ q ∈ qs, Sz 70 q) (hle : qs.length ≤ 8) (h0 : qs ≠ []) : F_law_list_right [.cel i, .lst (qs.map pr), .bl k] (bx S i b) (.bl true) (bx S i (lrF b qs))
theorem p_law_list_right {B : Bs} (F : Dfs B) {f : Addr} {fd : FuncData} (Fn : Fun B.K "_law_list_right" "_law_list_right" s_law_list_right f fd) (hm : B.mg "_law_list_right" = some (.ref f)) : DefP B "_law_list_right" s_law_list_right P_law_list_right 9 F_law_list_right := by
  refine def_ok Fn sc_law_list_right hm bn_law_list_right fun args S d S' hl hF => ?_
  cases hF with
  | @mk S i b qs k hi hn hz hle h0 =>
    have T := F.txt
    have P1 := F.small
    have P2 := F.lplus
    have P3 := F.ltimes
    have hm := smF_sz b
    have hf := fac_sz (smF_sz (smF b).2)
    have hf0 := fac_ne (smF (smF b).2).1
    have hl1 : (qs.map pr).length ≤ 100000 := by rw [List.length_map]; omega
    refine' ss_cons (s_unp2 (is := [3, 4]) (ds := [pr (smF b).1, pr (smF (smF b).2).1]) (S1 := bx S i (smF (smF b).2).2) ?tg (e_tup (a_cons (S1 := bx S i (smF b).2) ?h1 (a_cons (S1 := bx S i (smF (smF b).2).2) ?h2 a_nil rfl) rfl) (show 2 ≤ 100000 by decide)) rfl ?n1 ?w rfl)
    case tg => walk_at "ev"
    case h1 => walk_at "ev"
    case h2 => walk_at "ev"
    case w => exact fun env he => by cases env; cases he; rfl
    case n1 =>
    unfold lrF
    generalize (smF b).1 = m at hm ⊢
    generalize (smF (smF b).2).2 = b2
    generalize (smF (smF b).2).1 = g at hf hf0 ⊢
    refine' ss_cons (s_set (i := 4) (d := pr (fac g)) (S1 := bx S i b2) rfl rfl rfl (e_if (k := !decide (g.num = 0)) (S1 := bx S i b2) ?c (fun hk => ?x) (fun hk => ?y)) ?n2)
    case c =>
      have ga : seqA (bx S i b2) (pr g) = some [.int g.num, .int (g.den : Int)] := rfl
      walk_at "ev"
    case x =>
      have : fac g = g := by unfold fac; rw [if_pos hk]
      rw [this]
      walk_at "ev"
    case y =>
      have : fac g = Rat.divInt (-2) 3 := by unfold fac; rw [if_neg (by rw [hk]; exact Bool.false_ne_true)]
      rw [this]
      show EvE _ _ _ _ (.tup [.int (-2), .int 3]) _
      walk_at "ev"
    case n2 =>
    generalize fac g = f at hf hf0 ⊢
    have hm39 : Sz 3900 m := hm.mono (by decide)
    have hf39 : Sz 3900 f := hf.mono (by decide)
    refine' ss_cons (s_par (i := 5) (j := 6) (x := .lst ((qs.map (· + m)).map pr)) (y := .lst ((qs.map (· * f)).map pr)) (S1 := bx S i b2) rfl rfl (by decide) rfl rfl ?w2 (a_cons (S1 := bx S i b2) (e_lcP (ds := qs.map pr) (S1 := bx S i b2) (j := 16) (i_seq (x := .lst (qs.map pr)) ?i1 rfl) rfl rfl rfl rfl (by simp) ?t1 hl1) (a_cons (S1 := bx S i b2) (e_lcP (ds := qs.map pr) (S1 := bx S i b2) (j := 16) (i_seq (x := .lst (qs.map pr)) ?i2 rfl) rfl rfl rfl rfl (by simp) ?t2 hl1) a_nil rfl) rfl) ?n3)
    case w2 => exact fun env he => by cases env; cases he; rfl
    case i1 => walk_at "ev"
    case i2 => walk_at "ev"
    case t1 =>
      intro j d y hd hy
      rw [List.getElem?_map] at hd hy
      rw [List.getElem?_map] at hy
      cases e1 : qs[j]? with
      | none => rw [e1] at hd; cases hd
      | some q =>
        rw [e1] at hd hy
        cases hd
        cases hy
        have hzq : Sz 3900 q := (hz q (List.mem_of_getElem? e1)).mono (by decide)
        show EvE _ _ _ _ (pr (q + m)) _
        walk_at "ev"
    case t2 =>
      intro j d y hd hy
      rw [List.getElem?_map] at hd hy
      rw [List.getElem?_map] at hy
      cases e1 : qs[j]? with
      | none => rw [e1] at hd; cases hd
      | some q =>
        rw [e1] at hd hy
        cases hd
        cases hy
        have hzq : Sz 3900 q := (hz q (List.mem_of_getElem? e1)).mono (by decide)
        show EvE _ _ _ _ (pr (q * f)) _
        walk_at "ev"
    case n3 => exact lr_A3 F hi hn hz hle h0 hm hf hf0 _ _ _ _ _ _ _ _ _ _
end DL
/-! text: K22 -/
namespace DL
open PySem L2 QM
/-! the walker: one step by the syntax that stands there, then on; what it can't close stays -/
local macro_rules | `(tactic| walk_at "ev") => `(tactic| first
  | ((with_reducible show _ = _); first | rfl | assumption)
  | ((with_reducible show EvE _ _ _ _ _ _); first
      | ((with_reducible show EvE _ (.Name _ _) _ _ _ _); first
      | ((with_reducible refine' e_name ?_ ?_ ?_) <;> try walk_at "ev"))
      | ((with_reducible show EvE _ (.Constant _ _ _) _ _ _ _); first
      | (with_reducible exact e_int)
      | (with_reducible exact e_str)
      | (with_reducible exact e_bl)
      | (with_reducible exact e_non))
      | ((with_reducible show EvE _ (.Call _ _ _ _) _ _ _ _); first
      | walk_at "call"
      | ((with_reducible show EvE _ (.Call (.Name "isinstance" _) _ _ _) _ _ _ _); first
      | ((with_reducible refine' e_isInt (by assumption) ?_ ?_ ?_ ?_ ?_) <;> try walk_at "ev")
      | ((with_reducible refine' e_isBool (by assumption) ?_ ?_ ?_ ?_ ?_) <;> try walk_at "ev")
      | ((with_reducible refine' e_isRat (by assumption) ?_ ?_ ?_ ?_ ?_) <;> try walk_at "ev")
      | ((with_reducible refine' e_isStr (by assumption) ?_ ?_ ?_ ?_ ?_) <;> try walk_at "ev")
      | ((with_reducible refine' e_isList (by assumption) ?_ ?_ ?_ ?_ ?_) <;> try walk_at "ev")
      | ((with_reducible refine' e_isTup (by assumption) ?_ ?_ ?_ ?_ ?_) <;> try walk_at "ev")
      | ((with_reducible refine' e_isDict (by assumption) ?_ ?_ ?_ ?_ ?_) <;> try walk_at "ev")
      | ((with_reducible refine' e_isLT (by assumption) ?_ ?_ ?_ ?_ ?_ ?_) <;> try walk_at "ev"))
      | ((with_reducible refine' e_len (nm := "len") (by assumption) ?_ ?_ ?_ ?_) <;> try walk_at "ev")
      | ((with_reducible refine' e_abs (by assumption) ?_ ?_ ?_) <;> try walk_at "ev")
      | ((with_reducible refine' e_intI (by assumption) ?_ ?_ ?_) <;> try walk_at "ev")
      | ((with_reducible refine' e_list (by assumption) ?_ ?_ ?_ ?_) <;> try walk_at "ev")
      | ((with_reducible refine' e_tuple (by assumption) ?_ ?_ ?_ ?_) <;> try walk_at "ev")
      | ((with_reducible refine' e_gcd (by assumption) ?_ ?_ ?_ ?_ ?_) <;> try walk_at "ev")
      | ((with_reducible refine' e_max2 (by assumption) ?_ ?_ ?_ ?_ ?_) <;> try walk_at "ev")
      | ((with_reducible refine' e_min2 (by assumption) ?_ ?_ ?_ ?_ ?_) <;> try walk_at "ev"))
      | ((with_reducible show EvE _ (.BinOp _ _ _ _) _ _ _ _); first
      | ((with_reducible refine' e_bin ?_ ?_ ?_) <;> try walk_at "ev"))
      | ((with_reducible show EvE _ (.Subscript _ _ _) _ _ _ _); first
      | ((with_reducible refine' e_ix ?_ ?_ ?_ ?_ ?_) <;> try walk_at "ev"))
      | ((with_reducible show EvE _ (.Compare _ _ _ _) _ _ _ _); first
      | ((with_reducible refine' e_cmp ?_ ?_ ?_ ?_) <;> try walk_at "ev"))
      | ((with_reducible show EvE _ (.Attribute _ _ _) _ _ _ _); first
      | ((with_reducible refine' e_top (by assumption) ?_ ?_) <;> try walk_at "ev")
      | ((with_reducible refine' e_bottom (by assumption) ?_ ?_) <;> try walk_at "ev"))
      | ((with_reducible show EvE _ (.UnaryOp _ _ _) _ _ _ _); first
      | ((with_reducible refine' e_not ?_) <;> try walk_at "ev")
      | ((with_reducible refine' e_neg ?_) <;> try walk_at "ev"))
      | ((with_reducible show EvE _ (.Tuple _ _ _) _ _ _ _); first
      | ((with_reducible refine' e_tup ?_ ?_) <;> try walk_at "ev"))
      | ((with_reducible show EvE _ (.List _ _) _ _ _ _); first
      | ((with_reducible refine' e_lst ?_ ?_) <;> try walk_at "ev"))
      | ((with_reducible show EvE _ (.BoolOp _ _ _) _ _ _ _); first
      | ((with_reducible refine' e_one ?_) <;> try walk_at "ev")
      | ((with_reducible refine' e_and ?_ (fun _ => ?_)) <;> try walk_at "ev")
      | ((with_reducible refine' e_or ?_ (fun _ => ?_)) <;> try walk_at "ev"))
      | ((with_reducible show EvE _ (.IfExp _ _ _ _) _ _ _ _); first
      | ((with_reducible refine' e_if ?_ ?_ ?_) <;> first | walk_at "ev" | walk_at "way" | skip)))
  | exact Nat.le_of_ble_eq_true (by rfl)
  | ((with_reducible show EvT _ _ _ _ _ _); first
      | ((with_reducible refine' t_cmp ?_ ?_ ?_ ?_) <;> try walk_at "ev")
      | ((with_reducible refine' t_not ?_) <;> try walk_at "ev")
      | ((with_reducible refine' t_of (w_and ?_ (fun _ => ?_))) <;> try walk_at "ev")
      | ((with_reducible refine' t_of (w_or ?_ (fun _ => ?_))) <;> try walk_at "ev")
      | ((with_reducible refine' t_val ?_ ?_) <;> try walk_at "ev"))
  | ((with_reducible show EvA _ _ _ _ _ _); first
      | ((with_reducible refine' a_cons ?_ ?_ ?_) <;> try walk_at "ev")
      | (with_reducible exact a_nil))
  | ((with_reducible show BinR _ _ _ _ _ _); first
      | (with_reducible exact br_add)
      | (with_reducible exact br_sub)
      | ((with_reducible refine' br_mul ?_) <;> try walk_at "sz")
      | walk_at "br")
  | ((with_reducible show CmpR _ _ _ _ _ _); first
      | (with_reducible exact cr_lt)
      | (with_reducible exact cr_le)
      | (with_reducible exact cr_gt)
      | (with_reducible exact cr_ge)
      | (with_reducible exact cr_eqI)
      | (with_reducible exact cr_neI)
      | (with_reducible exact cr_isN)
      | (with_reducible exact cr_isB)
      | (with_reducible exact cr_eqB)
      | (with_reducible exact cr_eqS)
      | walk_at "cr")
  | ((with_reducible show EvW _ _ _ _ _ _); first
      | ((with_reducible refine' w_and1 ?_) <;> try walk_at "ev")
      | ((with_reducible refine' w_or1 ?_) <;> try walk_at "ev")
      | ((with_reducible refine' w_and ?_ (fun _ => ?_)) <;> try walk_at "ev")
      | ((with_reducible refine' w_or ?_ (fun _ => ?_)) <;> try walk_at "ev"))
  | ((with_reducible show EvK _ _ _ _ _ _); first
      | ((with_reducible refine' k_cons ?_ ?_) <;> try walk_at "ev")
      | (with_reducible exact k_nil))
  | ((with_reducible show Tgt _ _ _); first
      | ((with_reducible refine' Tgt.cons ?_ ?_ ?_ ?_) <;> try walk_at "ev")
      | (with_reducible exact Tgt.nil))
  | walk_at "side"
  | (intros; rfl))
local macro_rules | `(tactic| walk_at "side") => `(tactic| fail)
local macro_rules | `(tactic| walk_at "br") => `(tactic| fail)
local macro_rules | `(tactic| walk_at "cr") => `(tactic| fail)
local macro_rules | `(tactic| walk_at "call") => `(tactic| fail)
local macro_rules | `(tactic| walk_at "way") => `(tactic| first | exact fun z => Bool.noConfusion (show false = true from z) | exact fun z => Bool.noConfusion (show true = false from z) | (intro _; walk_at "ev"))
local macro_rules | `(tactic| walk_at "sz") => `(tactic| assumption)

local macro_rules | `(tactic| walk_at "side") => `(tactic| ((with_reducible show IsN _ _); first | assumption | exact isN_enc _ | exact IsN.int _))
local macro_rules | `(tactic| walk_at "side") => `(tactic| ((with_reducible show _ ≠ _); assumption))
local macro_rules | `(tactic| walk_at "side") => `(tactic| ((with_reducible show (_ : Nat) < _); assumption))
local macro_rules | `(tactic| walk_at "side") => `(tactic| ((with_reducible show Sz _ _); assumption))
local macro_rules | `(tactic| walk_at "side") => `(tactic| ((with_reducible show IsNs _ _); assumption))
local macro_rules | `(tactic| walk_at "side") => `(tactic| ((with_reducible show Sml _); assumption))

local macro_rules | `(tactic| walk_at "side") => `(tactic| ((with_reducible show (_ : Int) < _); first | assumption | decide))
local macro_rules | `(tactic| walk_at "side") => `(tactic| ((with_reducible show ∀ _, _); assumption))
local macro_rules | `(tactic| walk_at "side") => `(tactic| ((with_reducible show (_ : Nat) ≤ _); assumption))
local macro_rules | `(tactic| walk_at "side") => `(tactic| ((with_reducible show Sz _ _); first | assumption | exact Sz.mono (by assumption) (by decide)))
local macro_rules | `(tactic| walk_at "call") => `(tactic| ((with_reducible refine' e_call (by assumption : DefP _ "_law_plus" _ _ _ _) ?_ ?_ (F_law_plus.mk ?_ ?_) ?_ ?_ ?_) <;> try walk_at "ev"))
local macro_rules | `(tactic| walk_at "call") => `(tactic| ((with_reducible refine' e_call (by assumption : DefP _ "_law_minus" _ _ _ _) ?_ ?_ (F_law_minus.mk ?_ ?_) ?_ ?_ ?_) <;> try walk_at "ev"))
local macro_rules | `(tactic| walk_at "call") => `(tactic| ((with_reducible refine' e_call (by assumption : DefP _ "_law_times" _ _ _ _) ?_ ?_ (F_law_times.mk ?_ ?_) ?_ ?_ ?_) <;> try walk_at "ev"))
local macro_rules | `(tactic| walk_at "call") => `(tactic| ((with_reducible refine' e_call (by assumption : DefP _ "_law_over" _ _ _ _) ?_ ?_ (F_law_over.mk ?_ ?_ ?_) ?_ ?_ ?_) <;> try walk_at "ev"))
local macro_rules | `(tactic| walk_at "call") => `(tactic| ((with_reducible refine' e_call (by assumption : DefP _ "_law_num" _ _ _ _) ?_ ?_ (F_law_num.mk) ?_ ?_ ?_) <;> try walk_at "ev"))
local macro_rules | `(tactic| walk_at "call") => `(tactic| ((with_reducible refine' e_call (by assumption : DefP _ "_law_give" _ _ _ _) ?_ ?_ (F_law_give.mk ?_ ?_) ?_ ?_ ?_) <;> try walk_at "ev"))
local macro_rules | `(tactic| walk_at "call") => `(tactic| ((with_reducible refine' e_call (by assumption : DefP _ "_law_sign" _ _ _ _) ?_ ?_ (F_law_sign.mk ?_ ?_) ?_ ?_ ?_) <;> try walk_at "ev"))
local macro_rules | `(tactic| walk_at "call") => `(tactic| ((with_reducible refine' e_call (by assumption : DefP _ "plus" _ _ _ _) ?_ ?_ (Fplus.mk ?_ ?_ ?_ ?_) ?_ ?_ ?_) <;> try walk_at "ev"))
local macro_rules | `(tactic| walk_at "call") => `(tactic| ((with_reducible refine' e_call (by assumption : DefP _ "minus" _ _ _ _) ?_ ?_ (Fminus.mk ?_ ?_ ?_ ?_) ?_ ?_ ?_) <;> try walk_at "ev"))
local macro_rules | `(tactic| walk_at "call") => `(tactic| ((with_reducible refine' e_call (by assumption : DefP _ "times" _ _ _ _) ?_ ?_ (Ftimes.mk ?_ ?_ ?_ ?_) ?_ ?_ ?_) <;> try walk_at "ev"))
local macro_rules | `(tactic| walk_at "call") => `(tactic| ((with_reducible refine' e_call (by assumption : DefP _ "over" _ _ _ _) ?_ ?_ (Fover.mk ?_ ?_ ?_ ?_ ?_) ?_ ?_ ?_) <;> try walk_at "ev"))
local macro_rules | `(tactic| walk_at "call") => `(tactic| ((with_reducible refine' e_call (by assumption : DefP _ "compare" _ _ _ _) ?_ ?_ (Fcompare.mk ?_ ?_ ?_ ?_) ?_ ?_ ?_) <;> try walk_at "ev"))
theorem sgn_flip (q : Rat) : sgn (-q) = 0 - sgn q := by
  rcases Rat.le_total (a := q) (b := 0) with h | h
  · by_cases z : q = 0
    · subst z; decide
    · rw [sgn_neg (Rat.lt_of_le_of_ne h z), sgn_pos (by have := Rat.lt_of_le_of_ne h z; grind)]; rfl
  · by_cases z : q = 0
    · subst z; decide
    · rw [sgn_pos (Rat.lt_of_le_of_ne h (Ne.symm z)), sgn_neg (by have := Rat.lt_of_le_of_ne h (Ne.symm z); grind)]; rfl
theorem sgn_cases (q : Rat) : (q < 0 ∧ sgn q = -1) ∨ (q = 0 ∧ sgn q = 0) ∨ (0 < q ∧ sgn q = 1) := by
  by_cases z : q = 0
  · exact .inr (.inl ⟨z, by rw [z]; exact sgn_nul⟩)
  · rcases lt_or z with h | h
    · exact .inl ⟨h, sgn_neg h⟩
    · exact .inr (.inr ⟨h, sgn_pos h⟩)
theorem sgn_mul (p q : Rat) : sgn (p * q) = sgn p * sgn q := by
  rcases sgn_cases p with ⟨h, e⟩ | ⟨h, e⟩ | ⟨h, e⟩
  · rcases sgn_cases q with ⟨g, e2⟩ | ⟨g, e2⟩ | ⟨g, e2⟩
    · rw [e, e2, sgn_pos (by have := Rat.mul_pos (a := -p) (b := -q) (by grind) (by grind); grind)]; rfl
    · rw [e, e2, g, Rat.mul_zero, sgn_nul]; rfl
    · rw [e, e2, sgn_neg (by have := Rat.mul_pos (a := -p) (b := q) (by grind) (by grind); grind)]; rfl
  · rw [e, h, Rat.zero_mul, sgn_nul, Int.zero_mul]
  · rcases sgn_cases q with ⟨g, e2⟩ | ⟨g, e2⟩ | ⟨g, e2⟩
    · rw [e, e2, sgn_neg (by have := Rat.mul_pos (a := p) (b := -q) (by grind) (by grind); grind)]; rfl
    · rw [e, e2, g, Rat.mul_zero, sgn_nul]; rfl
    · rw [e, e2, sgn_pos (by exact Rat.mul_pos h g)]; rfl
theorem kwS {nm : Str} {st : Stmt} (h : ∀ (kV doc pm : Value) (an : Option Addr) (cdv ct : Value) (w u : Value), bindArgs (PySem.W.fnOf nm nm (defArgs st) (defBody st) (defScope st) .none kV doc pm an cdv ct) ⟨[], [(("other" : Str), w), (("one" : Str), u)]⟩ = pure [(("one" : Str), u), (("other" : Str), w)]) :
    ∀ (kV doc pm : Value) (an : Option Addr) (cdv ct : Value) (ws : List Value), ws.length = (["other", "one"] : List Str).length → bindArgs (PySem.W.fnOf nm nm (defArgs st) (defBody st) (defScope st) .none kV doc pm an cdv ct) ⟨[], (["other", "one"] : List Str).zip ws⟩ = pure ((["one", "other"] : List Str).zip (swap2 ws)) := fun kV doc pm an cdv ct ws hl => match ws, hl with | [w, u], _ => h kV doc pm an cdv ct w u
/-! ### _law_pair_right -/
abbrev s_law_pair_right : Stmt := top 62
abbrev N_law_pair_right : List Str := ["box", "x", "y", "z", "named", "a", "b", "c", "sign", "turn", "told", "both", "back"]
abbrev P_law_pair_right : List Str := ["box", "x", "y", "z", "named"]
theorem sc_law_pair_right : FnScope N_law_pair_right P_law_pair_right (defScope s_law_pair_right) := ⟨rfl, rfl, rfl, by decide +kernel, rfl, by decide +kernel, by decide +kernel⟩
theorem bn_law_pair_right : ∀ (kV doc pm : Value) (an : Option Addr) (cdv ct : Value) (us : List Value), us.length = P_law_pair_right.length → bindArgs (PySem.W.fnOf "_law_pair_right" "_law_pair_right" (defArgs s_law_pair_right) (defBody s_law_pair_right) (defScope s_law_pair_right) .none kV doc pm an cdv ct) ⟨us, []⟩ = pure (P_law_pair_right.zip us) := fun _ _ _ _ _ _ us hl => match us, hl with | [_, _, _, _, _], _ => rfl

def prF (b : Bx) (p q r : Rat) : Bx := (giveF (giveF (giveF b p).2 q).2 r).2
inductive F_law_pair_right : List D → Store → D → Store → Prop
  | mk {S : Store} {i : Nat} {b : Bx} {p q r : Rat} {k : Bool} (hi : i < S.length) (hp : Sz 70 p) (hq : Sz 70 q) (hr : Sz 70 r) : F_law_pair_right [.cel i, pr p, pr q, pr r, .bl k] (bx S i b) (.bl true) (bx S i (prF b p q r))
abbrev Ypr (B : Bs) : Ctx := ⟨B, N_law_pair_right, defScope s_law_pair_right, 7, fun _ => true⟩
theorem p_law_pair_right {B : Bs} (F : Dfs B) {f : Addr} {fd : FuncData} (Fn : Fun B.K "_law_pair_right" "_law_pair_right" s_law_pair_right f fd) (hm : B.mg "_law_pair_right" = some (.ref f)) : DefP B "_law_pair_right" s_law_pair_right P_law_pair_right 8 F_law_pair_right := by
  refine def_ok Fn sc_law_pair_right hm bn_law_pair_right fun args S d S' hl hF => ?_
  cases hF with
  | @mk S i b p q r k hi hp hq hr =>
    have T := F.txt
    have P1 := F.give
    have P2 := F.sign
    have P3 := F.plus
    have P4 := F.minus
    have P5 := F.times
    have P6 := F.over
    have P7 := F.compare
    have P8 := F.is 3
    have P9 := F.num
    have P10 := F.ltimes
    have P11 := F.lplus
    have P12 := F.lover
    have P13 := F.lminus
    have hp4 : Sz 400 p := hp.mono (by decide)
    have hq4 : Sz 400 q := hq.mono (by decide)
    have hr4 : Sz 400 r := hr.mono (by decide)
    have hp39 : Sz 3900 p := hp.mono (by decide)
    have hq39 : Sz 3900 q := hq.mono (by decide)
    have hr39 : Sz 3900 r := hr.mono (by decide)
    have h039 : Sz 3900 0 := ⟨by decide, by decide⟩
    have hpr : Sz 3900 (p + r) := (sz_add hp hr).mono (by decide)
    have hqr : Sz 3900 (q + r) := (sz_add hq hr).mono (by decide)
    have hpq : Sz 3900 (p + q) := (sz_add hp hq).mono (by decide)
    have hqp : Sz 3900 (q + p) := (sz_add hq hp).mono (by decide)
    have mpr : Sz 3900 (p * r) := (sz_mul hp hr).mono (by decide)
    have mrp : Sz 3900 (r * p) := (sz_mul hr hp).mono (by decide)
    have mqr : Sz 3900 (q * r) := (sz_mul hq hr).mono (by decide)
    have mrq : Sz 3900 (r * q) := (sz_mul hr hq).mono (by decide)
    have srp : Sz 3900 (r - p) := (sz_sub hr hp).mono (by decide)
    have srq : Sz 3900 (r - q) := (sz_sub hr hq).mono (by decide)
    have spq : Sz 3900 (p - q) := (sz_sub hp hq).mono (by decide)
    refine' ss_cons (s_par3 (i := 5) (j := 6) (l := 7) (x := (giveF b p).1) (y := (giveF (giveF b p).2 q).1) (z := (giveF (giveF (giveF b p).2 q).2 r).1) (S1 := bx S i (prF b p q r)) rfl rfl rfl (by decide) (by decide) (by decide) rfl rfl rfl ?w ?a ?n1)
    case w => exact fun env he => by cases env; cases he; rfl
    case a =>
      refine a_cons (S1 := bx S i (giveF b p).2) ?h1 (a_cons (S1 := bx S i (giveF (giveF b p).2 q).2) ?h2 (a_cons (S1 := bx S i (prF b p q r)) ?h3 a_nil rfl) rfl) rfl
      case h1 => walk_at "ev"
      case h2 => walk_at "ev"
      case h3 => unfold prF; walk_at "ev"
    case n1 =>
    have ia := giveF_isN b p
    have ib := giveF_isN (giveF b p).2 q
    have ic := giveF_isN (giveF (giveF b p).2 q).2 r
    generalize (giveF b p).1 = a at ia ⊢
    generalize (giveF (giveF b p).2 q).1 = c at ib ⊢
    generalize (giveF (giveF (giveF b p).2 q).2 r).1 = e at ic ⊢
    generalize bx S i (prF b p q r) = S2
    refine' ss_cons (s_par (i := 8) (j := 9) (x := .int (sgn (p - q))) (y := .int (sgn (r - 0))) (S1 := S2) rfl rfl (by decide) rfl rfl ?w2 (a_cons (S1 := S2) ?h4 (a_cons (S1 := S2) (e_call (ds := [pr r, pr 0]) (S1 := S2) P2 ?k1 (a_cons (S1 := S2) ?h5 (a_cons (S1 := S2) (show EvE _ _ _ _ (.tup [.int 0, .int 1]) _ from ?h6) a_nil rfl) rfl) (F_law_sign.mk hr39 h039) ?g1 ?g2 ?g3) a_nil rfl) rfl) ?n2)
    case w2 => exact fun env he => by cases env; cases he; rfl
    case h4 => walk_at "ev"
    case h5 => walk_at "ev"
    case h6 => walk_at "ev"
    case k1 | g1 | g2 | g3 => first | rfl | walk_at "ev"
    case n2 =>
    have er0 : r - 0 = r := by grind
    rw [er0]
    refine' ss_cons (s_set (i := 10) (d := .lst [.int (sgn (p - q)), .int (sgn (q - p)), .int (sgn ((p + r) - (q + r))), .int (sgn (p * r - q * r)), .int (sgn ((r - p) - (r - q)))]) (S1 := S2) rfl rfl rfl (e_lst (a_cons (S1 := S2) ?l1 (a_cons (S1 := S2) ?l2 (a_cons (S1 := S2) ?l3 (a_cons (S1 := S2) ?l4 (a_cons (S1 := S2) ?l5 a_nil rfl) rfl) rfl) rfl) rfl) (show 5 ≤ 100000 by decide)) ?n3)
    case l1 => walk_at "ev"
    case l2 =>
      refine e_kwS (ks := ["other", "one"]) (x := a) (y := c) (S1 := S2) P7 ?k2 (k_cons (S1 := S2) ?x1 (k_cons (S1 := S2) ?x2 k_nil)) (kwS fun _ _ _ _ _ _ _ _ => rfl) (Fcompare.mk ib ia hq39 hp39) ?r1 ?r2 ?r3 ?r4 ?r5 ?r6
      case x1 => walk_at "ev"
      case x2 => walk_at "ev"
      all_goals first | rfl | (intros; rfl) | walk_at "ev"
    case l3 => walk_at "ev"
    case l4 => walk_at "ev"
    case l5 => walk_at "ev"
    case n3 =>
    have mt1 : Mt 3 (.lst [.int (sgn (p - q)), .int (sgn (q - p)), .int (sgn ((p + r) - (q + r))), .int (sgn (p * r - q * r)), .int (sgn ((r - p) - (r - q)))]) (.lst [.int (sgn (p - q)), .int (0 - sgn (p - q)), .int (sgn (p - q)), .int (sgn (p - q) * sgn r), .int (0 - sgn (p - q))]) := by
      have a1 : sgn (q - p) = 0 - sgn (p - q) := by rw [← sgn_flip]; congr 1; grind
      have a2 : (p + r) - (q + r) = p - q := by grind
      have a3 : p * r - q * r = (p - q) * r := by grind
      have a4 : (r - p) - (r - q) = q - p := by grind
      rw [a2, a3, a4, a1, sgn_mul]
      exact Mts.mt (k := 2) (.cons (.int _ _) (.cons (.int _ _) (.cons (.int _ _) (.cons (.int _ _) (.cons (.int _ _) .nil))))) (show 5 ≤ 100000 by decide)
    have c2 : CMul (sgn (p - q)) (sgn r) := by
      rcases sgn_cases (p - q) with ⟨_, z⟩ | ⟨_, z⟩ | ⟨_, z⟩ <;> rw [z] <;> exact .inl ⟨by decide, by decide⟩
    refine' ss_cons (s_if (k := !true) (S1 := S2) (t_not (t_val (e_call (ds := [.lst [.int (sgn (p - q)), .int (sgn (q - p)), .int (sgn ((p + r) - (q + r))), .int (sgn (p * r - q * r)), .int (sgn ((r - p) - (r - q)))], .lst [.int (sgn (p - q)), .int (0 - sgn (p - q)), .int (sgn (p - q)), .int (sgn (p - q) * sgn r), .int (0 - sgn (p - q))]]) (S1 := S2) P8 ?k3 (a_cons (S1 := S2) ?t1 (a_cons (S1 := S2) (e_lst (a_cons (S1 := S2) ?t2 (a_cons (S1 := S2) ?t3 (a_cons (S1 := S2) ?t4 (a_cons (S1 := S2) (e_bin ?t5 ?t6 (br_mulS c2)) (a_cons (S1 := S2) ?t7 a_nil rfl) rfl) rfl) rfl) rfl) (show 5 ≤ 100000 by decide)) a_nil rfl) rfl) ⟨_, _, rfl, rfl, rfl, mt1⟩ ?g4 ?g5 ?g6) ?w3)) (fun hk => nomatch hk) (fun _ => ss_nil ?n4))
    case t1 => walk_at "ev"
    case t2 => walk_at "ev"
    case t3 => walk_at "ev"
    case t4 => walk_at "ev"
    case t5 => walk_at "ev"
    case t6 => walk_at "ev"
    case t7 => walk_at "ev"
    case w3 => intros; rfl
    case k3 | g4 | g5 | g6 => first | rfl | walk_at "ev"
    case n4 =>
    -- both
    have ipq := isN_enc (p + q)
    have iqp := isN_enc (q + p)
    have e1 : p + q - q = p := by grind
    have e2 : q + p - q = p := by grind
    refine' ss_cons (s_set (i := 11) (d := enc p) (S1 := S2) rfl rfl rfl (e_if (k := k) (S1 := S2) ?c1 (fun hk => ?x3) (fun hk => ?x4)) ?n5)
    case c1 => walk_at "ev"
    case x3 =>
      rw [← e1]
      refine e_kw (ks := ["one", "other"]) (ds := [enc (p + q), c]) P4 ?k4 (k_cons (S1 := S2) ?y1 (k_cons (S1 := S2) ?y2 k_nil)) (kw2 fun _ _ _ _ _ _ _ _ => rfl) (Fminus.mk ipq ib hpq hq39) ?r7 ?r8 ?r9 ?r10 ?r11 ?r12
      case y1 => walk_at "ev"
      case y2 => walk_at "ev"
      all_goals first | rfl | (intros; rfl) | walk_at "ev"
    case x4 =>
      rw [← e2]
      walk_at "ev"
    case n5 =>
    have mt2 : Mt 3 (.lst [enc p, enc (r * (p + q)), enc (p * r + r * q)]) (.lst ([due p] ++ (List.replicate (2 : Int).toNat [due (r * (p + q))]).flatten)) := by
      have a1 : p * r + r * q = r * (p + q) := by grind
      rw [a1]
      exact Mts.mt (k := 2) (.cons (Mt.num _) (.cons (Mt.num _) (.cons (Mt.num _) .nil))) (show 3 ≤ 100000 by decide)
    refine' ss_cons (s_if (k := !true) (S1 := S2) (t_not (t_val (e_call (ds := [.lst [enc p, enc (r * (p + q)), enc (p * r + r * q)], .lst ([due p] ++ (List.replicate (2 : Int).toNat [due (r * (p + q))]).flatten)]) (S1 := S2) P8 ?k5 (a_cons (S1 := S2) (e_lst (a_cons (S1 := S2) ?u1 (a_cons (S1 := S2) ?u2 (a_cons (S1 := S2) ?u3 a_nil rfl) rfl) rfl) (show 3 ≤ 100000 by decide)) (a_cons (S1 := S2) (e_bin (x := .lst [due p]) (y := .lst (List.replicate (2 : Int).toNat [due (r * (p + q))]).flatten) (S1 := S2) (e_lst (a_cons (S1 := S2) ?u4 a_nil rfl) (show 1 ≤ 100000 by decide)) (e_bin (x := .lst [due (r * (p + q))]) (y := .int 2) (S1 := S2) (e_lst (a_cons (S1 := S2) ?u5 a_nil rfl) (show 1 ≤ 100000 by decide)) ?u6 (br_rep rfl (by decide) (by decide) (show 1 * 2 ≤ 100000 by decide))) (br_cat rfl rfl (show 1 + 2 ≤ 100000 by decide))) a_nil rfl) rfl) ⟨_, _, rfl, rfl, rfl, mt2⟩ ?g7 ?g8 ?g9) ?w4)) (fun hk => nomatch hk) (fun _ => ss_nil ?n6))
    case u1 => walk_at "ev"
    case u2 => walk_at "ev"
    case u3 => walk_at "ev"
    case u4 => walk_at "ev"
    case u5 => walk_at "ev"
    case u6 => walk_at "ev"
    case w4 => intros; rfl
    case k5 | g7 | g8 | g9 => first | rfl | walk_at "ev"
    case n6 =>
    refine' ss_cons (s_if (k := decide (sgn r = 0)) (S1 := S2) ?c2 (fun hk => ?z1) (fun hk => ss_nil ?n7))
    case c2 => walk_at "ev"
    case z1 =>
      have hr0 : r = 0 := by
        have hk := of_decide_eq_true hk
        rcases sgn_cases r with ⟨_, z⟩ | ⟨z, _⟩ | ⟨_, z⟩
        · rw [z] at hk; cases hk
        · exact z
        · rw [z] at hk; cases hk
      have mt3 : Mt 3 (enc (p * r)) (.int 0) := by
        rw [hr0, Rat.mul_zero]
        have : enc 0 = .int 0 := enc_int 0
        rw [this]
        exact .int _ _
      refine' ss_one (s_ret (d := .bl true) (S1 := S2) (e_call (ds := [enc (p * r), .int 0]) (S1 := S2) P8 ?k6 (a_cons (S1 := S2) ?v1 (a_cons (S1 := S2) ?v2 a_nil rfl) rfl) ⟨_, _, rfl, rfl, rfl, mt3⟩ ?g10 ?g11 ?g12) ⟨rfl, .inl rfl⟩)
      case v1 => walk_at "ev"
      case v2 => walk_at "ev"
      all_goals first | rfl | walk_at "ev"
    case n7 =>
    have hr0 : r ≠ 0 := by
      intro z
      rw [z] at hk
      exact Bool.noConfusion (show true = false from hk)
    have ipr := isN_enc (p * r)
    have irp := isN_enc (r * p)
    have e3 : p * r / r = p := Rat.mul_div_cancel hr0
    have e4 : r * p / r = p := by rw [Rat.mul_comm]; exact e3
    refine' ss_cons (s_set (i := 12) (d := enc p) (S1 := S2) rfl rfl rfl (e_if (k := k) (S1 := S2) ?c3 (fun hk => ?x5) (fun hk => ?x6)) ?n8)
    case c3 => walk_at "ev"
    case x5 =>
      rw [← e3]
      refine e_kw (ks := ["one", "other"]) (ds := [enc (p * r), e]) P6 ?k7 (k_cons (S1 := S2) ?y3 (k_cons (S1 := S2) ?y4 k_nil)) (kw2 fun _ _ _ _ _ _ _ _ => rfl) (Fover.mk ipr ic mpr hr39 hr0) ?r13 ?r14 ?r15 ?r16 ?r17 ?r18
      case y3 => walk_at "ev"
      case y4 => walk_at "ev"
      all_goals first | rfl | (intros; rfl) | walk_at "ev"
    case x6 =>
      rw [← e4]
      walk_at "ev"
    case n8 =>
    have mt4 : Mt 3 (.lst [enc p, enc (p / r), enc ((p - q) / r)]) (.lst [due p, due (p / r), due ((p - q) / r)]) := Mts.mt (k := 2) (.cons (Mt.num _) (.cons (Mt.num _) (.cons (Mt.num _) .nil))) (show 3 ≤ 100000 by decide)
    refine' ss_one (s_ret (d := .bl true) (S1 := S2) (e_call (ds := [.lst [enc p, enc (p / r), enc ((p - q) / r)], .lst [due p, due (p / r), due ((p - q) / r)]]) (S1 := S2) P8 ?k8 (a_cons (S1 := S2) (e_lst (a_cons (S1 := S2) ?q1 (a_cons (S1 := S2) ?q2 (a_cons (S1 := S2) ?q3 a_nil rfl) rfl) rfl) (show 3 ≤ 100000 by decide)) (a_cons (S1 := S2) (e_lst (a_cons (S1 := S2) ?q4 (a_cons (S1 := S2) ?q5 (a_cons (S1 := S2) ?q6 a_nil rfl) rfl) rfl) (show 3 ≤ 100000 by decide)) a_nil rfl) rfl) ⟨_, _, rfl, rfl, rfl, mt4⟩ ?g13 ?g14 ?g15) ⟨rfl, .inl rfl⟩)
    case q1 => walk_at "ev"
    case q2 => walk_at "ev"
    case q3 => walk_at "ev"
    case q4 => walk_at "ev"
    case q5 => walk_at "ev"
    case q6 => walk_at "ev"
    all_goals first | rfl | walk_at "ev"
end DL
/-! text: K23 -/
namespace DL
open PySem L2 QM
/-! the walker: one step by the syntax that stands there, then on; what it can't close stays -/
local macro_rules | `(tactic| walk_at "ev") => `(tactic| first
  | ((with_reducible show _ = _); first | rfl | assumption)
  | ((with_reducible show EvE _ _ _ _ _ _); first
      | ((with_reducible show EvE _ (.Name _ _) _ _ _ _); first
      | ((with_reducible refine' e_name ?_ ?_ ?_) <;> try walk_at "ev"))
      | ((with_reducible show EvE _ (.Constant _ _ _) _ _ _ _); first
      | (with_reducible exact e_int)
      | (with_reducible exact e_str)
      | (with_reducible exact e_bl)
      | (with_reducible exact e_non))
      | ((with_reducible show EvE _ (.Call _ _ _ _) _ _ _ _); first
      | walk_at "call"
      | ((with_reducible show EvE _ (.Call (.Name "isinstance" _) _ _ _) _ _ _ _); first
      | ((with_reducible refine' e_isInt (by assumption) ?_ ?_ ?_ ?_ ?_) <;> try walk_at "ev")
      | ((with_reducible refine' e_isBool (by assumption) ?_ ?_ ?_ ?_ ?_) <;> try walk_at "ev")
      | ((with_reducible refine' e_isRat (by assumption) ?_ ?_ ?_ ?_ ?_) <;> try walk_at "ev")
      | ((with_reducible refine' e_isStr (by assumption) ?_ ?_ ?_ ?_ ?_) <;> try walk_at "ev")
      | ((with_reducible refine' e_isList (by assumption) ?_ ?_ ?_ ?_ ?_) <;> try walk_at "ev")
      | ((with_reducible refine' e_isTup (by assumption) ?_ ?_ ?_ ?_ ?_) <;> try walk_at "ev")
      | ((with_reducible refine' e_isDict (by assumption) ?_ ?_ ?_ ?_ ?_) <;> try walk_at "ev")
      | ((with_reducible refine' e_isLT (by assumption) ?_ ?_ ?_ ?_ ?_ ?_) <;> try walk_at "ev"))
      | ((with_reducible refine' e_len (nm := "len") (by assumption) ?_ ?_ ?_ ?_) <;> try walk_at "ev")
      | ((with_reducible refine' e_abs (by assumption) ?_ ?_ ?_) <;> try walk_at "ev")
      | ((with_reducible refine' e_intI (by assumption) ?_ ?_ ?_) <;> try walk_at "ev")
      | ((with_reducible refine' e_list (by assumption) ?_ ?_ ?_ ?_) <;> try walk_at "ev")
      | ((with_reducible refine' e_tuple (by assumption) ?_ ?_ ?_ ?_) <;> try walk_at "ev")
      | ((with_reducible refine' e_gcd (by assumption) ?_ ?_ ?_ ?_ ?_) <;> try walk_at "ev")
      | ((with_reducible refine' e_max2 (by assumption) ?_ ?_ ?_ ?_ ?_) <;> try walk_at "ev")
      | ((with_reducible refine' e_min2 (by assumption) ?_ ?_ ?_ ?_ ?_) <;> try walk_at "ev"))
      | ((with_reducible show EvE _ (.BinOp _ _ _ _) _ _ _ _); first
      | ((with_reducible refine' e_bin ?_ ?_ ?_) <;> try walk_at "ev"))
      | ((with_reducible show EvE _ (.Subscript _ _ _) _ _ _ _); first
      | ((with_reducible refine' e_ix ?_ ?_ ?_ ?_ ?_) <;> try walk_at "ev"))
      | ((with_reducible show EvE _ (.Compare _ _ _ _) _ _ _ _); first
      | ((with_reducible refine' e_cmp ?_ ?_ ?_ ?_) <;> try walk_at "ev"))
      | ((with_reducible show EvE _ (.Attribute _ _ _) _ _ _ _); first
      | ((with_reducible refine' e_top (by assumption) ?_ ?_) <;> try walk_at "ev")
      | ((with_reducible refine' e_bottom (by assumption) ?_ ?_) <;> try walk_at "ev"))
      | ((with_reducible show EvE _ (.UnaryOp _ _ _) _ _ _ _); first
      | ((with_reducible refine' e_not ?_) <;> try walk_at "ev")
      | ((with_reducible refine' e_neg ?_) <;> try walk_at "ev"))
      | ((with_reducible show EvE _ (.Tuple _ _ _) _ _ _ _); first
      | ((with_reducible refine' e_tup ?_ ?_) <;> try walk_at "ev"))
      | ((with_reducible show EvE _ (.List _ _) _ _ _ _); first
      | ((with_reducible refine' e_lst ?_ ?_) <;> try walk_at "ev"))
      | ((with_reducible show EvE _ (.BoolOp _ _ _) _ _ _ _); first
      | ((with_reducible refine' e_one ?_) <;> try walk_at "ev")
      | ((with_reducible refine' e_and ?_ (fun _ => ?_)) <;> try walk_at "ev")
      | ((with_reducible refine' e_or ?_ (fun _ => ?_)) <;> try walk_at "ev"))
      | ((with_reducible show EvE _ (.IfExp _ _ _ _) _ _ _ _); first
      | ((with_reducible refine' e_if ?_ ?_ ?_) <;> first | walk_at "ev" | walk_at "way" | skip)))
  | exact Nat.le_of_ble_eq_true (by rfl)
  | ((with_reducible show EvT _ _ _ _ _ _); first
      | ((with_reducible refine' t_cmp ?_ ?_ ?_ ?_) <;> try walk_at "ev")
      | ((with_reducible refine' t_not ?_) <;> try walk_at "ev")
      | ((with_reducible refine' t_of (w_and ?_ (fun _ => ?_))) <;> try walk_at "ev")
      | ((with_reducible refine' t_of (w_or ?_ (fun _ => ?_))) <;> try walk_at "ev")
      | ((with_reducible refine' t_val ?_ ?_) <;> try walk_at "ev"))
  | ((with_reducible show EvA _ _ _ _ _ _); first
      | ((with_reducible refine' a_cons ?_ ?_ ?_) <;> try walk_at "ev")
      | (with_reducible exact a_nil))
  | ((with_reducible show BinR _ _ _ _ _ _); first
      | (with_reducible exact br_add)
      | (with_reducible exact br_sub)
      | ((with_reducible refine' br_mul ?_) <;> try walk_at "sz")
      | walk_at "br")
  | ((with_reducible show CmpR _ _ _ _ _ _); first
      | (with_reducible exact cr_lt)
      | (with_reducible exact cr_le)
      | (with_reducible exact cr_gt)
      | (with_reducible exact cr_ge)
      | (with_reducible exact cr_eqI)
      | (with_reducible exact cr_neI)
      | (with_reducible exact cr_isN)
      | (with_reducible exact cr_isB)
      | (with_reducible exact cr_eqB)
      | (with_reducible exact cr_eqS)
      | walk_at "cr")
  | ((with_reducible show EvW _ _ _ _ _ _); first
      | ((with_reducible refine' w_and1 ?_) <;> try walk_at "ev")
      | ((with_reducible refine' w_or1 ?_) <;> try walk_at "ev")
      | ((with_reducible refine' w_and ?_ (fun _ => ?_)) <;> try walk_at "ev")
      | ((with_reducible refine' w_or ?_ (fun _ => ?_)) <;> try walk_at "ev"))
  | ((with_reducible show EvK _ _ _ _ _ _); first
      | ((with_reducible refine' k_cons ?_ ?_) <;> try walk_at "ev")
      | (with_reducible exact k_nil))
  | ((with_reducible show Tgt _ _ _); first
      | ((with_reducible refine' Tgt.cons ?_ ?_ ?_ ?_) <;> try walk_at "ev")
      | (with_reducible exact Tgt.nil))
  | walk_at "side"
  | (intros; rfl))
local macro_rules | `(tactic| walk_at "side") => `(tactic| fail)
local macro_rules | `(tactic| walk_at "br") => `(tactic| fail)
local macro_rules | `(tactic| walk_at "cr") => `(tactic| fail)
local macro_rules | `(tactic| walk_at "call") => `(tactic| fail)
local macro_rules | `(tactic| walk_at "way") => `(tactic| first | exact fun z => Bool.noConfusion (show false = true from z) | exact fun z => Bool.noConfusion (show true = false from z) | (intro _; walk_at "ev"))
local macro_rules | `(tactic| walk_at "sz") => `(tactic| assumption)

local macro_rules | `(tactic| walk_at "side") => `(tactic| ((with_reducible show IsN _ _); first | assumption | exact isN_enc _ | exact IsN.int _))
local macro_rules | `(tactic| walk_at "side") => `(tactic| ((with_reducible show _ ≠ _); assumption))
local macro_rules | `(tactic| walk_at "side") => `(tactic| ((with_reducible show (_ : Nat) < _); assumption))
local macro_rules | `(tactic| walk_at "side") => `(tactic| ((with_reducible show Sz _ _); assumption))
local macro_rules | `(tactic| walk_at "side") => `(tactic| ((with_reducible show IsNs _ _); assumption))
local macro_rules | `(tactic| walk_at "side") => `(tactic| ((with_reducible show Sml _); assumption))

local macro_rules | `(tactic| walk_at "side") => `(tactic| ((with_reducible show (_ : Int) < _); first | assumption | decide))
local macro_rules | `(tactic| walk_at "side") => `(tactic| ((with_reducible show ∀ _, _); assumption))
local macro_rules | `(tactic| walk_at "side") => `(tactic| ((with_reducible show (_ : Nat) ≤ _); assumption))
local macro_rules | `(tactic| walk_at "side") => `(tactic| ((with_reducible show Nat.log2 _ < _); decide +kernel))
local macro_rules | `(tactic| walk_at "call") => `(tactic| ((with_reducible refine' e_call (by assumption : DefP _ "_law_take" _ _ _ _) ?_ ?_ (F_law_take.mk ?_ ?_ ?_) ?_ ?_ ?_) <;> try walk_at "ev"))
local macro_rules | `(tactic| walk_at "call") => `(tactic| ((with_reducible refine' e_call (by assumption : DefP _ "_law_number" _ _ _ _) ?_ ?_ (F_law_number.mk ?_) ?_ ?_ ?_) <;> try walk_at "ev"))
local macro_rules | `(tactic| walk_at "call") => `(tactic| ((with_reducible refine' e_call (by assumption : DefP _ "_law_box" _ _ _ _) ?_ ?_ (F_law_box.mk) ?_ ?_ ?_) <;> try walk_at "ev"))
local macro_rules | `(tactic| walk_at "call") => `(tactic| ((with_reducible refine' e_call (by assumption : DefP _ "_law_cell" _ _ _ _) ?_ ?_ (F_law_cell.mk) ?_ ?_ ?_) <;> try walk_at "ev"))
/-! ### law -/
def nmS (st : List Rat × Bx) : List Rat × Bx := (st.1 ++ [(numF st.2).1], (numF st.2).2)
def nmN : Nat → Bx → List Rat × Bx
  | 0, b => ([], b)
  | n + 1, b => nmS (nmN n b)
theorem nmN_facts (b : Bx) : ∀ n, (nmN n b).1.length = n ∧ ∀ q ∈ (nmN n b).1, Sz 70 q
  | 0 => ⟨rfl, fun _ h => nomatch h⟩
  | n + 1 => by
    obtain ⟨h1, h2⟩ := nmN_facts b n
    refine ⟨by show ((nmN n b).1 ++ [_]).length = _; rw [List.length_append, h1]; rfl, fun q hq => ?_⟩
    rcases List.mem_append.mp hq with z | z
    · exact h2 q z
    · rw [List.mem_singleton] at z
      rw [z]
      exact numF_sz _
theorem nmN_take (b : Bx) (n i : Nat) (h : i ≤ n) : (nmN n b).1.take i = (nmN i b).1 := by
  induction n with
  | zero =>
    have : i = 0 := by omega
    subst this
    rfl
  | succ n ih =>
    show ((nmN n b).1 ++ [_]).take i = _
    by_cases hi : i ≤ n
    · rw [List.take_append_of_le_length (by rw [(nmN_facts b n).1]; exact hi)]
      exact ih hi
    · have : i = n + 1 := by omega
      subst this
      rw [List.take_of_length_le (by rw [List.length_append, (nmN_facts b n).1]; exact Nat.le_refl _)]
      rfl
abbrev slaw : Stmt := top 63
abbrev Nlaw : List Str := ["script", "k", "box", "named", "turn", "numbers", "x", "y", "one"]
abbrev Plaw : List Str := ["script"]
theorem sclaw : FnScope Nlaw Plaw (defScope slaw) := ⟨rfl, rfl, rfl, by decide +kernel, rfl, by decide +kernel, by decide +kernel⟩
theorem bnlaw : ∀ (kV doc pm : Value) (an : Option Addr) (cdv ct : Value) (us : List Value), us.length = Plaw.length → bindArgs (PySem.W.fnOf "law" "law" (defArgs slaw) (defBody slaw) (defScope slaw) .none kV doc pm an cdv ct) ⟨us, []⟩ = pure (Plaw.zip us) := fun _ _ _ _ _ _ us hl => match us, hl with | [_], _ => rfl

abbrev Ylw (B : Bs) : Ctx := ⟨B, Nlaw, defScope slaw, 10, fun _ => true⟩
abbrev lwOut : List Stmt := match (defBody slaw).headD (.Pass ⟨0, 0, 0, 0⟩) with
  | .For _ _ b _ _ => b
  | _ => []
abbrev lwIn : List Stmt := match lwOut.getD 2 (.Pass ⟨0, 0, 0, 0⟩) with
  | .For _ _ c _ _ => c
  | _ => []
theorem pick_ex (b : Bx) {l : List Rat} (h : l ≠ []) : ∃ q, (l.map pr)[(take b ((l.map pr).length : Nat)).1.toNat]? = some (pr q) ∧ q ∈ l := by
  have hpos : 0 < l.length := List.length_pos_iff.mpr h
  have r := take_range (b := b) (m := ((l.map pr).length : Nat)) (by rw [List.length_map]; omega)
  rw [List.length_map] at r ⊢
  generalize (take b (l.length : Nat)).1 = t at r
  have hl : t.toNat < l.length := by omega
  exact ⟨l[t.toNat], by rw [List.getElem?_map, List.getElem?_eq_getElem hl]; rfl, List.getElem_mem hl⟩
theorem cut_to' {α : Type} {l : List α} {c : Nat} : cutD l none (some (c : Int)) = l.take c := by
  unfold cutD
  rw [HT.sIx_nat, HT.sIx_none, List.drop_zero, Nat.sub_zero]
  rcases Nat.le_total c l.length with h | h
  · rw [Nat.min_eq_left h]
  · rw [Nat.min_eq_right h, List.take_of_length_le (Nat.le_refl _), List.take_of_length_le h]
structure Good (l : List Rat) : Prop where
  sz : ∀ q ∈ l, Sz 70 q
  le : l.length ≤ 8
  ne : l ≠ []
structure Dfs2 (B : Bs) : Prop extends Dfs B where
  list_right : DefP B "_law_list_right" s_law_list_right P_law_list_right 9 F_law_list_right
  pair_right : DefP B "_law_pair_right" s_law_pair_right P_law_pair_right 8 F_law_pair_right
  box : DefP B "_law_box" s_law_box P_law_box 1 F_law_box
  cell : DefP B "_law_cell" s_law_cell P_law_cell 1 F_law_cell
/-- the judging of one turn's numbers -/
theorem lw2 {B : Bs} (F : Dfs2 B) {S : Store} {i : Nat} {b : Bx} {l : List Rat} {nm : Bool} (hi : i < S.length) (hn : nocS S) (g : Good l) (o0 o1 o4 o6 o7 o8 : Option D) {E : DE} (hE : ∀ o4 o5 o6 o7 o8 b', E.nx [o0, o1, some (.cel i), some (.bl (!nm)), o4, o5, o6, o7, o8] (bx S i b')) :
    EvSs (Ylw B) (lwIn.drop 2) [o0, o1, some (.cel i), some (.bl nm), o4, some (.lst (l.map pr)), o6, o7, o8] (bx S i b) E := by
  have T := F.txt
  have P1 := F.list_right
  have P2 := F.pick
  have P3 := F.number
  have P4 := F.pair_right
  have hle := g.le
  refine' ss_cons (s_if (k := !true) (S1 := bx S i (lrF b l)) (t_not (t_val (e_call (ds := [.cel i, .lst (l.map pr), .bl nm]) (S1 := bx S i b) P1 ?k1 (a_cons (S1 := bx S i b) ?h1 (a_cons (S1 := bx S i b) ?h2 (a_cons (S1 := bx S i b) ?h3 a_nil rfl) rfl) rfl) (F_law_list_right.mk hi hn g.sz hle g.ne) ?g1 ?g2 ?g3) ?w1)) (fun hk => nomatch hk) (fun _ => ss_nil ?n1))
  case h1 => walk_at "ev"
  case h2 => walk_at "ev"
  case h3 => walk_at "ev"
  case w1 => intros; rfl
  case k1 | g1 | g2 | g3 => first | rfl | walk_at "ev"
  case n1 =>
  generalize lrF b l = b1
  obtain ⟨p, hp, hpm⟩ := pick_ex b1 g.ne
  have l1 : (l.map pr).length ≤ 100000 := by rw [List.length_map]; omega
  generalize hb2 : (take b1 ((l.map pr).length : Nat)).2 = b2
  obtain ⟨q, hq, hqm⟩ := pick_ex (numF b2).2 (l := l ++ [(numF b2).1]) (by simp)
  have l2 : ((l ++ [(numF b2).1]).map pr).length ≤ 100000 := by rw [List.length_map, List.length_append, List.length_singleton]; omega
  generalize hb3 : (take (numF b2).2 (((l ++ [(numF b2).1]).map pr).length : Nat)).2 = b3
  have hsp := g.sz p hpm
  have hsq : Sz 70 q := by
    rcases List.mem_append.mp hqm with z | z
    · exact g.sz q z
    · rw [List.mem_singleton] at z
      rw [z]
      exact numF_sz _
  refine' ss_cons (s_par (i := 6) (j := 7) (x := pr p) (y := pr q) (S1 := bx S i b3) rfl rfl (by decide) rfl rfl ?w2 (a_cons (S1 := bx S i b2) (e_is (d := pr p) (S1 := bx S i (take b1 ((l.map pr).length : Nat)).2) (e_call (ds := [.cel i, .lst (l.map pr)]) (S1 := bx S i b1) P2 ?k2 (a_cons (S1 := bx S i b1) ?h4 (a_cons (S1 := bx S i b1) ?h5 a_nil rfl) rfl) (F_law_pick.mk hi rfl hp l1) ?g4 ?g5 ?g6) rfl (by rw [hb2]))
    (a_cons (S1 := bx S i b3) (e_is (d := pr q) (S1 := bx S i (take (numF b2).2 (((l ++ [(numF b2).1]).map pr).length : Nat)).2) (e_call (ds := [.cel i, .lst ((l ++ [(numF b2).1]).map pr)]) (S1 := bx S i (numF b2).2) P2 ?k3 (a_cons (S1 := bx S i b2) ?h6 (a_cons (S1 := bx S i (numF b2).2) (e_is (d := .lst (l.map pr ++ [pr (numF b2).1])) (S1 := bx S i (numF b2).2) (e_bin (x := .lst (l.map pr)) (y := .lst [pr (numF b2).1]) (S1 := bx S i b2) ?h7 (e_lst (a_cons (S1 := bx S i (numF b2).2) ?h8 a_nil rfl) (show 1 ≤ 100000 by decide)) (br_cat rfl rfl (by rw [List.length_map, List.length_singleton]; omega))) (by rw [List.map_append]; rfl) rfl) a_nil rfl) rfl) (F_law_pick.mk hi rfl hq l2) ?g7 ?g8 ?g9) rfl (by rw [hb3])) a_nil rfl) rfl) ?n2)
  case w2 => exact fun env he => by cases env; cases he; rfl
  case h4 => walk_at "ev"
  case h5 => walk_at "ev"
  case h6 => walk_at "ev"
  case h7 => walk_at "ev"
  case h8 => walk_at "ev"
  case k2 | k3 | g4 | g5 | g6 | g7 | g8 | g9 => first | rfl | walk_at "ev"
  case n2 =>
  have hsr := numF_sz b3
  refine' ss_cons (s_if (k := !true) (S1 := bx S i (prF (numF b3).2 p q (numF b3).1)) (t_not (t_val (e_call (ds := [.cel i, pr p, pr q, pr (numF b3).1, .bl nm]) (S1 := bx S i (numF b3).2) P4 ?k4 (a_cons (S1 := bx S i b3) ?i1 (a_cons (S1 := bx S i b3) ?i2 (a_cons (S1 := bx S i b3) ?i3 (a_cons (S1 := bx S i (numF b3).2) ?i4 (a_cons (S1 := bx S i (numF b3).2) ?i5 a_nil rfl) rfl) rfl) rfl) rfl) (F_law_pair_right.mk hi hsp hsq hsr) ?g10 ?g11 ?g12) ?w3)) (fun hk => nomatch hk) (fun _ => ss_nil ?n3))
  case i1 => walk_at "ev"
  case i2 => walk_at "ev"
  case i3 => walk_at "ev"
  case i4 => walk_at "ev"
  case i5 => walk_at "ev"
  case w3 => intros; rfl
  case k4 | g10 | g11 | g12 => first | rfl | walk_at "ev"
  case n3 =>
  refine' ss_one (s_set (i := 3) rfl rfl rfl ?h9 ?n4)
  case h9 => walk_at "ev"
  case n4 => exact hE _ _ _ _ _ _
/-- one turn -/
theorem lw1 {B : Bs} (F : Dfs2 B) {S : Store} {i : Nat} {b : Bx} {nm : Bool} (hi : i < S.length) (hn : nocS S) (o0 o1 o4 o5 o6 o7 o8 : Option D) {E : DE} (hE : ∀ o4 o5 o6 o7 o8 b', E.nx [o0, o1, some (.cel i), some (.bl (!nm)), o4, o5, o6, o7, o8] (bx S i b')) :
    EvSs (Ylw B) lwIn [o0, o1, some (.cel i), some (.bl nm), o4, o5, o6, o7, o8] (bx S i b) E := by
  have T := F.txt
  have P1 := F.take
  have P2 := F.pick
  have P3 := F.number
  have P4 := F.low
  have r8 := take_range (b := b) (m := 8) (by decide)
  obtain ⟨t, ht⟩ : ∃ t : Nat, (take b 8).1 = (t : Int) := ⟨_, (Int.toNat_of_nonneg r8.1).symm⟩
  have ht7 : t ≤ 7 := by omega
  obtain ⟨f1, f2⟩ := nmN_facts (take b 8).2 (1 + t)
  refine' ss_cons (s_setLc (ds := rngD (1 + (take b 8).1).toNat) (S1 := bx S i (take b 8).2) (res := (nmN (1 + t) (take b 8).2).1.map pr) (Se := bx S i (nmN (1 + t) (take b 8).2).2) (i := 5) [("one", 8)] rfl rfl (fun env he => by cases env; cases he; rfl) (i_range (n := 1 + (take b 8).1) T ?it (by omega) (by omega) ?q1 ?q2) (g_name (i := 8) rfl rfl rfl) (fun _ _ => trivial) (fun k hk => by simpa using hk) rfl
    (fun j acc S' => acc = (nmN j (take b 8).2).1.map pr ∧ S' = bx S i (nmN j (take b 8).2).2) ⟨rfl, rfl⟩ ?turn ?done ?zz ?n2)
  case it => walk_at "ev"
  case q1 | q2 => rfl
  case turn =>
    rintro j d acc S' hd ⟨rfl, rfl⟩
    refine ⟨true, _, .no, fun _ => ⟨pr (numF (nmN j (take b 8).2).2).1, bx S i (numF (nmN j (take b 8).2).2).2, ?_, ?_, rfl⟩, fun z => nomatch z⟩
    · walk_at "ev"
    · show _ = ((nmN j (take b 8).2).1 ++ [_]).map pr
      rw [List.map_append]
      rfl
  case done =>
    rintro acc S' ⟨rfl, rfl⟩
    rw [rngD_len, ht, show ((1 : Int) + (t : Int)).toNat = 1 + t by omega]
    exact ⟨rfl, rfl⟩
  case zz =>
    rw [rngD_len]
    omega
  case n2 =>
  have gl : Good (nmN (1 + t) (take b 8).2).1 := ⟨f2, by omega, fun z => by rw [z] at f1; cases t <;> simp at f1⟩
  generalize (nmN (1 + t) (take b 8).2).1 = l at gl ⊢
  generalize (nmN (1 + t) (take b 8).2).2 = b2
  refine' ss_cons (s_if (k := decide ((take b2 2).1 = 0)) (S1 := bx S i (take b2 2).2) ?c (fun hk => ?x) (fun hk => ss_nil ?n3))
  case c => walk_at "ev"
  case n3 => exact lw2 F hi hn gl _ _ _ _ _ _ hE
  case x =>
    generalize (take b2 2).2 = b3
    obtain ⟨p, hp, hpm⟩ := pick_ex b3 gl.ne
    have hle := gl.le
    have l1 : (l.map pr).length ≤ 100000 := by rw [List.length_map]; omega
    generalize hb4 : (take b3 ((l.map pr).length : Nat)).2 = b4
    obtain ⟨q0, l', rfl⟩ : ∃ q0 l', l = q0 :: l' := by
      cases l with
      | nil => exact absurd rfl gl.ne
      | cons q0 l' => exact ⟨q0, l', rfl⟩
    have hs0 := gl.sz q0 List.mem_cons_self
    have a0 : atI ((q0 :: l').map pr) 0 = some (pr q0) := atI_nat (j := 0) rfl
    have s0 : seqA (bx S i b4) (pr q0) = some [.int q0.num, .int (q0.den : Int)] := rfl
    have hneg : Rat.divInt (0 - q0.num) (q0.den : Int) = -q0 := by rw [neg_div]; congr 1; omega
    have z1 : (0 - q0.num).natAbs < 2 ^ 8000 := lt4 (k := 70) (by have := hs0.1; omega) (by decide)
    have z2 : ((q0.den : Int)).natAbs < 2 ^ 8000 := lt4 (k := 70) (nat_lt hs0.2) (by decide)
    have gl2 : Good ((q0 :: l').take 6 ++ [p, -q0]) := by
      refine ⟨fun q hq => ?_, ?_, by simp⟩
      · rcases List.mem_append.mp hq with z | z
        · exact gl.sz q (List.mem_of_mem_take z)
        · rcases List.mem_cons.mp z with y | y
          · rw [y]; exact gl.sz p hpm
          · rw [List.mem_singleton] at y; rw [y]; exact sz_neg hs0
      · rw [List.length_append, List.length_take]
        show min 6 (q0 :: l').length + 2 ≤ 8
        omega
    have e6 : cutD ((q0 :: l').map pr) none (some 6) = ((q0 :: l').take 6).map pr := by
      rw [show (6 : Int) = ((6 : Nat) : Int) from rfl, cut_to', List.map_take]
    have hd0 := den_ne q0
    refine' ss_one (s_set (i := 5) (d := .lst (((q0 :: l').take 6 ++ [p, -q0]).map pr)) (S1 := bx S i b4) rfl rfl rfl (e_is (d := .lst (((q0 :: l').take 6).map pr ++ [pr p, pr (Rat.divInt (0 - q0.num) (q0.den : Int))])) (S1 := bx S i b4) (e_bin (x := .lst (((q0 :: l').take 6).map pr)) (y := .lst [pr p, pr (Rat.divInt (0 - q0.num) (q0.den : Int))]) (S1 := bx S i b3) (e_is (e_sliceL (i := none) (j := some 6) (ds := (q0 :: l').map pr) (x := .lst ((q0 :: l').map pr)) ?e5 .no (.so ?e7) rfl) (by rw [e6]) rfl)
      (e_lst (a_cons (S1 := bx S i b4) (e_is (d := pr p) (S1 := bx S i (take b3 (((q0 :: l').map pr).length : Nat)).2) (e_call (ds := [.cel i, .lst ((q0 :: l').map pr)]) (S1 := bx S i b3) P2 ?k2 (a_cons (S1 := bx S i b3) ?h4 (a_cons (S1 := bx S i b3) ?h5 a_nil rfl) rfl) (F_law_pick.mk hi rfl hp l1) ?g4 ?g5 ?g6) rfl (by rw [hb4]))
        (a_cons (S1 := bx S i b4) (e_call (ds := [.int (0 - q0.num), .int (q0.den : Int)]) (S1 := bx S i b4) P4 ?k3 (a_cons (S1 := bx S i b4) (e_bin ?h6 (e_ix (i := 0) (x := pr q0) (S1 := bx S i b4) (e_ix (x := .lst ((q0 :: l').map pr)) (S1 := bx S i b4) ?h7 ?h8 rfl a0 rfl) ?h9 s0 rfl rfl) br_sub) (a_cons (S1 := bx S i b4) (e_ix (i := 1) (x := pr q0) (S1 := bx S i b4) (e_ix (x := .lst ((q0 :: l').map pr)) (S1 := bx S i b4) ?h10 ?h11 rfl a0 rfl) ?h12 s0 rfl rfl) a_nil rfl) rfl) (F_law_low.mk hd0 z1 z2) ?g7 ?g8 ?g9) a_nil rfl) rfl) (show 2 ≤ 100000 by decide)) (br_cat rfl rfl (by rw [List.length_map, List.length_take]; show min 6 _ + 2 ≤ 100000; omega))) (by rw [hneg, List.map_append]; rfl) rfl) ?n4)
    case e5 => walk_at "ev"
    case e7 => walk_at "ev"
    case h4 => walk_at "ev"
    case h5 => walk_at "ev"
    case h6 => walk_at "ev"
    case h7 => walk_at "ev"
    case h8 => walk_at "ev"
    case h9 => walk_at "ev"
    case h10 => walk_at "ev"
    case h11 => walk_at "ev"
    case h12 => walk_at "ev"
    case k2 | k3 | g4 | g5 | g6 | g7 | g8 | g9 => first | rfl | walk_at "ev"
    case n4 => exact lw2 F hi hn gl2 _ _ _ _ _ _ hE
/-- one cell -/
theorem lw0 {B : Bs} (F : Dfs2 B) {S : Store} {ns : List Int} {k : Nat} (hn : nocS S) (o2 o3 o4 o5 o6 o7 o8 : Option D) {E : DE} (hE : ∀ o1 o2 o3 o4 o5 o6 o7 o8 S', nocS S' → E.nx [some (.fro (ns.map D.int)), o1, o2, o3, o4, o5, o6, o7, o8] S') :
    EvSs (Ylw B) lwOut [some (.fro (ns.map D.int)), some (.int (k : Int)), o2, o3, o4, o5, o6, o7, o8] S E := by
  have T := F.txt
  have P1 := F.take
  have P2 := F.box
  have P3 := F.cell
  have hi : S.length < (S ++ [none]).length := by rw [List.length_append]; exact Nat.lt_succ_self _
  have hn2 : nocS (S ++ [none]) := fun j c e => by
    by_cases hj : j < S.length
    · rw [List.getElem?_append_left hj] at e
      exact hn j c e
    · rw [List.getElem?_append_right (by omega)] at e
      cases hk : j - S.length with
      | zero => rw [hk] at e; cases e
      | succ m => rw [hk] at e; simp at e
  refine' ss_cons (s_set (i := 2) rfl rfl rfl ?h1 ?n1)
  case h1 => walk_at "ev"
  case n1 =>
  generalize boxOf (cellOf ns k) = b
  generalize hS2 : S ++ [none] = S2 at hi hn2
  generalize S.length = i at hi
  refine' ss_cons (s_set (i := 3) (d := .bl (decide ((take b 2).1 = 0))) (S1 := bx S2 i (take b 2).2) rfl rfl rfl ?h2 ?n2)
  case h2 => walk_at "ev"
  case n2 =>
  generalize decide ((take b 2).1 = 0) = nm
  generalize (take b 2).2 = b2
  refine ss_one (s_for (ds := rngD 3) (S1 := bx S2 i b2) (j := 4) rfl rfl rfl (i_range (n := 3) T ?h3 (by decide) (by decide) ?q1 ?q2)
    (fun j Γ' S' => ∃ nm b o4 o5 o6 o7 o8, Γ' = [some (.fro (ns.map D.int)), some (.int (k : Int)), some (.cel i), some (.bl nm), o4, o5, o6, o7, o8] ∧ S' = bx S2 i b) ⟨nm, b2, o4, o5, o6, o7, o8, rfl, rfl⟩ ?turn ?done)
  case h3 => walk_at "ev"
  case q1 | q2 => rfl
  case done =>
    rintro Γ' S' ⟨nm, b, o4, o5, o6, o7, o8, rfl, rfl⟩
    exact hE _ _ _ _ _ _ _ _ _ (nocS_bx hn2)
  case turn =>
    rintro j d Γ' S' hd ⟨nm, b, o4, o5, o6, o7, o8, rfl, rfl⟩
    exact lw1 F hi hn2 _ _ _ _ _ _ _ fun o4 o5 o6 o7 o8 b' => ⟨!nm, b', o4, o5, o6, o7, o8, rfl, rfl⟩
inductive Flaw : List D → Store → D → Store → Prop
  | mk (ns : List Int) (h : ns.length ≤ 100000) : Flaw [.fro (ns.map D.int)] [] (.bl true) []
theorem p_law {B : Bs} (F : Dfs2 B) {f : Addr} {fd : FuncData} (Fn : Fun B.K "law" "law" slaw f fd) (hm : B.mg "law" = some (.ref f)) : DefP B "law" slaw Plaw 11 Flaw := by
  refine def_ok Fn sclaw hm bnlaw fun args S d S' hl hF => ?_
  cases hF with
  | mk ns h =>
    have T := F.txt
    have hsq : seqA [] (.fro (ns.map D.int)) = some (ns.map D.int) := rfl
    have hl2 : (ns.map D.int).length ≤ 100000 := by rw [List.length_map]; exact h
    refine ss_cons (s_for (ds := rngD (max 2 (min 4 ((ns.map D.int).length : Int))).toNat) (S1 := []) (j := 1) rfl rfl rfl (i_range (n := max 2 (min 4 ((ns.map D.int).length : Int))) T ?h1 (by omega) (by omega) ?q1 ?q2)
      (fun j Γ' S' => ∃ o1 o2 o3 o4 o5 o6 o7 o8, Γ' = [some (.fro (ns.map D.int)), o1, o2, o3, o4, o5, o6, o7, o8] ∧ nocS S') ⟨none, none, none, none, none, none, none, none, rfl, fun j c e => by simp at e⟩ ?turn ?done)
    case h1 => walk_at "ev"
    case q1 | q2 => rfl
    case done =>
      rintro Γ' S' ⟨o1, o2, o3, o4, o5, o6, o7, o8, rfl, hn⟩
      exact ss_one (s_ret (d := .bl true) (S1 := S') e_bl ⟨rfl, .inr ⟨S', rfl, rfl, rfl, fun j c e => by simp at e⟩⟩)
    case turn =>
      rintro j d Γ' S' hd ⟨o1, o2, o3, o4, o5, o6, o7, o8, rfl, hn⟩
      obtain ⟨_, rfl⟩ := rngD_get hd
      exact lw0 F hn _ _ _ _ _ _ _ fun o1 o2 o3 o4 o5 o6 o7 o8 S' h => ⟨o1, o2, o3, o4, o5, o6, o7, o8, rfl, h⟩
end DL
/-! text: K24 -/
namespace DL
open PySem PySem.Spec PyProof.Rows L2 QM
theorem fact_of {K : PySem.W.Frag} (c : He.SaysE faA fnA K) {f : He.Fa} (h : f ∈ faA) : f.ok K = true := by
  obtain ⟨i, hi, e⟩ := List.mem_iff_getElem.mp h
  exact c.fact i (f := f) (by rw [List.getElem?_eq_getElem hi, e])
section
variable {K : PySem.W.Frag} {h : Heap} {mg : Str → Option Value}
theorem fun_of (X : K.In h) (G : h.Ns PySem.mainGlobals mg) (c : He.SaysE faA fnA K) {p : Str × Nat} (hp : p ∈ dlA) : ∃ f fd, Fun K p.1 p.1 (top p.2) f fd ∧ mg p.1 = some (.ref f) := by
  obtain ⟨i, hi, e⟩ := List.mem_iff_getElem.mp hp
  obtain ⟨oc, od, osl, kV, doc, pm, an, cdv, ct, lk, cd⟩ := c.def_ (i + 1) (d := mkD p) (by
    unfold fnA
    rw [List.getElem?_cons_succ, List.getElem?_map, List.getElem?_eq_getElem hi, e]
    rfl)
  have k := He.keep_ok (fact_of c (f := .keep p.1) (by
    unfold faA
    refine List.mem_append_right _ (List.mem_append_right _ (List.mem_append_right _ ?_))
    exact List.mem_map.mpr ⟨p, hp, rfl⟩))
  have g := He.glo_ok X G (fact_of c (f := .glo p.1) (by
    unfold faA
    refine List.mem_append_right _ (List.mem_append_right _ (List.mem_append_left _ ?_))
    exact List.mem_map.mpr ⟨p, hp, rfl⟩))
  exact ⟨He.ga K p.1, _, ⟨⟨oc, od, kV, doc, pm, an, cdv, ct, osl, rfl, lk, cd⟩, k⟩, g⟩
theorem ratio_of (c : He.SaysE faA fnA K) : ∃ f fd, Fun K "__init__" "Ratio.__init__" sInit f fd ∧ Mk K (He.ga K "Ratio") f := by
  obtain ⟨oc, od, osl, kV, doc, pm, an, cdv, ct, lk, cd⟩ := c.def_ 0 (d := dInit) rfl
  have m := He.meth_ok (fact_of c (f := .meth "Ratio" "__init__") (List.mem_append_left _ (by simp [faR])))
  have mk := He.mkr_ok (fact_of c (f := .mkr "Ratio") (List.mem_append_left _ (by simp [faR])))
  exact ⟨He.ma K (He.ga K "Ratio") "__init__", _, ⟨⟨oc, od, kV, doc, pm, an, cdv, ct, osl, rfl, lk, cd⟩, m.kp⟩, mk⟩
theorem txt_of {P : Program} {w : World} {base : Heap} (X : K.In h) (G : h.Ns PySem.mainGlobals mg) (c : He.SaysE faA fnA K) (cx : exA K = true) : Txt ⟨P, w, K, mg, base, He.ga K "Ratio"⟩ := by
  unfold exA at cx
  obtain ⟨x1, cx⟩ := He.ba cx
  obtain ⟨x2, cx⟩ := He.ba cx
  obtain ⟨x3, cx⟩ := He.ba cx
  obtain ⟨x4, cx⟩ := He.ba cx
  obtain ⟨x5, cx⟩ := He.ba cx
  obtain ⟨x6, cx⟩ := He.ba cx
  obtain ⟨x7, x8⟩ := He.ba cx
  refine ⟨fun x hx => ?_, He.cls_ok (fact_of c (List.mem_append_left _ (by simp [faR]))), He.eqO_ok x1, He.eqO_ok x2, of_decide_eq_true x3, of_decide_eq_true x4, He.noat_ok (fact_of c (List.mem_append_left _ (by simp [faR]))), He.noat_ok (fact_of c (List.mem_append_left _ (by simp [faR]))),
    He.glo_ok X G (fact_of c (List.mem_append_left _ (by simp [faR]))), PySem.W.mg_of X G (He.eqO_ok x8), fun n hn => of_decide_eq_true (List.all_eq_true.mp x5 n hn), fun n hn => of_decide_eq_true (List.all_eq_true.mp x6 n hn), of_decide_eq_true x7⟩
  have hm : x ∈ freeL := List.contains_iff_mem.mp hx
  exact He.free_ok X G (fact_of c (f := .free x) (by
    unfold faA
    exact List.mem_append_right _ (List.mem_append_left _ (List.mem_map.mpr ⟨x, hm, rfl⟩))))
end
/-- the law keeps its promise -/
theorem law_of {B : Bs} (T : Txt B) (HF : ∀ p : Str × Nat, p ∈ dlA → ∃ f fd, Fun B.K p.1 p.1 (top p.2) f fd ∧ B.mg p.1 = some (.ref f)) (HR : ∃ f fd, Fun B.K "__init__" "Ratio.__init__" sInit f fd ∧ Mk B.K B.C f) : DefP B "law" slaw Plaw 11 Flaw := by
  obtain ⟨f_is_whole, fd_is_whole, F_is_whole, m_is_whole⟩ := HF ("is_whole", 7) (by decide +kernel)
  have h_is_whole := p_whole T F_is_whole m_is_whole
  obtain ⟨f_i, fd_i, F_i, mk_i⟩ := HR
  have hR : RatP B 2 := ⟨f_i, fd_i, p_init T F_i h_is_whole, mk_i, F_i.binds (ps := ["self", "top", "bottom"]) fun _ _ _ _ _ _ us hl => match us, hl with | [_, _, _], _ => rfl⟩
  obtain ⟨f_pair_of, fd_pair_of, F_pair_of, m_pair_of⟩ := HF ("pair_of", 10) (by decide +kernel)
  have h_pair_of := p_pair_of T F_pair_of m_pair_of
  obtain ⟨f_quotient, fd_quotient, F_quotient, m_quotient⟩ := HF ("quotient", 11) (by decide +kernel)
  have h_quotient := p_quotient T hR F_quotient m_quotient
  obtain ⟨f_plain, fd_plain, F_plain, m_plain⟩ := HF ("plain", 12) (by decide +kernel)
  have h_plain := p_plain T h_quotient F_plain m_plain
  obtain ⟨f_add, fd_add, F_add, m_add⟩ := HF ("add", 13) (by decide +kernel)
  have h_add := p_add T h_pair_of h_quotient F_add m_add
  obtain ⟨f_negative, fd_negative, F_negative, m_negative⟩ := HF ("negative", 14) (by decide +kernel)
  have h_negative := p_negative T hR F_negative m_negative
  obtain ⟨f_less, fd_less, F_less, m_less⟩ := HF ("less", 15) (by decide +kernel)
  have h_less := p_less T h_add h_negative F_less m_less
  obtain ⟨f_product, fd_product, F_product, m_product⟩ := HF ("product", 16) (by decide +kernel)
  have h_product := p_product T h_pair_of h_quotient F_product m_product
  obtain ⟨f_divided, fd_divided, F_divided, m_divided⟩ := HF ("divided", 17) (by decide +kernel)
  have h_divided := p_divided T h_pair_of h_quotient F_divided m_divided
  obtain ⟨f_sign_of, fd_sign_of, F_sign_of, m_sign_of⟩ := HF ("sign_of", 18) (by decide +kernel)
  have h_sign_of := p_sign_of T h_pair_of F_sign_of m_sign_of
  obtain ⟨f_common_bottom, fd_common_bottom, F_common_bottom, m_common_bottom⟩ := HF ("common_bottom", 19) (by decide +kernel)
  have h_common_bottom := p_common_bottom T h_pair_of F_common_bottom m_common_bottom
  obtain ⟨f_wholes, fd_wholes, F_wholes, m_wholes⟩ := HF ("wholes", 20) (by decide +kernel)
  have h_wholes := p_wholes T h_pair_of F_wholes m_wholes
  obtain ⟨f_sum_of, fd_sum_of, F_sum_of, m_sum_of⟩ := HF ("sum_of", 21) (by decide +kernel)
  have h_sum_of := p_sum_of T h_common_bottom h_wholes h_quotient F_sum_of m_sum_of
  obtain ⟨f_highest, fd_highest, F_highest, m_highest⟩ := HF ("highest", 22) (by decide +kernel)
  have h_highest := p_highest T h_common_bottom h_wholes h_plain F_highest m_highest
  obtain ⟨f_lowest, fd_lowest, F_lowest, m_lowest⟩ := HF ("lowest", 23) (by decide +kernel)
  have h_lowest := p_lowest T h_common_bottom h_wholes h_plain F_lowest m_lowest
  obtain ⟨f_is_number, fd_is_number, F_is_number, m_is_number⟩ := HF ("is_number", 9) (by decide +kernel)
  have h_is_number := p_is_number T h_is_whole F_is_number m_is_number
  obtain ⟨f_check_number, fd_check_number, F_check_number, m_check_number⟩ := HF ("check_number", 26) (by decide +kernel)
  have h_check_number := p_check_number T h_is_number F_check_number m_check_number
  obtain ⟨f_check_pair, fd_check_pair, F_check_pair, m_check_pair⟩ := HF ("check_pair", 27) (by decide +kernel)
  have h_check_pair := p_check_pair T h_check_number F_check_pair m_check_pair
  obtain ⟨f_check_numbers, fd_check_numbers, F_check_numbers, m_check_numbers⟩ := HF ("check_numbers", 33) (by decide +kernel)
  have h_check_numbers := p_check_numbers T h_is_number F_check_numbers m_check_numbers
  obtain ⟨f_plus, fd_plus, F_plus, m_plus⟩ := HF ("plus", 28) (by decide +kernel)
  have h_plus := p_plus T h_check_pair h_plain h_add F_plus m_plus
  obtain ⟨f_minus, fd_minus, F_minus, m_minus⟩ := HF ("minus", 29) (by decide +kernel)
  have h_minus := p_minus T h_check_pair h_plain h_less F_minus m_minus
  obtain ⟨f_times, fd_times, F_times, m_times⟩ := HF ("times", 30) (by decide +kernel)
  have h_times := p_times T h_check_pair h_plain h_product F_times m_times
  obtain ⟨f_over, fd_over, F_over, m_over⟩ := HF ("over", 31) (by decide +kernel)
  have h_over := p_over T h_check_pair h_sign_of h_divided F_over m_over
  obtain ⟨f_compare, fd_compare, F_compare, m_compare⟩ := HF ("compare", 32) (by decide +kernel)
  have h_compare := p_compare T h_check_pair h_sign_of h_less F_compare m_compare
  obtain ⟨f_total, fd_total, F_total, m_total⟩ := HF ("total", 34) (by decide +kernel)
  have h_total := p_total T h_check_numbers h_sum_of F_total m_total
  obtain ⟨f_least, fd_least, F_least, m_least⟩ := HF ("least", 35) (by decide +kernel)
  have h_least := p_least T h_check_numbers h_lowest F_least m_least
  obtain ⟨f_greatest, fd_greatest, F_greatest, m_greatest⟩ := HF ("greatest", 36) (by decide +kernel)
  have h_greatest := p_greatest T h_check_numbers h_highest F_greatest m_greatest
  obtain ⟨f_row_keys, fd_row_keys, F_row_keys, m_row_keys⟩ := HF ("row_keys", 24) (by decide +kernel)
  have h_row_keys := p_row_keys T h_common_bottom h_wholes F_row_keys m_row_keys
  obtain ⟨f_sorted_rows, fd_sorted_rows, F_sorted_rows, m_sorted_rows⟩ := HF ("sorted_rows", 25) (by decide +kernel)
  have h_sorted_rows := p_sorted_rows T h_row_keys F_sorted_rows m_sorted_rows
  obtain ⟨f_ascending, fd_ascending, F_ascending, m_ascending⟩ := HF ("ascending", 37) (by decide +kernel)
  have h_ascending := p_ascending T h_check_numbers h_sorted_rows h_plain F_ascending m_ascending
  obtain ⟨f__law_take, fd__law_take, F__law_take, m__law_take⟩ := HF ("_law_take", 41) (by decide +kernel)
  have h__law_take := p_law_take T F__law_take m__law_take
  obtain ⟨f__law_pick, fd__law_pick, F__law_pick, m__law_pick⟩ := HF ("_law_pick", 42) (by decide +kernel)
  have h__law_pick := p_law_pick T h__law_take F__law_pick m__law_pick
  obtain ⟨f__law_box, fd__law_box, F__law_box, m__law_box⟩ := HF ("_law_box", 40) (by decide +kernel)
  have h__law_box := p_law_box T F__law_box m__law_box
  obtain ⟨f__law_cell, fd__law_cell, F__law_cell, m__law_cell⟩ := HF ("_law_cell", 39) (by decide +kernel)
  have h__law_cell := p_law_cell T F__law_cell m__law_cell
  obtain ⟨f__law_low, fd__law_low, F__law_low, m__law_low⟩ := HF ("_law_low", 44) (by decide +kernel)
  have h__law_low := p_law_low T F__law_low m__law_low
  obtain ⟨f__law_plus, fd__law_plus, F__law_plus, m__law_plus⟩ := HF ("_law_plus", 45) (by decide +kernel)
  have h__law_plus := p_law_plus T h__law_low F__law_plus m__law_plus
  obtain ⟨f__law_minus, fd__law_minus, F__law_minus, m__law_minus⟩ := HF ("_law_minus", 46) (by decide +kernel)
  have h__law_minus := p_law_minus T h__law_low F__law_minus m__law_minus
  obtain ⟨f__law_times, fd__law_times, F__law_times, m__law_times⟩ := HF ("_law_times", 47) (by decide +kernel)
  have h__law_times := p_law_times T h__law_low F__law_times m__law_times
  obtain ⟨f__law_over, fd__law_over, F__law_over, m__law_over⟩ := HF ("_law_over", 48) (by decide +kernel)
  have h__law_over := p_law_over T h__law_low F__law_over m__law_over
  obtain ⟨f__law_less, fd__law_less, F__law_less, m__law_less⟩ := HF ("_law_less", 49) (by decide +kernel)
  have h__law_less := p_law_less T F__law_less m__law_less
  obtain ⟨f__law_num, fd__law_num, F__law_num, m__law_num⟩ := HF ("_law_num", 51) (by decide +kernel)
  have h__law_num := p_law_num T F__law_num m__law_num
  obtain ⟨f__law_sum, fd__law_sum, F__law_sum, m__law_sum⟩ := HF ("_law_sum", 50) (by decide +kernel)
  have h__law_sum := p_law_sum T h__law_plus F__law_sum m__law_sum
  obtain ⟨f__law_mixed, fd__law_mixed, F__law_mixed, m__law_mixed⟩ := HF ("_law_mixed", 43) (by decide +kernel)
  have h__law_mixed := p_law_mixed T h__law_take F__law_mixed m__law_mixed
  obtain ⟨f__law_give, fd__law_give, F__law_give, m__law_give⟩ := HF ("_law_give", 52) (by decide +kernel)
  have h__law_give := p_law_give T hR h__law_take F__law_give m__law_give
  obtain ⟨f__law_given, fd__law_given, F__law_given, m__law_given⟩ := HF ("_law_given", 53) (by decide +kernel)
  have h__law_given := p_law_given T h__law_give F__law_given m__law_given
  obtain ⟨f__law_number, fd__law_number, F__law_number, m__law_number⟩ := HF ("_law_number", 55) (by decide +kernel)
  have h__law_number := p_law_number T h__law_take h__law_low h__law_pick F__law_number m__law_number
  obtain ⟨f__law_small, fd__law_small, F__law_small, m__law_small⟩ := HF ("_law_small", 56) (by decide +kernel)
  have h__law_small := p_law_small T h__law_take h__law_low F__law_small m__law_small
  obtain ⟨f__law_sides, fd__law_sides, F__law_sides, m__law_sides⟩ := HF ("_law_sides", 57) (by decide +kernel)
  have h__law_sides := p_law_sides T h__law_less F__law_sides m__law_sides
  obtain ⟨f__law_is, fd__law_is, F__law_is, m__law_is⟩ := HF ("_law_is", 54) (by decide +kernel)
  have h__law_is := p_law_is T F__law_is m__law_is
  obtain ⟨f__law_all, fd__law_all, F__law_all, m__law_all⟩ := HF ("_law_all", 58) (by decide +kernel)
  have h__law_all := p_law_all T h__law_mixed h__law_given h_total h_least h_greatest h_ascending F__law_all m__law_all
  obtain ⟨f__law_due, fd__law_due, F__law_due, m__law_due⟩ := HF ("_law_due", 59) (by decide +kernel)
  have h__law_due := p_law_due T h__law_sides h__law_num h__law_sum F__law_due m__law_due
  obtain ⟨f__law_sign, fd__law_sign, F__law_sign, m__law_sign⟩ := HF ("_law_sign", 61) (by decide +kernel)
  have h__law_sign := p_law_sign T h__law_less F__law_sign m__law_sign
  have dfs : Dfs B := ⟨T, h__law_take, h__law_pick, h__law_low, h__law_plus, h__law_minus, h__law_times, h__law_over, h__law_less, h__law_sum, h__law_num, h__law_give, h__law_given, h__law_is, h__law_number, h__law_small, h__law_sides, h__law_all, h__law_due, h__law_sign, h_total, h_plus, h_minus, h_times, h_over, h_compare⟩
  obtain ⟨f__law_list_right, fd__law_list_right, F__law_list_right, m__law_list_right⟩ := HF ("_law_list_right", 60) (by decide +kernel)
  have h__law_list_right := p_law_list_right dfs F__law_list_right m__law_list_right
  obtain ⟨f__law_pair_right, fd__law_pair_right, F__law_pair_right, m__law_pair_right⟩ := HF ("_law_pair_right", 62) (by decide +kernel)
  have h__law_pair_right := p_law_pair_right dfs F__law_pair_right m__law_pair_right
  have dfs2 : Dfs2 B := ⟨dfs, h__law_list_right, h__law_pair_right, h__law_box, h__law_cell⟩
  obtain ⟨f_law, fd_law, F_law, m_law⟩ := HF ("law", 63) (by decide +kernel)
  exact p_law dfs2 F_law m_law
def spLaw (K : PySem.W.Frag) : Sp := fun vs H Q _ => ∃ (a : Addr) (ns : List Int), vs = [.ref a] ∧ SqL K H a (ns.map V.int) ∧ ns.length ≤ 100000 ∧ ∀ H', Q (.bl true) H'
theorem reps_ints {B : Bs} {W : Wd} : ∀ ns : List Int, Reps B W (ns.map D.int) (ns.map V.int)
  | [] => .nil
  | n :: ns => .cons (by simp only [Rep]) (reps_ints ns)
theorem facts {P : Program} {w : World} {K : PySem.W.Frag} {h : Heap} {mg : Str → Option Value} {fl : Addr} (X : K.In h) (G : h.Ns PySem.mainGlobals mg) (hfa : mg ("law" : Str) = some (.ref fl)) (c : He.SaysE faA fnA K) (cx : exA K = true) :
    ∃ fd : FuncData, (∀ (s : Shared) (v : Value), BindsTo s fd ⟨[v], []⟩ [("script", v)]) ∧ ∀ base : Heap, K.In base → base.Ns PySem.mainGlobals mg → FnOk P w K mg base CX0 11 fl fd ["script"] (spLaw K) := by
  have key : ∀ base : Heap, ∃ fd : FuncData, Fun K "law" "law" slaw fl fd ∧ FnOk P w K mg base CX0 11 fl fd ["script"] (spLaw K) := fun base => by
    obtain ⟨f, fd, F, ok, hm, bd⟩ := (law_of (txt_of (P := P) (w := w) (base := base) X G c cx) (fun p hp => fun_of X G c hp) (ratio_of c)).ex
    have e : fl = f := by
      have := hfa.symm.trans hm
      cases this
      rfl
    subst e
    refine ⟨fd, F, ok.imp fun vs H Q E ⟨a, ns, e, hS, hl, hQ⟩ => ?_⟩
    subst e
    refine ⟨⟨H, []⟩, [.fro (ns.map D.int)], [], .bl true, [], rfl, .cons ?_ .nil, ⟨fun _ _ e => e, rfl, fun i c e => by simp at e, fun i j a c c' e => by simp at e, fun a m => by simp at m⟩, .mk ns hl, fun W' v H' _ _ r => ?_⟩
    · simp only [Rep]
      exact ⟨a, _, rfl, hS, reps_ints ns⟩
    · simp only [Rep] at r
      subst r
      exact hQ H'
  obtain ⟨fd, F, _⟩ := key h
  refine ⟨fd, fun s v => ?_, fun base _ _ => ?_⟩
  · obtain ⟨oc, od, kV, doc, pm, an, cdv, ct, osl, hfd, _, _⟩ := F.ex
    rw [hfd]
    exact .of_eq rfl
  · obtain ⟨fd2, F2, ok⟩ := key base
    have e : fd2 = fd := by
      obtain ⟨oc, od, kV, doc, pm, an, cdv, ct, osl, hfd, lk, _⟩ := F.ex
      obtain ⟨oc2, od2, kV2, doc2, pm2, an2, cdv2, ct2, osl2, hfd2, lk2, _⟩ := F2.ex
      rw [lk] at lk2
      injection lk2 with lk2
      injection lk2 with _ _ e3 _
      injection e3 with e4
      exact e4.symm
    rw [← e]
    exact ok
end DL
open PySem PySem.W PySem.Calls PyProof.Rows
theorem PySem.Challenge.cw_saidthendone_k00_whole_sums_regrouped_holds : PySem.Challenge.rw_saidthendone_k00_whole_sums_regrouped.Holds := by
  w_on; o_law
  refine HandSHeadRun.head_imp (r := OpenLaw.row PySem.Challenge.rw_saidthendone_k00_whole_sums_regrouped) (q := DL.qv) (H := DL.hookM 6) (ob := DL.obM) (M := 8000) (loose := DL.namesA) (d := HandSHeadRun.topDef (OpenLaw.row PySem.Challenge.rw_saidthendone_k00_whole_sums_regrouped).prog 63) (kwd := []) DL.obM_eq
    DL.run (by kernel_rfl) (by kernel_rfl) (by kernel_rfl) (by rfl) (by first | assumption | decide +kernel) (by decide +kernel) ⟨rfl, rfl, rfl, rfl, rfl, by decide +kernel⟩ ?hw ?hc
  case hw => w_witness2
  case hc =>
    refine L2.walk_ofE (l := PySem.Challenge.rw_saidthendone_k00_whole_sums_regrouped) (n := 63) (k := 11) (x := "script") (CX := L2.CX0) rfl (by decide) (by kernel_rfl) ⟨rfl, by decide, by decide⟩ ?F (fun _ _ _ _ z => z)
    intro w mg fa h Y G hmg0
    obtain ⟨K, KX, c, cx⟩ := Y
    have hmg : mg ("law" : PySem.Str) = some (.ref fa) := by
      have e : (HandSHeadRun.topDef (OpenLaw.row PySem.Challenge.rw_saidthendone_k00_whole_sums_regrouped).prog 63).name = ("law" : PySem.Str) := by kernel_rfl
      rw [← e]
      exact hmg0
    obtain ⟨fd, hb, hF⟩ := DL.facts (P := (PySem.Challenge.rw_saidthendone_k00_whole_sums_regrouped).prog) (w := w) KX G hmg c cx
    exact ⟨K, fd, DL.spLaw K, KX, hb, fun H a ns hl _ hS => ⟨a, ns, rfl, hS, Nat.le_trans hl (by decide), fun _ => rfl⟩, hF⟩
