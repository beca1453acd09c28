import PyProof.Rows.All
import Wide.All
import OpenK.AllK
import Wide.FinOn
import HandS.ForMost
import HandS.Walk
import HandS.IsInst
import HandS.Slots
import HandS.SlotsOwn
import HandS.Zip
import HandS.TupAny
import HandS.Deep
import HandS.Conv
import HandS.Style
import HandS.DictComp
import HandS.SortKw
import HandS.More
import HandS.Lambda
import HandS.EndTab
import HandS.Wide
import KE.SortData
import KE.KDictKeyed
import KE.KeyNested
import KE.KDictWalk
import KE.DataMinMax
import KE.SortKeyHeap
import HandS.Star
import KE.KDictCopyH
import KE.KDictPairs
import HandS.DictTup
import KE.KDictOf
import KE.KDictItemsList
import KE.KEqDict
import PySem.Challenge.RW_ifthenbooks_k63_whole_convexity
set_option Elab.async false
set_option linter.all false
set_option maxRecDepth 100000
set_option maxHeartbeats 4000000
/-! Data without the heap (D), what stands for it in the heap (Is), and judgements that hand on Lean functions. -/
namespace Dx
open PySem PySem.Spec PyProof.Rows L2

inductive D where
  | non
  | bl (b : Bool)
  | int (i : Int)
  | str (x : Str)
  | tup (xs : List D)
  | lst (xs : List D)
  | ks (xs : List Int)
  | dic (kvs : List (D × D))
  | obj (c : Nat) (fs : List (Str × D))
  | raw (v : L2.V)
instance : Inhabited D := ⟨.non⟩

structure Cs where
  P : Program
  w : World
  K : PySem.W.Frag
  cl : Nat → Addr
  T : List (Addr × Str)

abbrev Hid := Addr → Prop
/-- the object at a is o -/
def ExO (a : Addr) (o : Obj) : HO := .ext fun h => h.get? a = some o

mutual
def toPy : D → PyData
  | .non => .none
  | .bl b => .bool b
  | .int i => .int i
  | .str x => .str x
  | .tup xs => .tuple (toPys xs)
  | .lst xs => .list (toPys xs)
  | .ks _ => .none
  | .dic _ => .none
  | .obj _ _ => .none
  | .raw _ => .none
def toPys : List D → List PyData
  | [] => []
  | x :: xs => toPy x :: toPys xs
end
mutual
/-- no dict, no object in it -/
def plain : D → Bool
  | .non => true
  | .bl _ => true
  | .int _ => true
  | .str _ => true
  | .tup xs => plains xs
  | .lst xs => plains xs
  | .ks _ => false
  | .dic _ => false
  | .obj _ _ => false
  | .raw _ => false
def plains : List D → Bool
  | [] => true
  | x :: xs => plain x && plains xs
end
mutual
def toKey : D → Option NestedKey
  | .non => some .none
  | .bl _ => none
  | .int i => some (.num i)
  | .str x => some (.text x)
  | .tup xs => (toKeys xs).map .tup
  | .lst _ => none
  | .ks _ => none
  | .dic _ => none
  | .obj _ _ => none
  | .raw _ => none
def toKeys : List D → Option (List NestedKey)
  | [] => some []
  | x :: xs => (toKey x).bind fun k => (toKeys xs).map fun ks => k :: ks
end
/-- a tuple as a key -/
def keyOf : D → Option NestedKey
  | .tup xs => (toKeys xs).bind fun ks => if (NestedKey.tup ks).depth ≤ 8 then some (.tup ks) else none
  | _ => none

def DicAt (C : Cs) (a : Addr) (o : Obj) (xs : List (NestedKey × Addr × Value)) : Prop :=
  (a == sysModules) = false ∧ o.ExactDict ∧ xs.length ≤ sizeLine ∧ (∃ es ep, o.data = .dict es ep ∧ es.toList = xs.map (entryOfKey (nestedKind C.P C.w))) ∧ (xs.map (·.1)).Nodup

mutual
inductive Is (C : Cs) (Z : Hid) (H : Hp) : V → D → Prop
  | non : Is C Z H .non .non
  | bl (b : Bool) : Is C Z H (.bl b) (.bl b)
  | int (i : Int) : Is C Z H (.int i) (.int i)
  | str (x : Str) : Is C Z H (.str x) (.str x)
  | raw (v : V) : Is C Z H v (.raw v)
  | tup {a : Addr} {vs : List V} {ds : List D} : ¬ Z a → H a = some (.tup vs) → IsAll C Z H vs ds → ds.length ≤ sizeLine → Is C Z H (.ref a) (.tup ds)
  | lst {a : Addr} {vs : List V} {ds : List D} : ¬ Z a → H a = some (.lst vs) → IsAll C Z H vs ds → ds.length ≤ sizeLine → Is C Z H (.ref a) (.lst ds)
  | ks {a : Addr} {kvs : List (Key × V)} {xs : List Int} : ¬ Z a → H a = some (.dK kvs) → kvs.map (·.1) = xs.map Sum.inl → Is C Z H (.ref a) (.ks xs)
  | dic {a : Addr} {o : Obj} {xs : List (NestedKey × Addr × Value)} {kvs : List (D × D)} : ¬ Z a → H a = some (ExO a o) → DicAt C a o xs → IsKv C Z H xs kvs → Is C Z H (.ref a) (.dic kvs)
  | obj {a dx : Addr} {c : Nat} {fs : List (Str × V)} {ds : List (Str × D)} : ¬ Z a → c ≠ 0 → H a = some (.ins (C.cl c) dx fs) → IsFs C Z H fs ds → Is C Z H (.ref a) (.obj c ds)
  | book {a dx : Addr} {vm vr : V} {m r : D} : ¬ Z a → ¬ Z dx → SlX.Slt H a (C.cl 0) dx [some vm, some vr] → Is C Z H vm m → Is C Z H vr r →
      Is C Z H (.ref a) (.obj 0 [("marks", m), ("rules", r)])
inductive IsAll (C : Cs) (Z : Hid) (H : Hp) : List V → List D → Prop
  | nil : IsAll C Z H [] []
  | cons {v : V} {vs : List V} {d : D} {ds : List D} : Is C Z H v d → IsAll C Z H vs ds → IsAll C Z H (v :: vs) (d :: ds)
inductive IsKv (C : Cs) (Z : Hid) (H : Hp) : List (NestedKey × Addr × Value) → List (D × D) → Prop
  | nil : IsKv C Z H [] []
  | cons {b : Addr} {k : NestedKey} {v : V} {u : Value} {dk dv : D} {xs : List (NestedKey × Addr × Value)} {kvs : List (D × D)} :
      Is C Z H (.ref b) dk → keyOf dk = some k → RelV v u → Is C Z H v dv → IsKv C Z H xs kvs → IsKv C Z H ((k, b, u) :: xs) ((dk, dv) :: kvs)
inductive IsFs (C : Cs) (Z : Hid) (H : Hp) : List (Str × V) → List (Str × D) → Prop
  | nil : IsFs C Z H [] []
  | cons {f : Str} {v : V} {d : D} {fs : List (Str × V)} {ds : List (Str × D)} : Is C Z H v d → IsFs C Z H fs ds → IsFs C Z H ((f, v) :: fs) ((f, d) :: ds)
end

/-- what is not hidden stays (but the tables) -/
def ExZ (Z : Hid) (H H' : Hp) : Prop := ∀ b o, ¬ Z b → H b = some o → (∀ ps, o ≠ .tbl ps) → H' b = some o
theorem ExZ.refl (Z : Hid) (H : Hp) : ExZ Z H H := fun _ _ _ h _ => h
theorem ExZ.trans {Z : Hid} {H H1 H2 : Hp} (a : ExZ Z H H1) (b : ExZ Z H1 H2) : ExZ Z H H2 := fun c o z h n => b c o z (a c o z h n) n
theorem ExZ.of {Z : Hid} {H H' : Hp} (e : LamX.ExtN H H') : ExZ Z H H' := fun b o _ h n => e b o h n
theorem ex_rd {Z : Hid} {H H' : Hp} {a : Addr} {u : HO} (e : ExZ Z H H') (z : ¬ Z a) (n : ∀ ps, u ≠ .tbl ps) (h : Rd H a u) : Rd H' a u := by
  rcases h with h | ⟨o, h⟩
  · exact .inl (e a _ z h n)
  · exact .inr ⟨o, e a _ z h (fun ps q => by cases q)⟩
theorem rd_some {H : Hp} {a : Addr} {u : HO} (h : Rd H a u) : H a ≠ none := by
  rcases h with h | ⟨o, h⟩
  · rw [h]; simp
  · rw [h]; simp
theorem ex_l {K : PySem.W.Frag} {Z : Hid} {H H' : Hp} {a : Addr} {xs : List V} (e : ExZ Z H H') (z : ¬ Z a) (h : SqL K H a xs) : SqL K H' a xs := by
  rcases h with h | h
  · exact .inl (ex_rd e z (fun ps q => by cases q) h)
  · exact .inr h
theorem ex_t {K : PySem.W.Frag} {Z : Hid} {H H' : Hp} {a : Addr} {xs : List V} (e : ExZ Z H H') (z : ¬ Z a) (h : SqT K H a xs) : SqT K H' a xs := by
  rcases h with h | h
  · exact .inl (ex_rd e z (fun ps q => by cases q) h)
  · exact .inr h
theorem exO_ne {a : Addr} {o : Obj} (ps : Array Value) : ExO a o ≠ .tbl ps := fun z => by
  unfold ExO at z
  cases z
theorem ex_slt {Z : Hid} {H H' : Hp} {a C dx : Addr} {vs : List (Option V)} (e : ExZ Z H H') (za : ¬ Z a) (zd : ¬ Z dx) (h : SlX.Slt H a C dx vs) : SlX.Slt H' a C dx vs := by
  rcases h with ⟨h1, h2⟩ | ⟨h1, h2⟩
  · exact .inl ⟨e a _ za h1 (fun ps q => by cases q), h2⟩
  · refine .inr ⟨e a _ za h1 (fun ps q => ?_), e dx _ zd h2 (fun ps q => by cases q)⟩
    unfold SlX.SlO at q
    cases q

mutual
theorem Is.mono {C : Cs} {Z : Hid} {H H' : Hp} (e : ExZ Z H H') : ∀ (d : D) (v : V), Is C Z H v d → Is C Z H' v d
  | .non, _, h => by cases h; exact .non
  | .bl b, _, h => by cases h; exact .bl b
  | .int i, _, h => by cases h; exact .int i
  | .str x, _, h => by cases h; exact .str x
  | .raw v, _, h => by cases h; exact .raw v
  | .tup ds, _, h => by
    cases h with
    | tup z hs ha hl => exact .tup z (e _ _ z hs (fun ps q => by cases q)) (IsAll.mono e ds _ ha) hl
  | .lst ds, _, h => by
    cases h with
    | lst z hs ha hl => exact .lst z (e _ _ z hs (fun ps q => by cases q)) (IsAll.mono e ds _ ha) hl
  | .ks xs, _, h => by
    cases h with
    | ks z h1 h2 => exact .ks z (e _ _ z h1 (fun ps q => by cases q)) h2
  | .dic kvs, _, h => by
    cases h with
    | dic z h1 h2 h3 => exact .dic z (e _ _ z h1 exO_ne) h2 (IsKv.mono e kvs _ h3)
  | .obj c fs, _, h => by
    cases h with
    | obj z nc h1 h2 => exact .obj z nc (e _ _ z h1 (fun ps q => by cases q)) (IsFs.mono e fs _ h2)
    | book z zd h1 h2 h3 => exact .book z zd (ex_slt e z zd h1) (Is.mono e _ _ h2) (Is.mono e _ _ h3)
theorem IsAll.mono {C : Cs} {Z : Hid} {H H' : Hp} (e : ExZ Z H H') : ∀ (ds : List D) (vs : List V), IsAll C Z H vs ds → IsAll C Z H' vs ds
  | [], _, h => by cases h; exact .nil
  | d :: ds, _, h => by
    cases h with
    | cons h1 h2 => exact .cons (Is.mono e d _ h1) (IsAll.mono e ds _ h2)
theorem IsKv.mono {C : Cs} {Z : Hid} {H H' : Hp} (e : ExZ Z H H') : ∀ (kvs : List (D × D)) (xs : List (NestedKey × Addr × Value)), IsKv C Z H xs kvs → IsKv C Z H' xs kvs
  | [], _, h => by cases h; exact .nil
  | (dk, dv) :: kvs, _, h => by
    cases h with
    | cons h1 h2 h3 h4 h5 => exact .cons (Is.mono e dk _ h1) h2 h3 (Is.mono e dv _ h4) (IsKv.mono e kvs _ h5)
theorem IsFs.mono {C : Cs} {Z : Hid} {H H' : Hp} (e : ExZ Z H H') : ∀ (ds : List (Str × D)) (fs : List (Str × V)), IsFs C Z H fs ds → IsFs C Z H' fs ds
  | [], _, h => by cases h; exact .nil
  | (f, d) :: ds, _, h => by
    cases h with
    | cons h1 h2 => exact .cons (Is.mono e d _ h1) (IsFs.mono e ds _ h2)
end

mutual
/-- another hidden set: what stands for data is tracked -/
theorem Is.hide {C : Cs} {Z Z' : Hid} {H : Hp} (e : ∀ a, H a ≠ none → ¬ Z a → ¬ Z' a) : ∀ (d : D) (v : V), Is C Z H v d → Is C Z' H v d
  | .non, _, h => by cases h; exact .non
  | .bl b, _, h => by cases h; exact .bl b
  | .int i, _, h => by cases h; exact .int i
  | .str x, _, h => by cases h; exact .str x
  | .raw v, _, h => by cases h; exact .raw v
  | .tup ds, _, h => by
    cases h with
    | tup z hs ha hl => exact .tup (e _ (by rw [hs]; simp) z) hs (IsAll.hide e ds _ ha) hl
  | .lst ds, _, h => by
    cases h with
    | lst z hs ha hl => exact .lst (e _ (by rw [hs]; simp) z) hs (IsAll.hide e ds _ ha) hl
  | .ks xs, _, h => by
    cases h with
    | ks z h1 h2 => exact .ks (e _ (by rw [h1]; simp) z) h1 h2
  | .dic kvs, _, h => by
    cases h with
    | dic z h1 h2 h3 => exact .dic (e _ (by rw [h1]; simp) z) h1 h2 (IsKv.hide e kvs _ h3)
  | .obj c fs, _, h => by
    cases h with
    | obj z nc h1 h2 => exact .obj (e _ (by rw [h1]; simp) z) nc h1 (IsFs.hide e fs _ h2)
    | book z zd h1 h2 h3 =>
      have n : ∀ {H : Hp} {a C dx : Addr} {x y : Option V}, SlX.Slt H a C dx [x, y] → H a ≠ none ∧ H dx ≠ none := fun {H a C dx x y} h => by
        rcases h with ⟨h1, h2⟩ | ⟨h1, h2⟩
        · cases h2
        · exact ⟨by rw [h1]; simp, by rw [h2]; simp⟩
      exact .book (e _ (n h1).1 z) (e _ (n h1).2 zd) h1 (Is.hide e _ _ h2) (Is.hide e _ _ h3)
theorem IsAll.hide {C : Cs} {Z Z' : Hid} {H : Hp} (e : ∀ a, H a ≠ none → ¬ Z a → ¬ Z' a) : ∀ (ds : List D) (vs : List V), IsAll C Z H vs ds → IsAll C Z' H vs ds
  | [], _, h => by cases h; exact .nil
  | d :: ds, _, h => by
    cases h with
    | cons h1 h2 => exact .cons (Is.hide e d _ h1) (IsAll.hide e ds _ h2)
theorem IsKv.hide {C : Cs} {Z Z' : Hid} {H : Hp} (e : ∀ a, H a ≠ none → ¬ Z a → ¬ Z' a) : ∀ (kvs : List (D × D)) (xs : List (NestedKey × Addr × Value)), IsKv C Z H xs kvs → IsKv C Z' H xs kvs
  | [], _, h => by cases h; exact .nil
  | (dk, dv) :: kvs, _, h => by
    cases h with
    | cons h1 h2 h3 h4 h5 => exact .cons (Is.hide e dk _ h1) h2 h3 (Is.hide e dv _ h4) (IsKv.hide e kvs _ h5)
theorem IsFs.hide {C : Cs} {Z Z' : Hid} {H : Hp} (e : ∀ a, H a ≠ none → ¬ Z a → ¬ Z' a) : ∀ (ds : List (Str × D)) (fs : List (Str × V)), IsFs C Z H fs ds → IsFs C Z' H fs ds
  | [], _, h => by cases h; exact .nil
  | (f, d) :: ds, _, h => by
    cases h with
    | cons h1 h2 => exact .cons (Is.hide e d _ h1) (IsFs.hide e ds _ h2)
end
end Dx
/-! Judgements that hand on Lean functions: expressions, tests, arguments. -/
namespace Dx
open PySem PySem.Spec PyProof.Rows L2

abbrev En := List (Option D)
structure Mm where
  cl : Nat → Addr
  T : List (Addr × Str)
abbrev cs (X : Cx) (M : Mm) : Cs := ⟨X.prog, X.w, X.K, M.cl, M.T⟩

def EnR (C : Cs) (Z : Hid) (H : Hp) (σ : L2.St) (δ : En) : Prop := δ.length = σ.length ∧ ∀ (i : Nat) (d : D), δ[i]? = some (some d) → ∃ v, σ[i]? = some (some v) ∧ Is C Z H v d
structure Ok (C : Cs) (Z : Hid) (H : Hp) : Prop where
  hid : ∀ z, Z z → ∃ o, H z = some o ∧ ∀ ps, o ≠ .tbl ps
  tab : LamX.Tabs C.T H
/-- all that stood stands, the tables are tables -/
structure Go (C : Cs) (H H' : Hp) : Prop where
  ex : LamX.ExtN H H'
  tab : LamX.Tabs C.T H'
section
variable {C : Cs} {Z : Hid} {H H1 H2 H' : Hp} {σ : L2.St} {δ : En} {v : V} {d : D}
theorem Ok.go (o : Ok C Z H) (g : Go C H H') : Ok C Z H' := ⟨fun z hz => let ⟨u, h, n⟩ := o.hid z hz; ⟨u, g.ex z u h n, n⟩, g.tab⟩
theorem Ok.refl (o : Ok C Z H) : Go C H H := ⟨LamX.ExtN.refl H, o.tab⟩
theorem Go.trans (a : Go C H H1) (b : Go C H1 H2) : Go C H H2 := ⟨a.ex.trans b.ex, b.tab⟩
theorem Go.z (g : Go C H H') : ExZ Z H H' := .of g.ex
theorem Ok.notZ (o : Ok C Z H) {p : Addr} (h : H p = none) : ¬ Z p := fun z => by
  obtain ⟨u, h', _⟩ := o.hid p z
  rw [h] at h'; cases h'
theorem ex_new {p : Addr} {o : HO} (h : H p = none) : LamX.ExtN H (upd H p o) := .of fun a u e => by
  rw [upd_ne (ne_of_none e h)]
  exact e
theorem Ok.new (o : Ok C Z H) {p : Addr} {u : HO} (h : H p = none) : Go C H (upd H p u) := ⟨ex_new h, o.tab.ext fun a w e => by
  rw [upd_ne (ne_of_none e h)]
  exact e⟩
theorem Is.go (g : Go C H H') (h : Is C Z H v d) : Is C Z H' v d := Is.mono g.z d v h
theorem IsAll.go {vs : List V} {ds : List D} (g : Go C H H') (h : IsAll C Z H vs ds) : IsAll C Z H' vs ds := IsAll.mono g.z ds vs h
theorem EnR.mono (e : ExZ Z H H') (r : EnR C Z H σ δ) : EnR C Z H' σ δ := ⟨r.1, fun i d h => let ⟨v, a, b⟩ := r.2 i d h; ⟨v, a, Is.mono e d v b⟩⟩
theorem EnR.go (g : Go C H H') (r : EnR C Z H σ δ) : EnR C Z H' σ δ := r.mono g.z
theorem EnR.set (r : EnR C Z H σ δ) {i : Nat} (h : Is C Z H v d) : EnR C Z H (σ.set i (some v)) (δ.set i (some d)) := by
  refine ⟨by rw [List.length_set, List.length_set]; exact r.1, fun j e hj => ?_⟩
  by_cases hi : i = j
  · subst hi
    by_cases hl : i < δ.length
    · rw [List.getElem?_set_self hl] at hj
      cases hj
      exact ⟨v, List.getElem?_set_self (by rw [← r.1]; exact hl), h⟩
    · rw [List.getElem?_eq_none (by rw [List.length_set]; omega)] at hj
      cases hj
  · rw [List.getElem?_set_ne hi] at hj ⊢
    exact r.2 j e hj
theorem EnR.clear (r : EnR C Z H σ δ) (i : Nat) : EnR C Z H (σ.set i none) (δ.set i none) := by
  refine ⟨by rw [List.length_set, List.length_set]; exact r.1, fun j e hj => ?_⟩
  by_cases hi : i = j
  · subst hi
    by_cases hl : i < δ.length
    · rw [List.getElem?_set_self hl] at hj
      cases hj
    · rw [List.getElem?_eq_none (by rw [List.length_set]; omega)] at hj
      cases hj
  · rw [List.getElem?_set_ne hi] at hj ⊢
    exact r.2 j e hj
/-- nothing known of a slot -/
theorem EnR.forget (r : EnR C Z H σ δ) (i : Nat) (o : Option V) : EnR C Z H (σ.set i o) (δ.set i none) := by
  refine ⟨by rw [List.length_set, List.length_set]; exact r.1, fun j e hj => ?_⟩
  by_cases hi : i = j
  · subst hi
    by_cases hl : i < δ.length
    · rw [List.getElem?_set_self hl] at hj
      cases hj
    · rw [List.getElem?_eq_none (by rw [List.length_set]; omega)] at hj
      cases hj
  · rw [List.getElem?_set_ne hi] at hj ⊢
    exact r.2 j e hj
end
def wipeE (δ : En) : List Nat → En
  | [] => δ
  | v :: vs => (wipeE δ vs).set v none
theorem EnR.wipe {C : Cs} {Z : Hid} {H : Hp} {σ : L2.St} {δ : En} (r : EnR C Z H σ δ) : ∀ vs : List Nat, EnR C Z H (L2.wipe σ vs) (wipeE δ vs)
  | [] => r
  | v :: vs => by
    unfold L2.wipe wipeE
    exact (EnR.wipe r vs).clear v
theorem IsAll.length {C : Cs} {Z : Hid} {H : Hp} : ∀ {vs : List V} {ds : List D}, IsAll C Z H vs ds → vs.length = ds.length
  | _, _, .nil => rfl
  | _, _, .cons _ t => by rw [List.length_cons, List.length_cons, IsAll.length t]
theorem IsAll.get {C : Cs} {Z : Hid} {H : Hp} : ∀ {vs : List V} {ds : List D} {i : Nat} {d : D}, IsAll C Z H vs ds → ds[i]? = some d → ∃ v, vs[i]? = some v ∧ Is C Z H v d
  | _, _, _, _, .nil, e => by simp at e
  | _, _, 0, _, .cons r _, e => by simp at e; subst e; exact ⟨_, rfl, r⟩
  | _, _, i + 1, d, .cons _ t, e => by
    obtain ⟨u, h1, h2⟩ := IsAll.get (i := i) (d := d) t (by simpa using e)
    exact ⟨u, by simpa using h1, h2⟩
theorem IsAll.append {C : Cs} {Z : Hid} {H : Hp} : ∀ {vs ws : List V} {ds es : List D}, IsAll C Z H vs ds → IsAll C Z H ws es → IsAll C Z H (vs ++ ws) (ds ++ es)
  | _, _, _, _, .nil, s => s
  | _, _, _, _, .cons r t, s => .cons r (IsAll.append t s)
theorem IsAll.take {C : Cs} {Z : Hid} {H : Hp} : ∀ {vs : List V} {ds : List D} (n : Nat), IsAll C Z H vs ds → IsAll C Z H (vs.take n) (ds.take n)
  | _, _, 0, _ => .nil
  | _, _, _ + 1, .nil => .nil
  | _, _, n + 1, .cons r t => .cons r (IsAll.take n t)
theorem IsAll.drop {C : Cs} {Z : Hid} {H : Hp} : ∀ {vs : List V} {ds : List D} (n : Nat), IsAll C Z H vs ds → IsAll C Z H (vs.drop n) (ds.drop n)
  | _, _, 0, r => r
  | _, _, _ + 1, .nil => .nil
  | _, _, n + 1, .cons _ t => IsAll.drop n t
theorem IsAll.at {C : Cs} {Z : Hid} {H : Hp} {vs : List V} {ds : List D} {i : Int} {d : D} (r : IsAll C Z H vs ds) (e : atI ds i = some d) : ∃ v, atI vs i = some v ∧ Is C Z H v d := by
  unfold atI at e ⊢
  rw [r.length]
  cases q : ixN ds.length i with
  | none => rw [q] at e; cases e
  | some j =>
    rw [q] at e
    exact r.get e
theorem IsAll.of_get {C : Cs} {Z : Hid} {H : Hp} : ∀ {vs : List V} {ds : List D}, vs.length = ds.length → (∀ (i : Nat) (v : V) (d : D), vs[i]? = some v → ds[i]? = some d → Is C Z H v d) → IsAll C Z H vs ds
  | [], [], _, _ => .nil
  | v :: vs, d :: ds, hl, h => .cons (h 0 v d rfl rfl) (IsAll.of_get (by simpa using hl) fun i v' d' h1 h2 => h (i + 1) v' d' (by simpa using h1) (by simpa using h2))
  | [], _ :: _, hl, _ => by simp at hl
  | _ :: _, [], hl, _ => by simp at hl

/-! ### readings -/
def tD (C : Cs) (f : En → Option D) : TE := fun σ H Q => ∃ Z δ d, Ok C Z H ∧ EnR C Z H σ δ ∧ f δ = some d ∧ ∀ v H', Go C H H' → Is C Z H' v d → Q v H'
def tDT (C : Cs) (f : En → Option Bool) : TT := fun σ H Q => ∃ Z δ b, Ok C Z H ∧ EnR C Z H σ δ ∧ f δ = some b ∧ ∀ H', Go C H H' → Q b H'
def tDA (C : Cs) (f : En → Option (List D)) : TA := fun σ H Q => ∃ Z δ ds, Ok C Z H ∧ EnR C Z H σ δ ∧ f δ = some ds ∧ ∀ vs H', Go C H H' → IsAll C Z H' vs ds → Q vs H'
abbrev DE (M : Mm) (X : Cx) (e : Expr) (f : En → Option D) : Prop := PE X e (tD (cs X M) f)
abbrev DT (M : Mm) (X : Cx) (e : Expr) (f : En → Option Bool) : Prop := PT X e (tDT (cs X M) f)
abbrev DW (M : Mm) (X : Cx) (e : Expr) (f : En → Option Bool) : Prop := PW X e (tDT (cs X M) f)
abbrev DA (M : Mm) (X : Cx) (es : List Expr) (f : En → Option (List D)) : Prop := PA X es (tDA (cs X M) f)

section
variable {X : Cx} {e : Expr} {es : List Expr} {st : Stmt} {sts : List Stmt}
theorem PE.imp {t t' : TE} (h : PE X e t) (i : ∀ σ H Q, t' σ H Q → t σ H Q) : PE X e t' := ⟨fun pins s σ H Q I hw => h.run pins s σ H Q I (i σ H Q hw)⟩
theorem PT.imp {t t' : TT} (h : PT X e t) (i : ∀ σ H Q, t' σ H Q → t σ H Q) : PT X e t' := ⟨fun pins s σ H Q I hw => h.run pins s σ H Q I (i σ H Q hw)⟩
theorem PW.imp {t t' : TT} (h : PW X e t) (i : ∀ σ H Q, t' σ H Q → t σ H Q) : PW X e t' := ⟨fun wh pins s σ H Q I hw => h.run wh pins s σ H Q I (i σ H Q hw)⟩
theorem PA.imp {t t' : TA} (h : PA X es t) (i : ∀ σ H Q, t' σ H Q → t σ H Q) : PA X es t' := ⟨fun pos pins s σ H Q I hw => h.run pos pins s σ H Q I (i σ H Q hw)⟩
theorem PS.imp {t t' : TS} (h : PS X st t) (i : ∀ D σ H, t' D σ H → t D σ H) : PS X st t' := ⟨fun pins s σ H D I hw => h.run pins s σ H D I (i D σ H hw)⟩
theorem PSs.imp {t t' : TS} (h : PSs X sts t) (i : ∀ D σ H, t' D σ H → t D σ H) : PSs X sts t' := ⟨fun pins s σ H D I hw => h.run pins s σ H D I (i D σ H hw)⟩
theorem PTs.imp {t t' : TT} (h : PTs X es t) (i : ∀ σ H Q, t' σ H Q → t σ H Q) : PTs X es t' := ⟨fun pins s σ H Q I hw => h.run pins s σ H Q I (i σ H Q hw)⟩
end

/-! ### names, constants -/
def fV (i : Nat) : En → Option D := fun δ => (δ[i]?).join
def fC (d : D) : En → Option D := fun _ => some d
section
variable {M : Mm} {X : Cx} {pos : Pos}
theorem de_v (i : Nat) {x : Str} (hN : X.N[i]? = some x := by rfl) (hv : Vis X.env.scope x := by first | exact Or.inl rfl | exact Or.inr (Or.inl rfl) | exact Or.inr (Or.inr rfl)) (hd : (x == ("__debug__" : Str)) = false := by decide)
    (hcd : (x == ("__classdict__" : Str)) = false := by decide) : DE M X (.Name x pos) (fV i) := by
  refine PE.imp (pe_var (i := i) hN hv hd hcd) fun σ H Q h => ?_
  obtain ⟨Z, δ, d, ok, en, hf, q⟩ := h
  have hf' : δ[i]? = some (some d) := by
    unfold fV at hf
    cases e : δ[i]? with
    | none => rw [e] at hf; cases hf
    | some o => rw [e] at hf; exact congrArg some hf
  obtain ⟨v, e, is⟩ := en.2 i d hf'
  exact ⟨v, e, q v H ok.refl is⟩
theorem de_c {e : Expr} {v : V} {d : D} (h : PE X e (tC v)) (is : ∀ Z H, Is (cs X M) Z H v d) : DE M X e (fC d) := by
  refine PE.imp h fun σ H Q h => ?_
  obtain ⟨Z, δ, d', ok, en, hf, q⟩ := h
  cases hf
  exact q v H ok.refl (is Z H)
theorem de_int {i : Int} {j : Nat} : DE M X (.Constant (.int i) j pos) (fC (.int i)) := de_c pe_int fun _ _ => .int i
theorem de_bl {b : Bool} {j : Nat} : DE M X (.Constant (.bool b) j pos) (fC (.bl b)) := de_c pe_bl fun _ _ => .bl b
theorem de_non {j : Nat} : DE M X (.Constant .none j pos) (fC .non) := de_c pe_non fun _ _ => .non
theorem de_str {x : Str} {j : Nat} : DE M X (.Constant (.str x) j pos) (fC (.str x)) := de_c pe_str fun _ _ => .str x
/-- a module's int -/
theorem de_globI {x : Str} {i : Int} {t : Tok} (hg : Gl X x) (hm : X.mg x = some (.int i t)) (hd : (x == ("__debug__" : Str)) = false := by decide) : DE M X (.Name x pos) (fC (.int i)) :=
  de_c (pe_glob (v := .int i) hg hm ⟨t, rfl⟩ hd) fun _ _ => .int i

/-! ### two places -/
def f2 (g : D → D → Option D) (fa fb : En → Option D) : En → Option D := fun δ => (fa δ).bind fun x => (fb δ).bind fun y => g x y
/-- what an operation of two values does to data -/
def RD (C : Cs) (r : R2) (g : D → D → Option D) : Prop := ∀ (Z : Hid) (H : Hp) (x y : V) (dx dy d : D) (Q : VK), Ok C Z H → Is C Z H x dx → Is C Z H y dy → g dx dy = some d → (∀ v H', Go C H H' → Is C Z H' v d → Q v H') → r x y H Q
theorem t2_imp {C : Cs} {r : R2} {g : D → D → Option D} (hr : RD C r g) {fa fb : En → Option D} {σ : L2.St} {H : Hp} {Q : VK} (h : tD C (f2 g fa fb) σ H Q) : tOp r (tD C fa) (tD C fb) σ H Q := by
  obtain ⟨Z, δ, d, ok, en, hf, q⟩ := h
  obtain ⟨dx, hx, hf⟩ := Option.bind_eq_some_iff.mp hf
  obtain ⟨dy, hy, hf⟩ := Option.bind_eq_some_iff.mp hf
  refine ⟨Z, δ, dx, ok, en, hx, fun x H1 g1 i1 => ⟨Z, δ, dy, ok.go g1, en.go g1, hy, fun y H2 g2 i2 => ?_⟩⟩
  exact hr Z H2 x y dx dy d Q ((ok.go g1).go g2) (i1.go g2) i2 hf fun v H' g3 i3 => q v H' ((g1.trans g2).trans g3) i3
variable {a b c : Expr} {fa fb fc : En → Option D} {g : D → D → Option D} {r : R2}
theorem de_op {op : Operator} (ho : OpR X (binaryOp op) r) (hr : RD (cs X M) r g) (ha : DE M X a fa) (hb : DE M X b fb) : DE M X (.BinOp a op b pos) (f2 g fa fb) := PE.imp (pe_op ho ha hb) fun _ _ _ h => t2_imp hr h
theorem de_cmp {op : CmpOp} (ho : OpR X (compareOp op) r) (hr : RD (cs X M) r g) (ha : DE M X a fa) (hb : DE M X b fb) (hm : behindInMarks op b = false := by first | exact nomark _ | rfl) : DE M X (.Compare a [op] [b] pos) (f2 g fa fb) := PE.imp (pe_cmpR ho ha hb hm) fun _ _ _ h => t2_imp hr h
def asB : D → Option Bool
  | .bl b => some b
  | _ => none
def fB (f : En → Option D) : En → Option Bool := fun δ => (f δ).bind asB
theorem asB_some {d : D} {b : Bool} (h : asB d = some b) : d = .bl b := by
  cases d <;> simp [asB] at h
  rw [h]
theorem tB_imp {C : Cs} {f : En → Option D} {σ : L2.St} {H : Hp} {Q : Bool → Hp → Prop} (h : tDT C (fB f) σ H Q) : tD C f σ H fun x H1 => ∃ k, x = .bl k ∧ Q k H1 := by
  obtain ⟨Z, δ, b, ok, en, hf, q⟩ := h
  obtain ⟨d, hd, hb⟩ := Option.bind_eq_some_iff.mp hf
  have e := asB_some hb
  subst e
  exact ⟨Z, δ, _, ok, en, hd, fun v H' g i => by cases i; exact ⟨b, rfl, q H' g⟩⟩
theorem dt_val {e : Expr} {f : En → Option D} (h : DE M X e f) (he : ∀ whole, isTrue e X.env whole = (do let v ← whole; standAt e.pos; holding [v] (truthy v)) := by intro _; rfl) : DT M X e (fB f) := PT.imp (pt_val h he) fun _ _ _ h => tB_imp h
theorem dt_cmp {op : CmpOp} (ho : OpR X (compareOp op) r) (hr : RD (cs X M) r g) (ha : DE M X a fa) (hb : DE M X b fb) (hm : behindInMarks op b = false := by first | exact nomark _ | rfl) : DT M X (.Compare a [op] [b] pos) (fB (f2 g fa fb)) := by
  refine PT.imp (pt_cmpR ho ha hb hm) fun σ H Q h => ?_
  have h1 := tB_imp h
  exact t2_imp hr h1

/-! ### and, or, not, if -/
def bAnd (fa fb : En → Option Bool) : En → Option Bool := fun δ => (fa δ).bind fun x => if x = true then fb δ else some false
def bOr (fa fb : En → Option Bool) : En → Option Bool := fun δ => (fa δ).bind fun x => if x = true then some true else fb δ
def bNot (fa : En → Option Bool) : En → Option Bool := fun δ => (fa δ).map not
variable {ta tb : En → Option Bool} {rest : List Expr}
theorem dw_and1 (ha : DT M X a ta) : DW M X (.BoolOp .And [a] pos) ta := pw_and1 ha
theorem dw_or1 (ha : DT M X a ta) : DW M X (.BoolOp .Or [a] pos) ta := pw_or1 ha
theorem dw_and (ha : DT M X a ta) (hb : DW M X (.BoolOp .And (b :: rest) pos) tb) : DW M X (.BoolOp .And (a :: b :: rest) pos) (bAnd ta tb) := by
  refine PW.imp (pw_and ha hb) fun σ H Q h => ?_
  obtain ⟨Z, δ, z, ok, en, hf, q⟩ := h
  obtain ⟨x, hx, hf⟩ := Option.bind_eq_some_iff.mp hf
  refine ⟨Z, δ, x, ok, en, hx, fun H1 g1 => ?_⟩
  cases x with
  | true => exact ⟨Z, δ, z, ok.go g1, en.go g1, hf, fun H2 g2 => q H2 (g1.trans g2)⟩
  | false =>
    have e : false = z := Option.some.inj hf
    subst e
    exact q H1 g1
theorem dw_or (ha : DT M X a ta) (hb : DW M X (.BoolOp .Or (b :: rest) pos) tb) : DW M X (.BoolOp .Or (a :: b :: rest) pos) (bOr ta tb) := by
  refine PW.imp (pw_or ha hb) fun σ H Q h => ?_
  obtain ⟨Z, δ, z, ok, en, hf, q⟩ := h
  obtain ⟨x, hx, hf⟩ := Option.bind_eq_some_iff.mp hf
  refine ⟨Z, δ, x, ok, en, hx, fun H1 g1 => ?_⟩
  cases x with
  | false => exact ⟨Z, δ, z, ok.go g1, en.go g1, hf, fun H2 g2 => q H2 (g1.trans g2)⟩
  | true =>
    have e : true = z := Option.some.inj hf
    subst e
    exact q H1 g1
theorem dw_t {e : Expr} (h : DW M X e ta) : DT M X e ta := PW.pt h
theorem dt_not (ha : DT M X a ta) : DT M X (.UnaryOp .Not a pos) (bNot ta) := by
  refine PT.imp (pt_not ha) fun σ H Q h => ?_
  obtain ⟨Z, δ, z, ok, en, hf, q⟩ := h
  obtain ⟨x, hx, hz⟩ := Option.map_eq_some_iff.mp hf
  subst hz
  exact ⟨Z, δ, x, ok, en, hx, fun H1 g1 => q H1 g1⟩
/-- and, or, not as values (truth values) -/
def vAnd (fa fb : En → Option D) : En → Option D := fun δ => (fB fa δ).bind fun x => if x = true then fb δ else some (.bl false)
def vOr (fa fb : En → Option D) : En → Option D := fun δ => (fB fa δ).bind fun x => if x = true then some (.bl true) else fb δ
def vNot (fa : En → Option D) : En → Option D := fun δ => (fB fa δ).map fun x => .bl (!x)
theorem de_one {op : BoolOp} (h : DE M X a fa) : DE M X (.BoolOp op [a] pos) fa := pe_one h
theorem fB_some {C : Cs} {fa : En → Option D} {δ : En} {x : Bool} (h : fB fa δ = some x) : fa δ = some (.bl x) := by
  obtain ⟨d, hd, hb⟩ := Option.bind_eq_some_iff.mp h
  rw [hd, asB_some hb]
theorem de_and (ha : DE M X a fa) (hb : DE M X (.BoolOp .And (b :: rest) pos) fb) : DE M X (.BoolOp .And (a :: b :: rest) pos) (vAnd fa fb) := by
  refine PE.imp (pe_and ha hb) fun σ H Q h => ?_
  obtain ⟨Z, δ, z, ok, en, hf, q⟩ := h
  obtain ⟨x, hx, hf⟩ := Option.bind_eq_some_iff.mp hf
  refine ⟨Z, δ, .bl x, ok, en, fB_some (C := cs X M) hx, fun v H1 g1 i1 => ?_⟩
  cases i1
  refine ⟨x, rfl, ?_⟩
  cases x with
  | true => exact ⟨Z, δ, z, ok.go g1, en.go g1, hf, fun v2 H2 g2 i2 => q v2 H2 (g1.trans g2) i2⟩
  | false =>
    have e : D.bl false = z := Option.some.inj hf
    subst e
    exact q _ H1 g1 (.bl false)
theorem de_or (ha : DE M X a fa) (hb : DE M X (.BoolOp .Or (b :: rest) pos) fb) : DE M X (.BoolOp .Or (a :: b :: rest) pos) (vOr fa fb) := by
  refine PE.imp (pe_or ha hb) fun σ H Q h => ?_
  obtain ⟨Z, δ, z, ok, en, hf, q⟩ := h
  obtain ⟨x, hx, hf⟩ := Option.bind_eq_some_iff.mp hf
  refine ⟨Z, δ, .bl x, ok, en, fB_some (C := cs X M) hx, fun v H1 g1 i1 => ?_⟩
  cases i1
  refine ⟨x, rfl, ?_⟩
  cases x with
  | false => exact ⟨Z, δ, z, ok.go g1, en.go g1, hf, fun v2 H2 g2 i2 => q v2 H2 (g1.trans g2) i2⟩
  | true =>
    have e : D.bl true = z := Option.some.inj hf
    subst e
    exact q _ H1 g1 (.bl true)
theorem de_not (ha : DE M X a fa) : DE M X (.UnaryOp .Not a pos) (vNot fa) := by
  refine PE.imp (pe_not ha) fun σ H Q h => ?_
  obtain ⟨Z, δ, z, ok, en, hf, q⟩ := h
  obtain ⟨x, hx, hz⟩ := Option.map_eq_some_iff.mp hf
  subst hz
  refine ⟨Z, δ, .bl x, ok, en, fB_some (C := cs X M) hx, fun v H1 g1 i1 => ?_⟩
  cases i1
  exact ⟨x, rfl, q _ H1 g1 (.bl _)⟩
def fIf (t : En → Option Bool) (fa fb : En → Option D) : En → Option D := fun δ => (t δ).bind fun x => if x = true then fa δ else fb δ
theorem de_if {tc : En → Option Bool} (hc : DT M X c tc) (ha : DE M X a fa) (hb : DE M X b fb) : DE M X (.IfExp c a b pos) (fIf tc fa fb) := by
  refine PE.imp (pe_ifExp hc ha hb) fun σ H Q h => ?_
  obtain ⟨Z, δ, z, ok, en, hf, q⟩ := h
  obtain ⟨x, hx, hf⟩ := Option.bind_eq_some_iff.mp hf
  refine ⟨Z, δ, x, ok, en, hx, fun H1 g1 => ?_⟩
  cases x with
  | true => exact ⟨Z, δ, z, ok.go g1, en.go g1, hf, fun v2 H2 g2 i2 => q v2 H2 (g1.trans g2) i2⟩
  | false => exact ⟨Z, δ, z, ok.go g1, en.go g1, hf, fun v2 H2 g2 i2 => q v2 H2 (g1.trans g2) i2⟩
/-- a < b < c -/
def f3 (g g' : D → D → Option D) (fa fb fc : En → Option D) : En → Option D := fun δ => (fa δ).bind fun x => (fb δ).bind fun y => ((g x y).bind asB).bind fun k => if k = true then (fc δ).bind fun z => g' y z else some (.bl false)

/-! ### arguments, tuples, lists -/
def aNil : En → Option (List D) := fun _ => some []
def aCons (f : En → Option D) (fs : En → Option (List D)) : En → Option (List D) := fun δ => (f δ).bind fun x => (fs δ).map fun xs => x :: xs
variable {es : List Expr} {fs : En → Option (List D)}
theorem da_nil : DA M X [] aNil := by
  refine PA.imp pa_nil fun σ H Q h => ?_
  obtain ⟨Z, δ, z, ok, en, hf, q⟩ := h
  cases hf
  exact q [] H ok.refl .nil
theorem da_cons (ha : DE M X a fa) (hr : DA M X es fs) (hs : starEach (a :: es) X.env = (false, eval a X.env) :: starEach es X.env := by rfl) : DA M X (a :: es) (aCons fa fs) := by
  refine PA.imp (pa_cons ha hr hs) fun σ H Q h => ?_
  obtain ⟨Z, δ, z, ok, en, hf, q⟩ := h
  obtain ⟨x, hx, hf⟩ := Option.bind_eq_some_iff.mp hf
  obtain ⟨xs, hxs, hz⟩ := Option.map_eq_some_iff.mp hf
  subst hz
  exact ⟨Z, δ, x, ok, en, hx, fun v H1 g1 i1 => ⟨Z, δ, xs, ok.go g1, en.go g1, hxs, fun vs H2 g2 i2 => q _ H2 (g1.trans g2) (.cons (i1.go g2) i2)⟩⟩
/-- lists and tuples written in the text: few items -/
def few (ds : List D) : Bool := decide (ds.length ≤ 1000)
theorem few_ok {ds : List D} (h : few ds = true) : ds.length ≤ sizeLine := Nat.le_trans (of_decide_eq_true h) (by decide)
def fTup (fs : En → Option (List D)) : En → Option D := fun δ => (fs δ).bind fun xs => if few xs = true then some (.tup xs) else none
def fLst (fs : En → Option (List D)) : En → Option D := fun δ => (fs δ).bind fun xs => if few xs = true then some (.lst xs) else none
theorem new_tup {C : Cs} {Z : Hid} {H : Hp} {vs : List V} {ds : List D} {p : Addr} (ok : Ok C Z H) (h : IsAll C Z H vs ds) (hl : ds.length ≤ sizeLine) (hp : H p = none) : Is C Z (upd H p (.tup vs)) (.ref p) (.tup ds) :=
  .tup (ok.notZ hp) upd_same (h.go (ok.new hp)) hl
theorem new_lst {C : Cs} {Z : Hid} {H : Hp} {vs : List V} {ds : List D} {p : Addr} (ok : Ok C Z H) (h : IsAll C Z H vs ds) (hl : ds.length ≤ sizeLine) (hp : H p = none) : Is C Z (upd H p (.lst vs)) (.ref p) (.lst ds) :=
  .lst (ok.notZ hp) upd_same (h.go (ok.new hp)) hl
theorem de_tup {k : Nat} (h : DA M X es fs) : DE M X (.Tuple es k pos) (fTup fs) := by
  refine PE.imp (pe_tup h) fun σ H Q h => ?_
  obtain ⟨Z, δ, z, ok, en, hf, q⟩ := h
  obtain ⟨xs, hx, hf⟩ := Option.bind_eq_some_iff.mp hf
  refine ⟨Z, δ, xs, ok, en, hx, fun vs H1 g1 i1 => ?_⟩
  by_cases hl : few xs = true
  · rw [if_pos hl] at hf
    cases hf
    exact ⟨by rw [i1.length]; exact few_ok hl, fun p hp => q _ _ (g1.trans ((ok.go g1).new hp)) (new_tup (ok.go g1) i1 (few_ok hl) hp)⟩
  · rw [if_neg hl] at hf
    cases hf
theorem de_lst (h : DA M X es fs) : DE M X (.List es pos) (fLst fs) := by
  refine PE.imp (pe_lst h) fun σ H Q h => ?_
  obtain ⟨Z, δ, z, ok, en, hf, q⟩ := h
  obtain ⟨xs, hx, hf⟩ := Option.bind_eq_some_iff.mp hf
  refine ⟨Z, δ, xs, ok, en, hx, fun vs H1 g1 i1 => ?_⟩
  by_cases hl : few xs = true
  · rw [if_pos hl] at hf
    cases hf
    exact ⟨by rw [i1.length]; exact few_ok hl, fun p hp => q _ _ (g1.trans ((ok.go g1).new hp)) (new_lst (ok.go g1) i1 (few_ok hl) hp)⟩
  · rw [if_neg hl] at hf
    cases hf
/-! ### subscripts, slices -/
def gIx : D → D → Option D
  | .tup ds, .int i => atI ds i
  | .lst ds, .int i => atI ds i
  | _, _ => none
theorem de_ixT (ha : DE M X a fa) (hb : DE M X b fb) (hs : PlainIx b := by intro _ _; rfl) : DE M X (.Subscript a b pos) (f2 gIx fa fb) := by
  refine PE.imp (pe_ix (ix_tup.or ix_list) ha hb hs) fun σ H Q h => ?_
  refine t2_imp (fun Z H x y dx dy d Q ok i1 i2 hg q => ?_) h
  cases dx with
  | tup ds =>
    cases dy with
    | int i =>
      cases i1 with
      | tup z hS hA hl =>
        cases i2
        obtain ⟨v, hv, is⟩ := hA.at hg
        exact .inl ⟨_, _, i, v, rfl, rfl, .inl (.inl hS), hv, q v H ok.refl is⟩
    | _ => cases hg
  | lst ds =>
    cases dy with
    | int i =>
      cases i1 with
      | lst z hS hA hl =>
        cases i2
        obtain ⟨v, hv, is⟩ := hA.at hg
        exact .inr ⟨_, _, i, v, rfl, rfl, .inl (.inl hS), hv, q v H ok.refl is⟩
    | _ => cases hg
  | _ => cases dy <;> cases hg
def cutD (xs : List D) (lo hi : Option Int) : List D := (xs.drop (HT.sIx xs.length 0 lo)).take (HT.sIx xs.length xs.length hi - HT.sIx xs.length 0 lo)
theorem IsAll.cut {C : Cs} {Z : Hid} {H : Hp} {vs : List V} {ds : List D} (r : IsAll C Z H vs ds) (lo hi : Option Int) : IsAll C Z H (cutV vs lo hi) (cutD ds lo hi) := by
  unfold cutV cutD
  rw [r.length]
  exact (r.drop _).take _
theorem cutD_length (xs : List D) (lo hi : Option Int) : (cutD xs lo hi).length ≤ xs.length := by
  unfold cutD
  rw [List.length_take, List.length_drop]
  omega
theorem cutD_all {xs : List D} {lo hi : Option Int} (h : HT.sIx xs.length 0 lo = 0 ∧ HT.sIx xs.length xs.length hi = xs.length) : cutD xs lo hi = xs := by
  unfold cutD
  rw [h.1, h.2]
  simp
/-- t[lo:], lo written -/
def fFrom (lo : Int) (fa : En → Option D) : En → Option D := fun δ => (fa δ).bind fun x => match x with
  | .tup ds => some (.tup (cutD ds (some lo) none))
  | _ => none
theorem de_from {lo : Int} {j : Nat} {p1 p2 : Pos} (ha : DE M X a fa) : DE M X (.Subscript a (.Slice (some (.Constant (.int lo) j p1)) none none p2) pos) (fFrom lo fa) := by
  refine PE.imp (pe_slice sl_tupA ha (po_some pe_int) po_none) fun σ H Q h => ?_
  obtain ⟨Z, δ, z, ok, en, hf, q⟩ := h
  obtain ⟨x, hx, hf⟩ := Option.bind_eq_some_iff.mp hf
  refine ⟨Z, δ, x, ok, en, hx, fun v H1 g1 i1 => ⟨lo, rfl, ?_⟩⟩
  cases x with
  | tup ds =>
    cases hf
    cases i1 with
    | @tup a vs _ z hS hA hl =>
      refine ⟨a, vs, rfl, SqT.of hS, fun hw => ?_, fun hw p hp => ?_⟩
      · rw [hA.length] at hw
        rw [cutD_all hw] at q
        exact q _ H1 g1 (.tup z hS hA hl)
      · exact q _ _ (g1.trans ((ok.go g1).new hp)) (new_tup (ok.go g1) (hA.cut _ _) (Nat.le_trans (cutD_length _ _ _) hl) hp)
  | _ => cases hf
/-- xs[:hi], hi written, of a list -/
def fUpto (hi : Int) (fa : En → Option D) : En → Option D := fun δ => (fa δ).bind fun x => match x with
  | .lst ds => some (.lst (cutD ds none (some hi)))
  | _ => none
/-! ### built-ins -/
def fCall (g : List D → Option D) (fs : En → Option (List D)) : En → Option D := fun δ => (fs δ).bind g
def RC (C : Cs) (r : List V → Hp → VK → Prop) (g : List D → Option D) : Prop := ∀ (Z : Hid) (H : Hp) (vs : List V) (ds : List D) (d : D) (Q : VK), Ok C Z H → IsAll C Z H vs ds → g ds = some d → (∀ v H', Go C H H' → Is C Z H' v d → Q v H') → r vs H Q
theorem tc_imp {C : Cs} {r : List V → Hp → VK → Prop} {g : List D → Option D} (hr : RC C r g) {fs : En → Option (List D)} {σ : L2.St} {H : Hp} {Q : VK} (h : tD C (fCall g fs) σ H Q) : tCB r (tDA C fs) σ H Q := by
  obtain ⟨Z, δ, d, ok, en, hf, q⟩ := h
  obtain ⟨ds, hd, hf⟩ := Option.bind_eq_some_iff.mp hf
  exact ⟨Z, δ, ds, ok, en, hd, fun vs H1 g1 i1 => hr Z H1 vs ds d Q (ok.go g1) i1 hf fun v H' g2 i2 => q v H' (g1.trans g2) i2⟩
variable {x : Str} {p : Pos} {id T : String} {rc : List V → Hp → VK → Prop} {gc : List D → Option D}
theorem de_callB (hc : CallR X (.builtin id) rc) (hr : RC (cs X M) rc gc) (hg : Gl X x) (hm : X.mg x = none) (hv : bootBuiltins x = some (.builtin id)) (ha : DA M X (a :: es) fs) (hn : x ≠ "__name__" := by decide) (hdb : (x == ("__debug__" : Str)) = false := by decide)
    (he : starEach (a :: es) X.env = (false, eval a X.env) :: starEach es X.env := by rfl) (hpl : (backTo pos (starEach es X.env)).any (·.1) = false := by rfl) : DE M X (.Call (.Name x p) (a :: es) [] pos) (fCall gc fs) :=
  PE.imp (pe_callB hc hg hm hv ha hn hdb he hpl) fun _ _ _ h => tc_imp hr h
theorem de_callTy (hc : CallR X (.type T) rc) (hr : RC (cs X M) rc gc) (hg : Gl X x) (hm : X.mg x = none) (hv : bootBuiltins x = some (.type T)) (ha : DA M X (a :: es) fs) (hn : x ≠ "__name__" := by decide) (hdb : (x == ("__debug__" : Str)) = false := by decide)
    (he : starEach (a :: es) X.env = (false, eval a X.env) :: starEach es X.env := by rfl) (hpl : (backTo pos (starEach es X.env)).any (·.1) = false := by rfl) : DE M X (.Call (.Name x p) (a :: es) [] pos) (fCall gc fs) :=
  PE.imp (pe_callTy hc hg hm hv ha hn hdb he hpl) fun _ _ _ h => tc_imp hr h

/-! ### defs -/
/-- the promise of a pure def: data in, data out, what stood stands -/
def spD (C : Cs) (n : Nat) (g : List D → Option D) : Sp := fun vs H Q _ => ∃ (Z : Hid) (ds : List D) (d : D), Ok C Z H ∧ IsAll C Z H vs ds ∧ ds.length = n ∧ g ds = some d ∧ ∀ v H', Go C H H' → Is C Z H' v d → Q v H'
def gN (n : Nat) (g : List D → Option D) : List D → Option D := fun ds => if ds.length = n then g ds else none
theorem gN_some {n : Nat} {g : List D → Option D} {ds : List D} {d : D} (h : gN n g ds = some d) : ds.length = n ∧ g ds = some d := by
  unfold gN at h
  by_cases e : ds.length = n
  · rw [if_pos e] at h; exact ⟨e, h⟩
  · rw [if_neg e] at h; cases h
theorem de_call {k n : Nat} {f : Addr} {fd : FuncData} {ps : List Str} {g : List D → Option D} (F : FnOk X.prog X.w X.K X.mg X.base CX0 k f fd ps (spD (cs X M) n g)) (hr : Room k X.A) (hm : X.mg x = some (.ref f)) (hk : PySem.W.keepIn X.K (.ref f) = true) (hb : L2.Binds X.K fd ps [])
    (ha : DA M X (a :: es) fs) (hg : Gl X x := by rfl)
    (he : starEach (a :: es) X.env = (false, eval a X.env) :: starEach es X.env := by rfl) (hpl : (backTo pos (starEach es X.env)).any (·.1) = false := by rfl) (hdb : (x == ("__debug__" : Str)) = false := by decide) : DE M X (.Call (.Name x p) (a :: es) [] pos) (fCall (gN n g) fs) := by
  refine PE.imp (pe_call F hr hg hm hk hb .nil (pass0 (X := X)) ha hdb he hpl) fun σ H Q h => ?_
  obtain ⟨Z, δ, d, ok, en, hf, q⟩ := h
  obtain ⟨ds, hd, hf⟩ := Option.bind_eq_some_iff.mp hf
  obtain ⟨hl, hg⟩ := gN_some hf
  refine ⟨Z, δ, ds, ok, en, hd, fun vs H1 g1 i1 => ?_⟩
  show spD (cs X M) n g (vs ++ []) H1 Q E0
  rw [List.append_nil]
  exact ⟨Z, ds, d, ok.go g1, i1, hl, hg, fun v H' g2 i2 => q v H' (g1.trans g2) i2⟩
end
end Dx
/-! Statements, loops, comprehensions over data; the rule for a def. -/
namespace Dx
open PySem PySem.Spec PyProof.Rows L2

/-! ### wiped slots -/
theorem wipe_in {σ : L2.St} {i : Nat} : ∀ {vs : List Nat}, i ∈ vs → (L2.wipe σ vs)[i]? = if i < σ.length then some none else none
  | v :: vs, h => by
    unfold L2.wipe
    by_cases hv : v = i
    · subst hv
      by_cases hl : v < σ.length
      · rw [if_pos hl, List.getElem?_set_self (by rw [wipe_length]; exact hl)]
      · rw [if_neg hl, List.getElem?_eq_none (by rw [List.length_set, wipe_length]; omega)]
    · rw [List.getElem?_set_ne hv]
      rcases List.mem_cons.mp h with e | e
      · exact absurd e.symm hv
      · exact wipe_in e
theorem wipe_set {σ : L2.St} {i : Nat} {x : Option V} {vs : List Nat} (h : i ∈ vs) : L2.wipe (σ.set i x) vs = L2.wipe σ vs := by
  apply List.ext_getElem?
  intro j
  by_cases hj : j ∈ vs
  · rw [wipe_in hj, wipe_in hj, List.length_set]
  · rw [wipe_out hj, wipe_out hj, List.getElem?_set_ne (fun e => hj (by rw [← e]; exact h))]
theorem wipe_wipe {σ : L2.St} {vs : List Nat} : L2.wipe (L2.wipe σ vs) vs = L2.wipe σ vs := by
  apply List.ext_getElem?
  intro j
  by_cases hj : j ∈ vs
  · rw [wipe_in hj, wipe_in hj, wipe_length]
  · rw [wipe_out hj]

/-! ### targets -/
/-- what a target does to data; sl: the slots that it stores -/
def GT (C : Cs) (g : TG) (tf : D → En → Option En) (sl : List Nat) : Prop := ∀ (Z : Hid) (H : Hp) (σ : L2.St) (δ : En) (v : V) (d : D) (δ' : En) (Q : L2.St → Hp → Prop), Ok C Z H → EnR C Z H σ δ → Is C Z H v d → tf d δ = some δ' →
  (∀ σ', EnR C Z H σ' δ' → (∀ vs : List Nat, (∀ i ∈ sl, i ∈ vs) → L2.wipe σ' vs = L2.wipe σ vs) → Q σ' H) → g v σ H Q
def t1 (i : Nat) : D → En → Option En := fun d δ => some (δ.set i (some d))
theorem gt_name {C : Cs} (i : Nat) : GT C (gName i) (t1 i) [i] := by
  intro Z H σ δ v d δ' Q ok en is hf q
  cases hf
  exact q _ (en.set is) fun vs hv => wipe_set (hv i (by simp))
def t2 (i j : Nat) : D → En → Option En := fun d δ => match d with
  | .tup [x, y] => some ((δ.set i (some x)).set j (some y))
  | _ => none
theorem t2_some {i j : Nat} {d : D} {δ δ' : En} (h : t2 i j d δ = some δ') : ∃ x y, d = .tup [x, y] ∧ δ' = (δ.set i (some x)).set j (some y) := by
  unfold t2 at h
  split at h
  · cases h
    exact ⟨_, _, rfl, rfl⟩
  · cases h
abbrev gPair (K : PySem.W.Frag) (i j : Nat) : TG := gTup K 2 (gCons (gName i) (gCons (gName j) gNil))
theorem gt_pair {C : Cs} (i j : Nat) : GT C (gPair C.K i j) (t2 i j) [i, j] := by
  intro Z H σ δ v d δ' Q ok en is hf q
  obtain ⟨x, y, rfl, rfl⟩ := t2_some hf
  cases is with
  | @tup a vs _ z hS hA hl =>
    cases hA with
    | @cons vx _ _ _ h1 hA =>
      cases hA with
      | @cons vy _ _ _ h2 hA =>
        cases hA
        refine ⟨a, [vx, vy], rfl, SqT.of hS, rfl, vx, [vy], rfl, vy, [], rfl, rfl, ?_⟩
        refine q _ ((en.set h1).set h2) fun vs hv => ?_
        rw [wipe_set (hv j (by simp)), wipe_set (hv i (by simp))]

/-! ### statements -/
inductive Out where
  | nx (δ : En)
  | rt (d : D)
def Res (C : Cs) (Z : Hid) (H : Hp) (E : Ends) (o : Out) : Prop := match o with
  | .nx δ' => ∀ σ' H', Go C H H' → EnR C Z H' σ' δ' → E.nx σ' H'
  | .rt d => ∀ v H', Go C H H' → Is C Z H' v d → E.rt v H'
def tDS (C : Cs) (F : En → Option Out) : TS := fun E σ H => ∃ (Z : Hid) (δ : En) (o : Out), Ok C Z H ∧ EnR C Z H σ δ ∧ F δ = some o ∧ Res C Z H E o
abbrev DS (M : Mm) (X : Cx) (st : Stmt) (F : En → Option Out) : Prop := PS X st (tDS (cs X M) F)
abbrev DSs (M : Mm) (X : Cx) (st : List Stmt) (F : En → Option Out) : Prop := PSs X st (tDS (cs X M) F)
def sNil : En → Option Out := fun δ => some (.nx δ)
def sSeq (F G : En → Option Out) : En → Option Out := fun δ => (F δ).bind fun o => match o with
  | .nx δ' => G δ'
  | .rt d => some (.rt d)
def sAsg (f : En → Option D) (tf : D → En → Option En) : En → Option Out := fun δ => (f δ).bind fun d => (tf d δ).map .nx
def sRet (f : En → Option D) : En → Option Out := fun δ => (f δ).map .rt
def sIf (t : En → Option Bool) (F G : En → Option Out) : En → Option Out := fun δ => (t δ).bind fun b => if b = true then F δ else G δ
def sNo : En → Option Out := fun _ => none
/-- a for's turns -/
def forF (tf : D → En → Option En) (F : En → Option Out) : List D → En → Option Out
  | [], δ => some (.nx δ)
  | x :: xs, δ => (tf x δ).bind fun δ1 => (F δ1).bind fun o => match o with
    | .nx δ2 => forF tf F xs δ2
    | .rt d => some (.rt d)
def sFor (fi : En → Option (List D)) (tf : D → En → Option En) (F : En → Option Out) : En → Option Out := fun δ => (fi δ).bind fun ds => forF tf F ds δ
section
variable {M : Mm} {X : Cx} {pos : Pos} {st : Stmt} {rest : List Stmt} {F G : En → Option Out} {e : Expr} {f : En → Option D}
theorem dss_nil : DSs M X [] sNil := by
  refine PSs.imp pss_nil fun E σ H h => ?_
  obtain ⟨Z, δ, o, ok, en, hf, q⟩ := h
  cases hf
  exact q σ H ok.refl en
theorem dss_cons (h1 : DS M X st F) (h2 : DSs M X rest G) : DSs M X (st :: rest) (sSeq F G) := by
  refine PSs.imp (pss_cons h1 h2) fun E σ H h => ?_
  obtain ⟨Z, δ, o, ok, en, hf, q⟩ := h
  obtain ⟨o1, h1, hf⟩ := Option.bind_eq_some_iff.mp hf
  refine ⟨Z, δ, o1, ok, en, h1, ?_⟩
  cases o1 with
  | nx δ1 =>
    intro σ1 H1 g1 en1
    refine ⟨Z, δ1, o, ok.go g1, en1, hf, ?_⟩
    cases o with
    | nx δ' => exact fun σ' H' g2 en2 => q σ' H' (g1.trans g2) en2
    | rt d => exact fun v H' g2 i2 => q v H' (g1.trans g2) i2
  | rt d =>
    cases hf
    exact q
theorem dss_one (h1 : DS M X st F) : DSs M X [st] F := pss_one h1
theorem ds_asg {tg : Expr} {g : TG} {tf : D → En → Option En} {sl : List Nat} (he : DE M X e f) (hg : PG X tg g) (gt : GT (cs X M) g tf sl) (hs : swapsWithSole [tg] e pos.line X.env = pure false := by rfl) (hw : swappedStores [tg] e X.env = pure none := by rfl)
    (h1 : (assignEach [tg] X.env).map (·.2) = [assign tg X.env] := by rfl) : DS M X (.Assign [tg] e pos) (sAsg f tf) := by
  refine PS.imp (ps_asg he hg hs hw h1) fun E σ H h => ?_
  obtain ⟨Z, δ, o, ok, en, hf, q⟩ := h
  obtain ⟨d, hd, hf⟩ := Option.bind_eq_some_iff.mp hf
  obtain ⟨δ', hδ, ho⟩ := Option.map_eq_some_iff.mp hf
  subst ho
  exact ⟨Z, δ, d, ok, en, hd, fun v H1 g1 i1 => gt Z H1 σ δ v d δ' _ (ok.go g1) (en.go g1) i1 hδ fun σ' en' _ => q σ' H1 g1 en'⟩
/-- name = value, by a statement's own rule that stores what the reading gives -/
theorem asg_imp {C : Cs} {te : TE} {i : Nat} (hte : ∀ σ H Q, tD C f σ H Q → te σ H Q) {E : Ends} {σ : L2.St} {H : Hp} (h : tDS C (sAsg f (t1 i)) E σ H) : tAsg te (gName i) E σ H := by
  obtain ⟨Z, δ, o, ok, en, hf, q⟩ := h
  obtain ⟨d, hd, hf⟩ := Option.bind_eq_some_iff.mp hf
  obtain ⟨δ', hδ, ho⟩ := Option.map_eq_some_iff.mp hf
  subst ho
  cases hδ
  exact hte _ _ _ ⟨Z, δ, d, ok, en, hd, fun v H1 g1 i1 => q _ H1 g1 ((en.go g1).set i1)⟩
theorem ds_set {i : Nat} {x : Str} {pos' : Pos} (hN : X.N.Nodup) (he : DE M X e f) (hi : X.N[i]? = some x := by rfl) (hx : Loc X.env.scope x := by first | exact Or.inl rfl | exact Or.inr rfl)
    (hs : swapsWith e (some (.Name x pos')) pos.line X.env = pure false := by rfl) (hf : X.fn x = true ∨ X.env.scope.names.lookup x = some .local := by first | exact .inl rfl | exact .inr rfl | assumption) : DS M X (.Assign [.Name x pos'] e pos) (sAsg f (t1 i)) :=
  PS.imp (ps_set hN hi hx he hs hf) fun _ _ _ h => asg_imp (fun _ _ _ z => z) h
theorem ds_ret (he : DE M X e f) : DS M X (.Return (some e) pos) (sRet f) := by
  refine PS.imp (ps_ret he) fun E σ H h => ?_
  obtain ⟨Z, δ, o, ok, en, hf, q⟩ := h
  obtain ⟨d, hd, ho⟩ := Option.map_eq_some_iff.mp hf
  subst ho
  exact ⟨Z, δ, d, ok, en, hd, q⟩
theorem ds_if {c : Expr} {a b : List Stmt} {t : En → Option Bool} (hc : DT M X c t) (ha : DSs M X a F) (hb : DSs M X b G) : DS M X (.If c a b pos) (sIf t F G) := by
  refine PS.imp (ps_if hc ha hb) fun E σ H h => ?_
  obtain ⟨Z, δ, o, ok, en, hf, q⟩ := h
  obtain ⟨k, hk, hf⟩ := Option.bind_eq_some_iff.mp hf
  refine ⟨Z, δ, k, ok, en, hk, fun H1 g1 => ?_⟩
  have key : ∀ K : En → Option Out, K δ = some o → tDS (cs X M) K E σ H1 := fun K hK => by
    refine ⟨Z, δ, o, ok.go g1, en.go g1, hK, ?_⟩
    cases o with
    | nx δ' => exact fun σ' H' g2 en2 => q σ' H' (g1.trans g2) en2
    | rt d => exact fun v H' g2 i2 => q v H' (g1.trans g2) i2
  cases k with
  | true => exact key F hf
  | false => exact key G hf
theorem ds_no : DS M X st sNo := PS.imp ps_never fun E σ H h => by
  obtain ⟨_, _, _, _, _, hf, _⟩ := h
  cases hf
theorem dss_no {sts : List Stmt} : DSs M X sts sNo := PSs.imp pss_never fun E σ H h => by
  obtain ⟨_, _, _, _, _, hf, _⟩ := h
  cases hf
/-- a, b = x, y -/
def sPar (i j : Nat) (fs : En → Option (List D)) : En → Option Out := fun δ => (fs δ).bind fun ds => match ds with
  | [x, y] => some (.nx ((δ.set i (some x)).set j (some y)))
  | _ => none
theorem ds_par {i j : Nat} {x y : Str} {a b : Expr} {fs : En → Option (List D)} {px py pt : Pos} {kt k2 : Nat} {pt2 : Pos} (hc : X.calm = true) (hN : X.N.Nodup) (ha : DA M X [a, b] fs) (hij : i ≠ j := by decide) (hi : X.N[i]? = some x := by rfl) (hj : X.N[j]? = some y := by rfl)
    (hx : X.env.scope.names.lookup x = some .local := by rfl) (hy : X.env.scope.names.lookup y = some .local := by rfl)
    (hw : swappedStores [.Tuple [.Name x px, .Name y py] kt pt] (.Tuple [a, b] k2 pt2) X.env = pure (some [x, y]) := by rfl)
    (hs : swapsWithSole [.Tuple [.Name x px, .Name y py] kt pt] (.Tuple [a, b] k2 pt2) pos.line X.env = pure false := by rfl) :
    DS M X (.Assign [.Tuple [.Name x px, .Name y py] kt pt] (.Tuple [a, b] k2 pt2) pos) (sPar i j fs) := by
  refine PS.imp (ps_par hc hN hi hj hij hx hy ha hw hs) fun E σ H h => ?_
  obtain ⟨Z, δ, o, ok, en, hf, q⟩ := h
  obtain ⟨ds, hd, hf⟩ := Option.bind_eq_some_iff.mp hf
  refine ⟨Z, δ, ds, ok, en, hd, fun vs H1 g1 i1 => ?_⟩
  split at hf
  · rename_i dx dy
    cases hf
    cases i1 with
    | cons h1 i1 =>
      cases i1 with
      | cons h2 i1 =>
        cases i1
        exact ⟨_, _, rfl, q _ H1 g1 (((en.go g1).set h1).set h2)⟩
  · cases hf

/-! ### what is walked -/
/-- what is not hidden stood and stands -/
structure GoZ (C : Cs) (Z : Hid) (H H' : Hp) : Prop where
  ex : ExZ Z H H'
  tab : LamX.Tabs C.T H'
theorem Go.gz {C : Cs} {Z : Hid} {H H' : Hp} (g : Go C H H') : GoZ C Z H H' := ⟨g.z, g.tab⟩
theorem GoZ.trans {C : Cs} {Z : Hid} {H H1 H2 : Hp} (a : GoZ C Z H H1) (b : GoZ C Z H1 H2) : GoZ C Z H H2 := ⟨a.ex.trans b.ex, b.tab⟩
theorem Is.walk {C : Cs} {Z Z' : Hid} {H H' : Hp} {v : V} {d : D} (e : ExZ Z H H') (h : ∀ a, H a ≠ none → ¬ Z a → ¬ Z' a) (is : Is C Z H v d) : Is C Z' H' v d := by
  have h1 : Is C (fun a => Z a ∨ Z' a) H v d := Is.hide (fun a ha hz z => z.elim hz (h a ha hz)) d v is
  have h2 : Is C (fun a => Z a ∨ Z' a) H' v d := Is.mono (fun b o hb ho hn => e b o (fun z => hb (.inl z)) ho hn) d v h1
  exact Is.hide (fun a _ hz z => hz (.inr z)) d v h2
def WalkD (C : Cs) (Z : Hid) (J : It) (H1 : Hp) (ds : List D) : Prop := ds.length ≤ sizeLine ∧ Walk J ds.length (fun H => GoZ C Z H1 H) (fun i H x H' => Go C H H' ∧ ∃ d, ds[i]? = some d ∧
  ∀ Z' : Hid, (∀ a, H1 a ≠ none → ¬ Z a → ¬ Z' a) → (∀ a, Z' a → H a ≠ none) → Is C Z' H' x d)
def tDI (C : Cs) (fi : En → Option (List D)) : TI := fun σ H R => ∃ (Z : Hid) (δ : En) (ds : List D), Ok C Z H ∧ EnR C Z H σ δ ∧ fi δ = some ds ∧ ∀ J H1, Go C H H1 → WalkD C Z J H1 ds → R J H1
abbrev DI (M : Mm) (X : Cx) (tg iter : Expr) (fi : En → Option (List D)) : Prop := PI X tg iter (tDI (cs X M) fi)
theorem PI.imp {tg iter : Expr} {t t' : TI} (h : PI X tg iter t) (i : ∀ σ H R, t' σ H R → t σ H R) : PI X tg iter t' := ⟨fun pins s σ H R I hw => h.run pins s σ H R I (i σ H R hw)⟩
theorem PI.or {tg iter : Expr} {t t' : TI} (h : PI X tg iter t) (h' : PI X tg iter t') : PI X tg iter (fun σ H R => t σ H R ∨ t' σ H R) := ⟨fun pins s σ H R I hw => by
  rcases hw with hw | hw
  · exact h.run pins s σ H R I hw
  · exact h'.run pins s σ H R I hw⟩
theorem walkD_tup {C : Cs} {Z : Hid} {H : Hp} {a : Addr} {vs : List V} {ds : List D} (ok : Ok C Z H) (z : ¬ Z a) (hS : H a = some (.tup vs)) (hA : IsAll C Z H vs ds) (hl : ds.length ≤ sizeLine) : WalkD C Z (Itt C.K a) H ds := by
  refine ⟨hl, ?_⟩
  rw [← hA.length]
  refine (walk_tup (K := C.K) (a := a) (xs := vs)).mono (fun H' g => ex_t (Z := Z) g.ex z (.inl (.inl hS))) fun i H1 x H2 hi g y => ?_
  obtain ⟨e, hx⟩ := y
  subst e
  have hi' : i < ds.length := by rw [← hA.length]; exact hi
  obtain ⟨v, hv, is⟩ := hA.get (List.getElem?_eq_getElem hi')
  rw [hx] at hv
  cases hv
  exact ⟨⟨LamX.ExtN.refl _, g.tab⟩, _, List.getElem?_eq_getElem hi', fun Z' h1 _ => is.walk g.ex h1⟩
theorem walkD_lst {C : Cs} {Z : Hid} {H : Hp} {a : Addr} {vs : List V} {ds : List D} (ok : Ok C Z H) (z : ¬ Z a) (hS : H a = some (.lst vs)) (hA : IsAll C Z H vs ds) (hl : ds.length ≤ sizeLine) : WalkD C Z (Itl C.K a) H ds := by
  refine ⟨hl, ?_⟩
  rw [← hA.length]
  refine (walk_list (K := C.K) (a := a) (xs := vs)).mono (fun H' g => ex_l (Z := Z) g.ex z (.inl (.inl hS))) fun i H1 x H2 hi g y => ?_
  obtain ⟨e, hx⟩ := y
  subst e
  have hi' : i < ds.length := by rw [← hA.length]; exact hi
  obtain ⟨v, hv, is⟩ := hA.get (List.getElem?_eq_getElem hi')
  rw [hx] at hv
  cases hv
  exact ⟨⟨LamX.ExtN.refl _, g.tab⟩, _, List.getElem?_eq_getElem hi', fun Z' h1 _ => is.walk g.ex h1⟩
def items : D → Option (List D)
  | .tup ds => some ds
  | .lst ds => some ds
  | _ => none
def iSeq (f : En → Option D) : En → Option (List D) := fun δ => (f δ).bind items
theorem di_seq {tg l : Expr} (hl : DE M X l f) : DI M X tg l (iSeq f) := by
  refine PI.imp (PI.or (pi_tup hl) (pi_list hl)) fun σ H R h => ?_
  obtain ⟨Z, δ, ds, ok, en, hf, q⟩ := h
  obtain ⟨d, hd, hf⟩ := Option.bind_eq_some_iff.mp hf
  cases d with
  | tup es =>
    cases hf
    refine .inl ⟨Z, δ, _, ok, en, hd, fun v H1 g1 i1 => ?_⟩
    cases i1 with
    | tup z hS hA hz => exact ⟨_, rfl, ⟨_, .inl (.inl hS)⟩, q _ H1 g1 (walkD_tup (C := cs X M) (ok.go g1) z hS hA hz)⟩
  | lst es =>
    cases hf
    refine .inr ⟨Z, δ, _, ok, en, hd, fun v H1 g1 i1 => ?_⟩
    cases i1 with
    | lst z hS hA hz => exact ⟨_, rfl, ⟨_, .inl (.inl hS)⟩, q _ H1 g1 (walkD_lst (C := cs X M) (ok.go g1) z hS hA hz)⟩
  | _ => cases hf
def rangeD (n : Int) : List D := (List.range n.toNat).map fun i => .int (i : Nat)
def iRange (f : En → Option D) : En → Option (List D) := fun δ => (f δ).bind fun d => match d with
  | .int n => if n ≤ 1000000 ∧ -1000000 ≤ n then some (rangeD n) else none
  | _ => none
theorem walkD_range {C : Cs} {Z : Hid} {H : Hp} {n : Int} (h1 : n ≤ 1000000) : WalkD C Z (Itr 0 n.toNat) H (rangeD n) := by
  have hl : (rangeD n).length = n.toNat := by unfold rangeD; rw [List.length_map, List.length_range]
  have hz : n.toNat ≤ sizeLine := by rw [sizeLine_eq]; omega
  refine ⟨by rw [hl]; exact hz, ?_⟩
  rw [hl]
  refine (walk_range (lo := 0) (n := n.toNat)).mono (fun _ _ => True.intro) fun i H1 x H2 hi g y => ?_
  obtain ⟨e, hx⟩ := y
  subst e
  subst hx
  refine ⟨⟨LamX.ExtN.refl _, g.tab⟩, .int (i : Nat), ?_, fun Z' _ _ => ?_⟩
  · unfold rangeD
    rw [List.getElem?_map, List.getElem?_range hi]
    rfl
  · have e0 : (0 : Int) + (i : Int) = (i : Int) := Int.zero_add _
    show Is C Z' _ (.int ((0 : Int) + (i : Int))) _
    rw [e0]
    exact .int _
theorem di_range {tg a : Expr} {p : Pos} (ha : DE M X a f) (hm : X.mg "range" = none) (hg : Gl X "range" := by rfl) (hs : starEach [a] X.env = [(false, eval a X.env)] := by rfl) (hs2 : starEach (a :: []) X.env = (false, eval a X.env) :: starEach [] X.env := by rfl) :
    DI M X tg (.Call (.Name "range" p) [a] [] pos) (iRange f) := by
  refine PI.imp (pi_range1 hg hm (da_cons (M := M) ha da_nil hs2) hs) fun σ H R h => ?_
  obtain ⟨Z, δ, ds, ok, en, hf, q⟩ := h
  obtain ⟨d, hd, hf⟩ := Option.bind_eq_some_iff.mp hf
  cases d with
  | int n =>
    by_cases hn : n ≤ 1000000 ∧ -1000000 ≤ n
    · have hf : (if n ≤ 1000000 ∧ -1000000 ≤ n then some (rangeD n) else none) = some ds := hf
      rw [if_pos hn] at hf
      cases hf
      refine ⟨Z, δ, [.int n], ok, en, ?_, fun vs H1 g1 i1 => ?_⟩
      · show (f δ).bind (fun x => (aNil δ).map fun xs => x :: xs) = _
        rw [hd]
        rfl
      · cases i1 with
        | cons h1 i1 =>
          cases i1
          cases h1
          exact ⟨n, rfl, by omega, by omega, q _ H1 g1 (walkD_range hn.1)⟩
    · have hf : (if n ≤ 1000000 ∧ -1000000 ≤ n then some (rangeD n) else none) = some ds := hf
      rw [if_neg hn] at hf
      cases hf
  | _ => cases hf
/-! ### for -/
theorem forF_imp {C : Cs} {Z : Hid} {H0 H1 : Hp} {σ : L2.St} {δ : En} {ds : List D} {J : It} {g : TG} {tf : D → En → Option En} {sl : List Nat} {F : En → Option Out} {o : Out} {E : Ends} (ok : Ok C Z H1) (en : EnR C Z H1 σ δ) (g0 : Go C H0 H1) (w : WalkD C Z J H1 ds) (gt : GT C g tf sl) (hf : forF tf F ds δ = some o)
    (q : Res C Z H0 E o) :
    ∃ W : Nat → Nat → L2.St → Hp → Prop, (∃ m, W 0 m σ H1) ∧ ∀ i m σ H, W i m σ H →
      (J.stop i H ∧ E.nx σ H) ∨ (J.go i H ∧ ∃ N : L2.St → Hp → Prop, (∀ σ' H', N σ' H' → ∃ m', m' < m ∧ W (i + 1) m' σ' H') ∧ ∀ x H', J.yld i H x H' → g x σ H' fun σ2 H2 => tDS C F { E with nx := N, ct := N, bk := E.nx } σ2 H2) := by
  refine for_it (D := E) w.2 (fun i σ H => Go C H1 H ∧ ∃ δi, EnR C Z H σ δi ∧ forF tf F (ds.drop i) δi = some o) ⟨⟨LamX.ExtN.refl _, ok.tab⟩, δ, en, by simpa using hf⟩ (fun i σ H _ p => p.1.gz) (fun i x σ H H' hi p y => ?_) (fun σ H p => ?_)
  · obtain ⟨g1, δi, eni, hfi⟩ := p
    obtain ⟨g2, d, hd, is⟩ := y
    rw [List.drop_eq_getElem_cons hi] at hfi
    have ed : ds[i] = d := by
      rw [List.getElem?_eq_getElem hi] at hd
      exact Option.some.inj hd
    rw [ed] at hfi
    obtain ⟨δ1, h1, hfi⟩ := Option.bind_eq_some_iff.mp hfi
    obtain ⟨o1, h2, hfi⟩ := Option.bind_eq_some_iff.mp hfi
    have ok2 := (ok.go g1).go g2
    refine gt Z H' σ δi x d δ1 _ ok2 (eni.go g2) (is Z (fun _ _ h => h) fun a ha => let ⟨o, h, _⟩ := (ok.go g1).hid a ha; by rw [h]; simp) h1 fun σ2 en2 _ => ⟨Z, δ1, o1, ok2, en2, h2, ?_⟩
    cases o1 with
    | nx δ2 => exact fun σ' H3 g3 en3 => ⟨(g1.trans g2).trans g3, δ2, en3, hfi⟩
    | rt dd =>
      cases hfi
      exact fun v H3 g3 i3 => q v H3 (((g0.trans g1).trans g2).trans g3) i3
  · obtain ⟨g1, δi, eni, hfi⟩ := p
    rw [List.drop_length] at hfi
    cases hfi
    exact q σ H (g0.trans g1) eni
theorem ds_for {tg iter : Expr} {body : List Stmt} {fi : En → Option (List D)} {g : TG} {tf : D → En → Option En} {sl : List Nat} (hp : PassesOwn (model X.prog X.w) X.A X.env X.xe) (hc : X.calm = true) (hi : DI M X tg iter fi) (hg : PG X tg g) (gt : GT (cs X M) g tf sl) (hb : DSs M X body F)
    (hs : ∀ x, foldedSetIterable iter X.env x = pure x := by intro _; rfl) : DS M X (.For tg iter body [] pos) (sFor fi tf F) := by
  refine PS.imp (ps_for hp hc hi hg hb hs) fun E σ H h => ?_
  obtain ⟨Z, δ, o, ok, en, hf, q⟩ := h
  obtain ⟨ds, hd, hf⟩ := Option.bind_eq_some_iff.mp hf
  exact ⟨Z, δ, ds, ok, en, hd, fun J H1 g1 w => forF_imp (ok.go g1) (en.go g1) g1 w gt hf q⟩

/-! ### list comprehensions -/
abbrev DTs (M : Mm) (X : Cx) (es : List Expr) (f : En → Option Bool) : Prop := PTs X es (tDT (cs X M) f)
def bYes : En → Option Bool := fun _ => some true
theorem dts_nil : DTs M X [] bYes := PTs.imp pts_nil fun σ H Q h => by
  obtain ⟨Z, δ, b, ok, en, hf, q⟩ := h
  cases hf
  exact q H ok.refl
theorem dts_one {c : Expr} {t : En → Option Bool} (h : DT M X c t) : DTs M X [c] t := pts_one h
def lcRun (en : D → Option En) (t : En → Option Bool) (f : En → Option D) : List D → Option (List D)
  | [] => some []
  | x :: xs => (en x).bind fun δ => (t δ).bind fun b => if b = true then (f δ).bind fun y => (lcRun en t f xs).map fun ys => y :: ys else lcRun en t f xs
def fLc (vs : List Nat) (fi : En → Option (List D)) (tf : D → En → Option En) (t : En → Option Bool) (f : En → Option D) : En → Option D := fun δ => (fi δ).bind fun ds => (lcRun (fun x => tf x (wipeE δ vs)) t f ds).map .lst
theorem lcRun_length {en : D → Option En} {t : En → Option Bool} {f : En → Option D} : ∀ {ds ys : List D}, lcRun en t f ds = some ys → ys.length ≤ ds.length
  | [], ys, h => by cases h; exact Nat.le_refl _
  | d :: ds, ys, h => by
    obtain ⟨δ, _, h⟩ := Option.bind_eq_some_iff.mp h
    obtain ⟨b, _, h⟩ := Option.bind_eq_some_iff.mp h
    cases b with
    | true =>
      obtain ⟨y, _, h⟩ := Option.bind_eq_some_iff.mp h
      obtain ⟨zs, h1, h2⟩ := Option.map_eq_some_iff.mp h
      subst h2
      have := lcRun_length h1
      simp only [List.length_cons]
      omega
    | false =>
      have := lcRun_length h
      simp only [List.length_cons]
      omega
/-- where the list D has grown -/
theorem upd_go {C : Cs} {Z : Hid} {H0 H : Hp} {p : Addr} {o : HO} (hp : H0 p = none) (g : Go C H0 H) (h : ∃ xs, H p = some (.lst xs)) : Go C H0 (upd H p o) := by
  obtain ⟨xs, h⟩ := h
  refine ⟨fun b u e n => ?_, fun q hq => ?_⟩
  · rw [upd_ne (ne_of_none e hp)]
    exact g.ex b u e n
  · obtain ⟨ps, h1, h2, h3⟩ := g.tab q hq
    have n1 : q.1 ≠ p := ne_of h1 h (by intro z; cases z)
    refine ⟨ps, by rw [upd_ne n1]; exact h1, h2, fun pos cv hc => ?_⟩
    obtain ⟨c, e1, e2⟩ := h3 pos cv hc
    have n2 : c ≠ p := ne_of e2 h (by intro z; unfold LamX.CodeO at z; cases z)
    exact ⟨c, e1, by rw [upd_ne n2]; exact e2⟩
/-- the new list hidden from what is known -/
theorem lc_imp {C : Cs} {Z : Hid} {H0 H1 : Hp} {σ : L2.St} {δ : En} {ds ys : List D} {J : It} {g : TG} {tf : D → En → Option En} {sl vs : List Nat} {t : En → Option Bool} {f : En → Option D} {Q : VK} {Dl : Addr} (ok : Ok C Z H1) (en : EnR C Z H1 σ δ) (g0 : Go C H0 H1) (w : WalkD C Z J H1 ds) (gt : GT C g tf sl) (hsl : ∀ i ∈ sl, i ∈ vs)
    (hf : lcRun (fun x => tf x (wipeE δ vs)) t f ds = some ys) (hD : H1 Dl = none) (q : ∀ v H', Go C H0 H' → Is C Z H' v (.lst ys) → Q v H') :
    ∃ W : Nat → Nat → Hp → Prop, (∃ m, W 0 m (upd H1 Dl (.lst []))) ∧ ∀ i m H, W i m H →
      (J.stop i H ∧ Q (.ref Dl) H) ∨ (J.go i H ∧ ∃ Nx : Hp → Prop, (∀ H', Nx H' → ∃ m', m' < m ∧ W (i + 1) m' H') ∧ ∀ x H', J.yld i H x H' → g x (L2.wipe σ vs) H' fun σ2 H2 => L2.wipe σ2 vs = L2.wipe σ vs ∧ tDT C t σ2 H2 fun b H3 =>
        if b = true then tD C f σ2 H3 fun y H4 => ∃ acc, H4 Dl = some (.lst acc) ∧ acc.length < sizeLine ∧ Nx (upd H4 Dl (.lst (acc ++ [y]))) else Nx H3) := by
  -- what is made so far stands for zs, the rest of the turns gives the rest
  let Z' : Hid := fun a => Z a ∨ a = Dl
  have okZ : ∀ {H : Hp}, Go C H1 H → (∃ xs, H Dl = some (.lst xs)) → Ok C Z' H := fun {H} g h => ⟨fun z hz => by
    rcases hz with hz | hz
    · exact (ok.go g).hid z hz
    · obtain ⟨xs, h⟩ := h
      exact ⟨_, by rw [hz]; exact h, fun ps z => by cases z⟩, g.tab⟩
  have hid1 : ∀ a, H1 a ≠ none → ¬ Z a → ¬ Z' a := fun a h1 h2 h3 => by
    rcases h3 with h3 | h3
    · exact h2 h3
    · rw [h3] at h1; exact h1 hD
  have notD : ¬ Z Dl := ok.notZ hD
  have enw : EnR C Z' H1 (L2.wipe σ vs) (wipeE δ vs) := by
    have e := en.wipe vs
    exact ⟨e.1, fun i d h => let ⟨v, a, b⟩ := e.2 i d h; ⟨v, a, Is.hide hid1 d v b⟩⟩
  have go0 : Go C H1 (upd H1 Dl (.lst [])) := ok.new hD
  refine lc_it w.2 (fun i H => Go C H1 H ∧ ∃ us zs r, H Dl = some (.lst us) ∧ IsAll C Z' H us zs ∧ lcRun (fun x => tf x (wipeE δ vs)) t f (ds.drop i) = some r ∧ ys = zs ++ r ∧ us.length ≤ i)
    ⟨go0, [], [], ys, upd_same, .nil, by simpa using hf, rfl, Nat.le_refl _⟩ (fun i H _ p => p.1.gz) (fun i x H H' hi p y => ?_) (fun H p => ?_)
  · obtain ⟨g1, us, zs, r, hL, hA, hr, ey, hlen⟩ := p
    obtain ⟨g2, d, hd, is⟩ := y
    have okH := okZ g1 ⟨us, hL⟩
    have is' := is Z' hid1 fun a ha => let ⟨o, h, _⟩ := okH.hid a ha; by rw [h]; simp
    rw [List.drop_eq_getElem_cons hi] at hr
    have ed : ds[i] = d := by
      rw [List.getElem?_eq_getElem hi] at hd
      exact Option.some.inj hd
    rw [ed] at hr
    obtain ⟨δ1, e1, hr⟩ := Option.bind_eq_some_iff.mp hr
    obtain ⟨b, e2, hr⟩ := Option.bind_eq_some_iff.mp hr
    have okH' := okH.go g2
    have en1 : EnR C Z' H' (L2.wipe σ vs) (wipeE δ vs) := (enw.go g1).go g2
    refine gt Z' H' _ _ x d δ1 _ okH' en1 is' e1 fun σ2 en2 hw => ⟨by rw [hw vs hsl, wipe_wipe], Z', δ1, b, okH', en2, e2, fun H3 g3 => ?_⟩
    cases b with
    | true =>
      obtain ⟨yd, e3, hr⟩ := Option.bind_eq_some_iff.mp hr
      obtain ⟨r', e4, e5⟩ := Option.map_eq_some_iff.mp hr
      subst e5
      show tD C f σ2 H3 _
      refine ⟨Z', δ1, yd, okH'.go g3, en2.go g3, e3, fun v H4 g4 i4 => ?_⟩
      have h4 : H4 Dl = some (.lst us) := g4.ex Dl _ (g3.ex Dl _ (g2.ex Dl _ hL (fun ps z => by cases z)) (fun ps z => by cases z)) (fun ps z => by cases z)
      have g14 : Go C H1 H4 := ((g1.trans g2).trans g3).trans g4
      have ez : ExZ Z' H4 (upd H4 Dl (.lst (us ++ [v]))) := fun b o hb h _ => by
        rw [upd_ne (fun z => hb (.inr z))]
        exact h
      have hz := w.1
      refine ⟨us, h4, by omega, upd_go (Z := Z) hD g14 ⟨us, h4⟩, us ++ [v], zs ++ [yd], r', upd_same, ?_, e4, by rw [ey]; simp, by rw [List.length_append, List.length_singleton]; omega⟩
      exact (IsAll.mono ez _ _ (((hA.go g2).go g3).go g4)).append (.cons (Is.mono ez _ _ i4) .nil)
    | false =>
      show _ ∧ _
      exact ⟨(g1.trans g2).trans g3, us, zs, r, g3.ex Dl _ (g2.ex Dl _ hL (fun ps z => by cases z)) (fun ps z => by cases z), (hA.go g2).go g3, hr, ey, by omega⟩
  · obtain ⟨g1, us, zs, r, hL, hA, hr, ey, hlen⟩ := p
    rw [List.drop_length] at hr
    cases hr
    rw [List.append_nil] at ey
    subst ey
    have hz := w.1
    exact q _ H (g0.trans g1) (.lst notD hL (IsAll.hide (fun a _ h z => h (.inl z)) _ _ hA) (by rw [← hA.length]; omega))
theorem lc_red {C : Cs} {wi : En → Option (List D)} {g : TG} {tf : D → En → Option En} {sl vs : List Nat} {t : En → Option Bool} {f : En → Option D} (gt : GT C g tf sl) (hsl : ∀ i ∈ sl, i ∈ vs) (σ : L2.St) (H : Hp) (Q : VK) (h : tD C (fLc vs wi tf t f) σ H Q) :
    tLc (tDI C wi) g (tDT C t) (tD C f) vs σ H Q := by
  obtain ⟨Z, δ, d, ok, en, hf, q⟩ := h
  obtain ⟨ds, hd, hf⟩ := Option.bind_eq_some_iff.mp hf
  obtain ⟨ys, hy, hf⟩ := Option.map_eq_some_iff.mp hf
  subst hf
  exact ⟨Z, δ, ds, ok, en, hd, fun J H1 g1 w Dl hD => lc_imp (ok.go g1) (en.go g1) g1 w gt hsl hy hD q⟩
section
variable {elt tg iter : Expr} {ifs : List Expr} {scope : Scope} {own : List (Str × Nat)} {wi : En → Option (List D)} {g : TG} {tf : D → En → Option En} {sl : List Nat} {t : En → Option Bool} {f : En → Option D}
theorem de_lc (hc : X.calm = true) (hN : X.N.Nodup) (hi : DI M X tg iter wi) (ok : BlkOk X.N X.env.scope scope own) (gt : GT (cs X M) g tf sl)
    (hg : ∀ (s : Shared) (H : Hp) (C : Addr) (cl : List (Str × Addr)) (fp : List Addr), PG (X.blk s H scope (compEnvC scope cl C X.env) fp) tg g) (ht : ∀ (s : Shared) (H : Hp) (C : Addr) (cl : List (Str × Addr)) (fp : List Addr), DTs M (X.blk s H scope (compEnvC scope cl C X.env) fp) ifs t)
    (he : ∀ (s : Shared) (H : Hp) (C : Addr) (cl : List (Str × Addr)) (fp : List Addr), DE M (X.blk s H scope (compEnvC scope cl C X.env) fp) elt f) (hsl : ∀ i ∈ sl, i ∈ own.map (·.2) := by decide) (hs : ∀ x, foldedSetIterable iter X.env x = pure x := by intro _; rfl) :
    DE M X (.ListComp elt [⟨tg, iter, ifs, 0⟩] scope pos) (fLc (own.map (·.2)) wi tf t f) :=
  PE.imp (pe_lc hc hN hi ok hg ht he hs) fun σ H Q h => lc_red gt hsl σ H Q h
theorem ds_setLc {i : Nat} {y : Str} {py spos : Pos} (hc : X.calm = true) (hN : X.N.Nodup) (hi : DI M X tg iter wi) (ok : BlkOk X.N X.env.scope scope own) (gt : GT (cs X M) g tf sl)
    (hsw : swapsWith (.ListComp elt [⟨tg, iter, ifs, 0⟩] scope pos) (some (.Name y py)) spos.line X.env = pure true)
    (hg : ∀ (s : Shared) (H : Hp) (C : Addr) (cl : List (Str × Addr)) (fp : List Addr), PG (X.blk s H scope (compEnvC scope cl C X.env) fp) tg g) (ht : ∀ (s : Shared) (H : Hp) (C : Addr) (cl : List (Str × Addr)) (fp : List Addr), DTs M (X.blk s H scope (compEnvC scope cl C X.env) fp) ifs t)
    (he : ∀ (s : Shared) (H : Hp) (C : Addr) (cl : List (Str × Addr)) (fp : List Addr), DE M (X.blk s H scope (compEnvC scope cl C X.env) fp) elt f) (hsl : ∀ i ∈ sl, i ∈ own.map (·.2) := by decide) (hy : X.N[i]? = some y := by rfl) (hyl : X.env.scope.names.lookup y = some .local := by rfl) (hs : ∀ x, foldedSetIterable iter X.env x = pure x := by intro _; rfl) :
    DS M X (.Assign [.Name y py] (.ListComp elt [⟨tg, iter, ifs, 0⟩] scope pos) spos) (sAsg (fLc (own.map (·.2)) wi tf t f) (t1 i)) :=
  PS.imp (ps_setLc hc hN hy hyl hsw hi ok hg ht he hs) fun E σ H h => asg_imp (fun σ H Q h => lc_red gt hsl σ H Q h) h
end

/-! ### a def -/
def bodyG (n : Nat) (F : En → Option Out) : List D → Option D := fun ds => (F (ds.map some ++ List.replicate (n - ds.length) none)).map fun o => match o with
  | .nx _ => .non
  | .rt d => d
theorem enR_start {C : Cs} {Z : Hid} {H : Hp} {N : List Str} {vs : List V} {ds : List D} (h : IsAll C Z H vs ds) : EnR C Z H (L2.start N vs) (ds.map some ++ List.replicate (N.length - ds.length) none) := by
  refine ⟨by unfold L2.start; simp only [List.length_append, List.length_map, List.length_replicate, h.length], fun i d hi => ?_⟩
  unfold L2.start
  by_cases hl : i < ds.length
  · rw [List.getElem?_append_left (by rw [List.length_map]; exact hl), List.getElem?_map] at hi
    cases e : ds[i]? with
    | none => rw [e] at hi; cases hi
    | some d' =>
      rw [e] at hi
      cases hi
      obtain ⟨v, hv, is⟩ := h.get e
      refine ⟨v, ?_, is⟩
      rw [List.getElem?_append_left (by rw [List.length_map, h.length]; exact hl), List.getElem?_map, hv]
      rfl
  · rw [List.getElem?_append_right (by rw [List.length_map]; omega), List.getElem?_replicate] at hi
    split at hi <;> cases hi
end
theorem dfn {P : Program} {w : World} {K : PySem.W.Frag} {mg : Str → Option Value} {base : Heap} {M : Mm} {x qual : Str} {st : Stmt} {f : Addr} {fd : FuncData} {N ps : List Str} {k : Nat} {F : En → Option Out} (Fd : Fun K x qual st f fd) (S : FnScope N ps (defScope st))
    (hb : ∀ (cdv : Value) (A : Around) (outer : List Env) (s : Shared) (H : Hp) (E : XK), Room k (A.deeper (envOfC qual (defScope st) s.heap.objs.size f cdv)) → DSs M (cxOf CX0 P w K mg base N qual (defScope st) f cdv A outer s H E).nox (defBody st) F) :
    FnOk P w K mg base CX0 (k + 1) f fd ps (spD ⟨P, w, K, M.cl, M.T⟩ ps.length (bodyG N.length F)) := by
  refine Fd.ok S (fun vs H Q E h => ?_) fun cdv A outer s H vs Q E hr h => ?_
  · obtain ⟨Z, ds, d, _, hA, hl, _⟩ := h
    rw [hA.length, hl]
  · obtain ⟨Z, ds, d, ok, hA, hl, hg, q⟩ := h
    refine ⟨_, hb cdv A outer s H E hr, ?_⟩
    obtain ⟨o, ho, hd⟩ := Option.map_eq_some_iff.mp hg
    refine ⟨Z, _, o, ok, enR_start hA, ho, ?_⟩
    cases o with
    | nx δ' =>
      subst hd
      exact fun σ' H' g' _ => q .non H' g' .non
    | rt d' =>
      subst hd
      exact q
end Dx
/-! Operations on data: +, comparisons, in, len, all, any, tuple, list, max, min, sorted, isinstance. -/
namespace Dx
open PySem PySem.Spec PyProof.Rows L2

/-! ### plain data of few levels -/
def lv : Nat → D → Bool
  | _, .non => true
  | _, .bl _ => true
  | _, .int _ => true
  | n + 1, .tup xs => xs.all (lv n)
  | n + 1, .lst xs => xs.all (lv n)
  | _, _ => false
def flatD : D → Bool
  | .non => true
  | .bl _ => true
  | .int _ => true
  | _ => false
theorem lv_flat {n : Nat} {d : D} (h : flatD d = true) : lv n d = true := by
  cases d <;> first | (cases n <;> rfl) | cases h
theorem toPys_map : ∀ ds : List D, toPys ds = ds.map toPy
  | [] => rfl
  | d :: ds => by rw [toPys, toPys_map ds, List.map_cons]
section
variable {C : Cs} {Z : Hid} {H : Hp}
theorem dpAll_of {n : Nat} (ih : ∀ (d : D) (v : V), lv n d = true → Is C Z H v d → Dp C.K H v (toPy d)) : ∀ (ds : List D) (vs : List V), ds.all (lv n) = true → IsAll C Z H vs ds → DpAll C.K H vs (toPys ds)
  | [], _, _, h => by cases h; exact .nil
  | d :: ds, _, hl, h => by
    rw [List.all_cons, Bool.and_eq_true] at hl
    cases h with
    | cons h1 h2 => exact .cons (ih d _ hl.1 h1) (dpAll_of ih ds _ hl.2 h2)
theorem dp_of : ∀ (n : Nat) (d : D) (v : V), lv n d = true → Is C Z H v d → Dp C.K H v (toPy d)
  | 0, d, v, hl, h => by
    cases d with
    | non => cases h; exact .non
    | bl b => cases h; exact .bl b
    | int i => cases h; exact .int i
    | _ => cases hl
  | n + 1, d, v, hl, h => by
    cases d with
    | non => cases h; exact .non
    | bl b => cases h; exact .bl b
    | int i => cases h; exact .int i
    | tup ds =>
      cases h with
      | tup z hS hA hz => exact .tup (SqT.of hS) (dpAll_of (dp_of n) ds _ hl hA)
    | lst ds =>
      cases h with
      | lst z hS hA hz => exact .lst (SqL.of hS) (dpAll_of (dp_of n) ds _ hl hA)
    | _ => cases hl
end
theorem canL_all {n : Nat} (ih : ∀ d : D, lv n d = true → (toPy d).canLay0 = true ∧ (toPy d).depth ≤ n) : ∀ ds : List D, ds.all (lv n) = true → PyData.canLayAll0 (toPys ds) = true ∧ PyData.depthAll (toPys ds) ≤ n
  | [], _ => ⟨rfl, Nat.zero_le _⟩
  | d :: ds, hl => by
    rw [List.all_cons, Bool.and_eq_true] at hl
    obtain ⟨a1, a2⟩ := ih d hl.1
    obtain ⟨b1, b2⟩ := canL_all ih ds hl.2
    refine ⟨?_, ?_⟩
    · show (PyData.canLay0 (toPy d) && PyData.canLayAll0 (toPys ds)) = true
      rw [a1, b1]
      rfl
    · show max (PyData.depth (toPy d)) (PyData.depthAll (toPys ds)) ≤ n
      omega
theorem canL_of : ∀ (n : Nat) (d : D), lv n d = true → (toPy d).canLay0 = true ∧ (toPy d).depth ≤ n
  | 0, d, hl => by
    cases d <;> first | exact ⟨rfl, Nat.le_refl 0⟩ | cases hl
  | n + 1, d, hl => by
    cases d with
    | non => exact ⟨rfl, Nat.zero_le _⟩
    | bl b => exact ⟨rfl, Nat.zero_le _⟩
    | int i => exact ⟨rfl, Nat.zero_le _⟩
    | tup ds =>
      obtain ⟨a, b⟩ := canL_all (canL_of n) ds hl
      exact ⟨a, Nat.succ_le_succ b⟩
    | lst ds =>
      obtain ⟨a, b⟩ := canL_all (canL_of n) ds hl
      exact ⟨a, Nat.succ_le_succ b⟩
    | _ => cases hl
theorem shaped_of {n : Nat} {d : D} (hn : n ≤ 64) (hl : lv n d = true) : SeqAt.shaped (toPy d) = true := by
  obtain ⟨a, b⟩ := canL_of n d hl
  show ((toPy d).canLay0 && decide ((toPy d).depth ≤ 64)) = true
  rw [a, decide_eq_true (Nat.le_trans b hn)]
  rfl
mutual
theorem toPy_inj : ∀ (n m : Nat) (x y : D), lv n x = true → lv m y = true → toPy x = toPy y → x = y
  | n, m, .non, y, _, hy, h => by cases y <;> first | rfl | (cases h; done) | (cases m <;> cases hy; done)
  | n, m, .bl b, y, _, hy, h => by
    cases y with
    | bl c => injection h with h; rw [h]
    | _ => first | cases h | (cases m <;> cases hy)
  | n, m, .int b, y, _, hy, h => by
    cases y with
    | int c => injection h with h; rw [h]
    | _ => first | cases h | (cases m <;> cases hy)
  | n + 1, m, .tup xs, y, hx, hy, h => by
    cases y with
    | tup ys =>
      cases m with
      | zero => cases hy
      | succ m =>
        injection h with h
        rw [toPys_inj n m xs ys hx hy h]
    | _ => first | cases h | (cases m <;> cases hy)
  | n + 1, m, .lst xs, y, hx, hy, h => by
    cases y with
    | lst ys =>
      cases m with
      | zero => cases hy
      | succ m =>
        injection h with h
        rw [toPys_inj n m xs ys hx hy h]
    | _ => first | cases h | (cases m <;> cases hy)
  | 0, _, .tup _, _, hx, _, _ => by cases hx
  | 0, _, .lst _, _, hx, _, _ => by cases hx
  | n, _, .str _, _, hx, _, _ => by cases n <;> cases hx
  | n, _, .ks _, _, hx, _, _ => by cases n <;> cases hx
  | n, _, .dic _, _, hx, _, _ => by cases n <;> cases hx
  | n, _, .obj _ _, _, hx, _, _ => by cases n <;> cases hx
  | n, _, .raw _, _, hx, _, _ => by cases n <;> cases hx
theorem toPys_inj : ∀ (n m : Nat) (xs ys : List D), xs.all (lv n) = true → ys.all (lv m) = true → toPys xs = toPys ys → xs = ys
  | _, _, [], [], _, _, _ => rfl
  | _, _, [], _ :: _, _, _, h => by cases h
  | _, _, _ :: _, [], _, _, h => by cases h
  | n, m, x :: xs, y :: ys, hx, hy, h => by
    rw [List.all_cons, Bool.and_eq_true] at hx hy
    injection h with h1 h2
    rw [toPy_inj n m x y hx.1 hy.1 h1, toPys_inj n m xs ys hx.2 hy.2 h2]
end

/-! ### two ints -/
section
variable {C : Cs}
theorem rd_int {g : Int → Int → V} {g' : Int → Int → D} (h : ∀ i j Z H, Is C Z H (g i j) (g' i j)) : RD C (rI0 g) fun x y => match x, y with
    | .int i, .int j => some (g' i j)
    | _, _ => none := by
  intro Z H x y dx dy d Q ok i1 i2 hg q
  cases dx with
  | int i =>
    cases dy with
    | int j =>
      cases i1
      cases i2
      cases hg
      exact ⟨i, j, rfl, rfl, q _ H ok.refl (h i j Z H)⟩
    | _ => cases hg
  | _ => cases hg
def gSub : D → D → Option D
  | .int i, .int j => some (.int (i - j))
  | _, _ => none
theorem rd_sub : RD C (rI0 fun i j => .int (i - j)) gSub := by
  intro Z H x y dx dy d Q ok i1 i2 hg q
  cases dx with
  | int i =>
    cases dy with
    | int j =>
      cases i1
      cases i2
      cases hg
      exact ⟨i, j, rfl, rfl, q _ H ok.refl (.int _)⟩
    | _ => cases hg
  | _ => cases hg
def gCmp (p : Int → Int → Bool) : D → D → Option D
  | .int i, .int j => some (.bl (p i j))
  | _, _ => none
theorem rd_cmp {p : Int → Int → Bool} : RD C (rI0 fun i j => .bl (p i j)) (gCmp p) := by
  intro Z H x y dx dy d Q ok i1 i2 hg q
  cases dx with
  | int i =>
    cases dy with
    | int j =>
      cases i1
      cases i2
      cases hg
      exact ⟨i, j, rfl, rfl, q _ H ok.refl (.bl _)⟩
    | _ => cases hg
  | _ => cases hg
abbrev gLt : D → D → Option D := gCmp fun i j => decide (i < j)
abbrev gLe : D → D → Option D := gCmp fun i j => decide (i ≤ j)
abbrev gGt : D → D → Option D := gCmp fun i j => decide (j < i)
abbrev gGe : D → D → Option D := gCmp fun i j => decide (j ≤ i)

/-! ### + -/
def gAdd : D → D → Option D
  | .int i, .int j => some (.int (i + j))
  | .tup xs, .tup ys => if xs.length + ys.length ≤ 100000 then some (.tup (xs ++ ys)) else none
  | .lst xs, .lst ys => if xs.length + ys.length ≤ 100000 then some (.lst (xs ++ ys)) else none
  | _, _ => none
theorem le_line {n : Nat} (h : n ≤ 100000) : n ≤ sizeLine := Nat.le_trans h (by decide)
theorem IsAll.nil_iff {Z : Hid} {H : Hp} {vs : List V} {ds : List D} (h : IsAll C Z H vs ds) : vs = [] ↔ ds = [] := by
  have := h.length
  cases vs <;> cases ds <;> simp_all
def rAddAll (K : PySem.W.Frag) : R2 := fun x y H Q => (rI0 (fun i j => .int (i + j)) x y H Q ∨ rCatA K x y H Q) ∨ rCat x y H Q
theorem op_addAll {X : Cx} : OpR X (binaryOp .Add) (rAddAll X.K) := (op_add.or op_catA).or op_cat
theorem rd_add : RD C (rAddAll C.K) gAdd := by
  intro Z H x y dx dy d Q ok i1 i2 hg q
  cases dx with
  | int i =>
    cases dy with
    | int j =>
      cases i1
      cases i2
      cases hg
      exact .inl (.inl ⟨i, j, rfl, rfl, q _ H ok.refl (.int _)⟩)
    | _ => cases hg
  | tup xs =>
    cases dy with
    | tup ys =>
      by_cases hl : xs.length + ys.length ≤ 100000
      · have hg : (if xs.length + ys.length ≤ 100000 then some (D.tup (xs ++ ys)) else none) = some d := hg
        rw [if_pos hl] at hg
        cases hg
        cases i1 with
        | @tup a vs _ z1 hS1 hA1 hz1 =>
          cases i2 with
          | @tup b ws _ z2 hS2 hA2 hz2 =>
            refine .inl (.inr ⟨a, b, vs, ws, rfl, rfl, SqT.of hS1, SqT.of hS2, by rw [hA1.length, hA2.length]; exact le_line hl, fun e => ?_, fun _ e => ?_, fun _ _ p hp => ?_⟩)
            · have e' := (IsAll.nil_iff hA1).mp e
              subst e'
              exact q _ H ok.refl (.tup z2 hS2 hA2 hz2)
            · have e' := (IsAll.nil_iff hA2).mp e
              subst e'
              rw [List.append_nil] at q
              exact q _ H ok.refl (.tup z1 hS1 hA1 hz1)
            · exact q _ _ (ok.new hp) (new_tup ok (hA1.append hA2) (by rw [List.length_append]; exact le_line hl) hp)
      · have hg : (if xs.length + ys.length ≤ 100000 then some (D.tup (xs ++ ys)) else none) = some d := hg
        rw [if_neg hl] at hg
        cases hg
    | _ => cases hg
  | lst xs =>
    cases dy with
    | lst ys =>
      by_cases hl : xs.length + ys.length ≤ 100000
      · have hg : (if xs.length + ys.length ≤ 100000 then some (D.lst (xs ++ ys)) else none) = some d := hg
        rw [if_pos hl] at hg
        cases hg
        cases i1 with
        | @lst a vs _ z1 hS1 hA1 hz1 =>
          cases i2 with
          | @lst b ws _ z2 hS2 hA2 hz2 =>
            exact .inr ⟨a, b, vs, ws, rfl, rfl, hS1, hS2, by rw [hA1.length, hA2.length]; exact le_line hl, fun p hp => q _ _ (ok.new hp) (new_lst ok (hA1.append hA2) (by rw [List.length_append]; exact le_line hl) hp)⟩
      · have hg : (if xs.length + ys.length ≤ 100000 then some (D.lst (xs ++ ys)) else none) = some d := hg
        rw [if_neg hl] at hg
        cases hg
    | _ => cases hg
  | _ => cases hg

/-! ### ==, is None -/
def pyEq (x y : D) : Bool := PyData.eqv (toPy x) (toPy y)
def gEq : D → D → Option D := fun x y => if lv 8 x && lv 8 y then some (.bl (pyEq x y)) else none
def gNe : D → D → Option D := fun x y => if lv 8 x && lv 8 y then some (.bl (!pyEq x y)) else none
theorem rd_eq : RD C (rEqD C.K) gEq := by
  intro Z H x y dx dy d Q ok i1 i2 hg q
  by_cases hl : (lv 8 dx && lv 8 dy) = true
  · unfold gEq at hg
    rw [if_pos hl] at hg
    cases hg
    rw [Bool.and_eq_true] at hl
    exact ⟨_, _, dp_of 8 dx x hl.1 i1, dp_of 8 dy y hl.2 i2, shaped_of (by decide) hl.1, shaped_of (by decide) hl.2, q _ H ok.refl (.bl _)⟩
  · unfold gEq at hg
    rw [if_neg hl] at hg
    cases hg
theorem rd_ne : RD C (rNeD C.K) gNe := by
  intro Z H x y dx dy d Q ok i1 i2 hg q
  by_cases hl : (lv 8 dx && lv 8 dy) = true
  · unfold gNe at hg
    rw [if_pos hl] at hg
    cases hg
    rw [Bool.and_eq_true] at hl
    exact ⟨_, _, dp_of 8 dx x hl.1 i1, dp_of 8 dy y hl.2 i2, shaped_of (by decide) hl.1, shaped_of (by decide) hl.2, q _ H ok.refl (.bl _)⟩
  · unfold gNe at hg
    rw [if_neg hl] at hg
    cases hg
def isNon : D → Bool
  | .non => true
  | _ => false
def noRaw : D → Bool
  | .raw _ => false
  | _ => true
def gIsN : D → D → Option D := fun x y => match y with
  | .non => if noRaw x = true then some (.bl (isNon x)) else none
  | _ => none
def gNotN : D → D → Option D := fun x y => match y with
  | .non => if noRaw x = true then some (.bl (!isNon x)) else none
  | _ => none
theorem isNon_dec {Z : Hid} {H : Hp} {x : V} {d : D} (h : Is C Z H x d) (hn : noRaw d = true) : decide (x = V.non) = isNon d := by
  cases h <;> first | rfl | (cases hn; done) | exact decide_eq_false (fun z => by cases z)
theorem rd_isN : RD C (fun x y H Q => y = .non ∧ Q (.bl (decide (x = .non))) H) gIsN := by
  intro Z H x y dx dy d Q ok i1 i2 hg q
  cases dy with
  | non =>
    cases i2
    by_cases hn : noRaw dx = true
    · unfold gIsN at hg
      simp only [hn, if_true] at hg
      cases hg
      exact ⟨rfl, q _ H ok.refl (by rw [isNon_dec i1 hn]; exact .bl _)⟩
    · unfold gIsN at hg
      simp only [hn, if_false] at hg
      cases hg
  | _ => cases hg
theorem rd_notN : RD C (fun x y H Q => y = .non ∧ Q (.bl (!decide (x = .non))) H) gNotN := by
  intro Z H x y dx dy d Q ok i1 i2 hg q
  cases dy with
  | non =>
    cases i2
    by_cases hn : noRaw dx = true
    · unfold gNotN at hg
      simp only [hn, if_true] at hg
      cases hg
      exact ⟨rfl, q _ H ok.refl (by rw [isNon_dec i1 hn]; exact .bl _)⟩
    · unfold gNotN at hg
      simp only [hn, if_false] at hg
      cases hg
  | _ => cases hg

/-! ### in -/
def inD (x : D) (ds : List D) : Bool := ds.any fun z => pyEq z x
def gIn : D → D → Option D := fun x y => match y with
  | .tup ds => if flatD x && ds.all flatD then some (.bl (inD x ds)) else none
  | .lst ds => if lv 8 x && ds.all (lv 7) then some (.bl (inD x ds)) else none
  | .ks ks => match x with
    | .int i => some (.bl (ks.any fun k => decide (k = i)))
    | _ => none
  | _ => none
def gNotIn : D → D → Option D := fun x y => match gIn x y with
  | some (.bl b) => some (.bl (!b))
  | _ => none
theorem flat_V {Z : Hid} {H : Hp} {v : V} {d : D} (h : Is C Z H v d) (f : flatD d = true) : flatV v = true := by
  cases h <;> first | rfl | cases f
theorem flat_all {Z : Hid} {H : Hp} : ∀ {vs : List V} {ds : List D}, IsAll C Z H vs ds → ds.all flatD = true → vs.all flatV = true
  | _, _, .nil, _ => rfl
  | _, _, .cons h t, f => by
    rw [List.all_cons, Bool.and_eq_true] at f ⊢
    exact ⟨flat_V h f.1, flat_all t f.2⟩
theorem eqV_flat {Z : Hid} {H : Hp} {x y : V} {dx dy : D} (hx : Is C Z H x dx) (hy : Is C Z H y dy) (fx : flatD dx = true) (fy : flatD dy = true) : eqV y x = pyEq dy dx := by
  cases hx with
  | non => cases hy <;> first | rfl | cases fy
  | bl a => cases hy <;> first | rfl | cases fy
  | int a => cases hy <;> first | rfl | cases fy
  | _ => cases fx
theorem inV_flat {Z : Hid} {H : Hp} {x : V} {dx : D} (hx : Is C Z H x dx) (fx : flatD dx = true) : ∀ {vs : List V} {ds : List D}, IsAll C Z H vs ds → ds.all flatD = true → inV x vs = inD dx ds
  | _, _, .nil, _ => rfl
  | _, _, .cons h t, f => by
    rw [List.all_cons, Bool.and_eq_true] at f
    have ih := inV_flat hx fx t f.2
    unfold inV inD at *
    rw [List.any_cons, List.any_cons, ih, eqV_flat hx h fx f.1]
theorem any_toPys (x : D) : ∀ ds : List D, (toPys ds).any (fun z => PyData.eqv z (toPy x)) = inD x ds
  | [] => rfl
  | d :: ds => by
    have ih := any_toPys x ds
    unfold inD at *
    rw [toPys, List.any_cons, List.any_cons, ih]
    rfl
def rDget (neg : Bool) : R2 := fun x y H Q => ∃ a o, y = .ref a ∧ DGet H a x o ∧ Q (.bl (if neg then !o.isSome else o.isSome)) H
theorem op_inK {X : Cx} (hu : X.A.units + 1 < cLine) : OpR X (compareOp .In) (rDget false) := by
  intro pins s σ H x y v u Q I rx ry h
  obtain ⟨a, o, rfl, g, q⟩ := h
  cases ry
  exact d_in hu I g rx fun s' I' => ⟨.bl _, H, I', rfl, q⟩
theorem op_notInK {X : Cx} (hu : X.A.units + 1 < cLine) : OpR X (compareOp .NotIn) (rDget true) := by
  intro pins s σ H x y v u Q I rx ry h
  obtain ⟨a, o, rfl, g, q⟩ := h
  cases ry
  exact d_notIn hu I g rx fun s' I' => ⟨.bl _, H, I', rfl, q⟩
def rInAll (K : PySem.W.Frag) : R2 := fun x y H Q => (rIn K false x y H Q ∨ rInD K x y H Q) ∨ rDget false x y H Q
def rNotInAll (K : PySem.W.Frag) : R2 := fun x y H Q => (rIn K true x y H Q ∨ rNotInD K x y H Q) ∨ rDget true x y H Q
theorem op_inAll {X : Cx} {k : Nat} (hr : Room k X.A) : OpR X (compareOp .In) (rInAll X.K) := (op_in_seq.or (op_inD (by have := hr.un; omega))).or (op_inK (by have := hr.un; omega))
theorem op_notInAll {X : Cx} {k : Nat} (hr : Room k X.A) : OpR X (compareOp .NotIn) (rNotInAll X.K) := (op_notIn_seq.or (op_notInD (by have := hr.un; omega))).or (op_notInK (by have := hr.un; omega))
theorem valV_ks {kvs : List (Key × V)} {ks : List Int} (h : kvs.map (·.1) = ks.map Sum.inl) (i : Int) : (valV kvs (Sum.inl i)).isSome = ks.any fun k => decide (k = i) := by
  rw [← valV_any]
  have e : (kvs.any fun kv => decide (kv.1 = (Sum.inl i : Key))) = (kvs.map (·.1)).any fun k => decide (k = (Sum.inl i : Key)) := by
    rw [List.any_map]
    rfl
  rw [e, h, List.any_map]
  congr 1
  funext k
  show decide ((Sum.inl k : Key) = Sum.inl i) = decide (k = i)
  by_cases hk : k = i
  · subst hk; simp
  · rw [decide_eq_false hk, decide_eq_false (fun z => hk (Sum.inl.inj z))]
theorem rd_in0 (neg : Bool) {Z : Hid} {H : Hp} {x y : V} {dx dy : D} {b : Bool} {Q : VK} (ok : Ok C Z H) (i1 : Is C Z H x dx) (i2 : Is C Z H y dy) (hg : gIn dx dy = some (.bl b)) (q : Q (.bl (if neg then !b else b)) H) :
    (rIn C.K neg x y H Q ∨ (if neg then rNotInD C.K x y H Q else rInD C.K x y H Q)) ∨ rDget neg x y H Q := by
  cases dy with
  | tup ds =>
    have hg : (if flatD dx && ds.all flatD then some (D.bl (inD dx ds)) else none) = some (.bl b) := hg
    by_cases hl : (flatD dx && ds.all flatD) = true
    · rw [if_pos hl] at hg
      cases hg
      rw [Bool.and_eq_true] at hl
      cases i2 with
      | @tup a vs _ z hS hA hz =>
        refine .inl (.inl ⟨a, vs, rfl, .inr (SqT.of hS), flat_V i1 hl.1, flat_all hA hl.2, ?_⟩)
        rw [inV_flat i1 hl.1 hA hl.2]
        exact q
    · rw [if_neg hl] at hg
      cases hg
  | lst ds =>
    have hg : (if lv 8 dx && ds.all (lv 7) then some (D.bl (inD dx ds)) else none) = some (.bl b) := hg
    by_cases hl : (lv 8 dx && ds.all (lv 7)) = true
    · rw [if_pos hl] at hg
      cases hg
      rw [Bool.and_eq_true] at hl
      have h1 := dp_of 8 dx x hl.1 i1
      have h2 := dp_of 8 (.lst ds) y hl.2 i2
      refine .inl (.inr ?_)
      cases neg with
      | true => exact ⟨_, _, h1, h2, shaped_of (by decide) hl.1, shaped_of (n := 8) (d := .lst ds) (by decide) hl.2, by rw [any_toPys]; exact q⟩
      | false => exact ⟨_, _, h1, h2, shaped_of (by decide) hl.1, shaped_of (n := 8) (d := .lst ds) (by decide) hl.2, by rw [any_toPys]; exact q⟩
    · rw [if_neg hl] at hg
      cases hg
  | ks ks =>
    cases dx with
    | int i =>
      cases i1
      cases hg
      cases i2 with
      | @ks a kvs _ z h1 h2 =>
        refine .inr ⟨a, valV kvs (Sum.inl i), rfl, DGet.k (k := Sum.inl i) h1, ?_⟩
        rw [valV_ks h2]
        exact q
    | _ => cases hg
  | _ => cases hg
theorem gIn_bl {x y d : D} (h : gIn x y = some d) : ∃ b, d = .bl b := by
  unfold gIn at h
  split at h
  · split at h <;> cases h; exact ⟨_, rfl⟩
  · split at h <;> cases h; exact ⟨_, rfl⟩
  · split at h <;> cases h; exact ⟨_, rfl⟩
  · cases h
theorem rd_in : RD C (rInAll C.K) gIn := by
  intro Z H x y dx dy d Q ok i1 i2 hg q
  obtain ⟨b, rfl⟩ := gIn_bl hg
  exact rd_in0 false ok i1 i2 hg (q _ H ok.refl (.bl b))
theorem rd_notIn : RD C (rNotInAll C.K) gNotIn := by
  intro Z H x y dx dy d Q ok i1 i2 hg q
  unfold gNotIn at hg
  split at hg
  · rename_i b e
    cases hg
    exact rd_in0 true ok i1 i2 e (q _ H ok.refl (.bl _))
  · cases hg
end
end Dx
/-! Built-ins over data: len, all, any, tuple, list, max, min, sorted. -/
namespace Dx
open PySem PySem.Spec PyProof.Rows L2
section
variable {C : Cs} {X : Cx}

/-! ### len -/
def gLen : List D → Option D
  | [.tup ds] => some (.int ds.length)
  | [.lst ds] => some (.int ds.length)
  | [.ks ks] => some (.int ks.length)
  | _ => none
def rLenAll (K : PySem.W.Frag) : List V → Hp → VK → Prop := fun xs H Q => (∃ p ys, xs = [.ref p] ∧ (SqL K H p ys ∨ SqT K H p ys) ∧ Q (.int ys.length) H) ∨ ∃ a kvs, xs = [V.ref a] ∧ H a = some (.dK kvs) ∧ Q (.int kvs.length) H
theorem call_lenAll : CallR X (.builtin "len") (rLenAll X.K) := call_len_seq.or call_lenD
theorem rc_len : RC C (rLenAll C.K) gLen := by
  intro Z H vs ds d Q ok hA hg q
  unfold gLen at hg
  split at hg
  · cases hg
    cases hA with
    | cons h t =>
      cases t
      cases h with
      | @tup a us _ z hS hB hl =>
        refine .inl ⟨a, us, rfl, .inr (SqT.of hS), ?_⟩
        rw [hB.length]
        exact q _ H ok.refl (.int _)
  · cases hg
    cases hA with
    | cons h t =>
      cases t
      cases h with
      | @lst a us _ z hS hB hl =>
        refine .inl ⟨a, us, rfl, .inl (SqL.of hS), ?_⟩
        rw [hB.length]
        exact q _ H ok.refl (.int _)
  · cases hg
    cases hA with
    | cons h t =>
      cases t
      cases h with
      | @ks a kvs _ z h1 h2 =>
        refine .inr ⟨a, kvs, rfl, h1, ?_⟩
        have e := congrArg List.length h2
        rw [List.length_map, List.length_map] at e
        rw [e]
        exact q _ H ok.refl (.int _)
  · cases hg

/-! ### all, any -/
def asBs : List D → Option (List Bool)
  | [] => some []
  | d :: ds => (asB d).bind fun b => (asBs ds).map fun bs => b :: bs
theorem asBs_is {Z : Hid} {H : Hp} : ∀ {vs : List V} {ds : List D} {bs : List Bool}, IsAll C Z H vs ds → asBs ds = some bs → vs = bs.map V.bl
  | _, _, _, .nil, e => by cases e; rfl
  | _, _, _, .cons h t, e => by
    obtain ⟨b, hb, e⟩ := Option.bind_eq_some_iff.mp e
    obtain ⟨bs, hbs, e⟩ := Option.map_eq_some_iff.mp e
    subst e
    have := asB_some hb
    subst this
    cases h
    rw [asBs_is t hbs, List.map_cons]
def gAll : List D → Option D
  | [.lst ds] => (asBs ds).map fun bs => .bl (bs.all id)
  | _ => none
def gAny : List D → Option D
  | [.lst ds] => (asBs ds).map fun bs => .bl (bs.any id)
  | _ => none
theorem rc_all : RC C (rAll C.K) gAll := by
  intro Z H vs ds d Q ok hA hg q
  unfold gAll at hg
  split at hg
  · obtain ⟨bs, hb, e⟩ := Option.map_eq_some_iff.mp hg
    subst e
    cases hA with
    | cons h t =>
      cases t
      cases h with
      | @lst a us _ z hS hB hl =>
        have e := asBs_is hB hb
        subst e
        exact ⟨a, bs, rfl, SqL.of hS, q _ H ok.refl (.bl _)⟩
  · cases hg
theorem rc_any : RC C (rAny C.K) gAny := by
  intro Z H vs ds d Q ok hA hg q
  unfold gAny at hg
  split at hg
  · obtain ⟨bs, hb, e⟩ := Option.map_eq_some_iff.mp hg
    subst e
    cases hA with
    | cons h t =>
      cases t
      cases h with
      | @lst a us _ z hS hB hl =>
        have e := asBs_is hB hb
        subst e
        exact ⟨a, bs, rfl, SqL.of hS, q _ H ok.refl (.bl _)⟩
  · cases hg

/-! ### tuple(x), list(x) -/
def gTuple : List D → Option D
  | [.tup ds] => some (.tup ds)
  | [.lst ds] => some (.tup ds)
  | _ => none
def rTupleOf (K : PySem.W.Frag) : List V → Hp → VK → Prop := fun xs H Q => ∃ p ys, xs = [.ref p] ∧ ((SqL K H p ys ∧ ∀ l, H l = none → Q (.ref l) (upd H l (.tup ys))) ∨ (SqT K H p ys ∧ Q (.ref p) H))
theorem call_tupleOf : CallR X (.type "tuple") (rTupleOf X.K) := call_tuple_of
theorem rc_tuple : RC C (rTupleOf C.K) gTuple := by
  intro Z H vs ds d Q ok hA hg q
  unfold gTuple at hg
  split at hg
  · cases hg
    cases hA with
    | cons h t =>
      cases t
      cases h with
      | @tup a us _ z hS hB hl => exact ⟨a, us, rfl, .inr ⟨SqT.of hS, q _ H ok.refl (.tup z hS hB hl)⟩⟩
  · cases hg
    cases hA with
    | cons h t =>
      cases t
      cases h with
      | @lst a us _ z hS hB hl => exact ⟨a, us, rfl, .inl ⟨SqL.of hS, fun p hp => q _ _ (ok.new hp) (new_tup ok hB hl hp)⟩⟩
  · cases hg
def gList : List D → Option D
  | [.tup ds] => some (.lst ds)
  | [.lst ds] => some (.lst ds)
  | _ => none
def rListOf (K : PySem.W.Frag) : List V → Hp → VK → Prop := fun xs H Q => ∃ p ys, xs = [.ref p] ∧ (SqL K H p ys ∨ SqT K H p ys) ∧ ∀ l, H l = none → Q (.ref l) (upd H l (.lst ys))
theorem call_listOf : CallR X (.type "list") (rListOf X.K) := call_list_of
theorem rc_list : RC C (rListOf C.K) gList := by
  intro Z H vs ds d Q ok hA hg q
  unfold gList at hg
  split at hg
  · cases hg
    cases hA with
    | cons h t =>
      cases t
      cases h with
      | @tup a us _ z hS hB hl => exact ⟨a, us, rfl, .inr (SqT.of hS), fun p hp => q _ _ (ok.new hp) (new_lst ok hB hl hp)⟩
  · cases hg
    cases hA with
    | cons h t =>
      cases t
      cases h with
      | @lst a us _ z hS hB hl => exact ⟨a, us, rfl, .inl (SqL.of hS), fun p hp => q _ _ (ok.new hp) (new_lst ok hB hl hp)⟩
  · cases hg

/-! ### max, min of alike data -/
def alikeAllD (ds : List D) : Bool := ds.all fun x => (!isNon x) && ds.all fun y => PySem.W.alike (toPy x) (toPy y)
def maxF (x : D) (xs : List D) : D := xs.foldl (fun a y => if PySem.W.dataLt (toPy a) (toPy y) then y else a) x
def minF (x : D) (xs : List D) : D := xs.foldl (fun a y => if PySem.W.dataLt (toPy y) (toPy a) then y else a) x
theorem maxF_py : ∀ (x : D) (xs : List D), toPy (maxF x xs) = PySem.W.maxD (toPy x) (toPys xs)
  | x, [] => rfl
  | x, y :: ys => by
    show toPy (maxF (if PySem.W.dataLt (toPy x) (toPy y) then y else x) ys) = PySem.W.maxD (if PySem.W.dataLt (toPy x) (toPy y) then toPy y else toPy x) (toPys ys)
    rw [maxF_py]
    congr 1
    split <;> rfl
theorem minF_py : ∀ (x : D) (xs : List D), toPy (minF x xs) = PySem.W.minD (toPy x) (toPys xs)
  | x, [] => rfl
  | x, y :: ys => by
    show toPy (minF (if PySem.W.dataLt (toPy y) (toPy x) then y else x) ys) = PySem.W.minD (if PySem.W.dataLt (toPy y) (toPy x) then toPy y else toPy x) (toPys ys)
    rw [minF_py]
    congr 1
    split <;> rfl
theorem maxF_mem : ∀ (xs : List D) (x : D), maxF x xs ∈ x :: xs
  | [], x => by simp [maxF]
  | y :: ys, x => by
    have h := maxF_mem ys (if PySem.W.dataLt (toPy x) (toPy y) then y else x)
    show maxF (if PySem.W.dataLt (toPy x) (toPy y) then y else x) ys ∈ _
    rcases List.mem_cons.mp h with e | e
    · rw [e]
      split <;> simp
    · exact List.mem_cons_of_mem _ (List.mem_cons_of_mem _ e)
theorem minF_mem : ∀ (xs : List D) (x : D), minF x xs ∈ x :: xs
  | [], x => by simp [minF]
  | y :: ys, x => by
    have h := minF_mem ys (if PySem.W.dataLt (toPy y) (toPy x) then y else x)
    show minF (if PySem.W.dataLt (toPy y) (toPy x) then y else x) ys ∈ _
    rcases List.mem_cons.mp h with e | e
    · rw [e]
      split <;> simp
    · exact List.mem_cons_of_mem _ (List.mem_cons_of_mem _ e)
def exOk (ds : List D) : Bool := ds.all (lv 8) && alikeAllD ds
def gMax : List D → Option D
  | [.lst (x :: xs)] => if exOk (x :: xs) = true then some (maxF x xs) else none
  | [.tup (x :: xs)] => if exOk (x :: xs) = true then some (maxF x xs) else none
  | _ => none
def gMin : List D → Option D
  | [.lst (x :: xs)] => if exOk (x :: xs) = true then some (minF x xs) else none
  | [.tup (x :: xs)] => if exOk (x :: xs) = true then some (minF x xs) else none
  | _ => none
/-- the least or greatest of a list or tuple, by its place -/
def rEx (K : PySem.W.Frag) (mx : Bool) : List V → Hp → VK → Prop := fun xs H Q => ∃ (p : Addr) (vs : List V) (x : PyData) (ds : List PyData), xs = [.ref p] ∧ (SqL K H p vs ∨ SqT K H p vs) ∧ DpAll K H vs (x :: ds) ∧ PySem.W.AlikeAll (x :: ds) ∧ PyData.depthAll (x :: ds) ≤ 8 ∧
  ∀ (i : Nat) (v : V), vs[i]? = some v → (x :: ds)[i]? = some (if mx then PySem.W.maxD x ds else PySem.W.minD x ds) → Q v H
theorem alikeD_py {ds : List D} (hl : ds.all (lv 8) = true) (h : alikeAllD ds = true) : PySem.W.AlikeAll (toPys ds) := by
  unfold alikeAllD at h
  rw [List.all_eq_true] at h hl
  rw [toPys_map]
  refine ⟨fun x hx y hy => ?_, fun x hx => ?_⟩
  · obtain ⟨a, ha, rfl⟩ := List.mem_map.mp hx
    obtain ⟨b, hb, rfl⟩ := List.mem_map.mp hy
    have q := h a ha
    rw [Bool.and_eq_true, List.all_eq_true] at q
    exact q.2 b hb
  · obtain ⟨a, ha, rfl⟩ := List.mem_map.mp hx
    have q := h a ha
    rw [Bool.and_eq_true] at q
    have q2 := hl a ha
    intro e
    cases a with
    | non => cases q.1
    | tup _ => cases e
    | lst _ => cases e
    | bl _ => cases e
    | int _ => cases e
    | str _ => cases e
    | ks _ => cases q2
    | dic _ => cases q2
    | obj _ _ => cases q2
    | raw _ => cases q2
theorem cr_ex {k : Nat} (hr : Room k X.A) (mx : Bool) : CallR X (.builtin (if mx then "max" else "min")) (rEx X.K mx) := by
  intro pins s σ H xs us Q I r h
  obtain ⟨p, vs, x, ds, rfl, hq, hD, hal, hdep, q⟩ := h
  obtain ⟨u, rfl, rx⟩ := vals1 r
  cases rx
  have hu : X.A.units + 1 + PyData.depthAll (x :: ds) < cLine := by have := hr.un; omega
  have fin : ∀ {its : List Value}, Vals vs its → ∀ (as : List Addr), ReadsAll s.heap its (x :: ds) as → ∀ (i : Nat) (v : Value) (h' : Heap) (tk : Nat) (bs : List Addr), its.toArray[i]? = some v → Reads h' v (if mx then PySem.W.maxD x ds else PySem.W.minD x ds) bs → (∀ b o, s.heap.get? b = some o → h'.get? b = some o) → EP X pins σ Q v { s with heap := h', toks := tk } := by
    intro its rv as hR i v h' tk bs hi hr' hk
    have hi' : its[i]? = some v := by simpa using hi
    obtain ⟨bs2, hR2, hlt, hmem, _⟩ := PySem.W.readsAll_atA (vs := its.toArray) (by simpa using hR) i v hi
    have hm : (if mx then PySem.W.maxD x ds else PySem.W.minD x ds) ∈ x :: ds := by
      have fm : ∀ (f : PyData → PyData → Bool) (l : List PyData) (a : PyData), l.foldl (fun a y => if f a y then y else a) a ∈ a :: l := by
        intro f l
        induction l with
        | nil => intro a; simp
        | cons y ys ih =>
          intro a
          have h := ih (if f a y then y else a)
          rw [List.foldl_cons]
          rcases List.mem_cons.mp h with e | e
          · rw [e]; split <;> simp
          · exact List.mem_cons_of_mem _ (List.mem_cons_of_mem _ e)
      split
      · exact fm (fun a y => PySem.W.dataLt a y) ds x
      · exact fm (fun a y => PySem.W.dataLt y a) ds x
    have e := PySem.W.alike_unique _ _ _ _ _ (hal.1 _ hmem _ hm) (PySem.W.reads_keeps hk hR2) hr'
    have hvl := rv.length
    obtain ⟨hil, _⟩ := List.getElem?_eq_some_iff.mp hi'
    have hvi : vs[i]? = some vs[i] := List.getElem?_eq_getElem (by omega)
    obtain ⟨u', hu', ru⟩ := rv.get hvi
    rw [hi'] at hu'
    cases hu'
    refine ⟨vs[i], H, I.kept hk, ru, q i _ hvi ?_⟩
    rw [← e, List.getD_eq_getElem?_getD, List.getElem?_eq_getElem hlt]
    rfl
  cases mx with
  | true =>
    rcases hq with hq | hq
    · obtain ⟨its, rv, pl, _⟩ := I.list hq
      obtain ⟨as, hR⟩ := Dp.readsAll I _ _ _ hD rv
      exact PySem.W.max_list_data hr.hd pl.isList (by simpa using hR) hal hu fun i v h' tk bs hi hr' hk => fin rv as hR i v h' tk bs hi hr' hk
    · obtain ⟨its, rv, pl, _⟩ := I.tuple hq
      obtain ⟨as, hR⟩ := Dp.readsAll I _ _ _ hD rv
      exact PySem.W.max_tuple_data hr.hd pl (by simpa using hR) hal hu fun i v h' tk bs hi hr' hk => fin rv as hR i v h' tk bs hi hr' hk
  | false =>
    rcases hq with hq | hq
    · obtain ⟨its, rv, pl, _⟩ := I.list hq
      obtain ⟨as, hR⟩ := Dp.readsAll I _ _ _ hD rv
      exact PySem.W.min_list_data hr.hd pl.isList (by simpa using hR) hal hu fun i v h' tk bs hi hr' hk => fin rv as hR i v h' tk bs hi hr' hk
    · obtain ⟨its, rv, pl, _⟩ := I.tuple hq
      obtain ⟨as, hR⟩ := Dp.readsAll I _ _ _ hD rv
      exact PySem.W.min_tuple_data hr.hd pl (by simpa using hR) hal hu fun i v h' tk bs hi hr' hk => fin rv as hR i v h' tk bs hi hr' hk
theorem IsAll.dp {Z : Hid} {H : Hp} {vs : List V} {ds : List D} (h : IsAll C Z H vs ds) (hl : ds.all (lv 8) = true) : DpAll C.K H vs (toPys ds) := dpAll_of (dp_of 8) ds vs hl h
theorem depth8 {ds : List D} (hl : ds.all (lv 7) = true) : PyData.depthAll (toPys ds) ≤ 7 := (canL_all (canL_of 7) ds hl).2
theorem lv_mono : ∀ (n : Nat) (d : D), lv n d = true → lv (n + 1) d = true
  | 0, d, h => by cases d <;> first | rfl | cases h
  | n + 1, d, h => by
    cases d with
    | tup ds =>
      have h : ds.all (lv n) = true := h
      show ds.all (lv (n + 1)) = true
      rw [List.all_eq_true] at h ⊢
      exact fun x hx => lv_mono n x (h x hx)
    | lst ds =>
      have h : ds.all (lv n) = true := h
      show ds.all (lv (n + 1)) = true
      rw [List.all_eq_true] at h ⊢
      exact fun x hx => lv_mono n x (h x hx)
    | non => rfl
    | bl _ => rfl
    | int _ => rfl
    | _ => cases h
theorem rc_ex0 (mx : Bool) {Z : Hid} {H : Hp} {p : Addr} {us : List V} {x : D} {xs : List D} {d : D} {Q : VK} (ok : Ok C Z H) (hS : SqL C.K H p us ∨ SqT C.K H p us) (hB : IsAll C Z H us (x :: xs)) (he : exOk (x :: xs) = true) (hd : d = if mx then maxF x xs else minF x xs) (q : ∀ v, Is C Z H v d → Q v H) :
    rEx C.K mx [.ref p] H Q := by
  unfold exOk at he
  rw [Bool.and_eq_true] at he
  have hl := he.1
  refine ⟨p, us, toPy x, toPys xs, rfl, hS, hB.dp hl, alikeD_py hl he.2, ?_, fun i v hv hm => ?_⟩
  · exact (canL_all (canL_of 8) _ hl).2
  · have hvl := hB.length
    obtain ⟨hi, _⟩ := List.getElem?_eq_some_iff.mp hv
    have hi' : i < (x :: xs).length := by omega
    obtain ⟨v', hv', is⟩ := hB.get (List.getElem?_eq_getElem hi')
    rw [hv] at hv'
    cases hv'
    have e1 : (toPys (x :: xs))[i]? = some (toPy (x :: xs)[i]) := by
      rw [toPys_map, List.getElem?_map, List.getElem?_eq_getElem hi']
      rfl
    have e2 := e1.symm.trans hm
    have e3 : toPy (x :: xs)[i] = toPy d := by
      rw [hd]
      cases mx with
      | true => exact (Option.some.inj e2).trans (maxF_py x xs).symm
      | false => exact (Option.some.inj e2).trans (minF_py x xs).symm
    have hm : d ∈ x :: xs := by
      rw [hd]
      cases mx with
      | true => exact maxF_mem xs x
      | false => exact minF_mem xs x
    rw [List.all_eq_true] at hl
    have e4 := toPy_inj 8 8 _ _ (hl _ (List.getElem_mem hi')) (hl _ hm) e3
    rw [e4] at is
    exact q v is
theorem rc_max : RC C (rEx C.K true) gMax := by
  intro Z H vs ds d Q ok hA hg q
  unfold gMax at hg
  split at hg
  · split at hg
    · rename_i he
      cases hg
      cases hA with
      | cons h t =>
        cases t
        cases h with
        | lst z hS hB hl => exact rc_ex0 true ok (.inl (SqL.of hS)) hB he rfl fun v is => q v H ok.refl is
    · cases hg
  · split at hg
    · rename_i he
      cases hg
      cases hA with
      | cons h t =>
        cases t
        cases h with
        | tup z hS hB hl => exact rc_ex0 true ok (.inr (SqT.of hS)) hB he rfl fun v is => q v H ok.refl is
    · cases hg
  · cases hg
theorem rc_min : RC C (rEx C.K false) gMin := by
  intro Z H vs ds d Q ok hA hg q
  unfold gMin at hg
  split at hg
  · split at hg
    · rename_i he
      cases hg
      cases hA with
      | cons h t =>
        cases t
        cases h with
        | lst z hS hB hl => exact rc_ex0 false ok (.inl (SqL.of hS)) hB he rfl fun v is => q v H ok.refl is
    · cases hg
  · split at hg
    · rename_i he
      cases hg
      cases hA with
      | cons h t =>
        cases t
        cases h with
        | tup z hS hB hl => exact rc_ex0 false ok (.inr (SqT.of hS)) hB he rfl fun v is => q v H ok.refl is
    · cases hg
  · cases hg

/-! ### sorted -/
def neTup : D → Bool
  | .tup (_ :: _) => true
  | _ => false
def noTup : D → Bool
  | .tup _ => false
  | .non => false
  | _ => true
def sortOk (ds : List D) : Bool := ds.all (lv 8) && (decide (ds.length ≤ 1) || (alikeAllD ds && (ds.all neTup || ds.all noTup)))
def leD (x y : D) : Bool := PySem.W.dataLe false toPy x y
def gSorted : List D → Option D
  | [.lst ds] => if sortOk ds = true then some (.lst (ds.mergeSort leD)) else none
  | [.ks ks] => if ks.length < 64 then some (.lst ((ks.mergeSort fun a b => decide (a ≤ b)).map .int)) else none
  | _ => none
def rSortD (K : PySem.W.Frag) : List V → Hp → VK → Prop := fun xs H Q => ∃ (a : Addr) (bs : List (V × D)), xs = [.ref a] ∧ SqL K H a (bs.map (·.1)) ∧ (∀ b ∈ bs, Dp K H b.1 (toPy b.2)) ∧ sortOk (bs.map (·.2)) = true ∧
  ∀ p, H p = none → Q (.ref p) (upd H p (.lst ((bs.mergeSort fun x y => leD x.2 y.2).map (·.1))))
theorem eachIs_of {α β : Type} {R : α → β → Prop} : ∀ {as : List α} {bs : List β}, as.length = bs.length → (∀ (i : Nat) (a : α) (b : β), as[i]? = some a → bs[i]? = some b → R a b) → PySem.W.EachIs R as bs
  | [], [], _, _ => .nil
  | a :: as, b :: bs, hl, h => .cons (h 0 a b rfl rfl) (eachIs_of (by simpa using hl) fun i x y h1 h2 => h (i + 1) x y (by simpa using h1) (by simpa using h2))
  | [], _ :: _, hl, _ => by simp at hl
  | _ :: _, [], hl, _ => by simp at hl
theorem vals_each : ∀ {out : List Value} {bs : List (V × D)}, PySem.W.EachIs (fun (u : Value) (b : V × D) => RelV b.1 u) out bs → Vals (bs.map (·.1)) out
  | _, _, .nil => .nil
  | _, _, .cons h t => .cons h (vals_each t)
theorem sort_short {α : Type} {l : List α} {le : α → α → Bool} (h : l.length ≤ 1) : l.mergeSort le = l := by
  match l, h with
  | [], _ => simp
  | [x], _ => simp
theorem cr_sortD {k : Nat} (hr : Room k X.A) : CallR X (.builtin "sorted") (rSortD X.K) := by
  intro pins s σ H xs us Q I r h
  obtain ⟨a, bs, rfl, hq, hD, hs, q⟩ := h
  obtain ⟨u, rfl, rx⟩ := vals1 r
  cases rx
  obtain ⟨its, rv, pl, hz⟩ := I.list hq
  have hvl := rv.length
  rw [List.length_map] at hvl hz
  unfold sortOk at hs
  rw [Bool.and_eq_true, Bool.or_eq_true] at hs
  have fin : ∀ out : List Value, Vals ((bs.mergeSort fun x y => leD x.2 y.2).map (·.1)) out → EP X pins σ Q (.ref (s.heap.objs.size + 1)) { s with heap := sortedAll s.heap its out.toArray } := by
    intro out ro
    obtain ⟨ep, he⟩ := PyProof.Rows.sortedAll_at s.heap its out.toArray
    refine ⟨.ref _, upd H (s.heap.objs.size + 1) (.lst ((bs.mergeSort fun x y => leD x.2 y.2).map (·.1))), I.laid (t' := s.toks) (fun _ _ => PyProof.Rows.sortedAll_old) (Nat.le_succ _) ⟨by rw [List.length_map, List.length_mergeSort]; exact hz, out, ep, ro, he⟩, rfl, q _ (I.hok.fresh (Nat.le_succ _))⟩
  rcases hs.2 with h1 | h1
  · have h1 := of_decide_eq_true h1
    rw [List.length_map] at h1
    refine SrtO.sorted_ord (ltv := fun _ _ => false) ⟨fun _ _ h => (by cases h), fun _ _ _ _ _ => rfl⟩ pl.isList (by omega) (fun h2 => by omega) fun out _ h2 => ?_
    have e : out = its := by
      have hp := h2.perm
      match its, hvl, hp with
      | [], _, hp => exact List.perm_nil.mp hp
      | [x], _, hp => exact List.perm_singleton.mp hp
      | _ :: _ :: _, hvl, _ => simp only [List.length_cons] at hvl; omega
    refine fin out ?_
    rw [e, sort_short h1]
    exact rv
  · rw [Bool.and_eq_true, Bool.or_eq_true] at h1
    have hl := hs.1
    have hal := alikeD_py hl h1.1
    rw [List.all_eq_true] at hl
    have hm : bs.map (fun b => toPy b.2) = toPys (bs.map (·.2)) := by rw [toPys_map, List.map_map]; rfl
    refine PySem.W.sorted_data (bs := bs) (R := fun (u : Value) (b : V × D) => RelV b.1 u) (enc := fun b : V × D => toPy b.2) pl.isList (eachIs_of hvl.symm fun i u b h1 h2 => ?_) (eachIs_of hvl.symm fun i u b h1 h2 => ?_) ?_ ?_ hz (fun b hb => ?_) fun out _ ho => ?_
    · obtain ⟨w, hw, rw'⟩ := rv.get (i := i) (x := b.1) (by rw [List.getElem?_map, h2]; rfl)
      rw [h1] at hw
      cases hw
      exact rw'
    · obtain ⟨w, hw, rw'⟩ := rv.get (i := i) (x := b.1) (by rw [List.getElem?_map, h2]; rfl)
      rw [h1] at hw
      cases hw
      exact Dp.reads I _ _ _ (hD b (List.mem_of_getElem? h2)) rw'
    · rw [hm]
      intro d hd d' hd'
      exact hal.1 d hd d' hd'
    · rw [hm, toPys_map]
      rcases h1.2 with hn | hn
      · refine .inl fun d hd => ?_
        obtain ⟨x, hx, rfl⟩ := List.mem_map.mp hd
        rw [List.all_eq_true] at hn
        have := hn x hx
        cases x with
        | tup ys =>
          cases ys with
          | nil => cases this
          | cons y ys => exact ⟨_, _, rfl⟩
        | _ => cases this
      · refine .inr fun d hd => ?_
        obtain ⟨x, hx, rfl⟩ := List.mem_map.mp hd
        rw [List.all_eq_true] at hn
        have h2 := hn x hx
        have h3 := hl x hx
        cases x with
        | tup ys => cases h2
        | non => cases h2
        | bl _ => exact ⟨fun e => (by cases e), fun _ e => (by cases e)⟩
        | int _ => exact ⟨fun e => (by cases e), fun _ e => (by cases e)⟩
        | lst _ => exact ⟨fun e => (by cases e), fun _ e => (by cases e)⟩
        | _ => cases h3
    · have h2 := (canL_of 8 b.2 (hl _ (List.mem_map.mpr ⟨b, hb, rfl⟩))).2
      have := hr.un
      show X.A.units + 2 + (toPy b.2).depth < cLine
      omega
    · exact fin out (vals_each ho)
def rSortAll (K : PySem.W.Frag) : List V → Hp → VK → Prop := fun xs H Q => rSortD K xs H Q ∨ ∃ (a : Addr) (kvs : List (Key × V)) (ks : List Int), xs = [.ref a] ∧ Rd H a (.dK kvs) ∧ kvs.map (·.1) = ks.map Sum.inl ∧ ks.length < 64 ∧
    ∀ (ys : List Int) (p : Addr), ys.Perm ks → ys.Pairwise (· ≤ ·) → H p = none → Q (.ref p) (upd H p (.lst (ys.map V.int)))
theorem cr_sortAll {k : Nat} (hr : Room k X.A) (hc : X.calm = true) : CallR X (.builtin "sorted") (rSortAll X.K) := (cr_sortD hr).or (call_sortedDI hc)
theorem isAll_ints {Z : Hid} {H : Hp} : ∀ ns : List Int, IsAll C Z H (ns.map V.int) (ns.map D.int)
  | [] => .nil
  | n :: ns => .cons (.int n) (isAll_ints ns)
theorem sort_ints {ks ys : List Int} (hp : ys.Perm ks) (hs : ys.Pairwise (· ≤ ·)) : ys = ks.mergeSort fun a b => decide (a ≤ b) := by
  refine List.Perm.eq_of_pairwise (le := fun a b : Int => a ≤ b) (fun a b _ _ h1 h2 => Int.le_antisymm h1 h2) hs ?_ (hp.trans (List.mergeSort_perm _ _).symm)
  exact (List.pairwise_mergeSort (le := fun a b : Int => decide (a ≤ b)) (fun a b c h1 h2 => by simp only [decide_eq_true_eq] at *; omega) (fun a b => by simp only [Bool.or_eq_true, decide_eq_true_eq]; omega) ks).imp fun h => of_decide_eq_true h
theorem isAll_zip {Z : Hid} {H : Hp} : ∀ {vs : List V} {ds : List D}, IsAll C Z H vs ds → (vs.zip ds).map (·.1) = vs ∧ (vs.zip ds).map (·.2) = ds ∧ ∀ b ∈ vs.zip ds, Is C Z H b.1 b.2
  | _, _, .nil => ⟨rfl, rfl, fun _ h => by cases h⟩
  | _, _, .cons h t => by
    obtain ⟨h1, h2, h3⟩ := isAll_zip t
    refine ⟨by rw [List.zip_cons_cons, List.map_cons, h1], by rw [List.zip_cons_cons, List.map_cons, h2], fun b hb => ?_⟩
    rw [List.zip_cons_cons] at hb
    rcases List.mem_cons.mp hb with e | e
    · rw [e]; exact h
    · exact h3 b e
theorem isAll_pairs {Z : Hid} {H : Hp} : ∀ {bs : List (V × D)}, (∀ b ∈ bs, Is C Z H b.1 b.2) → IsAll C Z H (bs.map (·.1)) (bs.map (·.2))
  | [], _ => .nil
  | b :: bs, h => .cons (h b (by simp)) (isAll_pairs fun c hc => h c (List.mem_cons_of_mem _ hc))
theorem rc_sorted : RC C (rSortAll C.K) gSorted := by
  intro Z H vs ds d Q ok hA hg q
  unfold gSorted at hg
  split at hg
  · split at hg
    · rename_i ds hs
      cases hg
      cases hA with
      | cons h t =>
        cases t
        cases h with
        | @lst a us _ z hS hB hl =>
          obtain ⟨e1, e2, e3⟩ := isAll_zip hB
          have hs' := hs
          unfold sortOk at hs'
          rw [Bool.and_eq_true] at hs'
          have hlv := hs'.1
          rw [List.all_eq_true] at hlv
          have hmem : ∀ b ∈ us.zip ds, b.2 ∈ ds := fun b hb => by
            have h9 : b.2 ∈ (us.zip ds).map (·.2) := List.mem_map.mpr ⟨b, hb, rfl⟩
            rw [e2] at h9
            exact h9
          refine .inl ⟨a, us.zip ds, rfl, by rw [e1]; exact SqL.of hS, fun b hb => dp_of 8 _ _ (hlv _ (hmem b hb)) (e3 b hb), by rw [e2]; exact hs, fun p hp => ?_⟩
          have em : ((us.zip ds).mergeSort fun x y => leD x.2 y.2).map (·.2) = ds.mergeSort leD := by
            rw [List.map_mergeSort (s := leD) (fun _ _ _ _ => rfl), e2]
          have hB' := isAll_pairs (C := C) (Z := Z) (H := H) (bs := (us.zip ds).mergeSort fun x y => leD x.2 y.2) fun b hb => e3 b (List.mem_mergeSort.mp hb)
          rw [em] at hB'
          exact q _ _ (ok.new hp) (new_lst ok hB' (by rw [List.length_mergeSort]; exact hl) hp)
    · cases hg
  · split at hg
    · rename_i ks hk
      cases hg
      cases hA with
      | cons h t =>
        cases t
        cases h with
        | @ks a kvs _ z h1 h2 =>
          refine .inr ⟨a, kvs, ks, rfl, .inl h1, h2, hk, fun ys p hp hs hn => ?_⟩
          have eY := sort_ints hp hs
          rw [← eY] at q
          exact q _ _ (ok.new hn) (new_lst ok (isAll_ints ys) (by rw [List.length_map, hp.length_eq]; exact Nat.le_trans (Nat.le_of_lt hk) (by decide)) hn)
    · cases hg
  · cases hg

/-! ### tuple(range(n)) -/
theorem rgV_ints (n : Int) : rgV 0 n = (List.range n.toNat).map fun i => V.int (i : Nat) := by
  unfold rgV
  rw [Int.sub_zero]
  exact List.map_congr_left fun i _ => by rw [Int.zero_add]
def fTupRange (f : En → Option D) : En → Option D := fun δ => (iRange f δ).map .tup
theorem de_tupRange {M : Mm} {a : Expr} {f : En → Option D} {p p2 pos pos2 : Pos} (hc : X.calm = true) (ha : DE M X a f) (hm : X.mg "tuple" = none) (hm2 : X.mg "range" = none) (hg : Gl X "tuple" := by rfl) (hg2 : Gl X "range" := by rfl)
    (na2 : starEach [a] X.env = (false, eval a X.env) :: starEach [] X.env := by rfl) (na : starEach [.Call (.Name "range" p2) [a] [] pos2] X.env = (false, eval (.Call (.Name "range" p2) [a] [] pos2) X.env) :: starEach [] X.env := by rfl) :
    DE M X (.Call (.Name "tuple" p) [.Call (.Name "range" p2) [a] [] pos2] [] pos) (fTupRange f) := by
  refine PE.imp (pe_tupRg hc hg hm (prg_1 hg2 hm2 ha na2) na) fun σ H Q h => ?_
  obtain ⟨Z, δ, d, ok, en, hf, q⟩ := h
  obtain ⟨ds, hd, hf⟩ := Option.map_eq_some_iff.mp hf
  subst hf
  obtain ⟨x, hx, hd⟩ := Option.bind_eq_some_iff.mp hd
  cases x with
  | int n =>
    have hd : (if n ≤ 1000000 ∧ -1000000 ≤ n then some (rangeD n) else none) = some ds := hd
    by_cases hn : n ≤ 1000000 ∧ -1000000 ≤ n
    · rw [if_pos hn] at hd
      cases hd
      refine ⟨Z, δ, .int n, ok, en, hx, fun v H1 g1 i1 => ?_⟩
      cases i1
      refine ⟨n, rfl, ⟨by omega, by omega, by omega, by omega, by omega⟩, fun p hp => ?_⟩
      have hA : IsAll (cs X M) Z H1 (rgV 0 n) (rangeD n) := by
        rw [rgV_ints]
        have e1 : (List.range n.toNat).map (fun i => V.int ((i : Nat) : Int)) = ((List.range n.toNat).map fun i => ((i : Nat) : Int)).map V.int := by rw [List.map_map]; rfl
        have e2 : rangeD n = ((List.range n.toNat).map fun i => ((i : Nat) : Int)).map D.int := by unfold rangeD; rw [List.map_map]; rfl
        rw [e1, e2]
        exact isAll_ints _
      exact q _ _ (g1.trans ((ok.go g1).new hp)) (new_tup (ok.go g1) hA (by unfold rangeD; rw [List.length_map, List.length_range, sizeLine_eq]; omega) hp)
    · rw [if_neg hn] at hd
      cases hd
  | _ => cases hd

/-! ### isinstance -/
inductive Ty3 where
  | int | bool | tuple
def Ty3.nm : Ty3 → String
  | .int => "int"
  | .bool => "bool"
  | .tuple => "tuple"
def isTy : Ty3 → D → Option Bool
  | .int, .non => some false
  | .bool, .non => some false
  | .tuple, .non => some false
  | .int, .int _ => some true
  | .bool, .int _ => some false
  | .tuple, .int _ => some false
  | .int, .bl _ => some true
  | .bool, .bl _ => some true
  | .tuple, .bl _ => some false
  | .int, .tup _ => some false
  | .bool, .tup _ => some false
  | .tuple, .tup _ => some true
  | _, _ => none
def fIsi (T : Ty3) (f : En → Option D) : En → Option D := fun δ => (f δ).bind fun d => (isTy T d).map .bl
theorem ty_of {T : Ty3} {Z : Hid} {H : Hp} {v : V} {d : D} {b : Bool} (h : Is C Z H v d) (e : isTy T d = some b) : ∃ t, TyX C.K H v t ∧ PySem.W.kitOne C.K t (.type T.nm) = some b := by
  cases h with
  | non => cases T <;> cases e <;> exact ⟨.type "NoneType", .base .non, kit_ty (by decide +kernel)⟩
  | bl c => cases T <;> cases e <;> exact ⟨.type "bool", .base (.bl c), kit_ty (by decide +kernel)⟩
  | int c => cases T <;> cases e <;> exact ⟨.type "int", .base (.int c), kit_ty (by decide +kernel)⟩
  | tup z hS hA hl => cases T <;> cases e <;> exact ⟨.type "tuple", .base (.tup hS), kit_ty (by decide +kernel)⟩
  | _ => cases T <;> cases e
theorem de_isi {M : Mm} {T : Ty3} {a : Expr} {f : En → Option D} {x : Str} {p p2 pos : Pos} (ha : DE M X a f) (hm : X.mg "isinstance" = none) (hmT : X.mg x = none) (hv : bootBuiltins x = some (.type T.nm)) (hg : Gl X "isinstance" := by rfl) (hgT : Gl X x := by rfl) (hn : x ≠ "__name__" := by decide) (hd : (x == ("__debug__" : Str)) = false := by decide)
    (hs1 : starEach [a, .Name x p2] X.env = (false, eval a X.env) :: starEach [.Name x p2] X.env := by rfl) (hs2 : starEach [.Name x p2] X.env = (false, eval (.Name x p2) X.env) :: starEach [] X.env := by rfl) (hpl : (backTo pos (starEach [.Name x p2] X.env)).any (·.1) = false := by rfl) :
    DE M X (.Call (.Name "isinstance" p) [a, .Name x p2] [] pos) (fIsi T f) := by
  have h2 : PE X (.Name x p2) (tC (.ty T.nm)) := pe_bltn hgT hmT hv rfl hn hd
  refine PE.imp (pe_callB call_isi hg hm (by decide +kernel) (pa_cons ha (pa_cons h2 pa_nil hs2) hs1) (by decide) (by decide) hs1 hpl) fun σ H Q h => ?_
  obtain ⟨Z, δ, d, ok, en, hf, q⟩ := h
  obtain ⟨x, hx, hf⟩ := Option.bind_eq_some_iff.mp hf
  obtain ⟨b, hb, hf⟩ := Option.map_eq_some_iff.mp hf
  subst hf
  refine ⟨Z, δ, x, ok, en, hx, fun v H1 g1 i1 => ?_⟩
  obtain ⟨t, ht, hk⟩ := ty_of (C := cs X M) i1 hb
  exact ⟨v, .ty T.nm, t, .type T.nm, b, rfl, .ty _, ht, hk, q _ H1 g1 (.bl b)⟩
end
end Dx
/-! zip, two clauses, chains, attributes, objects, methods. -/
namespace Dx
open PySem PySem.Spec PyProof.Rows L2
section
variable {M : Mm} {X : Cx} {pos : Pos}

/-! ### a < b < c -/
theorem de_chain {a b c : Expr} {fa fb fc : En → Option D} {g g' : D → D → Option D} {r r' : R2} {op op' : CmpOp} (ho : OpR X (compareOp op) r) (ho' : OpR X (compareOp op') r') (hr : RD (cs X M) r g) (hr' : RD (cs X M) r' g') (ha : DE M X a fa) (hb : DE M X b fb) (hc : DE M X c fc)
    (hm : lastMarks [op, op'] [b, c] = false := by with_unfolding_all rfl) : DE M X (.Compare a [op, op'] [b, c] pos) (f3 g g' fa fb fc) := by
  refine PE.imp (pe_chain ho ho' ha hb hc hm) fun σ H Q h => ?_
  obtain ⟨Z, δ, d, ok, en, hf, q⟩ := h
  obtain ⟨dx, hx, hf⟩ := Option.bind_eq_some_iff.mp hf
  obtain ⟨dy, hy, hf⟩ := Option.bind_eq_some_iff.mp hf
  obtain ⟨k, hk, hf⟩ := Option.bind_eq_some_iff.mp hf
  obtain ⟨dk, hdk, hb⟩ := Option.bind_eq_some_iff.mp hk
  have e := asB_some hb
  subst e
  refine ⟨Z, δ, dx, ok, en, hx, fun x H1 g1 i1 => ⟨Z, δ, dy, ok.go g1, en.go g1, hy, fun y H2 g2 i2 => ?_⟩⟩
  refine hr Z H2 x y dx dy _ _ ((ok.go g1).go g2) (i1.go g2) i2 hdk fun z H3 g3 i3 => ?_
  cases i3
  refine ⟨k, rfl, ?_⟩
  have ok3 := ((ok.go g1).go g2).go g3
  cases k with
  | true =>
    obtain ⟨dz, hz, hf⟩ := Option.bind_eq_some_iff.mp hf
    refine ⟨Z, δ, dz, ok3, ((en.go g1).go g2).go g3, hz, fun w H4 g4 i4 => ?_⟩
    exact hr' Z H4 y w dy dz d Q (ok3.go g4) ((i2.go g3).go g4) i4 hf fun v H5 g5 i5 => q v H5 ((((g1.trans g2).trans g3).trans g4).trans g5) i5
  | false =>
    cases hf
    exact q _ H3 ((g1.trans g2).trans g3) (.bl false)

/-! ### zip of two tuples -/
def zipD (xs ys : List D) : List D := (xs.zip ys).map fun p => .tup [p.1, p.2]
def iZip (fs : En → Option (List D)) : En → Option (List D) := fun δ => (fs δ).bind fun ds => match ds with
  | [.tup xs, .tup ys] => some (zipD xs ys)
  | _ => none
theorem walkD_zip {C : Cs} {Z : Hid} {H : Hp} {a b : Addr} {vs ws : List V} {xs ys : List D} (ok : Ok C Z H) (za : ¬ Z a) (zb : ¬ Z b) (hS : H a = some (.tup vs)) (hT : H b = some (.tup ws)) (hA : IsAll C Z H vs xs) (hB : IsAll C Z H ws ys) (hl : xs.length ≤ sizeLine) :
    WalkD C Z (RZ.ItzT C.K a b) H (zipD xs ys) := by
  have hlen : (zipD xs ys).length = min vs.length ws.length := by
    unfold zipD
    rw [List.length_map, List.length_zip, hA.length, hB.length]
  have hl1 := hA.length
  have hl2 := hB.length
  refine ⟨by omega, ?_⟩
  rw [hlen]
  refine ⟨fun i H1 hi g => ?_, fun H1 g => ?_, fun i H1 x H2 hi g y => ?_⟩
  · have h1 : i < vs.length := by omega
    have h2 : i < ws.length := by omega
    exact ⟨vs, ws, vs[i], ws[i], ex_t (Z := Z) g.ex za (SqT.of hS), ex_t (Z := Z) g.ex zb (SqT.of hT), List.getElem?_eq_getElem h1, List.getElem?_eq_getElem h2⟩
  · exact ⟨vs, ws, ex_t (Z := Z) g.ex za (SqT.of hS), ex_t (Z := Z) g.ex zb (SqT.of hT), by omega⟩
  · obtain ⟨T, x1, x2, rfl, hT0, rfl, f1, f2⟩ := y
    have h1 : i < xs.length := by omega
    have h2 : i < ys.length := by omega
    have e1 := f1 vs (ex_t (Z := Z) g.ex za (SqT.of hS))
    have e2 := f2 ws (ex_t (Z := Z) g.ex zb (SqT.of hT))
    obtain ⟨v1, hv1, is1⟩ := hA.get (List.getElem?_eq_getElem h1)
    obtain ⟨v2, hv2, is2⟩ := hB.get (List.getElem?_eq_getElem h2)
    rw [e1] at hv1
    rw [e2] at hv2
    cases hv1
    cases hv2
    have gn : Go C H1 (upd H1 T (.tup [x1, x2])) := ⟨ex_new hT0, g.tab.ext fun a w e => by
      rw [upd_ne (ne_of_none e hT0)]
      exact e⟩
    refine ⟨gn, .tup [xs[i], ys[i]], ?_, fun Z' hz hz2 => ?_⟩
    · unfold zipD
      rw [List.getElem?_map, List.getElem?_zip_eq_some (z := (xs[i], ys[i])) |>.mpr ⟨List.getElem?_eq_getElem h1, List.getElem?_eq_getElem h2⟩]
      rfl
    · exact .tup (fun z => hz2 T z hT0) upd_same (.cons ((is1.walk g.ex hz).go gn) (.cons ((is2.walk g.ex hz).go gn) .nil)) (by show 2 ≤ sizeLine; decide)
theorem di_zip {a b : Expr} {fs : En → Option (List D)} {p tpos : Pos} {elts : List Expr} {kk : Nat} (ha : DA M X [a, b] fs) (hm : X.mg "zip" = none) (hg : Gl X "zip" := by rfl)
    (hs : starEach [a, b] X.env = (false, eval a X.env) :: starEach [b] X.env := by rfl) (hpl : (backTo pos (starEach [b] X.env)).any (·.1) = false := by rfl) : DI M X (.Tuple elts kk tpos) (.Call (.Name "zip" p) [a, b] [] pos) (iZip fs) := by
  refine PI.imp (RZ.pi_zipA hg hm ha hs hpl) fun σ H R h => ?_
  obtain ⟨Z, δ, ds, ok, en, hf, q⟩ := h
  obtain ⟨es, hd, hf⟩ := Option.bind_eq_some_iff.mp hf
  refine ⟨Z, δ, es, ok, en, hd, fun vs H1 g1 i1 => ?_⟩
  split at hf
  · cases hf
    cases i1 with
    | cons h1 i1 =>
      cases i1 with
      | cons h2 i1 =>
        cases i1
        cases h1 with
        | @tup a us _ z1 hS1 hA1 hz1 =>
          cases h2 with
          | @tup b ws _ z2 hS2 hA2 hz2 =>
            exact ⟨a, b, us, ws, rfl, .inr ⟨SqT.of hS1, SqT.of hS2, q _ H1 g1 (walkD_zip (C := cs X M) (ok.go g1) z1 z2 hS1 hS2 hA1 hA2 hz1)⟩⟩
  · cases hf

/-! ### [e for x in xs for y in ys] -/
def catRun (f : D → Option (List D)) : List D → Option (List D)
  | [] => some []
  | x :: xs => (f x).bind fun ys => (catRun f xs).map fun zs => ys ++ zs
def lc2In (vs1 : List Nat) (wi1 : En → Option (List D)) (tf1 : D → En → Option En) (f : En → Option D) (δ : En) : Option (List D) := (wi1 δ).bind fun ds => lcRun (fun y => tf1 y (wipeE δ vs1)) bYes f ds
def fLc2 (vs vs1 : List Nat) (wi : En → Option (List D)) (tf : D → En → Option En) (wi1 : En → Option (List D)) (tf1 : D → En → Option En) (f : En → Option D) : En → Option D := fun δ =>
  (wi δ).bind fun ds => (catRun (fun x => (tf x (wipeE δ vs)).bind (lc2In vs1 wi1 tf1 f)) ds).bind fun ys => if ys.length ≤ 100000 then some (.lst ys) else none

/-- a comprehension's inner turns, from any heap -/
theorem lc_turns {J : It} {n : Nat} {G : Hp → Prop} {Y : Nat → Hp → V → Hp → Prop} (w : Walk J n G Y) {g : TG} {tt : TT} {te : TE} {vs : List Nat} {σ : L2.St} {H4 : Hp} {Dl : Addr} {Nx : Hp → Prop} (Pv : Nat → Hp → Prop) (h0 : Pv 0 H4) (hG : ∀ i H, i ≤ n → Pv i H → G H)
    (hs : ∀ i x H H', i < n → Pv i H → Y i H x H' → g x (L2.wipe σ vs) H' fun σ2 H2 => L2.wipe σ2 vs = L2.wipe σ vs ∧ tt σ2 H2 fun b H3 =>
      if b = true then te σ2 H3 fun y H4 => ∃ acc, H4 Dl = some (.lst acc) ∧ acc.length < sizeLine ∧ Pv (i + 1) (upd H4 Dl (.lst (acc ++ [y]))) else Pv (i + 1) H3) (hd : ∀ H, Pv n H → Nx H) :
    ∃ W : Nat → Nat → Hp → Prop, (∃ m, W 0 m H4) ∧ ∀ i m H, W i m H →
      (J.stop i H ∧ Nx H) ∨ (J.go i H ∧ ∃ Nx1 : Hp → Prop, (∀ H', Nx1 H' → ∃ m', m' < m ∧ W (i + 1) m' H') ∧ ∀ x H', J.yld i H x H' → g x (L2.wipe σ vs) H' fun σ2 H2 => L2.wipe σ2 vs = L2.wipe σ vs ∧ tt σ2 H2 fun b H3 =>
        if b = true then te σ2 H3 fun y H4 => ∃ acc, H4 Dl = some (.lst acc) ∧ acc.length < sizeLine ∧ Nx1 (upd H4 Dl (.lst (acc ++ [y]))) else Nx1 H3) := by
  refine ⟨fun i m H => m = n - i ∧ i ≤ n ∧ Pv i H, ⟨n, by simp, Nat.zero_le _, h0⟩, ?_⟩
  rintro i m H ⟨rfl, hi, p⟩
  have q := hG i H hi p
  by_cases hlt : i < n
  · exact .inr ⟨w.goes i H hlt q, Pv (i + 1), fun H' p' => ⟨n - (i + 1), by omega, rfl, hlt, p'⟩, fun x H' y => hs i x H H' hlt p (w.yields i H x H' hlt q y)⟩
  · have e : i = n := by omega
    subst e
    exact .inl ⟨w.stops H q, hd H p⟩
theorem tab_upd {C : Cs} {H : Hp} {p : Addr} {o : HO} (t : LamX.Tabs C.T H) (h : ∃ xs, H p = some (.lst xs)) : LamX.Tabs C.T (upd H p o) := by
  obtain ⟨xs, h⟩ := h
  intro q hq
  obtain ⟨ps, h1, h2, h3⟩ := t q hq
  have n1 : q.1 ≠ p := ne_of h1 h (by intro z; cases z)
  refine ⟨ps, by rw [upd_ne n1]; exact h1, h2, fun pos cv hc => ?_⟩
  obtain ⟨c, e1, e2⟩ := h3 pos cv hc
  have n2 : c ≠ p := ne_of e2 h (by intro z; unfold LamX.CodeO at z; cases z)
  exact ⟨c, e1, by rw [upd_ne n2]; exact e2⟩
theorem lc2_red {C : Cs} {wi wi1 : En → Option (List D)} {g g1 : TG} {tf tf1 : D → En → Option En} {sl sl1 vs vs1 : List Nat} {f : En → Option D} (gt : GT C g tf sl) (gt1 : GT C g1 tf1 sl1) (hsl : ∀ i ∈ sl, i ∈ vs) (hsl1 : ∀ i ∈ sl1, i ∈ vs1) (σ : L2.St) (H : Hp) (Q : VK) (h : tD C (fLc2 vs vs1 wi tf wi1 tf1 f) σ H Q) :
    tLc2 (tDI C wi) g (tDT C bYes) (tDI C wi1) g1 (tDT C bYes) (tD C f) vs vs1 σ H Q := by
  obtain ⟨Z, δ, d, ok, en, hf, q⟩ := h
  obtain ⟨ds, hd, hf⟩ := Option.bind_eq_some_iff.mp hf
  obtain ⟨ys, hy, hf⟩ := Option.bind_eq_some_iff.mp hf
  have hlen : ys.length ≤ 100000 ∧ D.lst ys = d := by
    by_cases hl : ys.length ≤ 100000
    · rw [if_pos hl] at hf
      exact ⟨hl, Option.some.inj hf⟩
    · rw [if_neg hl] at hf
      cases hf
  obtain ⟨hlen, rfl⟩ := hlen
  refine ⟨Z, δ, ds, ok, en, hd, fun J H1 g0 w Dl hD => ?_⟩
  have ok1 := ok.go g0
  have en1 := en.go g0
  let Z' : Hid := fun a => Z a ∨ a = Dl
  have okZ : ∀ {H : Hp}, Go C H1 H → (∃ xs, H Dl = some (.lst xs)) → Ok C Z' H := fun {H} g h => ⟨fun z hz => by
    rcases hz with hz | hz
    · exact (ok1.go g).hid z hz
    · obtain ⟨xs, h⟩ := h
      exact ⟨_, by rw [hz]; exact h, fun ps z => by cases z⟩, g.tab⟩
  have hid1 : ∀ a, H1 a ≠ none → ¬ Z a → ¬ Z' a := fun a h1 h2 h3 => by
    rcases h3 with h3 | h3
    · exact h2 h3
    · rw [h3] at h1; exact h1 hD
  have notD : ¬ Z Dl := ok1.notZ hD
  have enw : EnR C Z' H1 (L2.wipe σ vs) (wipeE δ vs) := by
    have e := en1.wipe vs
    exact ⟨e.1, fun i d h => let ⟨v, a, b⟩ := e.2 i d h; ⟨v, a, Is.hide hid1 d v b⟩⟩
  have go0 : Go C H1 (upd H1 Dl (.lst [])) := ok1.new hD
  have nt : ∀ (us : List V) (ps : Array Value), HO.lst us ≠ .tbl ps := fun us ps z => by cases z
  let Pv : Nat → Hp → Prop := fun i H => Go C H1 H ∧ ∃ us zs r, H Dl = some (.lst us) ∧ IsAll C Z' H us zs ∧ catRun (fun x => (tf x (wipeE δ vs)).bind (lc2In vs1 wi1 tf1 f)) (ds.drop i) = some r ∧ ys = zs ++ r
  refine ⟨fun i m H => m = ds.length - i ∧ i ≤ ds.length ∧ Pv i H, ⟨ds.length, by simp, Nat.zero_le _, go0, [], [], ys, upd_same, .nil, by simpa using hy, rfl⟩, ?_⟩
  rintro i m H ⟨rfl, hi, g1', us, zs, r, hL, hA, hr, ey⟩
  by_cases hlt : i < ds.length
  · refine .inr ⟨w.2.goes i H hlt g1'.gz, Pv (i + 1), fun H' p' => ⟨ds.length - (i + 1), by omega, rfl, hlt, p'⟩, fun x H' y => ?_⟩
    obtain ⟨g2, d, hd, is⟩ := w.2.yields i H x H' hlt g1'.gz y
    have okH := okZ g1' ⟨us, hL⟩
    have is' := is Z' hid1 fun a ha => let ⟨o, h, _⟩ := okH.hid a ha; by rw [h]; simp
    rw [List.drop_eq_getElem_cons hlt] at hr
    have ed : ds[i] = d := by
      rw [List.getElem?_eq_getElem hlt] at hd
      exact Option.some.inj hd
    rw [ed] at hr
    obtain ⟨ys1, hr1, hr⟩ := Option.bind_eq_some_iff.mp hr
    obtain ⟨r', hr2, er⟩ := Option.map_eq_some_iff.mp hr
    subst er
    obtain ⟨δ1, e1, hr1⟩ := Option.bind_eq_some_iff.mp hr1
    obtain ⟨ds1, e2, hr1⟩ := Option.bind_eq_some_iff.mp hr1
    have okH' := okH.go g2
    have enx : EnR C Z' H' (L2.wipe σ vs) (wipeE δ vs) := (enw.go g1').go g2
    refine gt Z' H' _ _ x d δ1 _ okH' enx is' e1 fun σ2 en2 hw => ⟨by rw [hw vs hsl, wipe_wipe], Z', δ1, true, okH', en2, rfl, fun H3 g3 => ?_⟩
    show tDI C wi1 σ2 H3 _
    refine ⟨Z', δ1, ds1, okH'.go g3, en2.go g3, e2, fun J1 H4 g4 w1 => ?_⟩
    have g14 : Go C H1 H4 := ((g1'.trans g2).trans g3).trans g4
    have h4 : H4 Dl = some (.lst us) := g4.ex Dl _ (g3.ex Dl _ (g2.ex Dl _ hL (nt us)) (nt us)) (nt us)
    have en4 : EnR C Z' H4 σ2 δ1 := (en2.go g3).go g4
    refine lc_turns w1.2 (fun j H => Go C H1 H ∧ GoZ C Z' H4 H ∧ ∃ us' zs' r1, H Dl = some (.lst us') ∧ IsAll C Z' H us' zs' ∧ lcRun (fun y => tf1 y (wipeE δ1 vs1)) bYes f (ds1.drop j) = some r1 ∧ zs ++ ys1 = zs' ++ r1)
      ⟨g14, ⟨ExZ.refl _ _, g14.tab⟩, us, zs, ys1, h4, ((hA.go g2).go g3).go g4, by simpa using hr1, rfl⟩ (fun j H _ p => p.2.1) (fun j x H H' hj p y => ?_) (fun H p => ?_)
    · obtain ⟨ga, gz, us', zs', r1, hL', hA', hr', ey'⟩ := p
      obtain ⟨gb, dj, hdj, isj⟩ := y
      have okJ := okZ ga ⟨us', hL'⟩
      have isj' := isj Z' (fun _ _ h => h) fun a ha => let ⟨o, h, _⟩ := okJ.hid a ha; by rw [h]; simp
      rw [List.drop_eq_getElem_cons hj] at hr'
      have edj : ds1[j] = dj := by
        rw [List.getElem?_eq_getElem hj] at hdj
        exact Option.some.inj hdj
      rw [edj] at hr'
      obtain ⟨δ2, c1, hr'⟩ := Option.bind_eq_some_iff.mp hr'
      obtain ⟨b, c2, hr'⟩ := Option.bind_eq_some_iff.mp hr'
      cases c2
      obtain ⟨yd, c3, hr'⟩ := Option.bind_eq_some_iff.mp hr'
      obtain ⟨r2, c4, c5⟩ := Option.map_eq_some_iff.mp hr'
      subst c5
      have okJ' := okJ.go gb
      have enj : EnR C Z' H' (L2.wipe σ2 vs1) (wipeE δ1 vs1) := ((en4.wipe vs1).mono gz.ex).go gb
      refine gt1 Z' H' _ _ x dj δ2 _ okJ' enj isj' c1 fun σ3 en3 hw1 => ⟨by rw [hw1 vs1 hsl1, wipe_wipe], Z', δ2, true, okJ', en3, rfl, fun H5 g5 => ?_⟩
      show tD C f σ3 H5 _
      refine ⟨Z', δ2, yd, okJ'.go g5, en3.go g5, c3, fun v H6 g6 i6 => ?_⟩
      have h6 : H6 Dl = some (.lst us') := g6.ex Dl _ (g5.ex Dl _ (gb.ex Dl _ hL' (nt us')) (nt us')) (nt us')
      have g16 : Go C H1 H6 := ((ga.trans gb).trans g5).trans g6
      have ez : ExZ Z' H6 (upd H6 Dl (.lst (us' ++ [v]))) := fun b o hb h _ => by
        rw [upd_ne (fun z => hb (.inr z))]
        exact h
      have hz : us'.length < sizeLine := by
        have e1 := hA'.length
        have e2 := congrArg List.length ey'
        have e3 := congrArg List.length ey
        simp only [List.length_append, List.length_cons] at e2 e3
        have : (100000 : Nat) < sizeLine := by rw [sizeLine_eq]; decide
        omega
      refine ⟨us', h6, hz, upd_go (Z := Z) hD g16 ⟨us', h6⟩, (((gz.trans gb.gz).trans g5.gz).trans g6.gz).trans ⟨ez, tab_upd g16.tab ⟨us', h6⟩⟩, us' ++ [v], zs' ++ [yd], r2, upd_same, ?_, c4, by rw [ey']; simp⟩
      exact (IsAll.mono ez _ _ (((hA'.go gb).go g5).go g6)).append (.cons (Is.mono ez _ _ i6) .nil)
    · obtain ⟨ga, gz, us', zs', r1, hL', hA', hr', ey'⟩ := p
      rw [List.drop_length] at hr'
      cases hr'
      rw [List.append_nil] at ey'
      exact ⟨ga, us', zs', r', hL', hA', hr2, by rw [ey, ← ey', List.append_assoc]⟩
  · have e : i = ds.length := by omega
    subst e
    rw [List.drop_length] at hr
    cases hr
    rw [List.append_nil] at ey
    subst ey
    exact .inl ⟨w.2.stops H g1'.gz, q _ H (g0.trans g1') (.lst notD hL (IsAll.hide (fun a _ h z => h (.inl z)) _ _ hA) (le_line hlen))⟩
theorem de_lc2 {elt tg iter tg1 iter1 : Expr} {scope : Scope} {own : List (Str × Nat)} {vs1 : List Nat} {wi wi1 : En → Option (List D)} {g g1 : TG} {tf tf1 : D → En → Option En} {sl sl1 : List Nat} {f : En → Option D} (hc : X.calm = true) (hN : X.N.Nodup) (hi : DI M X tg iter wi) (ok : BlkOk X.N X.env.scope scope own) (gt : GT (cs X M) g tf sl) (gt1 : GT (cs X M) g1 tf1 sl1)
    (hg : ∀ (s : Shared) (H : Hp) (C : Addr) (cl : List (Str × Addr)) (fp : List Addr), PG (X.blk s H scope (compEnvC scope cl C X.env) fp) tg g)
    (hi1 : ∀ (s : Shared) (H : Hp) (C : Addr) (cl : List (Str × Addr)) (fp : List Addr), DI M (X.blk s H scope (compEnvC scope cl C X.env) fp) tg1 iter1 wi1)
    (hg1 : ∀ (s : Shared) (H : Hp) (C : Addr) (cl : List (Str × Addr)) (fp : List Addr), PG (X.blk s H scope (compEnvC scope cl C X.env) fp) tg1 g1)
    (he : ∀ (s : Shared) (H : Hp) (C : Addr) (cl : List (Str × Addr)) (fp : List Addr), DE M (X.blk s H scope (compEnvC scope cl C X.env) fp) elt f)
    (hv : ∀ i ∈ vs1, i ∈ own.map (·.2) := by decide) (hsl : ∀ i ∈ sl, i ∈ own.map (·.2) := by decide) (hsl1 : ∀ i ∈ sl1, i ∈ vs1 := by decide) (hs : ∀ x, foldedSetIterable iter X.env x = pure x := by intro _; rfl) (hs1 : ∀ env x, foldedSetIterable iter1 env x = pure x := by intro _ _; rfl) :
    DE M X (.ListComp elt [⟨tg, iter, [], 0⟩, ⟨tg1, iter1, [], 0⟩] scope pos) (fLc2 (own.map (·.2)) vs1 wi tf wi1 tf1 f) :=
  PE.imp (pe_lc2 hc hN hi ok hv hg (fun _ _ _ _ _ => dts_nil (M := M)) hi1 hg1 (fun _ _ _ _ _ => dts_nil (M := M)) he hs hs1) fun σ H Q h => lc2_red gt gt1 hsl hsl1 σ H Q h

/-! ### attributes -/
theorem IsFs.look {C : Cs} {Z : Hid} {H : Hp} {f : Str} : ∀ {fs : List (Str × V)} {ds : List (Str × D)}, IsFs C Z H fs ds → (∀ d, ds.lookup f = some d → ∃ v, fs.lookup f = some v ∧ Is C Z H v d) ∧ (ds.lookup f = none → fs.lookup f = none)
  | _, _, .nil => ⟨fun d h => (by cases h), fun _ => rfl⟩
  | _, _, @IsFs.cons _ _ _ g v d fs ds h t => by
    have ih := IsFs.look (f := f) t
    simp only [List.lookup_cons]
    by_cases e : (f == g) = true
    · simp only [e]
      exact ⟨fun d' h' => (by cases h'; exact ⟨v, rfl, h⟩), fun h' => (by cases h')⟩
    · have e' : (f == g) = false := by simpa using e
      simp only [e']
      exact ih
def fFld (c : Nat) (f : Str) (fa : En → Option D) : En → Option D := fun δ => (fa δ).bind fun x => match x with
  | .obj c' fs => if c' = c then fs.lookup f else none
  | _ => none
theorem de_attr {e : Expr} {f : Str} {fa : En → Option D} (c : Nat) (hc : c ≠ 0) (T : Cls X.K (M.cl c)) (nA : NoAttr X.K (M.cl c) f) (he : DE M X e fa) (hb : attributeBase e f X.env (eval e X.env) = eval e X.env := by rfl) : DE M X (.Attribute e f pos) (fFld c f fa) := by
  refine PE.imp (pe_fld he hb) fun σ H Q h => ?_
  obtain ⟨Z, δ, d, ok, en, hf, q⟩ := h
  obtain ⟨x, hx, hf⟩ := Option.bind_eq_some_iff.mp hf
  refine ⟨Z, δ, x, ok, en, hx, fun v H1 g1 i1 => ?_⟩
  cases x with
  | obj c' fs =>
    have hf2 : (if c' = c then fs.lookup f else none) = some d := hf
    by_cases hcc : c' = c
    · rw [if_pos hcc] at hf2
      subst hcc
      cases i1 with
      | obj z nc h1 h2 =>
        obtain ⟨w, hw, is⟩ := (h2.look (f := f)).1 d hf2
        exact ⟨_, M.cl c', _, _, w, rfl, h1, T, nA, hw, q w H1 g1 is⟩
      | book z zd h1 h2 h3 => exact absurd rfl hc
    · rw [if_neg hcc] at hf2
      cases hf2
  | _ => cases hf
/-- of a book: marks, rules -/
theorem de_slot {e : Expr} {f : Str} {fa : En → Option D} {p : Addr} (i : Nat) (T : SlX.SCls X.K (M.cl 0)) (nA : SlX.Slot1 X.K (M.cl 0) f p i) (hi : (f = "marks" ∧ i = 0) ∨ (f = "rules" ∧ i = 1)) (he : DE M X e fa) (hb : attributeBase e f X.env (eval e X.env) = eval e X.env := by rfl) : DE M X (.Attribute e f pos) (fFld 0 f fa) := by
  refine PE.imp (SlX.pe_sl he hb) fun σ H Q h => ?_
  obtain ⟨Z, δ, d, ok, en, hf, q⟩ := h
  obtain ⟨x, hx, hf⟩ := Option.bind_eq_some_iff.mp hf
  refine ⟨Z, δ, x, ok, en, hx, fun v H1 g1 i1 => ?_⟩
  cases x with
  | obj c' fs =>
    have hf2 : (if c' = 0 then fs.lookup f else none) = some d := hf
    by_cases hcc : c' = 0
    · rw [if_pos hcc] at hf2
      subst hcc
      cases i1 with
      | obj z nc h1 h2 => exact absurd rfl nc
      | @book a dx vm vr m r z zd h1 h2 h3 =>
        rcases hi with ⟨rfl, rfl⟩ | ⟨rfl, rfl⟩
        · have e1 : List.lookup ("marks" : Str) ([(("marks" : Str), m), (("rules" : Str), r)] : List (Str × D)) = some m := by simp [List.lookup]
          rw [e1] at hf2
          cases hf2
          exact ⟨a, M.cl 0, dx, p, _, 0, vm, rfl, h1, T, nA, rfl, q vm H1 g1 h2⟩
        · have e1 : List.lookup ("rules" : Str) ([(("marks" : Str), m), (("rules" : Str), r)] : List (Str × D)) = some r := by
            have : (("rules" : Str) == ("marks" : Str)) = false := by decide
            simp [List.lookup, this]
          rw [e1] at hf2
          cases hf2
          exact ⟨a, M.cl 0, dx, p, _, 1, vr, rfl, h1, T, nA, rfl, q vr H1 g1 h3⟩
    · rw [if_neg hcc] at hf2
      cases hf2
  | _ => cases hf

/-! ### objects made, methods called -/
/-- what an __init__ does: ds in, the fields fs out -/
def spI (C : Cs) (c : Nat) (gI : List D → Option (List (Str × D))) : Sp := fun vs H Q _ => ∃ (Z : Hid) (H0 : Hp) (x dx : Addr) (us : List V) (ds : List D) (fs : List (Str × D)), vs = .ref x :: us ∧ Ok C Z H0 ∧ IsAll C Z H0 us ds ∧ H0 x = none ∧ H0 dx = none ∧ dx ≠ x ∧
  H = upd (upd H0 dx (.own x)) x (.ins (C.cl c) dx []) ∧ gI ds = some fs ∧ ∀ H', Go C H0 H' → Is C Z H' (.ref x) (.obj c fs) → Q .non H'
def fMake (c n : Nat) (gI : List D → Option (List (Str × D))) (fs : En → Option (List D)) : En → Option D := fun δ => (fs δ).bind fun ds => if ds.length = n then (gI ds).map fun f => .obj c f else none
theorem de_make {x : Str} {a : Expr} {es : List Expr} {p : Pos} {fs : En → Option (List D)} {k c n : Nat} {f : Addr} {fd : FuncData} {ps : List Str} {gI : List D → Option (List (Str × D))} (Mk_ : Mk X.K (M.cl c) f) (F : FnOk X.prog X.w X.K X.mg X.base CX0 k f fd ps (spI (cs X M) c gI)) (hr : Room (k + 1) X.A)
    (hm : X.mg x = some (.ref (M.cl c))) (hb : L2.Binds X.K fd ps []) (ha : DA M X (a :: es) fs) (hg : Gl X x := by rfl) (hdb : (x == ("__debug__" : Str)) = false := by decide)
    (he : starEach (a :: es) X.env = (false, eval a X.env) :: starEach es X.env := by rfl) (hpl : (backTo pos (starEach es X.env)).any (·.1) = false := by rfl) : DE M X (.Call (.Name x p) (a :: es) [] pos) (fMake c n gI fs) := by
  refine PE.imp (pe_make Mk_ F hr hg hm hb .nil (pass0 (X := X)) ha hdb he hpl) fun σ H Q h => ?_
  obtain ⟨Z, δ, d, ok, en, hf, q⟩ := h
  obtain ⟨ds, hd, hf⟩ := Option.bind_eq_some_iff.mp hf
  by_cases hl : ds.length = n
  · rw [if_pos hl] at hf
    obtain ⟨fl, hfl, hf⟩ := Option.map_eq_some_iff.mp hf
    subst hf
    refine ⟨Z, δ, ds, ok, en, hd, fun vs H1 g1 i1 y dy hy hdy ne => ?_⟩
    exact ⟨Z, H1, y, dy, vs ++ [], ds, fl, rfl, ok.go g1, by rw [List.append_nil]; exact i1, hy, hdy, ne, rfl, hfl, fun H' g2 is => ⟨rfl, q _ H' (g1.trans g2) is⟩⟩
  · rw [if_neg hl] at hf
    cases hf
def fMeth (c n : Nat) (m : Str) (g : List D → Option D) (fa : En → Option D) (fs : En → Option (List D)) : En → Option D := fun δ => (fa δ).bind fun x => match x with
  | .obj c' fl => if c' = c ∧ fl.lookup m = none then (fs δ).bind fun ds => if ds.length = n then g (.obj c' fl :: ds) else none else none
  | _ => none
theorem de_meth {o a : Expr} {es : List Expr} {m : Str} {apos : Pos} {pl : Sem Bool} {fa : En → Option D} {fs : En → Option (List D)} {k c n : Nat} {f : Addr} {fd : FuncData} {ps : List Str} {g : List D → Option D} (hc : c ≠ 0) (he : DE M X o fa) (T : Cls X.K (M.cl c)) (hm : Meth X.K (M.cl c) m f)
    (F : FnOk X.prog X.w X.K X.mg X.base CX0 k f fd ps (spD (cs X M) (n + 1) g)) (hr : Room k X.A) (hb : L2.Binds X.K fd ps []) (ha : DA M X (a :: es) fs)
    (hst : starEach (a :: es) X.env = (false, eval a X.env) :: starEach es X.env := by rfl) (hpl : (backTo pos (starEach es X.env)).any (·.1) = false := by rfl)
    (ht : eval (.Call (.Attribute o m apos) (a :: es) [] pos) X.env = (do
      let ov ← eval o X.env
      standAt apos.atName
      let (f, first) ← holding [ov] (getMethod ov m pl)
      callWith pos f first (backTo pos (starEach (a :: es) X.env)) (backToKw pos (keywordEach [] X.env))) := by rfl) :
    DE M X (.Call (.Attribute o m apos) (a :: es) [] pos) (fMeth c n m g fa fs) := by
  refine PE.imp (pe_meth he T hm F hr hb .nil (pass0 (X := X)) ha hst hpl ht) fun σ H Q h => ?_
  obtain ⟨Z, δ, d, ok, en, hf, q⟩ := h
  obtain ⟨x, hx, hf⟩ := Option.bind_eq_some_iff.mp hf
  refine ⟨Z, δ, x, ok, en, hx, fun v H1 g1 i1 => ?_⟩
  cases x with
  | obj c' fl =>
    have hf2 : (if c' = c ∧ fl.lookup m = none then (fs δ).bind fun ds => if ds.length = n then g (.obj c' fl :: ds) else none else none) = some d := hf
    by_cases hcc : c' = c ∧ fl.lookup m = none
    · rw [if_pos hcc] at hf2
      obtain ⟨rfl, hno⟩ := hcc
      obtain ⟨ds, hd, hf3⟩ := Option.bind_eq_some_iff.mp hf2
      by_cases hl : ds.length = n
      · rw [if_pos hl] at hf3
        cases i1 with
        | @obj a dx _ vf _ z nc h1 h2 =>
          refine ⟨a, dx, vf, rfl, h1, (h2.look (f := m)).2 hno, Z, δ, ds, ok.go g1, en.go g1, hd, fun vs H2 g2 i2 => ?_⟩
          exact ⟨Z, .obj c' fl :: ds, d, (ok.go g1).go g2, .cons ((Is.obj z nc h1 h2).go g2) (by rw [List.append_nil]; exact i2), by rw [List.length_cons, hl], hf3, fun w H3 g3 i3 => q w H3 ((g1.trans g2).trans g3) i3⟩
        | book z zd h1 h2 h3 => exact absurd rfl hc
      · rw [if_neg hl] at hf3
        cases hf3
    · rw [if_neg hcc] at hf2
      cases hf2
  | _ => cases hf
/-- a, b, c = x, y, z -/
def sPar3 (i j l : Nat) (fs : En → Option (List D)) : En → Option Out := fun δ => (fs δ).bind fun ds => match ds with
  | [x, y, z] => some (.nx (((δ.set i (some x)).set j (some y)).set l (some z)))
  | _ => none
theorem ds_par3 {i j l : Nat} {x y z : Str} {a b c : Expr} {fs : En → Option (List D)} {px py pz pt : Pos} {kt k2 : Nat} {pt2 : Pos} (hc : X.calm = true) (hN : X.N.Nodup) (ha : DA M X [a, b, c] fs) (hij : i ≠ j := by decide) (hil : i ≠ l := by decide) (hjl : j ≠ l := by decide) (hi : X.N[i]? = some x := by rfl) (hj : X.N[j]? = some y := by rfl) (hl : X.N[l]? = some z := by rfl)
    (hx : X.env.scope.names.lookup x = some .local := by rfl) (hy : X.env.scope.names.lookup y = some .local := by rfl) (hz : X.env.scope.names.lookup z = some .local := by rfl)
    (hw : swappedStores [.Tuple [.Name x px, .Name y py, .Name z pz] kt pt] (.Tuple [a, b, c] k2 pt2) X.env = pure (some [x, y, z]) := by rfl)
    (hs : swapsWithSole [.Tuple [.Name x px, .Name y py, .Name z pz] kt pt] (.Tuple [a, b, c] k2 pt2) pos.line X.env = pure false := by rfl) :
    DS M X (.Assign [.Tuple [.Name x px, .Name y py, .Name z pz] kt pt] (.Tuple [a, b, c] k2 pt2) pos) (sPar3 i j l fs) := by
  refine PS.imp (ps_par3 hc hN hi hj hl hij hil hjl hx hy hz ha hw hs) fun E σ H h => ?_
  obtain ⟨Z, δ, o, ok, en, hf, q⟩ := h
  obtain ⟨ds, hd, hf⟩ := Option.bind_eq_some_iff.mp hf
  refine ⟨Z, δ, ds, ok, en, hd, fun vs H1 g1 i1 => ?_⟩
  split at hf
  · cases hf
    cases i1 with
    | cons h1 i1 =>
      cases i1 with
      | cons h2 i1 =>
        cases i1 with
        | cons h3 i1 =>
          cases i1
          exact ⟨_, _, _, rfl, q _ H1 g1 ((((en.go g1).set h1).set h2).set h3)⟩
  · cases hf
end
end Dx
/-! Displays with stars. -/
namespace Dx
open PySem PySem.Spec PyProof.Rows L2
section
variable {M : Mm} {X : Cx} {e : Expr} {es : List Expr} {f : En → Option D} {fs : En → Option (List D)} {p : Pos}
def aStar (f : En → Option D) (fs : En → Option (List D)) : En → Option (List D) := fun δ => (f δ).bind fun x => (items x).bind fun xs => (fs δ).map fun ys => xs ++ ys
theorem da_star (ha : DE M X e f) (hr : DA M X es fs) (hs : starEach (.Starred e p :: es) X.env = (true, eval e X.env) :: starEach es X.env := by rfl) : DA M X (.Starred e p :: es) (aStar f fs) := by
  refine PA.imp (StX.pa_star ha hr hs) fun σ H Q h => ?_
  obtain ⟨Z, δ, z, ok, en, hf, q⟩ := h
  obtain ⟨x, hx, hf⟩ := Option.bind_eq_some_iff.mp hf
  obtain ⟨xs, hxs, hf⟩ := Option.bind_eq_some_iff.mp hf
  obtain ⟨ys, hys, hz⟩ := Option.map_eq_some_iff.mp hf
  subst hz
  refine ⟨Z, δ, x, ok, en, hx, fun v H1 g1 i1 => ?_⟩
  have rest : ∀ vs : List V, IsAll (cs X M) Z H1 vs xs → tDA (cs X M) fs σ H1 fun ws H2 => Q (vs ++ ws) H2 := fun vs ia =>
    ⟨Z, δ, ys, ok.go g1, en.go g1, hys, fun ws H2 g2 i2 => q _ H2 (g1.trans g2) ((ia.go g2).append i2)⟩
  cases x with
  | tup es =>
    cases hxs
    cases i1 with
    | tup z hS hA hl => exact ⟨_, _, rfl, .inl (SqT.of hS), rest _ hA⟩
  | lst es =>
    cases hxs
    cases i1 with
    | lst z hS hA hl => exact ⟨_, _, rfl, .inr (SqL.of hS), rest _ hA⟩
  | _ => cases hxs
end
/-! ### sorted(xs, key=lambda one: (len(one), one)) -/
section
variable {X : Cx} {pins : List (Addr × Obj)} {σ : L2.St} {H : Hp} {s : Shared}
theorem lookup_one {x : Str} {v : Value} : (([(x, v)] : List (Str × Value)).reverse).lookup x = some v := by
  simp [List.lookup]
/-- the lambda called: a tuple of the length and the item, all else kept -/
theorem key_lam {A' : Around} {E : Value → Shared → Prop} {f c' a : Addr} {q x : Str} {params : Arguments} {scope : Scope} {cl : List (Str × Addr)} {pm ctv : Value} {its : Array Value} {p1 p2 p3 p4 p5 : Pos} {k : Nat}
    (I : Inv X pins σ H s) (hd : A'.depth < recursionLimit)
    (hf : s.heap.get? f = some (PySem.W.kla_obj "<lambda>" q params (.Tuple [.Call (.Name "len" p1) [.Name x p2] [] p3, .Name x p4] k p5) scope cl pm c' ctv)) (hc : s.heap.CodeRec (.ref c') q)
    (hk : scope.kind = .function) (co : scope.isCoroutine = false) (gen : scope.isGenerator = false) (nc : ∀ y ∈ scope.names, y.2 ≠ .cell) (hx : scope.names.lookup x = some .local) (hl : scope.names.lookup ("len" : Str) = some .globalImplicit) (hm : X.mg ("len" : Str) = none)
    (hb : ∀ v : Value, bindArgs (PySem.W.kla_fn "<lambda>" q params (.Tuple [.Call (.Name "len" p1) [.Name x p2] [] p3, .Name x p4] k p5) scope cl pm (.ref c') ctv) ⟨[v], []⟩ = pure [(x, v)])
    (hT : IsTup s.heap a its) (hz : (its.size : Int) < 2 ^ 63) (hxd : (x == ("__debug__" : Str)) = false) :
    wpAny (model X.prog X.w) A' (call (.ref f) [.ref a]) (fun v s2 => ∃ h' tk t p, s2 = { s with heap := h', toks := tk } ∧ (∀ b o, s.heap.get? b = some o → h'.get? b = some o) ∧ v = .ref p ∧
      h'.get? p = some { cls := .type "tuple", data := .seq [.int its.size t, .ref a].toArray }) E s := by
  obtain ⟨mb, hb1, hb2⟩ := I.mod.blt
  have rc : codeAny (model X.prog X.w) A' (.call (.ref f) ⟨[.ref a], []⟩) (fun r s2 => match r with
    | .ok (.ret v) => ∃ h' tk t p, s2 = { s with heap := h', toks := tk } ∧ (∀ b o, s.heap.get? b = some o → h'.get? b = some o) ∧ v = .ref p ∧ h'.get? p = some { cls := .type "tuple", data := .seq [.int its.size t, .ref a].toArray }
    | _ => False) s := by
    refine PySem.W.kla_callFunE hd hf rfl co gen rfl hc ?_
    rw [hb]
    refine wpAny_pure (wpAny_newFunctionEnv nc (fun y hy => by
      rcases List.mem_cons.mp hy with rfl | hy
      · exact hx
      · cases hy) (fun h₁ hns hsb => ⟨I.nolimit.fresh _ hsb, ?_⟩) hk)
    have kp : ∀ b o, s.heap.get? b = some o → h₁.get? b = some o := fun b o e => hsb.extBut b o (Nat.ne_of_lt (Heap.lt_size e)) (Heap.get?_push_of_some _ e)
    refine PySem.W.kla_codeExpr ?_
    refine wpAny_Tuple_spliced ?_
    refine Calls.spliced_cons ?_
    refine wpAny_Call_Name_kw ?_
    refine Calls.Name_function_global hk hl (Calls.loadGlobal_builtin ((I.mod.glob.keeps I.bk).keeps kp) hm ((hb1.keeps I.bk).keeps kp) ((hb2 _ (by decide)).trans rfl) ?_) (by decide)
    refine PyProof.Rows.callWith_builtin1 (Calls.spliced_cons ?_)
    refine wpAny_Name (wpAny_loadName_local hk hx hns lookup_one ?_) hxd
    refine Calls.spliced_nil ?_
    refine len_tuple (hT.keeps kp) hz ?_
    refine Calls.spliced_cons ?_
    refine wpAny_Name (wpAny_loadName_local hk hx hns lookup_one ?_) hxd
    refine Calls.spliced_nil ⟨(by show 2 ≤ sizeLine; decide), ?_⟩
    exact ⟨_, _, _, _, rfl, fun b o e => Heap.get?_push_of_some _ (kp b o e), rfl, Heap.get?_push_size _ rfl⟩
  refine wpAny_call (codeAny_mono rc fun r s2 hq => ?_)
  cases r with
  | error e => exact False.elim hq
  | ok fl =>
    cases fl with
    | ret u => exact hq
    | next => exact False.elim hq
    | brk => exact False.elim hq
    | cont => exact False.elim hq
end
/-! the rule -/
def isInt : D → Bool
  | .int _ => true
  | _ => false
def intTup : D → Bool
  | .tup xs => xs.all isInt
  | _ => false
def lenKey (d : D) : PyData := .tuple [.int (match d with
  | .tup xs => (xs.length : Int)
  | _ => 0), toPy d]
def leLen : D → D → Bool := PySem.W.dataLe false lenKey
def gSortLen : D → Option D
  | .lst ds => if ds.all intTup = true then some (.lst (ds.mergeSort leLen)) else none
  | _ => none
theorem alike_ints : ∀ xs ys : List D, xs.all isInt = true → ys.all isInt = true → PySem.W.alikeAll (toPys xs) (toPys ys) = true
  | [], _, _, _ => rfl
  | _ :: _, [], _, _ => rfl
  | x :: xs, y :: ys, hx, hy => by
    rw [List.all_cons, Bool.and_eq_true] at hx hy
    have ih := alike_ints xs ys hx.2 hy.2
    cases x <;> first | (cases hx.1; done) | skip
    cases y <;> first | (cases hy.1; done) | skip
    show (true && _) = true
    rw [ih]
    rfl
theorem alike_len {a b : D} (ha : intTup a = true) (hb : intTup b = true) : PySem.W.alike (lenKey a) (lenKey b) = true := by
  cases a <;> first | (cases ha; done) | skip
  cases b <;> first | (cases hb; done) | skip
  rename_i xs ys
  have h := alike_ints xs ys ha hb
  show (true && (PySem.W.alikeAll (toPys xs) (toPys ys) && true)) = true
  rw [h]
  rfl
theorem depth_ints : ∀ xs : List D, xs.all isInt = true → PyData.depthAll (toPys xs) = 0
  | [], _ => rfl
  | x :: xs, hx => by
    rw [List.all_cons, Bool.and_eq_true] at hx
    have ih := depth_ints xs hx.2
    cases x <;> first | (cases hx.1; done) | skip
    simp [toPys, toPy, PyData.depthAll, PyData.depth, ih]
theorem depth_len {a : D} (ha : intTup a = true) : (lenKey a).depth ≤ 2 := by
  cases a <;> first | (cases ha; done) | skip
  rename_i xs
  have h := depth_ints xs ha
  simp [lenKey, toPy, PyData.depth, PyData.depthAll, h]
section
variable {C : Cs} {Z : Hid} {H : Hp}
theorem reads_ints {h : Heap} : ∀ {vs : List V} {ds : List D} {its : List Value}, IsAll C Z H vs ds → Vals vs its → ds.all isInt = true → ReadsAll h its (toPys ds) []
  | _, _, _, .nil, .nil, _ => .nil
  | _, _, _, .cons (d := d) i1 i2, .cons r1 r2, hd => by
    rw [List.all_cons, Bool.and_eq_true] at hd
    have ih := reads_ints (h := h) i2 r2 hd.2
    cases d <;> first | (cases hd.1; done) | skip
    cases i1
    obtain ⟨t, rfl⟩ := r1
    exact ReadsAll.cons (as := []) (bs := []) (.int _ t) ih
/-- values sorted are values -/
theorem each_back {R : Value → D → Prop} (hR : ∀ u d, R u d → ∃ v : V, RelV v u ∧ Is C Z H v d) : ∀ {us : List Value} {ds : List D}, PySem.W.EachIs R us ds → ∃ vs : List V, Vals vs us ∧ IsAll C Z H vs ds
  | _, _, .nil => ⟨[], .nil, .nil⟩
  | _, _, .cons h t => by
    obtain ⟨v, r, i⟩ := hR _ _ h
    obtain ⟨vs, rs, is⟩ := each_back hR t
    exact ⟨v :: vs, .cons r rs, .cons i is⟩
theorem each_of {R : Value → D → Prop} : ∀ {vs : List V} {us : List Value} {ds : List D}, IsAll C Z H vs ds → Vals vs us → (∀ v u d, d ∈ ds → Is C Z H v d → RelV v u → R u d) → PySem.W.EachIs R us ds
  | _, _, _, .nil, .nil, _ => .nil
  | _, _, _, .cons i1 i2, .cons r1 r2, h => .cons (h _ _ _ (List.mem_cons_self ..) i1 r1) (each_of i2 r2 fun v u d hd => h v u d (List.mem_cons_of_mem _ hd))
end
section
variable {M : Mm} {X : Cx}
theorem de_sortLen {xs : Expr} {f : En → Option D} {x : Str} {params : Arguments} {scope : Scope} {c P : Addr} {kk n : Nat} {p1 p2 p3 p4 p5 lpos kp p pos : Pos}
    (TB : LamX.TabB X.base X.mg c P) (hcode : X.env.code = .ref c) (hmT : (P, X.env.qual ++ "<lambda>") ∈ M.T) (hu : ∀ q ∈ M.T, q.1 = P → q.2 = X.env.qual ++ "<lambda>") (hr : Room (n + 1) X.A)
    (hg : Gl X "sorted") (hm : X.mg ("sorted" : Str) = none) (hml : X.mg ("len" : Str) = none) (he : DE M X xs f)
    (hdef : defaultsOf params X.env = ([], []) := by rfl) (hk : scope.kind = .function := by rfl) (co : scope.isCoroutine = false := by rfl) (gen : scope.isGenerator = false := by rfl)
    (nc : scope.names.all (fun y => !decide (y.2 = .cell) && !decide (y.2 = .free)) = true := by rfl) (hx : scope.names.lookup x = some .local := by rfl) (hl : scope.names.lookup ("len" : Str) = some .globalImplicit := by rfl)
    (hb : ∀ (q : Str) (cl : List (Str × Addr)) (pm cv ctv v : Value), bindArgs (PySem.W.kla_fn "<lambda>" q params (.Tuple [.Call (.Name "len" p1) [.Name x p2] [] p3, .Name x p4] kk p5) scope cl pm cv ctv) ⟨[v], []⟩ = pure [(x, v)] := by intro _ _ _ _ _ _; rfl)
    (hxd : (x == ("__debug__" : Str)) = false := by decide) (hst : starEach [xs] X.env = [(false, eval xs X.env)] := by rfl) :
    DE M X (.Call (.Name "sorted" p) [xs] [⟨some "key", .Lambda params (.Tuple [.Call (.Name "len" p1) [.Name x p2] [] p3, .Name x p4] kk p5) scope lpos, kp⟩] pos) (fun δ => (f δ).bind gSortLen) := by
  have ha : DA M X [xs] (aCons f aNil) := da_cons he da_nil hst
  refine ⟨fun pins s σ H Q I h => ?_⟩
  obtain ⟨Z, δ, d, ok, en, hf, q⟩ := h
  obtain ⟨d0, hd0, hf⟩ := Option.bind_eq_some_iff.mp hf
  cases d0 with
  | lst ds =>
    have hf : (if ds.all intTup = true then some (D.lst (ds.mergeSort leLen)) else none) = some d := hf
    by_cases hall : ds.all intTup = true
    · rw [if_pos hall] at hf
      cases hf
      refine wpAny_Call_Name_kw (ld_blt I hg hm rfl ?_ (by decide) (by decide))
      refine PyProof.Rows.callWith_kw ?_ (by rw [hst]; rfl) (by rw [hst]; rfl)
      refine thn (ha.run pos pins s σ H (fun vs H1 => Go (cs X M) H H1 ∧ IsAll (cs X M) Z H1 vs [.lst ds]) I ⟨Z, δ, [.lst ds], ok, en, by simp [aCons, aNil, hd0], fun vs H1 g1 i1 => ⟨g1, i1⟩⟩) fun us s1 ⟨vs, H1, I1, r1, g1, i1⟩ => ?_
      cases i1 with
      | cons i1 i2 =>
        cases i2
        cases i1 with
        | @lst a vs1 _ z hS hA hl1 =>
          show wpAny _ _ (evalAll ((do let v ← eval (.Lambda params (.Tuple [.Call (.Name "len" p1) [.Name x p2] [] p3, .Name x p4] kk p5) scope lpos) X.env; standAt pos; pure v) :: [])) _ _ s1
          have okG := ok.go g1
          have nofree : ∀ y ∈ scope.names, y.2 ≠ .free := fun y hy e => by
            have := List.all_eq_true.mp nc y hy
            simp [e] at this
          have nocell : ∀ y ∈ scope.names, y.2 ≠ .cell := fun y hy e => by
            have := List.all_eq_true.mp nc y hy
            simp [e] at this
          refine wpAny_evalAll_cons (wpAny_bind (LamX.lam_make2 I1 TB hcode hmT hu okG.tab hdef (fun y hy e => absurd e (nofree y hy)) fun f' c' pm ctv H2 s2 I2 eN T2 hfo hfn hfr hco => wpAny_bind (wpAny_standAt (wpAny_pure ?_))))
          refine wpAny_evalAll_nil ?_
          obtain ⟨u, rfl, ru⟩ := vals1 r1
          cases ru
          have g2 : Go (cs X M) H1 H2 := ⟨eN, T2⟩
          have hS2 : H2 a = some (.lst vs1) := eN a _ hS (fun ps z => by cases z)
          have hA2 := hA.go g2
          obtain ⟨its, rv, pl, hzl⟩ := I2.list (SqL.of (K := X.K) hS2)
          obtain ⟨⟨oc, vc, tc, hoc, hdc, hvc⟩, _, _⟩ := I2.hok c' _ hco
          have hun := hr.un
          let R : Value → D → Prop := fun u d => ∃ v : V, RelV v u ∧ Is (cs X M) Z H2 v d
          show wpAny _ _ (call (.builtin "sorted") [.ref a] [(Str.ofString "key", .ref f')]) _ _ _
          refine PySem.W.sorted_key_data (b := false) (R := R) lenKey pl.isList (each_of hA2 rv fun v u d _ i r => ⟨v, r, i⟩) ?_ (.inl fun d hd => ?_) hl1 (fun d hd => ?_) (PyProof.Rows.ksk_s1 _ _) (fun _ => PyProof.Rows.ksk_l1 _ _) (fun _ => PyProof.Rows.ksk_t1 _ _) (fun u d hR hd h' tk kp => ?_) fun out c3 h' tk kp hfresh hD hlen eo => ?_
          · intro x1 h1 x2 h2
            obtain ⟨y1, m1, rfl⟩ := List.mem_map.mp h1
            obtain ⟨y2, m2, rfl⟩ := List.mem_map.mp h2
            exact alike_len (List.all_eq_true.mp hall _ m1) (List.all_eq_true.mp hall _ m2)
          · obtain ⟨y1, m1, rfl⟩ := List.mem_map.mp hd
            exact ⟨_, _, rfl⟩
          · have := depth_len (List.all_eq_true.mp hall _ hd)
            omega
          · obtain ⟨v, rv', iv⟩ := hR
            have hd' := List.all_eq_true.mp hall _ hd
            cases d <;> first | (cases hd'; done) | skip
            rename_i es
            cases iv with
            | @tup b ws _ z2 hS3 hA3 hl3 =>
              cases rv'
              have I3 := I2.kept (t' := tk) kp
              obtain ⟨jts, rj, pj, hzj⟩ := I3.tuple (SqT.of (K := X.K) hS3)
              have e1 : jts.toArray.size = es.length := by
                rw [List.size_toArray, ← rj.length, hA3.length]
              refine wpAny_mono (key_lam (its := jts.toArray) (k := kk) I3 ?_ (kp _ _ hfo) ⟨c', oc, vc, tc, rfl, kp _ _ hoc, hdc, hvc⟩ hk co gen nocell hx hl hml (hb _ _ _ _ _) pj ?_ hxd) (fun u s' hs => ?_) fun _ _ e => e
              · show X.A.depth < recursionLimit
                exact hr.depth
              · rw [e1]
                have := line63
                have := hl3
                omega
              · obtain ⟨h2, tk2, t2, p2', rfl, kp2, rfl, hp2⟩ := hs
                refine ⟨h2, tk2, rfl, kp2, ?_⟩
                rw [e1] at hp2
                refine Reads.tuple (as := []) hp2 rfl rfl ?_
                refine ReadsAll.cons (as := []) (bs := []) (.int _ t2) (ReadsAll.cons (as := []) (bs := []) ?_ .nil)
                obtain ⟨ob, ho, hcl, nn, hda⟩ := pj
                refine Reads.tuple (as := []) (kp2 _ _ ho) hcl hda ?_
                simpa using reads_ints hA3 rj hd'
          · obtain ⟨ws, rw', iw⟩ := each_back (C := cs X M) (Z := Z) (H := H2) (fun u d h => h) eo
            have hp : H2 (s2.heap.objs.size + 1) = none := I2.hok.fresh (Nat.le_succ _)
            have hL : (ds.mergeSort (PySem.W.dataLe false lenKey)).length ≤ sizeLine := by
              rw [List.length_mergeSort]
              exact hl1
            refine ⟨.ref _, upd H2 (s2.heap.objs.size + 1) (.lst ws), I2.laid (t' := tk) kp (Nat.le_succ _) ⟨by rw [iw.length]; exact hL, out, c3, rw', hD⟩, rfl, ?_⟩
            exact q _ _ ((g1.trans g2).trans ((okG.go g2).new hp)) (new_lst (okG.go g2) iw hL hp)
    · rw [if_neg hall] at hf
      cases hf
  | _ => cases hf
end
end Dx
/-! Dicts whose keys are tuples. -/
namespace Dx
open PySem PySem.Spec PyProof.Rows L2

/-! ### keys -/
mutual
theorem nested_of {C : Cs} {Z : Hid} {H : Hp} {h : Heap} (ok : HOk C.P C.w H h) : ∀ (d : D) (v : V) (u : Value) (k : NestedKey), Is C Z H v d → RelV v u → toKey d = some k → NestedIs h k u
  | .non, _, _, _, i, r, e => by cases i; cases e; cases r; exact .none
  | .bl _, _, _, _, _, _, e => by cases e
  | .int j, _, _, _, i, r, e => by
    cases i; cases e
    obtain ⟨t, rfl⟩ := r
    exact .int j t
  | .str x, _, _, _, i, r, e => by
    cases i; cases e
    obtain ⟨t, rfl⟩ := r
    exact .text x t
  | .tup ds, _, _, _, i, r, e => by
    obtain ⟨ks, e1, e2⟩ := Option.map_eq_some_iff.mp e
    subst e2
    cases i with
    | @tup a vs _ z hS hA hl =>
      cases r
      obtain ⟨_, its, rv, o, ho, hc, n, hd⟩ := ok a _ hS
      exact .tup ho hc hd (by simpa using nestedAll_of ok ds vs its ks hA rv e1)
  | .lst _, _, _, _, _, _, e => by cases e
  | .ks _, _, _, _, _, _, e => by cases e
  | .dic _, _, _, _, _, _, e => by cases e
  | .obj _ _, _, _, _, _, _, e => by cases e
  | .raw _, _, _, _, _, _, e => by cases e
theorem nestedAll_of {C : Cs} {Z : Hid} {H : Hp} {h : Heap} (ok : HOk C.P C.w H h) : ∀ (ds : List D) (vs : List V) (us : List Value) (ks : List NestedKey), IsAll C Z H vs ds → Vals vs us → toKeys ds = some ks → NestedAll h ks us
  | [], _, _, _, i, r, e => by cases i; cases r; cases e; exact .nil
  | d :: ds, _, _, _, i, r, e => by
    cases i with
    | cons i1 i2 =>
      cases r with
      | cons r1 r2 =>
        obtain ⟨k, e1, e⟩ := Option.bind_eq_some_iff.mp e
        obtain ⟨ks, e2, e3⟩ := Option.map_eq_some_iff.mp e
        subst e3
        exact .cons (nested_of ok d _ _ k i1 r1 e1) (nestedAll_of ok ds _ _ ks i2 r2 e2)
end
def KeyIn (C : Cs) (H : Hp) (k : NestedKey) (b : Addr) : Prop := ∀ h, HOk C.P C.w H h → (nestedKind C.P C.w).is h k b
theorem keyIn_of {C : Cs} {Z : Hid} {H : Hp} {b : Addr} {d : D} {k : NestedKey} (i : Is C Z H (.ref b) d) (e : keyOf d = some k) : KeyIn C H k b := by
  intro h ok
  cases d with
  | tup xs =>
    obtain ⟨ks, e1, e2⟩ := Option.bind_eq_some_iff.mp e
    by_cases hd : (NestedKey.tup ks).depth ≤ 8
    · rw [if_pos hd] at e2
      cases e2
      exact ⟨nested_of ok (.tup xs) _ _ _ i rfl (by show (toKeys xs).map NestedKey.tup = _; rw [e1]; rfl), hd⟩
    · rw [if_neg hd] at e2
      cases e2
  | _ => cases e
/-- a key's value is an object -/
theorem key_ref {C : Cs} {Z : Hid} {H : Hp} {v : V} {d : D} {k : NestedKey} (i : Is C Z H v d) (e : keyOf d = some k) : ∃ b, v = .ref b := by
  cases d <;> first | (cases e; done) | skip
  cases i
  exact ⟨_, rfl⟩

/-! ### what a dict says of a key -/
def dAt (kvs : List (D × D)) (k : NestedKey) : Option D := (kvs.find? fun p => decide (keyOf p.1 = some k)).map (·.2)
def dPut (kvs : List (D × D)) (x : D) (k : NestedKey) (v : D) : List (D × D) := if (dAt kvs k).isSome then kvs.map (fun p => if keyOf p.1 = some k then (p.1, v) else p) else kvs ++ [(x, v)]
def dDel (kvs : List (D × D)) (k : NestedKey) : List (D × D) := kvs.filter fun p => decide (keyOf p.1 ≠ some k)
section
variable {C : Cs} {Z : Hid} {H : Hp}
theorem atKey_cons (x : NestedKey × Addr × Value) (xs : List (NestedKey × Addr × Value)) (k : NestedKey) : atKey (x :: xs) k = if x.1 = k then some x.2 else atKey xs k := by
  unfold atKey
  rw [List.find?_cons]
  by_cases e : x.1 = k
  · simp [e]
  · simp [e]
theorem dAt_cons (x : D × D) (xs : List (D × D)) (k : NestedKey) : dAt (x :: xs) k = if keyOf x.1 = some k then some x.2 else dAt xs k := by
  unfold dAt
  rw [List.find?_cons]
  by_cases e : keyOf x.1 = some k
  · simp [e]
  · simp [e]
theorem kv_at (k : NestedKey) : ∀ {xs : List (NestedKey × Addr × Value)} {kvs : List (D × D)}, IsKv C Z H xs kvs → (dAt kvs k = none → atKey xs k = none) ∧ ∀ d, dAt kvs k = some d → ∃ b u v, atKey xs k = some (b, u) ∧ RelV v u ∧ Is C Z H v d
  | _, _, .nil => ⟨fun _ => rfl, fun d h => (by cases h)⟩
  | _, _, .cons (b := b) (k := k1) (v := v) (u := u) (dk := dk) (dv := dv) i e r i2 t => by
    have ih := kv_at k t
    rw [dAt_cons, atKey_cons]
    by_cases q : k1 = k
    · subst q
      simp only [e, if_true]
      exact ⟨(fun h => by cases h), fun d h => (by cases h; exact ⟨b, u, v, rfl, r, i2⟩)⟩
    · have q' : ¬ (keyOf dk = some k) := fun z => q (Option.some.inj (e.symm.trans z))
      simp only [q, q', if_false]
      exact ih
theorem kv_some (k : NestedKey) {xs : List (NestedKey × Addr × Value)} {kvs : List (D × D)} (h : IsKv C Z H xs kvs) : (atKey xs k).isSome = (dAt kvs k).isSome := by
  obtain ⟨h1, h2⟩ := kv_at k h
  cases q : dAt kvs k with
  | none => rw [h1 q]; rfl
  | some d =>
    obtain ⟨b, u, v, e, _⟩ := h2 d q
    rw [e]
    rfl
theorem kv_len : ∀ {xs : List (NestedKey × Addr × Value)} {kvs : List (D × D)}, IsKv C Z H xs kvs → xs.length = kvs.length
  | _, _, .nil => rfl
  | _, _, .cons _ _ _ _ t => by rw [List.length_cons, List.length_cons, kv_len t]
theorem kv_map (k : NestedKey) {v : V} {u : Value} {dv : D} (r : RelV v u) (i : Is C Z H v dv) : ∀ {xs : List (NestedKey × Addr × Value)} {kvs : List (D × D)}, IsKv C Z H xs kvs → IsKv C Z H (xs.map (putAt k u)) (kvs.map fun p => if keyOf p.1 = some k then (p.1, dv) else p)
  | _, _, .nil => .nil
  | _, _, .cons (b := b) (k := k1) (u := u1) (dk := dk) i1 e r1 i2 t => by
    have ih := kv_map k r i t
    rw [List.map_cons, List.map_cons]
    by_cases q : k1 = k
    · subst q
      have e1 : putAt k1 u (k1, b, u1) = (k1, b, u) := by unfold putAt; rw [if_pos rfl]
      rw [e1, if_pos e]
      exact .cons i1 e r i ih
    · have q' : ¬ (keyOf dk = some k) := fun z => q (Option.some.inj (e.symm.trans z))
      unfold putAt
      rw [if_neg q, if_neg q']
      exact .cons i1 e r1 i2 ih
theorem kv_append : ∀ {xs ys : List (NestedKey × Addr × Value)} {kvs lvs : List (D × D)}, IsKv C Z H xs kvs → IsKv C Z H ys lvs → IsKv C Z H (xs ++ ys) (kvs ++ lvs)
  | _, _, _, _, .nil, s => s
  | _, _, _, _, .cons i1 e r1 i2 t, s => .cons i1 e r1 i2 (kv_append t s)
theorem kv_put {xs : List (NestedKey × Addr × Value)} {kvs : List (D × D)} {b : Addr} {dk dv : D} {k : NestedKey} {v : V} {u : Value} (h : IsKv C Z H xs kvs) (ik : Is C Z H (.ref b) dk) (e : keyOf dk = some k) (r : RelV v u) (i : Is C Z H v dv) :
    IsKv C Z H (storedH xs k b u) (dPut kvs dk k dv) := by
  unfold storedH dPut
  rw [kv_some k h]
  split
  · exact kv_map k r i h
  · exact kv_append h (.cons ik e r i .nil)
theorem kv_del (k : NestedKey) : ∀ {xs : List (NestedKey × Addr × Value)} {kvs : List (D × D)}, IsKv C Z H xs kvs → IsKv C Z H (withoutH xs k) (dDel kvs k)
  | _, _, .nil => .nil
  | _, _, .cons (b := b) (k := k1) (dk := dk) i1 e r1 i2 t => by
    have ih := kv_del k t
    unfold withoutH dDel at *
    rw [List.filter_cons, List.filter_cons]
    by_cases q : k1 = k
    · subst q
      simp only [e]
      simpa using ih
    · have q' : ¬ (keyOf dk = some k) := fun z => q (Option.some.inj (e.symm.trans z))
      simp only [q, q', ne_eq, not_false_eq_true, decide_true, if_true]
      exact .cons i1 e r1 i2 ih
theorem kv_keys : ∀ {xs : List (NestedKey × Addr × Value)} {kvs : List (D × D)}, IsKv C Z H xs kvs → ∀ x ∈ xs, KeyIn C H x.1 x.2.1
  | _, _, .nil, _, h => by cases h
  | _, _, .cons i1 e _ _ t, x, h => by
    rcases List.mem_cons.mp h with rfl | h
    · exact keyIn_of i1 e
    · exact kv_keys t x h
theorem kv_get : ∀ {xs : List (NestedKey × Addr × Value)} {kvs : List (D × D)} {i : Nat} {p : D × D}, IsKv C Z H xs kvs → kvs[i]? = some p → ∃ k b u v, xs[i]? = some (k, b, u) ∧ Is C Z H (.ref b) p.1 ∧ keyOf p.1 = some k ∧ RelV v u ∧ Is C Z H v p.2
  | _, _, _, _, .nil, e => by simp at e
  | _, _, 0, _, .cons i1 e r1 i2 t, h => by
    simp at h
    subst h
    exact ⟨_, _, _, _, rfl, i1, e, r1, i2⟩
  | _, _, i + 1, _, .cons _ _ _ _ t, h => by
    obtain ⟨k, b, u, v, h1, h2⟩ := kv_get (i := i) t (by simpa using h)
    exact ⟨k, b, u, v, by simpa using h1, h2⟩
end

/-! ### the dict in the heap -/
def DicH (C : Cs) (H : Hp) (a : Addr) (xs : List (NestedKey × Addr × Value)) : Prop := ∃ o, H a = some (ExO a o) ∧ DicAt C a o xs ∧ ∀ x ∈ xs, KeyIn C H x.1 x.2.1
theorem exO_at {P : Program} {w : World} {H : Hp} {h : Heap} {a : Addr} {o : Obj} (ok : HOk P w H h) (e : H a = some (ExO a o)) : h.get? a = some o := by
  have q := ok a _ e
  exact q.1
theorem DicH.of {C : Cs} {Z : Hid} {H : Hp} {a : Addr} {kvs : List (D × D)} (i : Is C Z H (.ref a) (.dic kvs)) : ∃ xs, DicH C H a xs ∧ IsKv C Z H xs kvs ∧ ¬ Z a := by
  cases i with
  | dic z h1 h2 h3 => exact ⟨_, ⟨_, h1, h2, kv_keys h3⟩, h3, z⟩
theorem DicH.heap {C : Cs} {H : Hp} {h : Heap} {a : Addr} {xs : List (NestedKey × Addr × Value)} (d : DicH C H a xs) (ok : HOk C.P C.w H h) : (a == sysModules) = false ∧ xs.length ≤ sizeLine ∧ h.DictOfH (nestedKind C.P C.w) a xs := by
  obtain ⟨o, h1, ⟨h2, h3, h4, ⟨es, ep, h5, h6⟩, h7⟩, h8⟩ := d
  exact ⟨h2, h4, o, es, ep, exO_at ok h1, h3, h5, h6, fun x hx => h8 x hx h ok, h7⟩
/-- a dict written or made: tracked anew -/
theorem dic_new {C : Cs} {H H' : Hp} {h' : Heap} {a : Addr} {xs : List (NestedKey × Addr × Value)} (hs : (a == sysModules) = false) (hl : xs.length ≤ sizeLine) (d : h'.DictOfH (nestedKind C.P C.w) a xs) : ∃ o, DicAt C a o xs ∧ ObjOk C.P C.w H' h' a (ExO a o) ∧ h'.get? a = some o := by
  obtain ⟨o, es, ep, ho, hc, hd, he, hk, hn⟩ := d
  exact ⟨o, ⟨hs, hc, hl, ⟨es, ep, hd, he⟩, hn⟩, ⟨ho, ⟨o, ho⟩, fun h1 h2 a b => b _ a⟩, ho⟩
theorem nested_room {P : Program} {w : World} {A : Around} (h : A.units + 8 < cLine) : (nestedKind P w).room A := h
section
variable {M : Mm} {X : Cx} {kk : Nat}
/-! ### x in d -/
def rInX (C : Cs) (neg : Bool) : R2 := fun x y H Q => ∃ a b xs k, x = .ref b ∧ y = .ref a ∧ DicH C H a xs ∧ KeyIn C H k b ∧ Q (.bl (if neg then !(atKey xs k).isSome else (atKey xs k).isSome)) H
theorem op_inX (hr : Room kk X.A) : OpR X (compareOp .In) (rInX (cs X M) false) := by
  intro pins s σ H x y v u Q I rx ry h
  obtain ⟨a, b, xs, k, rfl, rfl, hd, hk, q⟩ := h
  cases rx
  cases ry
  obtain ⟨h1, h2, h3⟩ := hd.heap I.hok
  have := hr.un
  exact wpAny_in_heap (knd := nestedKind X.prog X.w) (nested_room (by show X.A.units + 1 + 8 < cLine; omega)) (hk _ I.hok) h1 h3 ⟨.bl _, H, I.tok _, rfl, q⟩
def gInX : D → D → Option D := fun x y => match y with
  | .dic kvs => (keyOf x).map fun k => .bl (dAt kvs k).isSome
  | _ => gIn x y
def rInY (C : Cs) : R2 := fun x y H Q => rInAll C.K x y H Q ∨ rInX C false x y H Q
theorem op_inY (hr : Room kk X.A) : OpR X (compareOp .In) (rInY (cs X M)) := (op_inAll hr).or (op_inX (M := M) hr)
theorem rd_inY {C : Cs} : RD C (rInY C) gInX := by
  intro Z H x y dx dy d Q ok i1 i2 hg q
  cases dy with
  | dic kvs =>
    obtain ⟨k, e, e2⟩ := Option.map_eq_some_iff.mp hg
    subst e2
    obtain ⟨b, rfl⟩ := key_ref i1 e
    cases i2 with
    | dic z h1 h2 h3 =>
      refine .inr ⟨_, b, _, k, rfl, rfl, ⟨_, h1, h2, kv_keys h3⟩, keyIn_of i1 e, ?_⟩
      have := kv_some k h3
      simp only [Bool.false_eq_true, if_false, this]
      exact q _ H ok.refl (.bl _)
  | _ => exact .inl (rd_in Z H x y dx _ d Q ok i1 i2 hg q)

/-! ### d[k] -/
def rIxX (C : Cs) : R2 := fun x y H Q => ∃ a b xs k p v, x = .ref a ∧ y = .ref b ∧ DicH C H a xs ∧ KeyIn C H k b ∧ atKey xs k = some p ∧ RelV v p.2 ∧ Q v H
theorem ix_dic (hr : Room kk X.A) : IxR X (rIxX (cs X M)) := by
  intro value slice pins s σ H x y v u Q I rx ry h hs
  obtain ⟨a, b, xs, k, p, w, rfl, rfl, hd, hk, hp, rw', q⟩ := h
  cases rx
  cases ry
  obtain ⟨h1, h2, h3⟩ := hd.heap I.hok
  have := hr.un
  exact tail_any h3.typeIs slot_dict_getitem.lookup (wpAny_getItem_heap (knd := nestedKind X.prog X.w) (nested_room (by show X.A.units + 1 + 8 < cLine; omega)) (hk _ I.hok) h3 hp ⟨w, H, I.tok _, rw', q⟩) hs
def gIxX : D → D → Option D
  | .dic kvs, x => (keyOf x).bind fun k => dAt kvs k
  | x, y => gIx x y
theorem de_ixX {a b : Expr} {fa fb : En → Option D} {pos : Pos} (hr : Room kk X.A) (ha : DE M X a fa) (hb : DE M X b fb) (hs : PlainIx b := by intro _ _; rfl) : DE M X (.Subscript a b pos) (f2 gIxX fa fb) := by
  refine PE.imp (pe_ix ((ix_tup.or ix_list).or (ix_dic (M := M) hr)) ha hb hs) fun σ H Q h => ?_
  refine t2_imp (fun Z H x y dx dy d Q ok i1 i2 hg q => ?_) h
  cases dx with
  | tup ds =>
    cases dy with
    | int i =>
      cases i1 with
      | tup z hS hA hl =>
        cases i2
        obtain ⟨v, hv, is⟩ := hA.at hg
        exact .inl (.inl ⟨_, _, i, v, rfl, rfl, .inl (.inl hS), hv, q v H ok.refl is⟩)
    | _ => cases hg
  | lst ds =>
    cases dy with
    | int i =>
      cases i1 with
      | lst z hS hA hl =>
        cases i2
        obtain ⟨v, hv, is⟩ := hA.at hg
        exact .inl (.inr ⟨_, _, i, v, rfl, rfl, .inl (.inl hS), hv, q v H ok.refl is⟩)
    | _ => cases hg
  | dic kvs =>
    obtain ⟨k, e, e2⟩ := Option.bind_eq_some_iff.mp hg
    obtain ⟨b', rfl⟩ := key_ref i2 e
    cases i1 with
    | dic z h1 h2 h3 =>
      obtain ⟨b2, u, v, e3, r, i3⟩ := (kv_at k h3).2 d e2
      exact .inr ⟨_, b', _, k, _, v, rfl, rfl, ⟨_, h1, h2, kv_keys h3⟩, keyIn_of i2 e, e3, r, q v H ok.refl i3⟩
  | _ => cases dy <;> cases hg

/-! ### len(d) -/
theorem len_raw {A : Around} {E : Value → Shared → Prop} {s : Shared} {d : Addr} {es : Array DictEntry} {ep : Nat} {Q : Value → Shared → Prop} (hd : (d == sysModules) = false) (hm : s.heap.DictRaw d es ep) (hfit : (es.size : Int) < 2 ^ 63)
    (h : Q (.int es.size (s.toks + 1)) { s with toks := s.toks + 1 + 1 }) : wpAny (model X.prog X.w) A (call (.builtin "len") [.ref d]) Q E s := by
  refine Calls.call_function_entry kind_len plain_len entry_len (args_len1 _) ?_
  unfold Builtin.«len»
  refine wpAny_bind (m := oneArg "len" _) (wpAny_pure ?_)
  refine wpAny_bind (m := callSpecial? (.ref d) (Str.ofString "__len__")) (wpAny_callSpecial?_slot (name := Str.ofString "__len__") hm.typeIs F.slot_dict_len
    (call_meetsIn F.slot_dict_len hm.typeIs F.entry_dict_len (F.args_dict_len_1 _) (meets_dict_len_raw d hd) ⟨es, ep, hm, ?_⟩))
  show wpAny _ _ _ _ _ { s with toks := s.toks + 1 }
  refine wpAny_bind (wpAny_holding (wpAny_pure ?_))
  refine wpAny_bind (wpAny_letGo ?_)
  show wpAny _ _ (if ((es.size : Nat) : Int) < 0 then _ else _) _ _ _
  rw [if_neg (by omega)]
  show wpAny _ _ (if ((es.size : Nat) : Int) ≥ 2 ^ 63 then _ else _) _ _ _
  rw [if_neg (by omega)]
  exact wpAny_bind (wpAny_mkInt (wpAny_pure ⟨_, rfl, h⟩))
def rLenX (C : Cs) : List V → Hp → VK → Prop := fun xs H Q => ∃ a ys, xs = [V.ref a] ∧ DicH C H a ys ∧ Q (.int ys.length) H
theorem call_lenX : CallR X (.builtin "len") (rLenX (cs X M)) := by
  intro pins s σ H xs us Q I r h
  obtain ⟨a, ys, rfl, hd, q⟩ := h
  obtain ⟨u, rfl, ru⟩ := vals1 r
  cases ru
  obtain ⟨h1, h2, h3⟩ := hd.heap I.hok
  obtain ⟨es, ep, hr, hs, _⟩ := h3.raw
  have hn := line63
  exact len_raw h1 hr (by rw [hs]; omega) ⟨.int ys.length, H, I.tok _, ⟨s.toks + 1, by rw [hs]⟩, q⟩
def gLenX : List D → Option D
  | [.dic kvs] => some (.int kvs.length)
  | ds => gLen ds
def rLenY (C : Cs) : List V → Hp → VK → Prop := fun xs H Q => rLenAll C.K xs H Q ∨ rLenX C xs H Q
theorem call_lenY : CallR X (.builtin "len") (rLenY (cs X M)) := (call_lenAll).or (call_lenX (M := M))
theorem rc_lenY {C : Cs} : RC C (rLenY C) gLenX := by
  intro Z H vs ds d Q ok hA hg q
  unfold gLenX at hg
  split at hg
  · cases hg
    cases hA with
    | cons h t =>
      cases t
      cases h with
      | dic z h1 h2 h3 =>
        refine .inr ⟨_, _, rfl, ⟨_, h1, h2, kv_keys h3⟩, ?_⟩
        rw [kv_len h3]
        exact q _ H ok.refl (.int _)
  · exact .inl (rc_len Z H vs _ d Q ok hA hg q)
end
end Dx
/-! Dicts with tuple keys: comprehensions, walks over items. -/
namespace Dx
open PySem PySem.Spec PyProof.Rows L2

/-! ### the items of a dict, walked -/
def ItX (d : Addr) (o : Obj) (xs : List (NestedKey × Addr × Value)) : It where
  go := fun i H => H d = some (ExO d o) ∧ i < xs.length
  yld := fun i H x H' => ∃ T k b u v, xs[i]? = some (k, b, u) ∧ RelV v u ∧ x = .ref T ∧ H T = none ∧ H' = upd H T (.tup [.ref b, v])
  stop := fun i H => H d = some (ExO d o) ∧ xs.length ≤ i
section
variable {P : Program} {w : World} {K : PySem.W.Frag} {d : Addr} {o : Obj} {es : Array DictEntry} {ep : Nat}
theorem turn_itX {C : Cs} (eP : C.P = P) (eW : C.w = w) {xs : List (NestedKey × Addr × Value)} {elts : List Expr} {kk : Nat} {tpos : Pos} (it : Addr) (hx : o.ExactDict) (hod : o.data = .dict es ep) (he : es.toList = xs.map (entryOfKey (nestedKind P w)))
    (hv : ∀ (i : Nat) (k : NestedKey) (b : Addr) (u : Value), xs[i]? = some (k, b, u) → ∃ v : V, RelV v u) :
    Turn P w K (.Tuple elts kk tpos) (ItX d o xs) [it] it (fun i h => ∃ ok ov, IsItemIter h it d i es.size ep ok ov) where
  mem := List.mem_singleton.mpr rfl
  obj := fun i h st b hb => by
    cases List.mem_singleton.mp hb
    obtain ⟨ok, ov, e⟩ := st
    exact ⟨_, e, fun v z => nomatch z⟩
  keep := fun i h h' st k => by
    obtain ⟨ok, ov, e⟩ := st
    exact ⟨ok, ov, k it (List.mem_singleton.mpr rfl) _ e⟩
  item := by
    intro X hP hw hK hc i pins s σ H E I hf st hg
    subst hP hw hK
    obtain ⟨hd, hi⟩ := hg
    obtain ⟨ok, ov, hit⟩ := st
    have hsz : es.size = xs.length := size_of_entries he
    have hi2 : i < es.size := by omega
    obtain ⟨⟨k, b, u⟩, hxi⟩ : ∃ p, xs[i]? = some p := ⟨xs[i], List.getElem?_eq_getElem hi⟩
    obtain ⟨v, ru⟩ := hv i k b u hxi
    have hent : es[i] = entryOfKey (nestedKind X.prog X.w) (k, b, u) := by
      have q := entry_at he i
      rw [hxi, Array.getElem?_eq_getElem hi2] at q
      exact Option.some.inj q
    have hlt : it < s.heap.objs.size := Heap.lt_size hit
    refine wpAny_pyNext_items_item_raw hit ⟨o, exO_at I.hok hd, hx, hod⟩ hi2 fun h' ho hT hz hk => ?_
    rw [hent] at ho hT
    refine ⟨_, rfl, wpAny_letOwnedTupleGo_items (s := { s with heap := h' }) ho fun g he' sb => ?_⟩
    have hT2 : g.get? s.heap.objs.size = some { cls := .type "tuple", data := .seq #[.ref b, u] } := (sb.2 _ (Nat.ne_of_gt hlt)).trans hT
    have new : ObjOk X.prog X.w (upd H s.heap.objs.size (.tup [.ref b, v])) g s.heap.objs.size (.tup [.ref b, v]) :=
      ⟨(by show 2 ≤ sizeLine; decide), [.ref b, u], .cons rfl (.cons ru .nil), ⟨_, hT2, rfl, _, rfl⟩⟩
    have I1 := I.turnedNew (t' := s.toks) (ch := [it]) (h' := g) (fun c oc hc e => (sb.2 c (fun z => hc (List.mem_singleton.mpr z))).trans (hk c oc (fun z => hc (List.mem_singleton.mpr z)) e)) hf (Nat.le_refl _) new
    refine ⟨.ref s.heap.objs.size, _, I1, rfl, ⟨_, k, b, u, v, hxi, ru, rfl, I.hok.fresh (Nat.le_refl _), rfl⟩, ⟨_, _, he'⟩, fun c hc => ?_⟩
    cases List.mem_singleton.mp hc
    rw [upd_ne (Nat.ne_of_lt hlt)]
    exact (hf it (List.mem_singleton.mpr rfl)).1
  done := by
    intro X hP hw hK hc i pins s σ H E I hf st hg
    subst hP hw hK
    obtain ⟨hd, hi⟩ := hg
    obtain ⟨f0, f1, f2, f3, f4, f5⟩ := hf it (List.mem_singleton.mpr rfl)
    obtain ⟨ok, ov, hit⟩ := st
    have hsz : es.size = xs.length := size_of_entries he
    exact wpAny_pyNext_items_end_raw (I.ok.hd hc) hit ⟨o, exO_at I.hok hd, hx, hod⟩ (by omega) fun h' eb => ⟨rfl, I.turned (t' := s.toks) (fun b ob hb e => eb b ob hb e) f0 f1 f3 f4 f5⟩
  self := fun A i s Q E st h => by
    obtain ⟨ok, ov, hit⟩ := st
    exact wpAny_pyIter_itemiter hit h
end
/-- pairs as data -/
def kvD (kvs : List (D × D)) : List D := kvs.map fun p => .tup [p.1, p.2]
def iItemsX (f : En → Option D) : En → Option (List D) := fun δ => (f δ).bind fun d => match d with
  | .dic kvs => some (kvD kvs)
  | _ => none
theorem walkD_items {C : Cs} {Z : Hid} {H : Hp} {a : Addr} {o : Obj} {xs : List (NestedKey × Addr × Value)} {kvs : List (D × D)} (ok : Ok C Z H) (z : ¬ Z a) (hS : H a = some (ExO a o)) (hl : xs.length ≤ sizeLine) (hA : IsKv C Z H xs kvs) : WalkD C Z (ItX a o xs) H (kvD kvs) := by
  have hlen : (kvD kvs).length = xs.length := by unfold kvD; rw [List.length_map, kv_len hA]
  refine ⟨by omega, ?_⟩
  rw [hlen]
  refine ⟨fun i H1 hi g => ⟨g.ex a _ z hS exO_ne, hi⟩, fun H1 g => ⟨g.ex a _ z hS exO_ne, Nat.le_refl _⟩, fun i H1 x H2 hi g y => ?_⟩
  obtain ⟨T, k, b, u, v, hxi, ru, rfl, hT0, rfl⟩ := y
  have hi2 : i < kvs.length := by rw [← kv_len hA]; exact hi
  obtain ⟨k', b', u', v', h1, i1, e1, r1, i2⟩ := kv_get hA (List.getElem?_eq_getElem hi2)
  rw [hxi] at h1
  cases h1
  have ev : v = v' := RelV.inj ru r1
  subst ev
  have gn : Go C H1 (upd H1 T (.tup [.ref b, v])) := ⟨ex_new hT0, g.tab.ext fun a w e => by
    rw [upd_ne (ne_of_none e hT0)]
    exact e⟩
  refine ⟨gn, .tup [kvs[i].1, kvs[i].2], ?_, fun Z' hz hz2 => ?_⟩
  · unfold kvD
    rw [List.getElem?_map, List.getElem?_eq_getElem hi2]
    rfl
  · exact .tup (fun z => hz2 T z hT0) upd_same (.cons ((i1.walk g.ex hz).go gn) (.cons ((i2.walk g.ex hz).go gn) .nil)) (by show 2 ≤ sizeLine; decide)
theorem kv_vals {C : Cs} {Z : Hid} {H : Hp} : ∀ {xs : List (NestedKey × Addr × Value)} {kvs : List (D × D)}, IsKv C Z H xs kvs → ∀ (i : Nat) (k : NestedKey) (b : Addr) (u : Value), xs[i]? = some (k, b, u) → ∃ v : V, RelV v u
  | _, _, .nil, i, k, b, u, h => by simp at h
  | _, _, .cons _ _ r _ t, 0, k, b, u, h => by
    simp at h
    obtain ⟨_, _, rfl⟩ := h
    exact ⟨_, r⟩
  | _, _, .cons _ _ _ _ t, i + 1, k, b, u, h => kv_vals t i k b u (by simpa using h)
section
variable {M : Mm} {X : Cx} {pos : Pos}
theorem di_items {e : Expr} {f : En → Option D} {elts : List Expr} {kk : Nat} {tpos apos cpos : Pos} (he : DE M X e f) (hbase : attributeBase e "items" X.env (eval e X.env) = eval e X.env := by rfl) (hline : (apos.endLine == cpos.line) = true := by rfl) :
    DI M X (.Tuple elts kk tpos) (.Call (.Attribute e "items" apos) [] [] cpos) (iItemsX f) := by
  refine ⟨fun pins s σ H R I h => ?_⟩
  obtain ⟨Z, δ, ds, ok, en, hf, q⟩ := h
  obtain ⟨d, hd, hf⟩ := Option.bind_eq_some_iff.mp hf
  cases d with
  | dic kvs =>
    cases hf
    refine wpAny_Call_method (T := "dict") (id := "dict.items") hbase rfl hline F.plainAttrs_dict F.slot_dict_items F.type_dict_items (thn (he.run pins s σ H (fun v H1 => Go (cs X M) H H1 ∧ Is (cs X M) Z H1 v (.dic kvs)) I ⟨Z, δ, .dic kvs, ok, en, hd, fun v H1 g1 i1 => ⟨g1, i1⟩⟩) fun u s1 ⟨x, H1, I1, rx, g1, i1⟩ => ?_)
    cases i1 with
    | @dic a o xs _ z h1 h2 h3 =>
      cases rx
      obtain ⟨hs, hx, hl, ⟨es, ep, hod, hes⟩, hn⟩ := h2
      have hraw : s1.heap.DictRaw a es ep := ⟨o, exO_at I1.hok h1, hx, hod⟩
      refine ⟨hraw.typeIs, fun a' ea => by cases ea; exact ⟨o, exO_at I1.hok h1, hx.2.1⟩, ?_⟩
      have I2 : Inv X pins σ H1 { s1 with heap := s1.heap.push { cls := .type "dict_items", data := .fields #[.ref a] } } := I1.kept (t' := s1.toks) fun b ob q => Heap.get?_push_of_some _ q
      have fin : wpAny (model X.prog X.w) X.A (pyIter (.ref s1.heap.objs.size)) (PIE X pins σ (.Tuple elts kk tpos) R) X.xe { s1 with heap := s1.heap.push { cls := .type "dict_items", data := .fields #[.ref a] } } := by
        refine wpAny_pyIter_items_raw (d := a) ⟨_, Heap.get?_push_size _ rfl, rfl, rfl⟩ (hraw.push _) (pi_one (tk := s1.toks) I2 _ (turn_itX (C := cs X M) (es := es) (ep := ep) rfl rfl _ hx hod hes (kv_vals h3)) ⟨.none, .none, ?_⟩ (q _ H1 g1 (walkD_items (ok.go g1) z h1 hl h3)))
        exact Heap.get?_push_size _ rfl
      show wpAny _ _ (callWith cpos (.builtin "dict.items") [.ref a] [] []) _ X.xe s1
      exact method_meetsIn F.slot_dict_items F.entry_dict_items rfl (PySem.evalArgs_none ⟨rfl, hraw.typeIs, F.args_dict_items_1 _, _, meets_dict_items_raw a hs, ⟨es, ep, hraw⟩, fin⟩)
  | _ => cases hf
end
end Dx
/-! Dict comprehensions whose keys are tuples. -/
namespace Dx
open PySem PySem.Spec PyProof.Rows L2

def emptyD : Obj := { cls := .type "dict", data := .dict #[] }
theorem dicAt_empty {C : Cs} {a : Addr} (h : (a == sysModules) = false) : DicAt C a emptyD [] := ⟨h, ⟨rfl, rfl, rfl⟩, Nat.zero_le _, ⟨#[], 0, rfl, rfl⟩, List.nodup_nil⟩
/-- the walk's reading: W the invariant told to each turn; D the dict that grows -/
def tDcX (C : Cs) (wi : TI) (g : TG) (tk tv : TE) (vs : List Nat) : TE := fun σ H Q => wi σ H fun J H1 => ∀ Dl, H1 Dl = none → DicAt C Dl emptyD [] → ∃ W : Nat → Nat → Hp → Prop, (∃ m, W 0 m (upd H1 Dl (ExO Dl emptyD))) ∧ ∀ i m H, W i m H →
  (J.stop i H ∧ Q (.ref Dl) H) ∨ (J.go i H ∧ ∃ Nx : Hp → Prop, (∀ H', Nx H' → ∃ m', m' < m ∧ W (i + 1) m' H') ∧ ∀ x H', J.yld i H x H' → g x (L2.wipe σ vs) H' fun σ2 H2 => L2.wipe σ2 vs = L2.wipe σ vs ∧
    tk σ2 H2 fun y H4 => tv σ2 H4 fun z H5 => ∃ o xs b k, y = V.ref b ∧ H5 Dl = some (ExO Dl o) ∧ DicAt C Dl o xs ∧ (∀ x ∈ xs, KeyIn C H5 x.1 x.2.1) ∧ KeyIn C H5 k b ∧ xs.length < sizeLine ∧
      ∀ o' u, RelV z u → DicAt C Dl o' (storedH xs k b u) → Nx (upd H5 Dl (ExO Dl o')))
section
variable {M : Mm} {X : Cx} {kk : Nat}
/-- the store of a turn -/
theorem dcx_set (hr : Room kk X.A) {Y : Cx} (eP : Y.prog = X.prog) (eW : Y.w = X.w) {A : Around} (hA : A.units + 8 < cLine) {pins : List (Addr × Obj)} {σ : L2.St} {H : Hp} {s : Shared} {E : Value → Shared → Prop} {Dl b : Addr} {o : Obj} {xs : List (NestedKey × Addr × Value)} {k : NestedKey} {z : V} {r : Value} {Q : Unit → Shared → Prop} (I : Inv Y pins σ H s) (hD : H Dl = some (ExO Dl o)) (hd : DicAt (cs X M) Dl o xs)
    (hks : ∀ x ∈ xs, KeyIn (cs X M) H x.1 x.2.1) (hk : KeyIn (cs X M) H k b) (hz : xs.length < sizeLine) (rz : RelV z r)
    (h : ∀ o' s', DicAt (cs X M) Dl o' (storedH xs k b r) → Inv Y pins σ (upd H Dl (ExO Dl o')) s' → Q () s') : wpAny (model X.prog X.w) A (dictSet Dl (.ref b) r) Q E s := by
  have okH : HOk X.prog X.w H s.heap := by rw [← eP, ← eW]; exact I.hok
  have hH : DicH (cs X M) H Dl xs := ⟨o, hD, hd, hks⟩
  obtain ⟨h1, h2, h3⟩ := hH.heap okH
  refine wpAny_dictSet_heap (knd := nestedKind X.prog X.w) (nested_room hA) (hk _ okH) h3 (fun h' dd hs => ?_) (Nat.le_of_lt hz)
  have hl : (storedH xs k b r).length ≤ sizeLine := by
    have := storedH_length xs k b r
    omega
  obtain ⟨o', d', ob, ho'⟩ := dic_new (C := cs X M) (H := H) (H' := upd H Dl (ExO Dl emptyD)) h1 hl dd
  refine h o' _ d' (d_write I (by rw [hD]; exact True.intro) hs ⟨o', ho'⟩ ?_)
  exact ⟨ho', ⟨o', ho'⟩, fun g1 g2 a b => b _ a⟩
theorem dcx_core {pins : List (Addr × Obj)} {s : Shared} {σ : L2.St} {H : Hp} {Q : VK} {kx vx tg iter : Expr} {scope : Scope} {own : List (Str × Nat)} {pos pos' : Pos} {wi : TI} {g : TG} {tk tv : TE} {use : Option (Value → Sem Unit)} {Qf : Value → Shared → Prop}
    (hr : Room kk X.A) (hc : X.calm = true) (hN : X.N.Nodup) (I : Inv X pins σ H s) (hi : PI X tg iter wi) (ok : BlkOk X.N X.env.scope scope own)
    (hg : ∀ (s : Shared) (H : Hp) (C : Addr) (cl : List (Str × Addr)) (fp : List Addr), PG (X.blk s H scope (compEnvC scope cl C X.env) fp) tg g)
    (hk : ∀ (s : Shared) (H : Hp) (C : Addr) (cl : List (Str × Addr)) (fp : List Addr), PE (X.blk s H scope (compEnvC scope cl C X.env) fp) kx tk)
    (hv : ∀ (s : Shared) (H : Hp) (C : Addr) (cl : List (Str × Addr)) (fp : List Addr), PE (X.blk s H scope (compEnvC scope cl C X.env) fp) vx tv) (hs : ∀ x, foldedSetIterable iter X.env x = pure x)
    (h : tDcX (cs X M) wi g tk tv (own.map (·.2)) σ H Q)
    (fin : ∀ D C s' m H', Inv X pins σ H' s' → Q (.ref D) H' → s'.heap.Ns C m → FpOk X pins H' C → compPost (model X.prog X.w) X.A X.xe use Qf (.ref D) C (.ok .next) s') :
    wpAny (model X.prog X.w) X.A (comprehension (.DictComp kx vx [⟨tg, iter, [], 0⟩] scope pos) scope X.env pos' newDict false (eval iter X.env) use) Qf X.xe s := by
  have free : ∀ y ∈ scope.names, y.2 = .free → ∃ c, X.env.cells.lookup y.1 = some c := fun y hy e =>
    (ok.free y hy e).elim (fun k => I.ok.has _ (.inl k)) fun k => I.ok.has _ (.inr k)
  refine wpAny_comprehension_free (use := use) rfl hs (closure_ok free) ok.kind (fun y hy e => by rw [ok.uniq y hy, e]) (thn (hi.run pins s σ H _ I h) fun xv s1 hx => thn hx fun itv s2 it2 => ?_)
  obtain ⟨it, fp, tn, J, H2, rfl, I2, T, st2, f2, q⟩ := it2
  refine wpAny_newObj_type (newEnv_comp ?_)
  generalize hDl : s2.heap.objs.size = Dl
  have free2 : H2 Dl = none := I2.hok.fresh (Nat.le_of_eq hDl)
  have noMod : (Dl == sysModules) = false := by
    rw [← hDl]
    exact beq_eq_false_iff_ne.mpr (Nat.ne_of_gt I2.big)
  obtain ⟨W, ⟨m0, w0⟩, turn⟩ := q Dl free2 (dicAt_empty noMod)
  generalize es3 : ({ s2 with heap := s2.heap.push { cls := .type "dict", data := .dict #[] } } : Shared) = s3
  have push3 : s3.heap = s2.heap.push { cls := .type "dict", data := .dict #[] } := by rw [← es3]
  have I3 : Inv X pins σ (upd H2 Dl (ExO Dl emptyD)) s3 := by
    rw [← es3]
    refine I2.laid (t' := s2.toks) (fun b o e => Heap.get?_push_of_some _ e) (Nat.le_of_eq hDl) ?_
    have here : (s2.heap.push { cls := .type "dict", data := .dict #[] }).get? Dl = some emptyD := by
      rw [← hDl]
      exact Heap.get?_push_size _ rfl
    exact ⟨here, ⟨_, here⟩, fun g1 g2 a b => b _ a⟩
  have below : ∀ b ∈ fp, b < s2.heap.objs.size := fun b hb => (T.obj _ _ st2 b hb).elim fun o e => Heap.lt_size e.1
  have f3 : ∀ b ∈ fp, FpOk X pins (upd H2 Dl (ExO Dl emptyD)) b ∧ b < s3.heap.objs.size := fun b hb => by
    have lt := below b hb
    refine ⟨⟨?_, (f2 b hb).2⟩, ?_⟩
    · rw [upd_ne (by rw [← hDl]; exact Nat.ne_of_lt lt)]
      exact (f2 b hb).1
    · rw [push3, Heap.size_push]
      exact Nat.lt_succ_of_lt lt
  have st3 : tn 0 s3.heap := T.keep _ _ _ st2 fun b _ o e => by
    rw [push3]
    exact Heap.get?_push_of_some _ e
  have I4 := block_start I3 ok hN f3
  have pg := hg s3 (upd H2 Dl (ExO Dl emptyD)) s3.heap.objs.size (cellsFrom (s3.heap.objs.size + 1) scope.names (cloFrom X.env.cells scope.names [])) fp
  have pk := hk s3 (upd H2 Dl (ExO Dl emptyD)) s3.heap.objs.size (cellsFrom (s3.heap.objs.size + 1) scope.names (cloFrom X.env.cells scope.names [])) fp
  have pv := hv s3 (upd H2 Dl (ExO Dl emptyD)) s3.heap.objs.size (cellsFrom (s3.heap.objs.size + 1) scope.names (cloFrom X.env.cells scope.names [])) fp
  show codeAny _ _ (.compStart (.DictComp kx vx [⟨tg, iter, [], 0⟩] scope pos) 0 (.ref it) (.ref Dl) (compEnvC scope (cellsFrom (s3.heap.objs.size + 1) scope.names (cloFrom X.env.cells scope.names [])) s3.heap.objs.size X.env)) (compPost (model X.prog X.w) X.A X.xe use Qf (.ref Dl) s3.heap.objs.size) { s3 with heap := pushCells (s3.heap.push { cls := .type "dict", data := .dict #[] }) scope.names }
  have off : ∀ b ∈ fp, (upd H2 Dl (ExO Dl emptyD)) b = none := fun b hb => (f3 b hb).1.1
  generalize ece : compEnvC scope (cellsFrom (s3.heap.objs.size + 1) scope.names (cloFrom X.env.cells scope.names [])) s3.heap.objs.size X.env = ce at I4 pg pk pv ⊢
  have locC : ce.locals = s3.heap.objs.size := by subst ece; rfl
  generalize eH3 : upd H2 Dl (ExO Dl emptyD) = H3 at I3 I4 pg pk pv w0 off f3
  generalize es4 : ({ s3 with heap := pushCells (s3.heap.push { cls := .type "dict", data := .dict #[] }) scope.names } : Shared) = s4 at I4 ⊢
  have st4 : tn 0 s4.heap := T.keep _ _ _ st3 fun b _ o e => by
    rw [← es4]
    exact pushCells_keeps _ _ _ _ (Heap.get?_push_of_some _ e)
  have stat : ∀ {σ' : L2.St} {H' : Hp} {s' : Shared}, Inv (X.blk s3 H3 scope ce fp) [] σ' H' s' → (∀ b ∈ fp, H' b = none) → ∀ b ∈ fp, FpOk (X.blk s3 H3 scope ce fp) [] H' b := fun {σ' H' s'} I' hn b hb =>
    ⟨hn b hb, (I'.ok.exf b hb).1, I'.ok.exfs b hb, .inl hb, fun x c e => (I'.ok.exf b hb).2 x c e, fun p hp => absurd (show p ∈ ([] : List (Addr × Obj)) ++ [] from hp) (by simp)⟩
  have loop : codeAny (model X.prog X.w) X.A (.compLoop (.DictComp kx vx [⟨tg, iter, [], 0⟩] scope pos) 0 (.ref it) (.ref Dl) ce) (compPost (model X.prog X.w) X.A X.xe use Qf (.ref Dl) s3.heap.objs.size) s4 := by
    refine compLoop_anyD (fun n s' => ∃ i H', Inv (X.blk s3 H3 scope ce fp) [] (L2.wipe σ (own.map (·.2))) H' s' ∧ tn i s'.heap ∧ (∀ b ∈ fp, H' b = none) ∧ W i n H') ?_ m0 ⟨0, H3, I4, st4, off, w0⟩
    rintro n s5 ⟨i, H5, I5, st5, n5, w5⟩
    rcases turn i n H5 w5 with ⟨stop, qq⟩ | ⟨go, Nx, hNx, step⟩
    · have td := T.done (X.blk s3 H3 scope ce fp) rfl rfl rfl hc i [] s5 _ H5 (fun _ _ => False) I5 (stat I5 n5) st5 stop
      refine thnF td fun r s6 ⟨hr', I6⟩ => ?_
      subst hr'
      have I7 : Inv X pins σ H5 s6 := I3.call' (ch := fp) I6.os I6.base I6.hok I6.bare fun b hb => ⟨(f3 b hb).1.2.2.2.1, (f3 b hb).1.2.1, (f3 b hb).1.2.2.2.2.1, (f3 b hb).1.2.2.2.2.2⟩
      have nC : H5 s3.heap.objs.size = none := by
        rw [← locC]
        exact I6.free
      obtain ⟨m, hn, _⟩ := I6.loc
      have hn : s6.heap.Ns ce.locals m := hn
      rw [locC] at hn
      exact fin Dl s3.heap.objs.size s6 m H5 I7 qq hn (I3.fpOk (Nat.le_refl _) nC)
    · have ti := T.item (X.blk s3 H3 scope ce fp) rfl rfl rfl hc i [] s5 _ H5 (fun _ _ => False) I5 (stat I5 n5) st5 go
      refine thnF ti fun r s6 ⟨u, hr', h6⟩ => ?_
      subst hr'
      refine thnF h6 fun _ s7 ⟨x, H7, I7, r7, y7, st7, n7⟩ => ?_
      refine thnF (pg.run _ s7 _ H7 x u _ (I7.pinned (stat I7 n7) (T.obj _ _ st7)) r7 (step x H7 y7)) fun _ s8 ⟨σ8, H8, I8, hw8, q8⟩ => ?_
      refine wpAny_pure ?_
      simp only [if_true]
      refine thnF (pk.run _ s8 σ8 H8 _ I8 q8) fun z s10 ⟨yk, H10, I10, r10, q10⟩ => ?_
      refine thnF (pv.run _ s10 σ8 H10 _ I10 q10) fun z2 s11 ⟨yv, H11, I11, r11, o, xs, b, k, ek, hD11, hd11, hks, hkk, hz11, nx⟩ => ?_
      subst ek
      cases r10
      have := hr.un
      refine dcx_set (M := M) hr (Y := X.blk s3 H3 scope ce fp) rfl rfl (by omega) I11 hD11 hd11 hks hkk hz11 r11 fun o' s12 d12 I12 => ?_
      obtain ⟨m', hm, w'⟩ := hNx _ (nx o' z2 r11 d12)
      have pin' : ∀ b ∈ fp, ∀ o, s7.heap.get? b = some o → s12.heap.get? b = some o ∧ (upd H11 Dl (ExO Dl o')) b = none := fun b hb o e =>
        let z := I12.pin (b, o) (List.mem_append_right _ (List.mem_append_right _ (mem_pinsAt hb e)))
        ⟨z.1, z.2.1⟩
      have hl : (L2.wipe σ (own.map (·.2))).length = σ8.length := by rw [← hw8, wipe_length]
      refine ⟨m', hm, i + 1, _, (I12.unpinned (pins := [])).weak hl (fun j v e => ?_), T.keep _ _ _ st7 fun b hb o e => (pin' b hb o e).1, fun b hb => ?_, w'⟩
      · rw [← hw8] at e
        exact (wipe_some e).1
      · obtain ⟨oo, e, _⟩ := T.obj _ _ st7 b hb
        exact (pin' b hb oo e).2
  exact codeAny_compStart_dict loop (T.self X.A 0 _ _ _ st4 loop)
theorem pe_dcx {kx vx tg iter : Expr} {scope : Scope} {own : List (Str × Nat)} {pos : Pos} {wi : TI} {g : TG} {tk tv : TE} (hr : Room kk X.A) (hc : X.calm = true) (hN : X.N.Nodup) (hi : PI X tg iter wi) (ok : BlkOk X.N X.env.scope scope own)
    (hg : ∀ (s : Shared) (H : Hp) (C : Addr) (cl : List (Str × Addr)) (fp : List Addr), PG (X.blk s H scope (compEnvC scope cl C X.env) fp) tg g)
    (hk : ∀ (s : Shared) (H : Hp) (C : Addr) (cl : List (Str × Addr)) (fp : List Addr), PE (X.blk s H scope (compEnvC scope cl C X.env) fp) kx tk)
    (hv : ∀ (s : Shared) (H : Hp) (C : Addr) (cl : List (Str × Addr)) (fp : List Addr), PE (X.blk s H scope (compEnvC scope cl C X.env) fp) vx tv) (hs : ∀ x, foldedSetIterable iter X.env x = pure x) :
    PE X (.DictComp kx vx [⟨tg, iter, [], 0⟩] scope pos) (tDcX (cs X M) wi g tk tv (own.map (·.2))) := by
  refine ⟨fun pins s σ H Q I h => ?_⟩
  rw [arm_eval_DictComp]
  refine dcx_core (M := M) hr hc hN I hi ok hg hk hv hs h fun D C s' m H' I' q hn f => ⟨m, hn, fun h'' sb => ?_⟩
  obtain ⟨f0, f1, f2, f3, f4, f5⟩ := f
  exact ⟨.ref D, H', I'.turned (t' := s'.toks) (fun b o hb e => (sb.2 b hb).trans e) f0 f1 f3 f4 f5, rfl, q⟩
end
/-! ### over data -/
/-- the dict that the turns make -/
def dcRun (en : D → Option En) (fk fv : En → Option D) : List D → List (D × D) → Option (List (D × D))
  | [], acc => some acc
  | x :: xs, acc => (en x).bind fun δ => (fk δ).bind fun dk => (fv δ).bind fun dv => (keyOf dk).bind fun k => dcRun en fk fv xs (dPut acc dk k dv)
def fDc (vs : List Nat) (fi : En → Option (List D)) (tf : D → En → Option En) (fk fv : En → Option D) : En → Option D := fun δ => (fi δ).bind fun ds => (dcRun (fun x => tf x (wipeE δ vs)) fk fv ds []).map .dic
theorem dPut_len (kvs : List (D × D)) (x : D) (k : NestedKey) (v : D) : (dPut kvs x k v).length ≤ kvs.length + 1 := by
  unfold dPut
  split <;> simp
theorem heap_with (p : Addr) (u : Obj) (h : u.isFreed = false) : ∃ g : Heap, g.get? p = some u := by
  have q := Heap.get?_push_size ({ objs := Array.replicate p default } : Heap) h
  have e : ({ objs := Array.replicate p default } : Heap).objs.size = p := by simp
  rw [e] at q
  exact ⟨_, q⟩
/-- a dict is no code object -/
theorem exO_code {p : Addr} {q : Str} {u : Obj} {es : Array DictEntry} {ep : Nat} (hd : u.data = .dict es ep) : ExO p u ≠ LamX.CodeO p q := fun z => by
  unfold ExO LamX.CodeO at z
  have z' := HO.ext.inj z
  obtain ⟨g, hg⟩ := heap_with p u (Obj.isFreed_of_dict hd)
  have e : (fun h : Heap => h.get? p = some u) g := hg
  rw [z'] at e
  obtain ⟨oc, vs, t, e1, e2, _⟩ := e
  rw [hg] at e1
  cases e1
  rw [hd] at e2
  cases e2
theorem ext_go {C : Cs} {H0 H : Hp} {p : Addr} {o : HO} {u : Obj} {es : Array DictEntry} {ep : Nat} (hp : H0 p = none) (g : Go C H0 H) (h : H p = some (ExO p u)) (hd : u.data = .dict es ep) : Go C H0 (upd H p o) := by
  refine ⟨fun b w e n => ?_, fun q hq => ?_⟩
  · rw [upd_ne (ne_of_none e hp)]
    exact g.ex b w e n
  · obtain ⟨ps, h1, h2, h3⟩ := g.tab q hq
    have n1 : q.1 ≠ p := fun z => by
      rw [z, h] at h1
      unfold ExO at h1
      cases h1
    refine ⟨ps, by rw [upd_ne n1]; exact h1, h2, fun pos cv hcv => ?_⟩
    obtain ⟨c, e1, e2⟩ := h3 pos cv hcv
    refine ⟨c, e1, ?_⟩
    rw [upd_ne (fun z => ?_)]
    · exact e2
    · rw [z, h] at e2
      exact exO_code hd (Option.some.inj e2)
theorem IsKv.mono' {C : Cs} {Z : Hid} {H H' : Hp} {xs : List (NestedKey × Addr × Value)} {kvs : List (D × D)} (e : ExZ Z H H') (h : IsKv C Z H xs kvs) : IsKv C Z H' xs kvs := IsKv.mono e kvs xs h
theorem IsKv.go {C : Cs} {Z : Hid} {H H' : Hp} {xs : List (NestedKey × Addr × Value)} {kvs : List (D × D)} (g : Go C H H') (h : IsKv C Z H xs kvs) : IsKv C Z H' xs kvs := IsKv.mono g.z kvs xs h
theorem Go.exO {C : Cs} {H H' : Hp} {a : Addr} {o : Obj} (g : Go C H H') (h : H a = some (ExO a o)) : H' a = some (ExO a o) := g.ex a _ h exO_ne
theorem dicAt_data {C : Cs} {a : Addr} {o : Obj} {xs : List (NestedKey × Addr × Value)} (h : DicAt C a o xs) : ∃ es ep, o.data = .dict es ep := by
  obtain ⟨_, _, _, ⟨es, ep, hd, _⟩, _⟩ := h
  exact ⟨es, ep, hd⟩
theorem dc_imp {C : Cs} {Z : Hid} {H0 H1 : Hp} {σ : L2.St} {δ : En} {ds : List D} {rs : List (D × D)} {J : It} {g : TG} {tf : D → En → Option En} {sl vs : List Nat} {fk fv : En → Option D} {Q : VK} {Dl : Addr} (ok : Ok C Z H1) (en : EnR C Z H1 σ δ) (g0 : Go C H0 H1) (w : WalkD C Z J H1 ds) (gt : GT C g tf sl) (hsl : ∀ i ∈ sl, i ∈ vs)
    (hf : dcRun (fun x => tf x (wipeE δ vs)) fk fv ds [] = some rs) (hlen : ds.length ≤ 100000) (hD : H1 Dl = none) (hd0 : DicAt C Dl emptyD []) (q : ∀ v H', Go C H0 H' → Is C Z H' v (.dic rs) → Q v H') :
    ∃ W : Nat → Nat → Hp → Prop, (∃ m, W 0 m (upd H1 Dl (ExO Dl emptyD))) ∧ ∀ i m H, W i m H →
      (J.stop i H ∧ Q (.ref Dl) H) ∨ (J.go i H ∧ ∃ Nx : Hp → Prop, (∀ H', Nx H' → ∃ m', m' < m ∧ W (i + 1) m' H') ∧ ∀ x H', J.yld i H x H' → g x (L2.wipe σ vs) H' fun σ2 H2 => L2.wipe σ2 vs = L2.wipe σ vs ∧
        tD C fk σ2 H2 fun y H4 => tD C fv σ2 H4 fun z H5 => ∃ o xs b k, y = V.ref b ∧ H5 Dl = some (ExO Dl o) ∧ DicAt C Dl o xs ∧ (∀ x ∈ xs, KeyIn C H5 x.1 x.2.1) ∧ KeyIn C H5 k b ∧ xs.length < sizeLine ∧
          ∀ o' u, RelV z u → DicAt C Dl o' (storedH xs k b u) → Nx (upd H5 Dl (ExO Dl o'))) := by
  let Z' : Hid := fun a => Z a ∨ a = Dl
  have okZ : ∀ {H : Hp} {o : Obj}, Go C H1 H → H Dl = some (ExO Dl o) → Ok C Z' H := fun {H o} g h => ⟨fun z hz => by
    rcases hz with hz | hz
    · exact (ok.go g).hid z hz
    · exact ⟨_, by rw [hz]; exact h, exO_ne⟩, g.tab⟩
  have hid1 : ∀ a, H1 a ≠ none → ¬ Z a → ¬ Z' a := fun a h1 h2 h3 => by
    rcases h3 with h3 | h3
    · exact h2 h3
    · rw [h3] at h1; exact h1 hD
  have notD : ¬ Z Dl := ok.notZ hD
  have enw : EnR C Z' H1 (L2.wipe σ vs) (wipeE δ vs) := by
    have e := en.wipe vs
    exact ⟨e.1, fun i d h => let ⟨v, a, b⟩ := e.2 i d h; ⟨v, a, Is.hide hid1 d v b⟩⟩
  have go0 : Go C H1 (upd H1 Dl (ExO Dl emptyD)) := ok.new hD
  refine ⟨fun i m H => m = ds.length - i ∧ i ≤ ds.length ∧ Go C H1 H ∧ ∃ o xs kvs, H Dl = some (ExO Dl o) ∧ DicAt C Dl o xs ∧ IsKv C Z' H xs kvs ∧ dcRun (fun x => tf x (wipeE δ vs)) fk fv (ds.drop i) kvs = some rs ∧ kvs.length ≤ i, ⟨ds.length, by simp, Nat.zero_le _, go0, emptyD, [], [], upd_same, hd0, .nil, by simpa using hf, Nat.le_refl _⟩, ?_⟩
  rintro i m H ⟨rfl, hi, g1, o, xs, kvs, hDl, hdat, hkv, hrun, hkl⟩
  by_cases hlt : i < ds.length
  · refine .inr ⟨w.2.goes i H hlt g1.gz, fun H' => i + 1 ≤ ds.length ∧ Go C H1 H' ∧ ∃ o xs kvs, H' Dl = some (ExO Dl o) ∧ DicAt C Dl o xs ∧ IsKv C Z' H' xs kvs ∧ dcRun (fun x => tf x (wipeE δ vs)) fk fv (ds.drop (i + 1)) kvs = some rs ∧ kvs.length ≤ i + 1,
      fun H' n => ⟨ds.length - (i + 1), by omega, rfl, n⟩, fun x H' y => ?_⟩
    obtain ⟨g2, d, hd, is⟩ := w.2.yields i H x H' hlt g1.gz y
    have okH := okZ g1 hDl
    have is' := is Z' hid1 fun a ha => let ⟨o, h, _⟩ := okH.hid a ha; by rw [h]; simp
    rw [List.drop_eq_getElem_cons hlt] at hrun
    have ed : ds[i] = d := by
      rw [List.getElem?_eq_getElem hlt] at hd
      exact Option.some.inj hd
    rw [ed] at hrun
    obtain ⟨δ1, e1, hrun⟩ := Option.bind_eq_some_iff.mp hrun
    obtain ⟨dk, e2, hrun⟩ := Option.bind_eq_some_iff.mp hrun
    obtain ⟨dv, e3, hrun⟩ := Option.bind_eq_some_iff.mp hrun
    obtain ⟨k, e4, hrun⟩ := Option.bind_eq_some_iff.mp hrun
    have okH' := okH.go g2
    have en1 : EnR C Z' H' (L2.wipe σ vs) (wipeE δ vs) := (enw.go g1).go g2
    refine gt Z' H' _ _ x d δ1 _ okH' en1 is' e1 fun σ2 en2 hw => ⟨by rw [hw vs hsl, wipe_wipe], Z', δ1, dk, okH', en2, e2, fun v4 H4 g4 i4 => ?_⟩
    refine ⟨Z', δ1, dv, okH'.go g4, en2.go g4, e3, fun v5 H5 g5 i5 => ?_⟩
    obtain ⟨b, rfl⟩ := key_ref i4 e4
    have hD5 : H5 Dl = some (ExO Dl o) := g5.exO (g4.exO (g2.exO hDl))
    have hkv5 : IsKv C Z' H5 xs kvs := ((hkv.go g2).go g4).go g5
    have i4' := i4.go g5
    have hxl := kv_len hkv5
    have hlim : (100000 : Nat) < sizeLine := by rw [sizeLine_eq]; decide
    refine ⟨o, xs, b, k, rfl, hD5, hdat, kv_keys hkv5, keyIn_of i4' e4, by omega, fun o' u ru hdat' => ⟨hlt, ?_, o', _, dPut kvs dk k dv, upd_same, hdat', ?_, hrun, ?_⟩⟩
    · obtain ⟨es, ep, hdd⟩ := dicAt_data hdat
      exact ext_go hD (((g1.trans g2).trans g4).trans g5) hD5 hdd
    · have ez : ExZ Z' H5 (upd H5 Dl (ExO Dl o')) := fun c oc hc h _ => by
        rw [upd_ne (fun z => hc (.inr z))]
        exact h
      exact (kv_put hkv5 i4' e4 ru i5).mono' ez
    · have := dPut_len kvs dk k dv
      omega
  · have e : i = ds.length := by omega
    subst e
    rw [List.drop_length] at hrun
    cases hrun
    exact .inl ⟨w.2.stops H g1.gz, q _ H (g0.trans g1) (.dic notD hDl hdat (IsKv.hide (fun a _ h z => h (.inl z)) _ _ hkv))⟩
/-- how many turns: few -/
def fDcX (vs : List Nat) (fi : En → Option (List D)) (tf : D → En → Option En) (fk fv : En → Option D) : En → Option D := fun δ => (fi δ).bind fun ds => if ds.length ≤ 100000 then (dcRun (fun x => tf x (wipeE δ vs)) fk fv ds []).map .dic else none
section
variable {M : Mm} {X : Cx} {n : Nat} {pos : Pos}
theorem de_dcX {kx vx tg iter : Expr} {scope : Scope} {own : List (Str × Nat)} {wi : En → Option (List D)} {g : TG} {tf : D → En → Option En} {sl : List Nat} {fk fv : En → Option D} (hr : Room n X.A) (hc : X.calm = true) (hN : X.N.Nodup) (hi : DI M X tg iter wi) (ok : BlkOk X.N X.env.scope scope own) (gt : GT (cs X M) g tf sl)
    (hg : ∀ (s : Shared) (H : Hp) (C : Addr) (cl : List (Str × Addr)) (fp : List Addr), PG (X.blk s H scope (compEnvC scope cl C X.env) fp) tg g)
    (hk : ∀ (s : Shared) (H : Hp) (C : Addr) (cl : List (Str × Addr)) (fp : List Addr), DE M (X.blk s H scope (compEnvC scope cl C X.env) fp) kx fk)
    (hv : ∀ (s : Shared) (H : Hp) (C : Addr) (cl : List (Str × Addr)) (fp : List Addr), DE M (X.blk s H scope (compEnvC scope cl C X.env) fp) vx fv)
    (hsl : ∀ i ∈ sl, i ∈ own.map (·.2) := by decide) (hs : ∀ x, foldedSetIterable iter X.env x = pure x := by intro _; rfl) :
    DE M X (.DictComp kx vx [⟨tg, iter, [], 0⟩] scope pos) (fDcX (own.map (·.2)) wi tf fk fv) := by
  refine PE.imp (pe_dcx (M := M) (tk := tD (cs X M) fk) (tv := tD (cs X M) fv) hr hc hN hi ok hg hk hv hs) fun σ H Q h => ?_
  obtain ⟨Z, δ, d, okk, en, hf, q⟩ := h
  obtain ⟨ds, h1, hf⟩ := Option.bind_eq_some_iff.mp hf
  by_cases hl : ds.length ≤ 100000
  · rw [if_pos hl] at hf
    obtain ⟨rs, h2, h3⟩ := Option.map_eq_some_iff.mp hf
    subst h3
    exact ⟨Z, δ, ds, okk, en, h1, fun J H1 g1 w Dl hD hd0 => dc_imp (okk.go g1) (en.go g1) g1 w gt hsl h2 hl hD hd0 q⟩
  · rw [if_neg hl] at hf
    cases hf
end
end Dx
/-! Dicts with tuple keys: copies, lists of them, != {}. -/
namespace Dx
open PySem PySem.Spec PyProof.Rows L2

/-! ### many objects laid at once -/
theorem laid_many {X : Cx} {pins : List (Addr × Obj)} {σ : L2.St} {H H' : Hp} {s : Shared} {h' : Heap} {t' : Nat} (I : Inv X pins σ H s) (k : ∀ b u, s.heap.get? b = some u → h'.get? b = some u) (old : ∀ b, b < s.heap.objs.size → H' b = H b)
    (new : ∀ b o, s.heap.objs.size ≤ b → H' b = some o → ObjOk X.prog X.w H' h' b o) : Inv X pins σ H' { s with heap := h', toks := t' } := by
  have low : ∀ b u, H b = some u → H' b = some u := fun b u e => by rw [old b (I.hok.lt e)]; exact e
  refine I.un ⟨fun b u q _ _ _ => k b u q, fun b u q _ _ _ => ⟨u.slots, k b u q⟩, fun b u q n _ => ?_, fun b u q _ => ⟨u, k b u q⟩, fun b xs q => low b _ q, fun b u xs q => low b _ q, fun b ps q => ⟨#[], ?_⟩⟩ fun b o e => ?_
  · rw [old b (Heap.lt_size q)]
    exact n
  · rw [low b _ q]
    simp
  · by_cases hb : b < s.heap.objs.size
    · rw [old b hb] at e
      exact (I.hok b o e).stay (fun c v _ q => k c v q) (fun c q => low c _ q) fun c xs q => low c _ q
    · exact new b o (Nat.le_of_not_lt hb) e
theorem go_many {C : Cs} {H H' : Hp} {n : Nat} (tab : LamX.Tabs C.T H) (lt : ∀ b o, H b = some o → b < n) (old : ∀ b, b < n → H' b = H b) : Go C H H' := by
  have low : ∀ b u, H b = some u → H' b = some u := fun b u e => by rw [old b (lt b u e)]; exact e
  exact ⟨LamX.ExtN.of low, tab.ext fun a w e => low a w e⟩

/-! ### the keys that may stand in a copied dict -/
def uSets : List NestedKey := [[], [0], [1], [2], [3], [0, 1], [0, 2], [0, 3], [1, 2], [1, 3], [2, 3], [0, 1, 2], [0, 1, 3], [0, 2, 3], [1, 2, 3], [0, 1, 2, 3]].map fun (l : List Int) => .tup (l.map .num)
def uPairs : List NestedKey := uSets.flatMap fun k => [0, 1, 2, 3].map fun (i : Int) => .tup [k, .num i]
def uKeys : List NestedKey := uSets ++ uPairs
theorem hash_apart (w : World) : (uKeys.map (NestedKey.hash w)).Nodup := of_decide_eq_true (by kernel_rfl)
def uni (x : D) : Bool := match keyOf x with
  | some k => uKeys.contains k
  | none => false
theorem nodup_inj {α β : Type} {f : α → β} : ∀ {l : List α}, (l.map f).Nodup → ∀ a ∈ l, ∀ b ∈ l, f a = f b → a = b
  | [], _, a, ha, _, _, _ => by cases ha
  | x :: l, h, a, ha, b, hb, e => by
    rw [List.map_cons, List.nodup_cons] at h
    rcases List.mem_cons.mp ha with ea | ha
    · rcases List.mem_cons.mp hb with eb | hb
      · rw [ea, eb]
      · exact absurd (List.mem_map.mpr ⟨b, hb, by rw [← e, ea]⟩) h.1
    · rcases List.mem_cons.mp hb with eb | hb
      · exact absurd (List.mem_map.mpr ⟨a, ha, by rw [e, eb]⟩) h.1
      · exact nodup_inj h.2 a ha b hb e
theorem map_nodup {α β : Type} {f : α → β} : ∀ {l : List α}, l.Nodup → (∀ a ∈ l, ∀ b ∈ l, f a = f b → a = b) → (l.map f).Nodup
  | [], _, _ => List.nodup_nil
  | x :: l, h, inj => by
    rw [List.nodup_cons] at h
    rw [List.map_cons, List.nodup_cons]
    refine ⟨fun m => ?_, map_nodup h.2 fun a ha b hb => inj a (List.mem_cons_of_mem _ ha) b (List.mem_cons_of_mem _ hb)⟩
    obtain ⟨y, hy, e⟩ := List.mem_map.mp m
    have := inj y (List.mem_cons_of_mem _ hy) x (List.mem_cons_self ..) e
    subst this
    exact h.1 hy
theorem kv_hash {C : Cs} {Z : Hid} {H : Hp} {xs : List (NestedKey × Addr × Value)} {kvs : List (D × D)} (h : IsKv C Z H xs kvs) (u : kvs.all (fun p => uni p.1) = true) (n : (xs.map (·.1)).Nodup) : (xs.map fun x => (nestedKind C.P C.w).hash x.1).Nodup := by
  have mem : ∀ {xs : List (NestedKey × Addr × Value)} {kvs : List (D × D)}, IsKv C Z H xs kvs → kvs.all (fun p => uni p.1) = true → ∀ k ∈ xs.map (·.1), k ∈ uKeys := by
    intro xs kvs h
    induction xs generalizing kvs with
    | nil => intro _ k hk; cases hk
    | cons x xs ih =>
      intro u k hk
      cases h with
      | cons i1 e r i2 t =>
        rw [List.all_cons, Bool.and_eq_true] at u
        rw [List.map_cons] at hk
        rcases List.mem_cons.mp hk with rfl | hk
        · have q := u.1
          unfold uni at q
          simp only [e] at q
          simpa using q
        · exact ih t u.2 k hk
  have e : (xs.map fun x => (nestedKind C.P C.w).hash x.1) = (xs.map (·.1)).map (NestedKey.hash C.w) := by
    rw [List.map_map]
    rfl
  rw [e]
  exact map_nodup n fun a ha b hb q => nodup_inj (hash_apart C.w) a (mem h u a ha) b (mem h u b hb) q

/-! ### dict(d) -/
section
variable {prog : Program} {w : World} {K : Type} [DecidableEq K] {knd : HeapKind prog w K} {A : Around} {E : Value → Shared → Prop} {s : Shared}
theorem call_dict_copy {o : Addr} {more : List (K × Addr × Value)} {Q : Value → Shared → Prop} (hu : knd.room A.in1.in1) (hoS : (o == sysModules) = false) (ho : s.heap.DictOfH knd o more) (hty : ∀ h' : Heap, (∀ b oo, s.heap.get? b = some oo → h'.get? b = some oo) → ∀ x ∈ more, Shared.TypeIs { s with heap := h' } (.ref x.2.1) "tuple") (hap : (more.map fun x => knd.hash x.1).Nodup) (hsz : more.length ≤ sizeLine)
    (stay : ∀ h' : Heap, (∀ b oo, s.heap.get? b = some oo → h'.get? b = some oo) → ∀ x ∈ more, knd.is h' x.1 x.2.1)
    (h : ∀ h', h'.DictOfH knd s.heap.objs.size more → (∀ b oo, s.heap.get? b = some oo → h'.get? b = some oo) → Q (.ref s.heap.objs.size) { s with heap := h' }) :
    wpAny (model prog w) A (call (.type "dict") [.ref o]) Q E s := by
  refine callType_codes (Q₁ := fun obj s₁ => obj = .ref s.heap.objs.size ∧ s₁ = { s with heap := s.heap.push { cls := .type "dict", data := .dict #[] } }) F.kt_called_dict (F.kt_typeCall_dict_1 _) F.entry_dict_init (kt_code_dict_new _ ⟨rfl, rfl⟩) ?_
  rintro obj s₁ ⟨rfl, rfl⟩
  have k0 : ∀ b oo, s.heap.get? b = some oo → (s.heap.push { cls := .type "dict", data := .dict #[] }).get? b = some oo := fun b oo e => Heap.get?_push_of_some _ e
  have hnew : (s.heap.push { cls := .type "dict", data := .dict #[] }).DictOfH knd s.heap.objs.size [] := Heap.DictOfH.new s.heap
  have hn := ho.nodup
  have ho' : (s.heap.push { cls := .type "dict", data := .dict #[] }).DictOfH knd o more := by
    obtain ⟨oo, es, ep, h1, h2, h3, h4, h5, h6⟩ := ho
    exact ⟨oo, es, ep, k0 _ _ h1, h2, h3, h4, stay _ k0, h6⟩
  have hdo : s.heap.objs.size ≠ o := by
    obtain ⟨_, _, _, hg, _⟩ := ho
    exact fun e => absurd (Heap.lt_size hg) (by rw [e]; exact Nat.lt_irrefl _)
  refine ⟨hnew.typeIs, F.args_dict_init_2 _ _, ?_⟩
  unfold Builtin.«dict.__init__»
  refine wpAny_bind ?_
  unfold Builtin.Dict.selfAndRest
  refine wpAny_bind (wpAny_notOrdered_dict hnew.typeIs ?_)
  show wpAny _ _ (pure (s.heap.objs.size, [Value.ref o])) _ _ _
  refine wpAny_pure ?_
  show wpAny _ _ (Builtin.Dict.updateFrom "dict.__init__" s.heap.objs.size (.ref o) [] .none) _ _ _
  refine updateFrom_dictH (A := A.in1) .none hu hdo hoS hnew ho' (.inr ⟨fun x hx => hty _ k0 x hx, hap⟩) (by simpa using hsz) fun h' hd' _ hs' => ?_
  rw [storedAllH_nil_of_nodup more hn] at hd'
  exact ⟨rfl, h h' hd' fun b oo e => (hs'.2 b (Nat.ne_of_lt (Heap.lt_size e))).trans (k0 b oo e)⟩
end
section
variable {M : Mm} {X : Cx} {n : Nat}
theorem key_type {C : Cs} {h : Heap} {k : NestedKey} {b : Addr} (x : (nestedKind C.P C.w).is h k b) (s : Shared) (e : s.heap = h) : s.TypeIs (.ref b) "tuple" := nestedKind_stays.tuple (prog := C.P) (w := C.w) (k := k) (by rw [e]; exact x)
def rDictX (C : Cs) : List V → Hp → VK → Prop := fun vs H Q => ∃ a ys, vs = [V.ref a] ∧ DicH C H a ys ∧ (ys.map fun x => (nestedKind C.P C.w).hash x.1).Nodup ∧ ∀ p o, H p = none → DicAt C p o ys → Q (.ref p) (upd H p (ExO p o))
theorem call_dictX (hr : Room n X.A) : CallR X (.type "dict") (rDictX (cs X M)) := by
  intro pins s σ H vs us Q I r h
  obtain ⟨a, ys, rfl, hd, hh, q⟩ := h
  obtain ⟨u, rfl, ru⟩ := vals1 r
  cases ru
  obtain ⟨h1, h2, h3⟩ := hd.heap I.hok
  have := hr.un
  have st : ∀ h' : Heap, (∀ b oo, s.heap.get? b = some oo → h'.get? b = some oo) → ∀ x ∈ ys, (nestedKind X.prog X.w).is h' x.1 x.2.1 := fun h' k x hx => by
    obtain ⟨_, _, _, _, _, _, _, his, _⟩ := h3
    exact nestedKind_stays.stays (fun b o vs n e _ => k b o e) (his x hx)
  refine call_dict_copy (knd := nestedKind X.prog X.w) (nested_room (by show X.A.units + 1 + 1 + 8 < cLine; omega)) h1 h3 (fun h' k x hx => key_type (C := cs X M) (st h' k x hx) _ rfl) hh h2 st fun h' dd k => ?_
  have hs : (s.heap.objs.size == sysModules) = false := beq_eq_false_iff_ne.mpr (Ne.symm (Nat.ne_of_lt I.big))
  obtain ⟨o', d', ob, ho'⟩ := dic_new (C := cs X M) (H := H) (H' := upd H s.heap.objs.size (ExO s.heap.objs.size emptyD)) hs h2 dd
  exact ⟨.ref _, _, I.laid (t' := s.toks) (o := ExO s.heap.objs.size o') k (Nat.le_refl _) ⟨ho', ⟨o', ho'⟩, fun g1 g2 a b => b _ a⟩, rfl, q _ o' (I.hok.fresh (Nat.le_refl _)) d'⟩

/-! ### dict of a list of pairs -/
def pairsOf : List D → Option (List (D × D))
  | [] => some []
  | d :: ds => match d with
    | .tup [dk, dv] => (keyOf dk).bind fun _ => (pairsOf ds).map fun kvs => (dk, dv) :: kvs
    | _ => none
def dFold (kvs acc : List (D × D)) : List (D × D) := kvs.foldl (fun acc p => match keyOf p.1 with
  | some k => dPut acc p.1 k p.2
  | none => acc) acc
theorem kv_fold {C : Cs} {Z : Hid} {H : Hp} : ∀ {ps : List (NestedKey × Addr × Value)} {kvs : List (D × D)}, IsKv C Z H ps kvs → ∀ {xs : List (NestedKey × Addr × Value)} {acc : List (D × D)}, IsKv C Z H xs acc → IsKv C Z H (storedAllH xs ps) (dFold kvs acc)
  | _, _, .nil, _, _, h => h
  | _, _, .cons (k := k1) (dk := dk) (dv := dv) (kvs := kvs1) i1 e r i2 t, xs, acc, h => by
    have q := kv_put h i1 e r i2
    have ih := kv_fold t q
    have e2 : dFold ((dk, dv) :: kvs1) acc = dFold kvs1 (dPut acc dk k1 dv) := by
      unfold dFold
      rw [List.foldl_cons]
      simp only [e]
    rw [e2]
    exact ih
/-- the items of a list of pairs, as a dict's constructor sees them -/
theorem pairs_at {C : Cs} {Z : Hid} {H : Hp} {h : Heap} (ok : HOk C.P C.w H h) : ∀ (ds : List D) (vs : List V) (us : List Value) (kvs : List (D × D)), IsAll C Z H vs ds → Vals vs us → pairsOf ds = some kvs →
    ∃ (ps : List (NestedKey × Addr × Value)) (Ts : List Addr), IsKv C Z H ps kvs ∧ us = Ts.map Value.ref ∧ ps.length = us.length ∧ ∀ (j : Nat) (k : NestedKey) (b : Addr) (u : Value), ps[j]? = some (k, b, u) → ∃ T, Ts[j]? = some T ∧ PairAt h T (.ref b) u
  | [], _, _, _, i, r, e => by
    cases i; cases r; cases e
    exact ⟨[], [], .nil, rfl, rfl, fun j k b u h => by simp at h⟩
  | d :: ds, _, _, _, i, r, e => by
    cases i with
    | cons i1 i2 =>
      cases r with
      | cons r1 r2 =>
        unfold pairsOf at e
        split at e
        · rename_i dk dv
          obtain ⟨k, e1, e⟩ := Option.bind_eq_some_iff.mp e
          obtain ⟨kvs, e2, e3⟩ := Option.map_eq_some_iff.mp e
          subst e3
          obtain ⟨ps, Ts, h1, h2, h3, h4⟩ := pairs_at ok _ _ _ _ i2 r2 e2
          cases i1 with
          | @tup a ws _ z hS hA hl =>
            cases hA with
            | cons j1 hA =>
              cases hA with
              | cons j2 hA =>
                cases hA
                obtain ⟨b, rfl⟩ := key_ref j1 e1
                cases r1
                obtain ⟨_, its, rv, o, ho, hc, nn, hd⟩ := ok a _ hS
                cases rv with
                | cons rb rv =>
                  cases rv with
                  | cons ru rv =>
                    cases rv
                    cases rb
                    refine ⟨(k, b, _) :: ps, a :: Ts, .cons j1 e1 ru j2 h1, by rw [h2]; rfl, by simp [h3], fun j k' b' u' hj => ?_⟩
                    cases j with
                    | zero =>
                      simp at hj
                      obtain ⟨rfl, rfl, rfl⟩ := hj
                      exact ⟨a, rfl, .inl ⟨o, ho, hc, nn, hd⟩⟩
                    | succ j =>
                      obtain ⟨T, q1, q2⟩ := h4 j k' b' u' (by simpa using hj)
                      exact ⟨T, by simpa using q1, q2⟩
        · cases e
end
end Dx
/-! Dicts with tuple keys: dict of a list of pairs, lists of keys and of items, != {}, xs[::-1]. -/
namespace Dx
open PySem PySem.Spec PyProof.Rows L2
section
variable {M : Mm} {X : Cx} {n : Nat}
def rDictL (C : Cs) : List V → Hp → VK → Prop := fun vs H Q => ∃ a Z vs1 ds kvs, vs = [V.ref a] ∧ H a = some (.lst vs1) ∧ IsAll C Z H vs1 ds ∧ pairsOf ds = some kvs ∧ ds.length ≤ sizeLine ∧ ∀ p o ys, H p = none → DicAt C p o ys → IsKv C Z H ys (dFold kvs []) → Q (.ref p) (upd H p (ExO p o))
theorem call_dictL (hr : Room n X.A) : CallR X (.type "dict") (rDictL (cs X M)) := by
  intro pins s σ H vs us Q I r h
  obtain ⟨a, Z, vs1, ds, kvs, rfl, hS, hA, hp, hl, q⟩ := h
  obtain ⟨u, rfl, ru⟩ := vals1 r
  cases ru
  obtain ⟨hz, its, nn, rv, ho⟩ := I.hok a _ hS
  obtain ⟨ps, Ts, h1, h2, h3, h4⟩ := pairs_at (C := cs X M) I.hok ds vs1 its kvs hA rv hp
  have := hr.un
  have hTl : Ts.length = its.length := by rw [h2, List.length_map]
  have hP := PairArg.list (prog := X.prog) (w := X.w) a its.toArray (fun j => Ts.getD j 0) (ps.map fun x => (Value.ref x.2.1, x.2.2))
  have keys : ∀ x ∈ ps, (nestedKind X.prog X.w).is s.heap x.1 x.2.1 := fun x hx => kv_keys (C := cs X M) h1 x hx _ I.hok
  have hlen : its.length = ds.length := by rw [← rv.length, hA.length]
  refine call_dict_pairsH (knd := nestedKind X.prog X.w) (ps := ps) hP hr.hd (nested_room (by show X.A.units + 1 + 1 + 8 < cLine; omega)) ⟨⟨_, nn, ho, rfl, rfl, rfl⟩, ?_, fun j k v hj => ?_⟩ ⟨by rw [List.length_map], fun i key v hi => ?_⟩ (fun h' k x hx => ?_) (by rw [List.length_map]; omega) fun h' tk dd k => ?_
  · rw [List.size_toArray, List.length_map]
    omega
  · rw [List.getElem?_map] at hj
    obtain ⟨⟨k1, b1, u1⟩, hj1, hj2⟩ := Option.map_eq_some_iff.mp hj
    cases hj2
    obtain ⟨T, hT, hpa⟩ := h4 j k1 b1 u1 hj1
    have e : Ts.getD j 0 = T := by rw [List.getD_eq_getElem?_getD, hT]; rfl
    show its.toArray[j]? = some (Value.ref (Ts.getD j 0)) ∧ PairAt s.heap (Ts.getD j 0) (.ref b1) u1
    rw [e]
    refine ⟨?_, hpa⟩
    simp [h2, hT]
  · have hi : (ps.map fun x => (Value.ref x.2.1, x.2.2))[i]? = some (key, v) := hi
    rw [List.getElem?_map] at hi
    obtain ⟨⟨k1, b1, u1⟩, hj1, hj2⟩ := Option.map_eq_some_iff.mp hi
    cases hj2
    exact ⟨k1, b1, hj1, rfl⟩
  · exact nestedKind_stays.stays (fun b o vs n e _ => k b o (Nat.ne_of_lt (Heap.lt_size e)) (by simp) e) (keys x hx)
  · have hs : (s.heap.objs.size == sysModules) = false := beq_eq_false_iff_ne.mpr (Ne.symm (Nat.ne_of_lt I.big))
    have hy := kv_fold (C := cs X M) h1 (xs := []) (acc := []) .nil
    have hyl : (storedAllH [] ps).length ≤ sizeLine := by
      have := storedAllH_length ps []
      simp at this
      omega
    have kk : ∀ b oo, s.heap.get? b = some oo → h'.get? b = some oo := fun b oo e => k b oo (by simp) e
    obtain ⟨o', d', ob, ho'⟩ := dic_new (C := cs X M) (H := H) (H' := upd H s.heap.objs.size (ExO s.heap.objs.size emptyD)) hs hyl dd
    exact ⟨.ref _, _, I.laid (t' := tk) (o := ExO s.heap.objs.size o') kk (Nat.le_refl _) ⟨ho', ⟨o', ho'⟩, fun g1 g2 a b => b _ a⟩, rfl, q _ o' _ (I.hok.fresh (Nat.le_refl _)) d' hy⟩
def rDictY (C : Cs) : List V → Hp → VK → Prop := fun xs H Q => rDictX C xs H Q ∨ rDictL C xs H Q
theorem call_dictY (hr : Room n X.A) : CallR X (.type "dict") (rDictY (cs X M)) := (call_dictX (M := M) hr).or (call_dictL (M := M) hr)
def gDict : List D → Option D
  | [.dic kvs] => if kvs.all (fun p => uni p.1) then some (.dic kvs) else none
  | [.lst ds] => (pairsOf ds).map fun kvs => .dic (dFold kvs [])
  | _ => none
theorem rc_dict {C : Cs} : RC C (rDictY C) gDict := by
  intro Z H vs ds d Q ok hA hg q
  unfold gDict at hg
  split at hg
  · rename_i kvs
    by_cases hu : kvs.all (fun p => uni p.1) = true
    · rw [if_pos hu] at hg
      cases hg
      cases hA with
      | cons h t =>
        cases t
        cases h with
        | @dic a o xs _ z h1 h2 h3 =>
          refine .inl ⟨a, xs, rfl, ⟨o, h1, h2, kv_keys h3⟩, kv_hash h3 hu h2.2.2.2.2, fun p o' hp hd => ?_⟩
          have g := ok.new (u := ExO p o') hp
          exact q _ _ g (.dic (ok.notZ hp) upd_same hd (h3.go g))
    · rw [if_neg hu] at hg
      cases hg
  · obtain ⟨kvs, e1, e2⟩ := Option.map_eq_some_iff.mp hg
    subst e2
    cases hA with
    | cons h t =>
      cases t
      cases h with
      | @lst a vs1 _ z hS hB hl =>
        refine .inr ⟨a, Z, vs1, _, kvs, rfl, hS, hB, e1, hl, fun p o ys hp hd hy => ?_⟩
        have g := ok.new (u := ExO p o) hp
        exact q _ _ g (.dic (ok.notZ hp) upd_same hd (hy.go g))
  · cases hg

/-! ### list(d) -/
def rListX (C : Cs) : List V → Hp → VK → Prop := fun vs H Q => ∃ a ys, vs = [V.ref a] ∧ DicH C H a ys ∧ ∀ p, H p = none → Q (.ref p) (upd H p (.lst (ys.map fun x => V.ref x.2.1)))
theorem vals_refs {α : Type} (f : α → Addr) : ∀ l : List α, Vals (l.map fun x => V.ref (f x)) (l.map fun x => Value.ref (f x))
  | [] => .nil
  | _ :: l => .cons rfl (vals_refs f l)
theorem call_listX (hr : Room n X.A) : CallR X (.type "list") (rListX (cs X M)) := by
  intro pins s σ H vs us Q I r h
  obtain ⟨a, ys, rfl, hd, q⟩ := h
  obtain ⟨u, rfl, ru⟩ := vals1 r
  cases ru
  obtain ⟨h1, h2, h3⟩ := hd.heap I.hok
  obtain ⟨es, ep, hraw, hs, hent⟩ := h3.raw
  refine PySem.W.kdl_call (KdlSrc.rawDict (es := es) (ep := ep) h1) hr.hd hraw (by rw [hs]; exact h2) fun h' tk acc c k hS hi => ?_
  have e : acc = (ys.map fun x => Value.ref x.2.1).toArray := by
    apply Array.ext_getElem?
    intro i
    by_cases hlt : i < es.size
    · obtain ⟨y, hy, e1, _, _⟩ := hent i hlt
      have h5 : i < acc.size := by rw [hi.1]; exact hlt
      obtain ⟨_, e2⟩ := hi.2 i acc[i] (Array.getElem?_eq_getElem h5)
      rw [Array.getElem?_eq_getElem h5, e2, e1]
      simp [hy]
    · rw [Array.getElem?_eq_none (by rw [hi.1]; omega), Array.getElem?_eq_none (by simp; omega)]
  rw [e] at hS
  exact ⟨.ref _, _, I.laid (t' := tk) (o := .lst (ys.map fun x => V.ref x.2.1)) k (Nat.le_refl _) ⟨by rw [List.length_map]; exact h2, ys.map (fun x => Value.ref x.2.1), c, vals_refs (fun x : NestedKey × Addr × Value => x.2.1) ys, hS⟩, rfl, q _ (I.hok.fresh (Nat.le_refl _))⟩
theorem kv_refs {C : Cs} {Z : Hid} {H : Hp} : ∀ {xs : List (NestedKey × Addr × Value)} {kvs : List (D × D)}, IsKv C Z H xs kvs → IsAll C Z H (xs.map fun x => V.ref x.2.1) (kvs.map (·.1))
  | _, _, .nil => .nil
  | _, _, .cons i1 _ _ _ t => .cons i1 (kv_refs t)
def gListX : List D → Option D
  | [.dic kvs] => some (.lst (kvs.map (·.1)))
  | ds => gList ds
def rListY (C : Cs) : List V → Hp → VK → Prop := fun xs H Q => rListOf C.K xs H Q ∨ rListX C xs H Q
theorem call_listY (hr : Room n X.A) : CallR X (.type "list") (rListY (cs X M)) := call_listOf.or (call_listX (M := M) hr)
theorem rc_listY {C : Cs} : RC C (rListY C) gListX := by
  intro Z H vs ds d Q ok hA hg q
  unfold gListX at hg
  split at hg
  · cases hg
    cases hA with
    | cons h t =>
      cases t
      cases h with
      | @dic a o xs _ z h1 h2 h3 =>
        refine .inr ⟨a, xs, rfl, ⟨o, h1, h2, kv_keys h3⟩, fun p hp => ?_⟩
        have hl : (List.map (·.1) (by assumption : List (D × D))).length ≤ sizeLine := by
          rw [List.length_map, ← kv_len h3]
          exact h2.2.2.1
        exact q _ _ (ok.new hp) (new_lst ok (kv_refs h3) hl hp)
  · exact .inl (rc_list Z H vs _ d Q ok hA hg q)

/-! ### list(d.items()) -/
def ViewO (v d : Addr) : HO := .ext fun h => h.get? v = some { cls := .type "dict_items", data := .fields #[.ref d] }
def rItems (C : Cs) (te : TE) : TE := fun σ H Q => te σ H fun x H1 => ∃ a o xs, x = V.ref a ∧ H1 a = some (ExO a o) ∧ DicAt C a o xs ∧ ∀ p, H1 p = none → Q (.ref p) (upd H1 p (ViewO p a))
theorem pe_itemsV {e : Expr} {te : TE} {apos cpos : Pos} (he : PE X e te) (hbase : attributeBase e "items" X.env (eval e X.env) = eval e X.env := by rfl) (hline : (apos.endLine == cpos.line) = true := by rfl) : PE X (.Call (.Attribute e "items" apos) [] [] cpos) (rItems (cs X M) te) := by
  refine ⟨fun pins s σ H Q I h => ?_⟩
  refine wpAny_Call_method (T := "dict") (id := "dict.items") hbase rfl hline F.plainAttrs_dict F.slot_dict_items F.type_dict_items (thn (he.run pins s σ H _ I h) fun u s1 ⟨x, H1, I1, rx, a, o, xs, ex, h1, h2, q⟩ => ?_)
  subst ex
  cases rx
  obtain ⟨hs, hx, hl, ⟨es, ep, hod, hes⟩, hn⟩ := h2
  have hraw : s1.heap.DictRaw a es ep := ⟨o, exO_at I1.hok h1, hx, hod⟩
  refine ⟨hraw.typeIs, fun a' ea => by cases ea; exact ⟨o, exO_at I1.hok h1, hx.2.1⟩, ?_⟩
  have here : (s1.heap.push { cls := .type "dict_items", data := .fields #[.ref a] }).get? s1.heap.objs.size = some { cls := .type "dict_items", data := .fields #[.ref a] } := Heap.get?_push_size _ rfl
  have I2 : Inv X pins σ (upd H1 s1.heap.objs.size (ViewO s1.heap.objs.size a)) { s1 with heap := s1.heap.push { cls := .type "dict_items", data := .fields #[.ref a] } } :=
    I1.laid (t' := s1.toks) (fun b ob q => Heap.get?_push_of_some _ q) (Nat.le_refl _) ⟨here, ⟨_, here⟩, fun g1 g2 a b => b _ a⟩
  show wpAny _ _ (callWith cpos (.builtin "dict.items") [.ref a] [] []) _ X.xe s1
  exact method_meetsIn F.slot_dict_items F.entry_dict_items rfl (PySem.evalArgs_none ⟨rfl, hraw.typeIs, F.args_dict_items_1 _, _, meets_dict_items_raw a hs, ⟨es, ep, hraw⟩, ⟨.ref _, _, I2, rfl, q _ (I1.hok.fresh (Nat.le_refl _))⟩⟩)
/-- values of a dict, without the heap -/
theorem kv_V {C : Cs} {Z : Hid} {H : Hp} : ∀ {xs : List (NestedKey × Addr × Value)} {kvs : List (D × D)}, IsKv C Z H xs kvs → ∃ ws : List V, Vals ws (xs.map (·.2.2)) ∧ IsAll C Z H ws (kvs.map (·.2))
  | _, _, .nil => ⟨[], .nil, .nil⟩
  | _, _, .cons (v := v) _ _ r i2 t => by
    obtain ⟨ws, h1, h2⟩ := kv_V t
    exact ⟨v :: ws, .cons r h1, .cons i2 h2⟩
def rListV (C : Cs) : List V → Hp → VK → Prop := fun vs H Q => ∃ Z v a kvs, vs = [V.ref v] ∧ H v = some (ViewO v a) ∧ Ok C Z H ∧ Is C Z H (.ref a) (.dic kvs) ∧ ∀ p H', Go C H H' → Is C Z H' (.ref p) (.lst (kvD kvs)) → Q (.ref p) H'
theorem idxOf_at {l : List Addr} (h : l.Nodup) {j : Nat} {a : Addr} (e : l[j]? = some a) : l.idxOf a = j := by
  have hj : j < l.length := (List.getElem?_eq_some_iff.mp e).1
  have ha : l[j] = a := (List.getElem?_eq_some_iff.mp e).2
  rw [← ha]
  exact List.Nodup.idxOf_getElem h j hj
theorem call_listV (hr : Room n X.A) : CallR X (.type "list") (rListV (cs X M)) := by
  intro pins s σ H vs us Q I r h
  obtain ⟨Z, v, a, kvs, rfl, hv, ok, is, q⟩ := h
  obtain ⟨u, rfl, ru⟩ := vals1 r
  cases ru
  cases is with
  | @dic _ o xs _ z h1 h2 h3 =>
    obtain ⟨hs, hx, hl, ⟨es, ep, hod, hes⟩, hn⟩ := id h2
    have hraw : s.heap.DictRaw a es ep := ⟨o, exO_at I.hok h1, hx, hod⟩
    have hview : s.heap.IsItemsView v a := ⟨_, (I.hok v _ hv).1, rfl, rfl⟩
    have hsz : es.size = xs.length := size_of_entries hes
    obtain ⟨ws, rw', iw⟩ := kv_V h3
    refine PySem.W.dil_call hr.hd hview hraw (by rw [hsz]; exact hl) fun h' tk acc c as k hS hal hG hacc => ?_
    have hp0 : H s.heap.objs.size = none := I.hok.fresh (Nat.le_refl _)
    have nod : as.Nodup := hG.rise.imp fun h => Nat.ne_of_lt h
    let H' : Hp := fun b => if b = s.heap.objs.size then some (.lst (as.map V.ref)) else if b ∈ as then some (.tup [.ref ((xs.map (·.2.1)).getD (as.idxOf b) 0), ws.getD (as.idxOf b) .non]) else H b
    have old : ∀ b, b < s.heap.objs.size → H' b = H b := fun b hb => by
      show (if b = s.heap.objs.size then _ else if b ∈ as then _ else H b) = H b
      rw [if_neg (Nat.ne_of_lt hb), if_neg (fun m => Nat.lt_irrefl _ (Nat.lt_trans hb (hG.above b m)))]
    have atS : H' s.heap.objs.size = some (.lst (as.map V.ref)) := by
      show (if s.heap.objs.size = s.heap.objs.size then _ else _) = _
      rw [if_pos rfl]
    have atT : ∀ (j : Nat) (b : Addr), as[j]? = some b → H' b = some (.tup [.ref ((xs.map (·.2.1)).getD j 0), ws.getD j .non]) := fun j b hj => by
      have m : b ∈ as := List.mem_of_getElem? hj
      show (if b = s.heap.objs.size then _ else if b ∈ as then _ else H b) = _
      rw [if_neg (Nat.ne_of_gt (hG.above b m)), if_pos m, idxOf_at nod hj]
    have hwl := rw'.length
    rw [List.length_map] at hwl
    have row : ∀ (j : Nat) (b : Addr), as[j]? = some b → ∃ k2 b2 u2 v2, xs[j]? = some (k2, b2, u2) ∧ ws[j]? = some v2 ∧ RelV v2 u2 ∧ h'.get? b = some { cls := .type "tuple", data := .seq #[.ref b2, u2] } := fun j b hj => by
      obtain ⟨hje, hb⟩ := hG.pairs j b hj
      have hjx : j < xs.length := by omega
      obtain ⟨⟨k2, b2, u2⟩, hx2⟩ : ∃ p, xs[j]? = some p := ⟨xs[j], List.getElem?_eq_getElem hjx⟩
      have e := entry_at hes j
      rw [hx2, Array.getElem?_eq_getElem hje] at e
      have e' := Option.some.inj e
      rw [e'] at hb
      have hw : ws[j]? = some ws[j] := List.getElem?_eq_getElem (by omega)
      obtain ⟨u3, h3', r3⟩ := rw'.get hw
      rw [List.getElem?_map, hx2] at h3'
      cases h3'
      exact ⟨k2, b2, _, _, hx2, hw, r3, hb⟩
    have goes : Go (cs X M) H H' := go_many (n := s.heap.objs.size) ok.tab (fun b o e => I.hok.lt e) old
    have aslen : as.length = kvs.length := by rw [hal, hsz, kv_len h3]
    have isAll : IsAll (cs X M) Z H' (as.map V.ref) (kvD kvs) := by
      refine IsAll.of_get (by unfold kvD; rw [List.length_map, List.length_map, aslen]) fun i v1 d1 hv1 hd1 => ?_
      rw [List.getElem?_map] at hv1
      obtain ⟨b, hb, rfl⟩ := Option.map_eq_some_iff.mp hv1
      unfold kvD at hd1
      rw [List.getElem?_map] at hd1
      obtain ⟨p1, hp1, rfl⟩ := Option.map_eq_some_iff.mp hd1
      obtain ⟨k2, b2, u2, v2, hx2, hw2, r2, _⟩ := row i b hb
      have e := atT i b hb
      rw [List.getD_eq_getElem?_getD, List.getElem?_map, hx2, List.getD_eq_getElem?_getD, hw2] at e
      obtain ⟨k3, b3, u3, v3, hx3, i3, e3, r3, i4⟩ := kv_get h3 hp1
      rw [hx2] at hx3
      cases hx3
      have ev := RelV.inj r2 r3
      subst ev
      have nz : ¬ Z b := fun zb => by
        obtain ⟨oo, h5, _⟩ := ok.hid b zb
        have := I.hok.lt h5
        exact Nat.lt_irrefl _ (Nat.lt_trans this (hG.above b (List.mem_of_getElem? hb)))
      exact .tup nz e (.cons (i3.go goes) (.cons (i4.go goes) .nil)) (by show 2 ≤ sizeLine; decide)
    have I' : Inv X pins σ H' { s with heap := h', toks := tk } := laid_many I k old fun b o hb e => by
      by_cases hbS : b = s.heap.objs.size
      · subst hbS
        rw [atS] at e
        cases e
        refine ⟨by rw [List.length_map]; omega, acc.toList, c, ?_, by simpa using hS⟩
        rw [hacc]
        exact vals_refs (fun x => x) as
      · by_cases hbm : b ∈ as
        · obtain ⟨j, hj⟩ := List.mem_iff_getElem?.mp hbm
          have e2 := atT j b hj
          obtain ⟨k2, b2, u2, v2, hx2, hw2, r2, hb2⟩ := row j b hj
          rw [List.getD_eq_getElem?_getD, List.getElem?_map, hx2, List.getD_eq_getElem?_getD, hw2] at e2
          rw [e2] at e
          cases e
          exact ⟨(by show 2 ≤ sizeLine; decide), [.ref b2, u2], .cons rfl (.cons r2 .nil), ⟨_, hb2, rfl, _, rfl⟩⟩
        · have e2 : H' b = H b := by
            show (if b = s.heap.objs.size then _ else if b ∈ as then _ else H b) = H b
            rw [if_neg hbS, if_neg hbm]
          rw [e2] at e
          exact absurd (I.hok.lt e) (Nat.not_lt.mpr hb)
    refine ⟨.ref _, H', I', rfl, q _ H' goes (.lst (ok.notZ hp0) atS isAll ?_)⟩
    unfold kvD
    rw [List.length_map, ← kv_len h3]
    exact hl
end
end Dx
/-! list(d.items()), xs[::-1], d != {}. -/
namespace Dx
open PySem PySem.Spec PyProof.Rows L2
section
variable {M : Mm} {X : Cx} {n : Nat} {pos : Pos}
def fListItems (f : En → Option D) : En → Option D := fun δ => (f δ).bind fun d => match d with
  | .dic kvs => some (.lst (kvD kvs))
  | _ => none
theorem de_listItems {e : Expr} {f : En → Option D} {p apos cpos : Pos} (hr : Room n X.A) (he : DE M X e f) (hm : X.mg "list" = none) (hg : Gl X "list" := by rfl) (hbase : attributeBase e "items" X.env (eval e X.env) = eval e X.env := by rfl) (hline : (apos.endLine == cpos.line) = true := by rfl) :
    DE M X (.Call (.Name "list" p) [.Call (.Attribute e "items" apos) [] [] cpos] [] pos) (fListItems f) := by
  refine PE.imp (pe_callTy (T := "list") (call_listV (M := M) hr) hg hm rfl (pa_cons (pe_itemsV (M := M) he hbase hline) pa_nil) (by decide) (by decide)) fun σ H Q h => ?_
  obtain ⟨Z, δ, d, ok, en, hf, q⟩ := h
  obtain ⟨x, hx, hf⟩ := Option.bind_eq_some_iff.mp hf
  cases x with
  | dic kvs =>
    cases hf
    refine ⟨Z, δ, .dic kvs, ok, en, hx, fun v H1 g1 i1 => ?_⟩
    cases i1 with
    | @dic a o xs _ z h1 h2 h3 =>
      refine ⟨a, o, xs, rfl, h1, h2, fun p hp => ?_⟩
      have g2 := (ok.go g1).new (u := ViewO p a) hp
      exact ⟨Z, p, a, kvs, rfl, upd_same, (ok.go g1).go g2, (Is.dic z h1 h2 h3).go g2, fun p' H' g3 i3 => q _ H' ((g1.trans g2).trans g3) i3⟩
  | _ => cases hf
theorem IsAll.reverse {C : Cs} {Z : Hid} {H : Hp} : ∀ {vs : List V} {ds : List D}, IsAll C Z H vs ds → IsAll C Z H vs.reverse ds.reverse
  | _, _, .nil => .nil
  | _, _, .cons i t => by
    rw [List.reverse_cons, List.reverse_cons]
    exact (IsAll.reverse t).append (.cons i .nil)
def fRev (f : En → Option D) : En → Option D := fun δ => (f δ).bind fun d => match d with
  | .lst ds => some (.lst ds.reverse)
  | _ => none
theorem de_rev {e : Expr} {f : En → Option D} {k : Nat} {p1 p2 p3 : Pos} (he : DE M X e f) : DE M X (.Subscript e (.Slice none none (some (.UnaryOp .USub (.Constant (.int 1) k p1) p2)) p3) pos) (fRev f) := by
  refine PE.imp (pe_revL he) fun σ H Q h => ?_
  obtain ⟨Z, δ, d, ok, en, hf, q⟩ := h
  obtain ⟨x, hx, hf⟩ := Option.bind_eq_some_iff.mp hf
  cases x with
  | lst ds =>
    cases hf
    refine ⟨Z, δ, .lst ds, ok, en, hx, fun v H1 g1 i1 => ?_⟩
    cases i1 with
    | @lst a vs _ z hS hA hl => exact ⟨a, vs, rfl, SqL.of hS, fun p hp => q _ _ (g1.trans ((ok.go g1).new hp)) (new_lst (ok.go g1) hA.reverse (by rw [List.length_reverse]; exact hl) hp)⟩
  | _ => cases hf
end
/-! ### d != {} -/
section
variable {prog : Program} {w : World} {A : Around} {E : Value → Shared → Prop} {s : Shared}
theorem pairs_empty {nm : String} {a b : Addr} {es : Array DictEntry} {ep ep' : Nat} {Q : Bool → Shared → Prop} (ha : (a == sysModules) = false) (hb : (b == sysModules) = false) (da : s.heap.DictRaw a es ep) (db : s.heap.DictRaw b #[] ep') (h : Q es.isEmpty s) :
    wpAny (model prog w) A (Builtin.Dict.samePairs nm a b) Q E s := by
  obtain ⟨oa, hoa, _, hda⟩ := da
  obtain ⟨ob, hob, _, hdb⟩ := db
  unfold Builtin.Dict.samePairs Builtin.Dict.showsAll
  rw [if_neg (show ¬ (a == sysModules) = true by rw [ha]; exact Bool.false_ne_true), if_neg (show ¬ (b == sysModules) = true by rw [hb]; exact Bool.false_ne_true)]
  refine wpAny_bind (wpAny_pure (wpAny_bind (wpAny_pure ?_)))
  refine wpAny_bind (wpAny_dictEntries hoa hda ?_)
  dsimp only
  refine wpAny_bind (wpAny_dictEntries hob hdb ?_)
  by_cases hsz : es.size = 0
  · have e : es = #[] := Array.size_eq_zero_iff.mp hsz
    subst e
    rw [if_neg (by simp)]
    refine wpAny_bind (wpAny_dictEpoch hoa hda ?_)
    refine wpAny_bind ?_
    simp only [Std.Legacy.Range.forIn_eq_forIn_range', Std.Legacy.Range.size, Array.size_empty, Nat.sub_zero, Nat.zero_add, Nat.div_one, Nat.sub_self, Nat.zero_div, List.range'_zero, List.forIn_nil]
    exact wpAny_pure (wpAny_pure h)
  · rw [if_pos (by simpa using hsz)]
    have e : es.isEmpty = false := by simpa using hsz
    rw [e] at h
    exact wpAny_bind (wpAny_rule (wpAny_pure h))
theorem ne_empty {a b : Addr} {es : Array DictEntry} {ep ep' : Nat} {Q : Value → Shared → Prop} (ha : (a == sysModules) = false) (hb : (b == sysModules) = false) (da : s.heap.DictRaw a es ep) (db : s.heap.DictRaw b #[] ep') (hu : A.units < cLine) (h : Q (.bool (!es.isEmpty)) s) :
    wpAny (model prog w) A (compareOp .NotEq (.ref a) (.ref b)) Q E s := by
  refine wpAny_richCompare_same_room (op := .NotEq) da.typeIs db.typeIs PySem.F.slot_dict_ne (wpAny_call_entry PySem.F.slot_dict_ne da.typeIs PySem.F.entry_dict_ne ?_ (PySem.F.args_dict_ne_2 _ _)) hu
  show wpAny _ _ (Builtin.Dict.dictSlotArgs "__ne__" ⟨[.ref a, .ref b], []⟩ >>= _) _ _ s
  refine wpAny_bind ?_
  unfold Builtin.Dict.dictSlotArgs
  refine wpAny_bind (wpAny_notOrdered_dict da.typeIs ?_)
  show wpAny _ _ (pure (Value.ref a, Value.ref b)) _ _ s
  refine wpAny_pure ?_
  refine wpAny_bind (wpAny_isInstance (T := "dict") db.typeIs PySem.F.sub_dict_dict ?_)
  simp only [Bool.not_true, Bool.false_eq_true, if_false]
  refine wpAny_bind (wpAny_pure (wpAny_bind (wpAny_pure ?_)))
  refine wpAny_bind (pairs_empty ha hb da db ?_)
  have e : (es.isEmpty == false) = !es.isEmpty := by cases es.isEmpty <;> rfl
  exact wpAny_pure ⟨_, rfl, (fun x => nomatch x), (by rw [e]; exact h)⟩
end
section
variable {M : Mm} {X : Cx} {n : Nat}
def rNeX (C : Cs) : R2 := fun x y H Q => ∃ a b xs, x = .ref a ∧ y = .ref b ∧ DicH C H a xs ∧ DicH C H b [] ∧ Q (.bl (!xs.isEmpty)) H
theorem op_neX (hr : Room n X.A) : OpR X (compareOp .NotEq) (rNeX (cs X M)) := by
  intro pins s σ H x y v u Q I rx ry h
  obtain ⟨a, b, xs, rfl, rfl, hd, hd2, q⟩ := h
  cases rx
  cases ry
  obtain ⟨h1, h2, h3⟩ := hd.heap I.hok
  obtain ⟨h4, h5, h6⟩ := hd2.heap I.hok
  obtain ⟨es, ep, r1, s1, _⟩ := h3.raw
  obtain ⟨es2, ep2, r2, s2, _⟩ := h6.raw
  have e2 : es2 = #[] := Array.size_eq_zero_iff.mp s2
  subst e2
  have e1 : es.isEmpty = xs.isEmpty := by
    cases xs with
    | nil =>
      have : es = #[] := Array.size_eq_zero_iff.mp s1
      subst this
      rfl
    | cons x xs =>
      rw [List.length_cons] at s1
      simp
      intro z
      rw [z] at s1
      simp at s1
  have := hr.un
  exact ne_empty h1 h4 r1 r2 (by omega) ⟨.bl _, H, I, by rw [e1]; rfl, q⟩
def gNeX : D → D → Option D
  | .dic kvs, .dic [] => some (.bl (!kvs.isEmpty))
  | x, y => gNe x y
def rNeY (C : Cs) : R2 := fun x y H Q => rNeD C.K x y H Q ∨ rNeX C x y H Q
theorem op_neY (hr : Room n X.A) : OpR X (compareOp .NotEq) (rNeY (cs X M)) := (op_neD (by have := hr.un; omega)).or (op_neX (M := M) hr)
theorem rd_neY {C : Cs} : RD C (rNeY C) gNeX := by
  intro Z H x y dx dy d Q ok i1 i2 hg q
  unfold gNeX at hg
  split at hg
  · rename_i kvs
    cases hg
    cases i1 with
    | @dic a o xs _ z h1 h2 h3 =>
      cases i2 with
      | @dic b o2 ys _ z2 h4 h5 h6 =>
        cases h6
        refine .inr ⟨a, b, xs, rfl, rfl, ⟨o, h1, h2, kv_keys h3⟩, ⟨o2, h4, h5, fun x hx => by cases hx⟩, ?_⟩
        have e : xs.isEmpty = kvs.isEmpty := by
          have := kv_len h3
          cases xs <;> cases kvs <;> simp_all
        rw [e]
        exact q _ H ok.refl (.bl _)
  · exact .inl (rd_ne Z H x y _ _ d Q ok i1 i2 hg q)
end
end Dx
/-! Names set to dict comprehensions, values dropped, wide arithmetic. -/
namespace Dx
open PySem PySem.Spec PyProof.Rows L2
section
variable {M : Mm} {X : Cx} {n : Nat} {pos : Pos}
theorem sw_dict {kx vx : Expr} {gs : List Comprehension} {scope : Scope} {pos py : Pos} {y : Str} {l : Nat} {env : Env} (hk : env.scope.kind = .function) (hy : env.scope.names.lookup y = some .local) (hl : (py.line == pos.line) = true)
    (ha : (scope.names.any fun (n, k) => n == y && (k == .local || k == .cell)) = false) : swapsWith (.DictComp kx vx gs scope pos) (some (.Name y py)) l env = pure true := by
  have ky : env.kindOf y = some .local := hy
  have hb : env.blockKind = .function := by unfold Env.blockKind; rw [hk]; rfl
  unfold swapsWith
  simp only [hb, ky, ha, Expr.pos, hl]
  rfl
theorem ps_setDcX {kx vx tg iter : Expr} {scope : Scope} {own : List (Str × Nat)} {spos py : Pos} {i : Nat} {y : Str} {wi : TI} {g : TG} {tk tv : TE} (hr : Room n X.A) (hc : X.calm = true) (hN : X.N.Nodup) (hy : X.N[i]? = some y) (hyl : X.env.scope.names.lookup y = some .local)
    (hsw : swapsWith (.DictComp kx vx [⟨tg, iter, [], 0⟩] scope pos) (some (.Name y py)) spos.line X.env = pure true) (hi : PI X tg iter wi) (ok : BlkOk X.N X.env.scope scope own)
    (hg : ∀ (s : Shared) (H : Hp) (C : Addr) (cl : List (Str × Addr)) (fp : List Addr), PG (X.blk s H scope (compEnvC scope cl C X.env) fp) tg g)
    (hk : ∀ (s : Shared) (H : Hp) (C : Addr) (cl : List (Str × Addr)) (fp : List Addr), PE (X.blk s H scope (compEnvC scope cl C X.env) fp) kx tk)
    (hv : ∀ (s : Shared) (H : Hp) (C : Addr) (cl : List (Str × Addr)) (fp : List Addr), PE (X.blk s H scope (compEnvC scope cl C X.env) fp) vx tv) (hs : ∀ x, foldedSetIterable iter X.env x = pure x) :
    PS X (.Assign [.Name y py] (.DictComp kx vx [⟨tg, iter, [], 0⟩] scope pos) spos) (tAsg (tDcX (cs X M) wi g tk tv (own.map (·.2))) (gName i)) := by
  refine ⟨fun pins s σ H D I h => ?_⟩
  rw [exec_Assign_Name_used _ _ _ _ hsw]
  refine wpAny_bind (wpAny_standAt (wpAny_bind ?_))
  show wpAny _ X.A (do let _ ← comprehension (.DictComp kx vx [⟨tg, iter, [], 0⟩] scope pos) scope X.env (firstIterPos [⟨tg, iter, [], 0⟩] pos) newDict false (eval iter X.env) (some (assign (.Name y py) X.env))) _ _ s
  have h : tDcX (cs X M) wi g tk tv (own.map (·.2)) σ H (fun x H1 => gName i x σ H1 D.nx) := h
  refine wpAny_bind (thn (dcx_core (M := M) (Qf := fun _ s' => SP X pins D .next s') hr hc hN I hi ok hg hk hv hs h fun L C s' m H' I' q hn f => ?_) fun _ s' hq => wpAny_pure (wpAny_pure hq))
  show wpAny _ _ (assign (.Name y py) X.env (.ref L)) _ _ _
  refine wpAny_assign_Name (store_ok2 (v := V.ref L) I' hN hy (.inl hyl) rfl (fun s2 I2 ⟨a, sb, ha⟩ => ?_) (.inr hyl))
  obtain ⟨f0, f1, f2, f3, f4, f5⟩ := f
  have apart : C ≠ a := ha.elim (fun z => by rw [z]; exact f1) fun z e => f4 y a z e.symm
  exact ⟨m, hn.sameBut sb apart, fun h3 sb3 => ⟨_, H', I2.turned (t' := s2.toks) (fun b o hb e => (sb3.2 b hb).trans e) f0 f1 f3 f4 f5, q⟩⟩
theorem ds_setDcX {kx vx tg iter : Expr} {scope : Scope} {own : List (Str × Nat)} {spos py : Pos} {i : Nat} {y : Str} {wi : En → Option (List D)} {g : TG} {tf : D → En → Option En} {sl : List Nat} {fk fv : En → Option D} (hr : Room n X.A) (hc : X.calm = true) (hN : X.N.Nodup) (hi : DI M X tg iter wi) (ok : BlkOk X.N X.env.scope scope own) (gt : GT (cs X M) g tf sl)
    (hsw : swapsWith (.DictComp kx vx [⟨tg, iter, [], 0⟩] scope pos) (some (.Name y py)) spos.line X.env = pure true)
    (hg : ∀ (s : Shared) (H : Hp) (C : Addr) (cl : List (Str × Addr)) (fp : List Addr), PG (X.blk s H scope (compEnvC scope cl C X.env) fp) tg g)
    (hk : ∀ (s : Shared) (H : Hp) (C : Addr) (cl : List (Str × Addr)) (fp : List Addr), DE M (X.blk s H scope (compEnvC scope cl C X.env) fp) kx fk)
    (hv : ∀ (s : Shared) (H : Hp) (C : Addr) (cl : List (Str × Addr)) (fp : List Addr), DE M (X.blk s H scope (compEnvC scope cl C X.env) fp) vx fv)
    (hsl : ∀ i ∈ sl, i ∈ own.map (·.2) := by decide) (hy : X.N[i]? = some y := by rfl) (hyl : X.env.scope.names.lookup y = some .local := by rfl) (hs : ∀ x, foldedSetIterable iter X.env x = pure x := by intro _; rfl) :
    DS M X (.Assign [.Name y py] (.DictComp kx vx [⟨tg, iter, [], 0⟩] scope pos) spos) (sAsg (fDcX (own.map (·.2)) wi tf fk fv) (t1 i)) := by
  refine PS.imp (ps_setDcX (M := M) (tk := tD (cs X M) fk) (tv := tD (cs X M) fv) hr hc hN hy hyl hsw hi ok hg hk hv hs) fun E σ H h => asg_imp (fun σ H Q h => ?_) h
  obtain ⟨Z, δ, d, okk, en, hf, q⟩ := h
  obtain ⟨ds, h1, hf⟩ := Option.bind_eq_some_iff.mp hf
  by_cases hl : ds.length ≤ 100000
  · rw [if_pos hl] at hf
    obtain ⟨rs, h2, h3⟩ := Option.map_eq_some_iff.mp hf
    subst h3
    exact ⟨Z, δ, ds, okk, en, h1, fun J H1 g1 w Dl hD hd0 => dc_imp (okk.go g1) (en.go g1) g1 w gt hsl h2 hl hD hd0 q⟩
  · rw [if_neg hl] at hf
    cases hf
/-- a value dropped -/
def sDrop (f : En → Option D) : En → Option Out := fun δ => (f δ).map fun _ => .nx δ
theorem ds_expr {e : Expr} {f : En → Option D} (he : DE M X e f) (hs : swapsWith e none pos.line X.env = pure false := by rfl) : DS M X (.Expr e pos) (sDrop f) := by
  refine PS.imp (ps_expr he hs) fun E σ H h => ?_
  obtain ⟨Z, δ, o, ok, en, hf, q⟩ := h
  obtain ⟨d, hd, ho⟩ := Option.map_eq_some_iff.mp hf
  subst ho
  exact ⟨Z, δ, d, ok, en, hd, fun v H1 g1 i1 => q σ H1 g1 (en.go g1)⟩
end
/-! ### wide arithmetic -/
section
variable {C : Cs}
def gI2 (c : Int → Int → Bool) (k : Int → Int → Int) : D → D → Option D
  | .int i, .int j => if c i j = true then some (.int (k i j)) else none
  | _, _ => none
theorem rd_I2 {c : Int → Int → Bool} {P : Int → Int → Prop} {k : Int → Int → Int} (hc : ∀ i j, c i j = true → P i j) : RD C (rI P fun i j => .int (k i j)) (gI2 c k) := by
  intro Z H x y dx dy d Q ok i1 i2 hg q
  cases dx with
  | int i =>
    cases dy with
    | int j =>
      by_cases e : c i j = true
      · have hg : (if c i j = true then some (D.int (k i j)) else none) = some d := hg
        rw [if_pos e] at hg
        cases i1
        cases i2
        cases hg
        exact ⟨i, j, rfl, rfl, hc i j e, q _ H ok.refl (.int _)⟩
      · have hg : (if c i j = true then some (D.int (k i j)) else none) = some d := hg
        rw [if_neg e] at hg
        cases hg
    | _ => cases hg
  | _ => cases hg
def cMul (i j : Int) : Bool := decide (i.natAbs.log2 + j.natAbs.log2 < 1000000)
def cDiv (_ j : Int) : Bool := decide (0 < j) && decide (j.natAbs.log2 < 9000)
def cMod (_ j : Int) : Bool := decide (0 < j)
def cPow (i j : Int) : Bool := decide (0 ≤ j) && (decide (j ≤ 1000000) && decide (i.natAbs < 2 ^ 64))
abbrev gMul : D → D → Option D := gI2 cMul fun i j => i * j
abbrev gDiv : D → D → Option D := gI2 cDiv fun i j => i / j
abbrev gMod : D → D → Option D := gI2 cMod fun i j => i % j
abbrev gPow : D → D → Option D := gI2 cPow fun i j => i ^ j.toNat
theorem rd_mul : RD C (rI CMulW fun i j => .int (i * j)) gMul := rd_I2 fun i j h => by
  unfold cMul at h
  show i.natAbs.log2 + j.natAbs.log2 < 1000000
  exact of_decide_eq_true h
theorem rd_div : RD C (rI CDivW fun i j => .int (i / j)) gDiv := rd_I2 fun i j h => by
  unfold cDiv at h
  rw [Bool.and_eq_true] at h
  exact ⟨of_decide_eq_true h.1, of_decide_eq_true h.2⟩
theorem rd_mod : RD C (rI (fun _ j => 0 < j) fun i j => .int (i % j)) gMod := rd_I2 fun i j h => of_decide_eq_true h
theorem rd_pow : RD C (rI CPow fun i j => .int (i ^ j.toNat)) gPow := rd_I2 fun i j h => by
  unfold cPow at h
  rw [Bool.and_eq_true, Bool.and_eq_true] at h
  exact ⟨of_decide_eq_true h.1, of_decide_eq_true h.2.1, of_decide_eq_true h.2.2⟩
def gInt : List D → Option D
  | [.int i] => some (.int i)
  | _ => none
def rInt : List V → Hp → VK → Prop := fun xs H Q => (∃ i, xs = [.int i] ∧ Q (.int i) H) ∨ ∃ k, xs = [.bl k] ∧ Q (.int (if k then 1 else 0)) H
theorem call_int {X : Cx} : CallR X (.type "int") rInt := call_int1
theorem rc_int : RC C rInt gInt := by
  intro Z H vs ds d Q ok hA hg q
  unfold gInt at hg
  split at hg
  · cases hg
    cases hA with
    | cons h t =>
      cases t
      cases h
      exact .inl ⟨_, rfl, q _ H ok.refl (.int _)⟩
  · cases hg
end
end Dx
/-! What is known of the module: names, defs with their promises, classes. -/
namespace Dx
open PySem PySem.Spec PyProof.Rows L2

/-- a def of the text at its name -/
structure At (K : PySem.W.Frag) (mg : Str → Option Value) (x : Str) (st : Stmt) (ps : List Str) : Prop where
  ex : ∃ a fd, Fun K x x st a fd ∧ mg x = some (.ref a) ∧ L2.Binds K fd ps []
/-- a def that computes g -/
structure Cal (P : Program) (w : World) (K : PySem.W.Frag) (mg : Str → Option Value) (base : Heap) (M : Mm) (x : Str) (ps : List Str) (k : Nat) (g : List D → Option D) : Prop where
  ex : ∃ a fd, mg x = some (.ref a) ∧ PySem.W.keepIn K (.ref a) = true ∧ L2.Binds K fd ps [] ∧ FnOk P w K mg base CX0 k a fd ps (spD ⟨P, w, K, M.cl, M.T⟩ ps.length g)
/-- a class of objects, by its __init__ -/
structure CalI (P : Program) (w : World) (K : PySem.W.Frag) (mg : Str → Option Value) (base : Heap) (M : Mm) (x : Str) (c : Nat) (ps : List Str) (k : Nat) (gI : List D → Option (List (Str × D))) : Prop where
  ex : ∃ a fd, mg x = some (.ref (M.cl c)) ∧ Mk K (M.cl c) a ∧ L2.Binds K fd ps [] ∧ FnOk P w K mg base CX0 k a fd ps (spI ⟨P, w, K, M.cl, M.T⟩ c gI)
/-- a method -/
structure CalM (P : Program) (w : World) (K : PySem.W.Frag) (mg : Str → Option Value) (base : Heap) (M : Mm) (c : Nat) (m : Str) (ps : List Str) (k : Nat) (g : List D → Option D) : Prop where
  ex : ∃ a fd, Cls K (M.cl c) ∧ Meth K (M.cl c) m a ∧ L2.Binds K fd ps [] ∧ FnOk P w K mg base CX0 k a fd ps (spD ⟨P, w, K, M.cl, M.T⟩ ps.length g)
theorem spD_mono {C : Cs} {n : Nat} {g g' : List D → Option D} (h : ∀ ds d, ds.length = n → g' ds = some d → g ds = some d) {vs : List V} {H : Hp} {Q : VK} {E : XK} (p : spD C n g' vs H Q E) : spD C n g vs H Q E := by
  obtain ⟨Z, ds, d, ok, hA, hl, hg, q⟩ := p
  exact ⟨Z, ds, d, ok, hA, hl, h ds d hl hg, q⟩
section
variable {P : Program} {w : World} {K : PySem.W.Frag} {mg : Str → Option Value} {base : Heap} {M : Mm} {x : Str} {ps : List Str} {k c : Nat}
theorem Cal.mono {g g' : List D → Option D} (C : Cal P w K mg base M x ps k g) (h : ∀ ds d, ds.length = ps.length → g' ds = some d → g ds = some d) : Cal P w K mg base M x ps k g' := by
  obtain ⟨a, fd, h1, h2, h3, h4⟩ := C.ex
  exact ⟨a, fd, h1, h2, h3, h4.imp (fun vs H Q E p => spD_mono h p)⟩
theorem CalM.mono {m : Str} {g g' : List D → Option D} (C : CalM P w K mg base M c m ps k g) (h : ∀ ds d, ds.length = ps.length → g' ds = some d → g ds = some d) : CalM P w K mg base M c m ps k g' := by
  obtain ⟨a, fd, h1, h2, h3, h4⟩ := C.ex
  exact ⟨a, fd, h1, h2, h3, h4.imp (fun vs H Q E p => spD_mono h p)⟩
end
section
variable {X : Cx} {M : Mm} {pos : Pos} {k c n : Nat} {x : Str} {ps : List Str}
theorem de_cal {g : List D → Option D} {a : Expr} {es : List Expr} {fs : En → Option (List D)} {p : Pos} (C : Cal X.prog X.w X.K X.mg X.base M x ps k g) (hr : Room k X.A) (ha : DA M X (a :: es) fs) (hn : ps.length = n := by rfl) (hg : Gl X x := by rfl)
    (he : starEach (a :: es) X.env = (false, eval a X.env) :: starEach es X.env := by rfl) (hpl : (backTo pos (starEach es X.env)).any (·.1) = false := by rfl) (hdb : (x == ("__debug__" : Str)) = false := by decide) : DE M X (.Call (.Name x p) (a :: es) [] pos) (fCall (gN n g) fs) := by
  obtain ⟨f, fd, h1, h2, h3, h4⟩ := C.ex
  subst hn
  exact de_call h4 hr h1 h2 h3 ha hg he hpl hdb
theorem de_calI {gI : List D → Option (List (Str × D))} {a : Expr} {es : List Expr} {fs : En → Option (List D)} {p : Pos} (C : CalI X.prog X.w X.K X.mg X.base M x c ps k gI) (hr : Room (k + 1) X.A) (ha : DA M X (a :: es) fs) (n : Nat) (hg : Gl X x := by rfl)
    (he : starEach (a :: es) X.env = (false, eval a X.env) :: starEach es X.env := by rfl) (hpl : (backTo pos (starEach es X.env)).any (·.1) = false := by rfl) (hdb : (x == ("__debug__" : Str)) = false := by decide) : DE M X (.Call (.Name x p) (a :: es) [] pos) (fMake c n gI fs) := by
  obtain ⟨f, fd, h1, h2, h3, h4⟩ := C.ex
  exact de_make h2 h4 hr h1 h3 ha hg hdb he hpl
theorem de_calM {g : List D → Option D} {o a : Expr} {es : List Expr} {m : Str} {apos : Pos} {pl : Sem Bool} {fa : En → Option D} {fs : En → Option (List D)} (hc : c ≠ 0) (C : CalM X.prog X.w X.K X.mg X.base M c m ps k g) (hr : Room k X.A) (he : DE M X o fa) (ha : DA M X (a :: es) fs) (hn : ps.length = n + 1 := by rfl)
    (hst : starEach (a :: es) X.env = (false, eval a X.env) :: starEach es X.env := by rfl) (hpl : (backTo pos (starEach es X.env)).any (·.1) = false := by rfl)
    (ht : eval (.Call (.Attribute o m apos) (a :: es) [] pos) X.env = (do
      let ov ← eval o X.env
      standAt apos.atName
      let (f, first) ← holding [ov] (getMethod ov m pl)
      callWith pos f first (backTo pos (starEach (a :: es) X.env)) (backToKw pos (keywordEach [] X.env))) := by rfl) :
    DE M X (.Call (.Attribute o m apos) (a :: es) [] pos) (fMeth c n m g fa fs) := by
  obtain ⟨f, fd, h1, h2, h3, h4⟩ := C.ex
  rw [hn] at h4
  exact de_meth hc he h1 h2 h4 hr h3 ha hst hpl ht
end
/-- the names and classes -/
structure Tx (K : PySem.W.Frag) (mg : Str → Option Value) (M : Mm) : Prop where
  len : mg ("len" : Str) = none
  all : mg ("all" : Str) = none
  any : mg ("any" : Str) = none
  tuple : mg ("tuple" : Str) = none
  list : mg ("list" : Str) = none
  dict : mg ("dict" : Str) = none
  max : mg ("max" : Str) = none
  min : mg ("min" : Str) = none
  sorted : mg ("sorted" : Str) = none
  isinstance : mg ("isinstance" : Str) = none
  range : mg ("range" : Str) = none
  zip : mg ("zip" : Str) = none
  int : mg ("int" : Str) = none
  bool : mg ("bool" : Str) = none
  most_marks : ∃ t, mg ("MOST_MARKS" : Str) = some (.int 5 t)
  most_rules : ∃ t, mg ("MOST_RULES" : Str) = some (.int 16 t)
  book : SlX.SCls K (M.cl 0)
  bookN : mg ("Book" : Str) = some (.ref (M.cl 0))
  marks : ∃ p, SlX.Slot1 K (M.cl 0) "marks" p 0
  rules : ∃ p, SlX.Slot1 K (M.cl 0) "rules" p 1
  cls1 : Cls K (M.cl 1)
  cls2 : Cls K (M.cl 2)
  cls3 : Cls K (M.cl 3)
  n1number : NoAttr K (M.cl 1) "number"
  n1hard : NoAttr K (M.cl 1) "hard"
  n1table : NoAttr K (M.cl 1) "table"
  n2number : NoAttr K (M.cl 2) "number"
  n2thing : NoAttr K (M.cl 2) "thing"
  n2table : NoAttr K (M.cl 2) "table"
  n3number : NoAttr K (M.cl 3) "number"
  n3thing : NoAttr K (M.cl 3) "thing"
  n3table : NoAttr K (M.cl 3) "table"
section
variable {X : Cx} {M : Mm} {pos : Pos}
theorem de_marks {e : Expr} {fa : En → Option D} (T : Tx X.K X.mg M) (he : DE M X e fa) (hb : attributeBase e "marks" X.env (eval e X.env) = eval e X.env := by rfl) : DE M X (.Attribute e "marks" pos) (fFld 0 "marks" fa) := by
  obtain ⟨p, h⟩ := T.marks
  exact de_slot 0 T.book h (.inl ⟨rfl, rfl⟩) he hb
theorem de_rules {e : Expr} {fa : En → Option D} (T : Tx X.K X.mg M) (he : DE M X e fa) (hb : attributeBase e "rules" X.env (eval e X.env) = eval e X.env := by rfl) : DE M X (.Attribute e "rules" pos) (fFld 0 "rules" fa) := by
  obtain ⟨p, h⟩ := T.rules
  exact de_slot 1 T.book h (.inr ⟨rfl, rfl⟩) he hb
end
/-- a def of the text: its body's derivation gives what it computes -/
theorem cal_mk {P : Program} {w : World} {K : PySem.W.Frag} {mg : Str → Option Value} {base : Heap} {M : Mm} {x : Str} {st : Stmt} {N ps : List Str} {k : Nat} {F : En → Option Out} (h : At K mg x st ps) (S : FnScope N ps (defScope st))
    (hb : ∀ (f : Addr) (cdv : Value) (A : Around) (outer : List Env) (s : Shared) (H : Hp) (E : XK), Room k (A.deeper (envOfC x (defScope st) s.heap.objs.size f cdv)) → DSs M (cxOf CX0 P w K mg base N x (defScope st) f cdv A outer s H E).nox (defBody st) F) :
    Cal P w K mg base M x ps (k + 1) (bodyG N.length F) := by
  obtain ⟨a, fd, h1, h2, h3⟩ := h.ex
  exact ⟨a, fd, h2, h1.kp, h3, dfn h1 S fun cdv A outer s H E hr => hb a cdv A outer s H E hr⟩
/-- a method of the text -/
structure AtM (K : PySem.W.Frag) (C : Addr) (m qual : Str) (st : Stmt) (ps : List Str) : Prop where
  ex : ∃ a fd, Fun K m qual st a fd ∧ Meth K C m a ∧ L2.Binds K fd ps []
theorem calM_mk {P : Program} {w : World} {K : PySem.W.Frag} {mg : Str → Option Value} {base : Heap} {M : Mm} {c : Nat} {m qual : Str} {st : Stmt} {N ps : List Str} {k : Nat} {F : En → Option Out} (T : Cls K (M.cl c)) (h : AtM K (M.cl c) m qual st ps) (S : FnScope N ps (defScope st))
    (hb : ∀ (f : Addr) (cdv : Value) (A : Around) (outer : List Env) (s : Shared) (H : Hp) (E : XK), Room k (A.deeper (envOfC qual (defScope st) s.heap.objs.size f cdv)) → DSs M (cxOf CX0 P w K mg base N qual (defScope st) f cdv A outer s H E).nox (defBody st) F) :
    CalM P w K mg base M c m ps (k + 1) (bodyG N.length F) := by
  obtain ⟨a, fd, h1, h2, h3⟩ := h.ex
  exact ⟨a, fd, T, h2, h3, dfn h1 S fun cdv A outer s H E hr => hb a cdv A outer s H E hr⟩
theorem op_eqX {X : Cx} {n : Nat} (hr : Room n X.A) : OpR X (compareOp .Eq) (rEqD X.K) := op_eqD (by have := hr.un; omega)
end Dx
/-! Printed by gen.py: what each def computes, and its walk. -/
namespace Dx
open PySem PySem.Spec PyProof.Rows L2
def top (i : Nat) : Stmt := PySem.Challenge.pw_ifthenbooks_k63_whole_convexity.main.body.getD i (.Pass ⟨0, 0, 0, 0⟩)
section
variable {P : Program} {w : World} {K : PySem.W.Frag} {mg : Str → Option Value} {base : Heap} {M : Mm}
def F_is_integer  : En → Option Out :=
  (sRet (vAnd (fIsi .int (fV 0)) (vAnd (vNot (fIsi .bool (fV 0))) (f3 gLe gLe (fV 1) (fV 0) (fV 2)))))
theorem sc_is_integer : FnScope ["thing", "low", "high"] ["thing", "low", "high"] (defScope (top 8)) := ⟨rfl, rfl, rfl, by decide +kernel, rfl, by decide +kernel, by decide +kernel⟩
theorem raw_is_integer  (T : Tx K mg M) (A : At K mg "is_integer" (top 8) ["thing", "low", "high"])  : Cal P w K mg base M "is_integer" ["thing", "low", "high"] 1 (bodyG 3 (F_is_integer )) :=
  cal_mk A sc_is_integer fun f cdv A outer s H E hr => (dss_one (ds_ret (de_and (de_isi (T := .int) (de_v 0) T.isinstance T.int (by rfl)) (de_and (de_not (de_isi (T := .bool) (de_v 0) T.isinstance T.bool (by rfl))) (de_one (de_chain op_le op_le rd_cmp rd_cmp (de_v 1) (de_v 0) (de_v 2)))))))
def F_is_set (g_is_integer : List D → Option D) : En → Option Out :=
  (sSeq (sIf (bOr (bNot (fB (fIsi .tuple (fV 1)))) (bNot (fB (fCall gAll (aCons (fLc [4] (iSeq (fV 1)) (t1 4) bYes (fCall (gN 3 g_is_integer) (aCons (fV 4) (aCons (fC (.int 0)) (aCons (f2 gSub (fV 0) (fC (.int 1))) aNil))))) aNil))))) (sRet (fC (.bl false))) sNil) (sRet (fCall gAll (aCons (fLc [2, 3] (iZip (aCons (fV 1) (aCons (fFrom 1 (fV 1)) aNil))) (t2 2 3) bYes (f2 gLt (fV 2) (fV 3))) aNil))))
theorem sc_is_set : FnScope ["marks", "thing", "one", "other", "mark"] ["marks", "thing"] (defScope (top 9)) := ⟨rfl, rfl, rfl, by decide +kernel, rfl, by decide +kernel, by decide +kernel⟩
theorem raw_is_set {g_is_integer : List D → Option D} (T : Tx K mg M) (A : At K mg "is_set" (top 9) ["marks", "thing"]) (C_is_integer : Cal P w K mg base M "is_integer" ["thing", "low", "high"] 1 g_is_integer) : Cal P w K mg base M "is_set" ["marks", "thing"] 2 (bodyG 5 (F_is_set g_is_integer)) :=
  cal_mk A sc_is_set fun f cdv A outer s H E hr => (dss_cons (ds_if (dw_t (dw_or (dt_not (dt_val (de_isi (T := .tuple) (de_v 1) T.isinstance T.tuple (by rfl)))) (dw_or1 (dt_not (dt_val (de_callB (cr_all rfl) rc_all (by rfl) T.all (by rfl) (da_cons (de_lc (own := [("mark", 4)]) rfl sc_is_set.nd (di_seq (de_v 1)) (blkOk_by (by rfl)) (gt_name 4) (fun _ _ _ _ _ => (pg_name (i := 4) sc_is_set.nd (by rfl) (by first | exact Or.inl rfl | exact Or.inr rfl))) (fun _ _ _ _ _ => dts_nil) (fun _ _ _ _ _ => (de_cal C_is_integer (hr.mono (by decide)) (da_cons (de_v 4) (da_cons de_int (da_cons (de_op op_sub rd_sub (de_v 0) de_int) da_nil)))))) da_nil))))))) (dss_one (ds_ret de_bl)) dss_nil) (dss_one (ds_ret (de_callB (cr_all rfl) rc_all (by rfl) T.all (by rfl) (da_cons (de_lc (own := [("one", 2), ("other", 3)]) rfl sc_is_set.nd (di_zip (da_cons (de_v 1) (da_cons (de_from (de_v 1)) da_nil)) T.zip) (blkOk_by (by rfl)) (gt_pair 2 3) (fun _ _ _ _ _ => (pg_tup rfl (pgs_cons (pg_name (i := 2) sc_is_set.nd (by rfl) (by first | exact Or.inl rfl | exact Or.inr rfl)) (pgs_cons (pg_name (i := 3) sc_is_set.nd (by rfl) (by first | exact Or.inl rfl | exact Or.inr rfl)) pgs_nil)))) (fun _ _ _ _ _ => dts_nil) (fun _ _ _ _ _ => (de_cmp op_lt rd_cmp (de_v 2) (de_v 3)))) da_nil)))))
def F_is_rule (g_is_set : List D → Option D) : En → Option Out :=
  (sRet (vAnd (fIsi .tuple (fV 1)) (vAnd (f2 gEq (fCall gLenX (aCons (fV 1) aNil)) (fC (.int 2))) (fCall gAll (aCons (fLc [2] (iSeq (fV 1)) (t1 2) bYes (fCall (gN 2 g_is_set) (aCons (fV 0) (aCons (fV 2) aNil)))) aNil)))))
theorem sc_is_rule : FnScope ["marks", "thing", "part"] ["marks", "thing"] (defScope (top 10)) := ⟨rfl, rfl, rfl, by decide +kernel, rfl, by decide +kernel, by decide +kernel⟩
theorem raw_is_rule {g_is_set : List D → Option D} (T : Tx K mg M) (A : At K mg "is_rule" (top 10) ["marks", "thing"]) (C_is_set : Cal P w K mg base M "is_set" ["marks", "thing"] 2 g_is_set) : Cal P w K mg base M "is_rule" ["marks", "thing"] 3 (bodyG 3 (F_is_rule g_is_set)) :=
  cal_mk A sc_is_rule fun f cdv A outer s H E hr => (dss_one (ds_ret (de_and (de_isi (T := .tuple) (de_v 1) T.isinstance T.tuple (by rfl)) (de_and (de_cmp (op_eqX hr) rd_eq (de_callB (call_lenY (M := M)) rc_lenY (by rfl) T.len (by rfl) (da_cons (de_v 1) da_nil)) de_int) (de_one (de_callB (cr_all rfl) rc_all (by rfl) T.all (by rfl) (da_cons (de_lc (own := [("part", 2)]) rfl sc_is_rule.nd (di_seq (de_v 1)) (blkOk_by (by rfl)) (gt_name 2) (fun _ _ _ _ _ => (pg_name (i := 2) sc_is_rule.nd (by rfl) (by first | exact Or.inl rfl | exact Or.inr rfl))) (fun _ _ _ _ _ => dts_nil) (fun _ _ _ _ _ => (de_cal C_is_set (hr.mono (by decide)) (da_cons (de_v 0) (da_cons (de_v 2) da_nil))))) da_nil)))))))
def F_is_within  : En → Option Out :=
  (sRet (fCall gAll (aCons (fLc [2] (iSeq (fV 0)) (t1 2) bYes (f2 gInX (fV 2) (fV 1))) aNil)))
theorem sc_is_within : FnScope ["one", "other", "mark"] ["one", "other"] (defScope (top 11)) := ⟨rfl, rfl, rfl, by decide +kernel, rfl, by decide +kernel, by decide +kernel⟩
theorem raw_is_within  (T : Tx K mg M) (A : At K mg "is_within" (top 11) ["one", "other"])  : Cal P w K mg base M "is_within" ["one", "other"] 1 (bodyG 3 (F_is_within )) :=
  cal_mk A sc_is_within fun f cdv A outer s H E hr => (dss_one (ds_ret (de_callB (cr_all rfl) rc_all (by rfl) T.all (by rfl) (da_cons (de_lc (own := [("mark", 2)]) rfl sc_is_within.nd (di_seq (de_v 0)) (blkOk_by (by rfl)) (gt_name 2) (fun _ _ _ _ _ => (pg_name (i := 2) sc_is_within.nd (by rfl) (by first | exact Or.inl rfl | exact Or.inr rfl))) (fun _ _ _ _ _ => dts_nil) (fun _ _ _ _ _ => (de_cmp (op_inY (M := M) hr) rd_inY (de_v 2) (de_v 1)))) da_nil))))
def F_meet  : En → Option Out :=
  (sRet (fCall gTuple (aCons (fLc [2] (iSeq (fV 0)) (t1 2) (fB (f2 gInX (fV 2) (fV 1))) (fV 2)) aNil)))
theorem sc_meet : FnScope ["one", "other", "mark"] ["one", "other"] (defScope (top 12)) := ⟨rfl, rfl, rfl, by decide +kernel, rfl, by decide +kernel, by decide +kernel⟩
theorem raw_meet  (T : Tx K mg M) (A : At K mg "meet" (top 12) ["one", "other"])  : Cal P w K mg base M "meet" ["one", "other"] 1 (bodyG 3 (F_meet )) :=
  cal_mk A sc_meet fun f cdv A outer s H E hr => (dss_one (ds_ret (de_callTy call_tupleOf rc_tuple (by rfl) T.tuple (by rfl) (da_cons (de_lc (own := [("mark", 2)]) rfl sc_meet.nd (di_seq (de_v 0)) (blkOk_by (by rfl)) (gt_name 2) (fun _ _ _ _ _ => (pg_name (i := 2) sc_meet.nd (by rfl) (by first | exact Or.inl rfl | exact Or.inr rfl))) (fun _ _ _ _ _ => (dts_one (dt_cmp (op_inY (M := M) hr) rd_inY (de_v 2) (de_v 1)))) (fun _ _ _ _ _ => (de_v 2))) da_nil))))
def F_sets_of (g_in_order : List D → Option D) : En → Option Out :=
  (sSeq (sAsg (fLst (aCons (fTup aNil) aNil)) (t1 1)) (sSeq (sFor (iRange (fV 0)) (t1 2) (sAsg (fLst (aStar (fV 1) (aStar (fLc [3] (iSeq (fV 1)) (t1 3) bYes (fTup (aStar (fV 3) (aCons (fV 2) aNil)))) aNil))) (t1 1))) (sRet (fCall (gN 1 g_in_order) (aCons (fV 1) aNil)))))
theorem sc_sets_of : FnScope ["marks", "found", "mark", "one"] ["marks"] (defScope (top 14)) := ⟨rfl, rfl, rfl, by decide +kernel, rfl, by decide +kernel, by decide +kernel⟩
theorem raw_sets_of {g_in_order : List D → Option D} (T : Tx K mg M) (A : At K mg "sets_of" (top 14) ["marks"]) (C_in_order : Cal P w K mg base M "in_order" ["sets"] 2 g_in_order) : Cal P w K mg base M "sets_of" ["marks"] 3 (bodyG 4 (F_sets_of g_in_order)) :=
  cal_mk A sc_sets_of fun f cdv A outer s H E hr => (dss_cons (ds_set (i := 1) sc_sets_of.nd (de_lst (da_cons (de_tup da_nil) da_nil))) (dss_cons (ds_for PassesOwn.never rfl (di_range (de_v 0) T.range) (pg_name (i := 2) sc_sets_of.nd (by rfl) (by first | exact Or.inl rfl | exact Or.inr rfl)) (gt_name 2) (dss_one (ds_set (i := 1) sc_sets_of.nd (de_lst (da_star (de_v 1) (da_star (de_lc (own := [("one", 3)]) rfl sc_sets_of.nd (di_seq (de_v 1)) (blkOk_by (by rfl)) (gt_name 3) (fun _ _ _ _ _ => (pg_name (i := 3) sc_sets_of.nd (by rfl) (by first | exact Or.inl rfl | exact Or.inr rfl))) (fun _ _ _ _ _ => dts_nil) (fun _ _ _ _ _ => (de_tup (da_star (de_v 3) (da_cons (de_v 2) da_nil))))) da_nil)))))) (dss_one (ds_ret (de_cal C_in_order (hr.mono (by decide)) (da_cons (de_v 1) da_nil))))))
def F_root_for (g_parts_within : List D → Option D) (g_closure : List D → Option D) : En → Option Out :=
  (sRet (f2 gIxX (fLc [3] (iSeq (fCall (gN 1 g_parts_within) (aCons (fV 1) aNil))) (t1 3) (fB (f2 gInX (fV 2) (fCall (gN 2 g_closure) (aCons (fFld 0 "rules" (fV 0)) (aCons (fV 3) aNil))))) (fV 3)) (fC (.int 0))))
theorem sc_root_for : FnScope ["book", "thing", "mark", "one"] ["book", "thing", "mark"] (defScope (top 20)) := ⟨rfl, rfl, rfl, by decide +kernel, rfl, by decide +kernel, by decide +kernel⟩
theorem raw_root_for {g_parts_within : List D → Option D} {g_closure : List D → Option D} (T : Tx K mg M) (A : At K mg "root_for" (top 20) ["book", "thing", "mark"]) (C_parts_within : Cal P w K mg base M "parts_within" ["thing"] 2 g_parts_within) (C_closure : Cal P w K mg base M "closure" ["rules", "thing"] 2 g_closure) : Cal P w K mg base M "root_for" ["book", "thing", "mark"] 3 (bodyG 4 (F_root_for g_parts_within g_closure)) :=
  cal_mk A sc_root_for fun f cdv A outer s H E hr => (dss_one (ds_ret (de_ixX hr (de_lc (own := [("one", 3)]) rfl sc_root_for.nd (di_seq (de_cal C_parts_within (hr.mono (by decide)) (da_cons (de_v 1) da_nil))) (blkOk_by (by rfl)) (gt_name 3) (fun _ _ _ _ _ => (pg_name (i := 3) sc_root_for.nd (by rfl) (by first | exact Or.inl rfl | exact Or.inr rfl))) (fun _ _ _ _ _ => (dts_one (dt_cmp (op_inY (M := M) hr) rd_inY (de_v 2) (de_cal C_closure (hr.mono (by decide)) (da_cons (de_rules T (de_v 0)) (da_cons (de_v 3) da_nil)))))) (fun _ _ _ _ _ => (de_v 3))) de_int)))
def F_without  : En → Option Out :=
  (sRet (fCall gTuple (aCons (fLc [2] (iSeq (fV 0)) (t1 2) (fB (f2 gNeX (fV 2) (fV 1))) (fV 2)) aNil)))
theorem sc_without : FnScope ["thing", "mark", "one"] ["thing", "mark"] (defScope (top 21)) := ⟨rfl, rfl, rfl, by decide +kernel, rfl, by decide +kernel, by decide +kernel⟩
theorem raw_without  (T : Tx K mg M) (A : At K mg "without" (top 21) ["thing", "mark"])  : Cal P w K mg base M "without" ["thing", "mark"] 1 (bodyG 3 (F_without )) :=
  cal_mk A sc_without fun f cdv A outer s H E hr => (dss_one (ds_ret (de_callTy call_tupleOf rc_tuple (by rfl) T.tuple (by rfl) (da_cons (de_lc (own := [("one", 2)]) rfl sc_without.nd (di_seq (de_v 0)) (blkOk_by (by rfl)) (gt_name 2) (fun _ _ _ _ _ => (pg_name (i := 2) sc_without.nd (by rfl) (by first | exact Or.inl rfl | exact Or.inr rfl))) (fun _ _ _ _ _ => (dts_one (dt_cmp (op_neY (M := M) hr) rd_neY (de_v 2) (de_v 1)))) (fun _ _ _ _ _ => (de_v 2))) da_nil))))
def F_common_without (g_without : List D → Option D) (g_closure : List D → Option D) (g_meet : List D → Option D) : En → Option Out :=
  (sSeq (sAsg (fTupRange (fFld 0 "marks" (fV 0))) (t1 2)) (sSeq (sFor (iSeq (fV 1)) (t1 3) (sAsg (fCall (gN 2 g_meet) (aCons (fV 2) (aCons (fCall (gN 2 g_closure) (aCons (fFld 0 "rules" (fV 0)) (aCons (fCall (gN 2 g_without) (aCons (fV 1) (aCons (fV 3) aNil))) aNil))) aNil))) (t1 2))) (sRet (fV 2))))
theorem sc_common_without : FnScope ["book", "thing", "found", "mark"] ["book", "thing"] (defScope (top 22)) := ⟨rfl, rfl, rfl, by decide +kernel, rfl, by decide +kernel, by decide +kernel⟩
theorem raw_common_without {g_without : List D → Option D} {g_closure : List D → Option D} {g_meet : List D → Option D} (T : Tx K mg M) (A : At K mg "common_without" (top 22) ["book", "thing"]) (C_without : Cal P w K mg base M "without" ["thing", "mark"] 1 g_without) (C_closure : Cal P w K mg base M "closure" ["rules", "thing"] 2 g_closure) (C_meet : Cal P w K mg base M "meet" ["one", "other"] 1 g_meet) : Cal P w K mg base M "common_without" ["book", "thing"] 3 (bodyG 4 (F_common_without g_without g_closure g_meet)) :=
  cal_mk A sc_common_without fun f cdv A outer s H E hr => (dss_cons (ds_set (i := 2) sc_common_without.nd (de_tupRange rfl (de_marks T (de_v 0)) T.tuple T.range)) (dss_cons (ds_for PassesOwn.never rfl (di_seq (de_v 1)) (pg_name (i := 3) sc_common_without.nd (by rfl) (by first | exact Or.inl rfl | exact Or.inr rfl)) (gt_name 3) (dss_one (ds_set (i := 2) sc_common_without.nd (de_cal C_meet (hr.mono (by decide)) (da_cons (de_v 2) (da_cons (de_cal C_closure (hr.mono (by decide)) (da_cons (de_rules T (de_v 0)) (da_cons (de_cal C_without (hr.mono (by decide)) (da_cons (de_v 1) (da_cons (de_v 3) da_nil))) da_nil))) da_nil)))))) (dss_one (ds_ret (de_v 2)))))
def F_halves_of (g_parts_within : List D → Option D) : En → Option Out :=
  (sRet (fLc [1] (iSeq (fCall (gN 1 g_parts_within) (aCons (fV 0) aNil))) (t1 1) (bOr (fB (f2 gEq (fV 0) (fTup aNil))) (fB (f2 gInX (f2 gIxX (fV 0) (fC (.int 0))) (fV 1)))) (fV 1)))
theorem sc_halves_of : FnScope ["thing", "one"] ["thing"] (defScope (top 23)) := ⟨rfl, rfl, rfl, by decide +kernel, rfl, by decide +kernel, by decide +kernel⟩
theorem raw_halves_of {g_parts_within : List D → Option D} (T : Tx K mg M) (A : At K mg "halves_of" (top 23) ["thing"]) (C_parts_within : Cal P w K mg base M "parts_within" ["thing"] 2 g_parts_within) : Cal P w K mg base M "halves_of" ["thing"] 3 (bodyG 2 (F_halves_of g_parts_within)) :=
  cal_mk A sc_halves_of fun f cdv A outer s H E hr => (dss_one (ds_ret (de_lc (own := [("one", 1)]) rfl sc_halves_of.nd (di_seq (de_cal C_parts_within (hr.mono (by decide)) (da_cons (de_v 0) da_nil))) (blkOk_by (by rfl)) (gt_name 1) (fun _ _ _ _ _ => (pg_name (i := 1) sc_halves_of.nd (by rfl) (by first | exact Or.inl rfl | exact Or.inr rfl))) (fun _ _ _ _ _ => (dts_one (dw_t (dw_or (dt_cmp (op_eqX hr) rd_eq (de_v 0) (de_tup da_nil)) (dw_or1 (dt_cmp (op_inY (M := M) hr) rd_inY (de_ixX hr (de_v 0) de_int) (de_v 1))))))) (fun _ _ _ _ _ => (de_v 1)))))
def F_rest_of  : En → Option Out :=
  (sRet (fCall gTuple (aCons (fLc [2] (iSeq (fV 0)) (t1 2) (fB (f2 gNotIn (fV 2) (fV 1))) (fV 2)) aNil)))
theorem sc_rest_of : FnScope ["thing", "half", "mark"] ["thing", "half"] (defScope (top 24)) := ⟨rfl, rfl, rfl, by decide +kernel, rfl, by decide +kernel, by decide +kernel⟩
theorem raw_rest_of  (T : Tx K mg M) (A : At K mg "rest_of" (top 24) ["thing", "half"])  : Cal P w K mg base M "rest_of" ["thing", "half"] 1 (bodyG 3 (F_rest_of )) :=
  cal_mk A sc_rest_of fun f cdv A outer s H E hr => (dss_one (ds_ret (de_callTy call_tupleOf rc_tuple (by rfl) T.tuple (by rfl) (da_cons (de_lc (own := [("mark", 2)]) rfl sc_rest_of.nd (di_seq (de_v 0)) (blkOk_by (by rfl)) (gt_name 2) (fun _ _ _ _ _ => (pg_name (i := 2) sc_rest_of.nd (by rfl) (by first | exact Or.inl rfl | exact Or.inr rfl))) (fun _ _ _ _ _ => (dts_one (dt_cmp (op_notInAll hr) rd_notIn (de_v 2) (de_v 1)))) (fun _ _ _ _ _ => (de_v 2))) da_nil))))
def F_common_halves (g_rest_of : List D → Option D) (g_closure : List D → Option D) (g_meet : List D → Option D) : En → Option Out :=
  (sRet (fCall (gN 2 g_meet) (aCons (fCall (gN 2 g_closure) (aCons (fFld 0 "rules" (fV 0)) (aCons (fV 2) aNil))) (aCons (fCall (gN 2 g_closure) (aCons (fFld 0 "rules" (fV 0)) (aCons (fCall (gN 2 g_rest_of) (aCons (fV 1) (aCons (fV 2) aNil))) aNil))) aNil))))
theorem sc_common_halves : FnScope ["book", "thing", "half"] ["book", "thing", "half"] (defScope (top 25)) := ⟨rfl, rfl, rfl, by decide +kernel, rfl, by decide +kernel, by decide +kernel⟩
theorem raw_common_halves {g_rest_of : List D → Option D} {g_closure : List D → Option D} {g_meet : List D → Option D} (T : Tx K mg M) (A : At K mg "common_halves" (top 25) ["book", "thing", "half"]) (C_rest_of : Cal P w K mg base M "rest_of" ["thing", "half"] 1 g_rest_of) (C_closure : Cal P w K mg base M "closure" ["rules", "thing"] 2 g_closure) (C_meet : Cal P w K mg base M "meet" ["one", "other"] 1 g_meet) : Cal P w K mg base M "common_halves" ["book", "thing", "half"] 3 (bodyG 3 (F_common_halves g_rest_of g_closure g_meet)) :=
  cal_mk A sc_common_halves fun f cdv A outer s H E hr => (dss_one (ds_ret (de_cal C_meet (hr.mono (by decide)) (da_cons (de_cal C_closure (hr.mono (by decide)) (da_cons (de_rules T (de_v 0)) (da_cons (de_v 2) da_nil))) (da_cons (de_cal C_closure (hr.mono (by decide)) (da_cons (de_rules T (de_v 0)) (da_cons (de_cal C_rest_of (hr.mono (by decide)) (da_cons (de_v 1) (da_cons (de_v 2) da_nil))) da_nil))) da_nil)))))
def F_is_apart (g_halves_of : List D → Option D) (g_common_halves : List D → Option D) : En → Option Out :=
  (sRet (fCall gAll (aCons (fLc [2] (iSeq (fCall (gN 1 g_halves_of) (aCons (fV 1) aNil))) (t1 2) bYes (f2 gEq (fCall (gN 3 g_common_halves) (aCons (fV 0) (aCons (fV 1) (aCons (fV 2) aNil)))) (fTup aNil))) aNil)))
theorem sc_is_apart : FnScope ["book", "thing", "half"] ["book", "thing"] (defScope (top 26)) := ⟨rfl, rfl, rfl, by decide +kernel, rfl, by decide +kernel, by decide +kernel⟩
theorem raw_is_apart {g_halves_of : List D → Option D} {g_common_halves : List D → Option D} (T : Tx K mg M) (A : At K mg "is_apart" (top 26) ["book", "thing"]) (C_halves_of : Cal P w K mg base M "halves_of" ["thing"] 3 g_halves_of) (C_common_halves : Cal P w K mg base M "common_halves" ["book", "thing", "half"] 3 g_common_halves) : Cal P w K mg base M "is_apart" ["book", "thing"] 4 (bodyG 3 (F_is_apart g_halves_of g_common_halves)) :=
  cal_mk A sc_is_apart fun f cdv A outer s H E hr => (dss_one (ds_ret (de_callB (cr_all rfl) rc_all (by rfl) T.all (by rfl) (da_cons (de_lc (own := [("half", 2)]) rfl sc_is_apart.nd (di_seq (de_cal C_halves_of (hr.mono (by decide)) (da_cons (de_v 1) da_nil))) (blkOk_by (by rfl)) (gt_name 2) (fun _ _ _ _ _ => (pg_name (i := 2) sc_is_apart.nd (by rfl) (by first | exact Or.inl rfl | exact Or.inr rfl))) (fun _ _ _ _ _ => dts_nil) (fun _ _ _ _ _ => (de_cmp (op_eqX hr) rd_eq (de_cal C_common_halves (hr.mono (by decide)) (da_cons (de_v 0) (da_cons (de_v 1) (da_cons (de_v 2) da_nil)))) (de_tup da_nil)))) da_nil))))
def F_pairs_of (g_sets_of : List D → Option D) (g_closure : List D → Option D) : En → Option Out :=
  (sRet (fLc2 [1, 2] [2] (iSeq (fCall (gN 1 g_sets_of) (aCons (fFld 0 "marks" (fV 0)) aNil))) (t1 1) (iSeq (fCall (gN 2 g_closure) (aCons (fFld 0 "rules" (fV 0)) (aCons (fV 1) aNil)))) (t1 2) (fTup (aCons (fV 1) (aCons (fV 2) aNil)))))
theorem sc_pairs_of : FnScope ["book", "thing", "mark"] ["book"] (defScope (top 28)) := ⟨rfl, rfl, rfl, by decide +kernel, rfl, by decide +kernel, by decide +kernel⟩
theorem raw_pairs_of {g_sets_of : List D → Option D} {g_closure : List D → Option D} (T : Tx K mg M) (A : At K mg "pairs_of" (top 28) ["book"]) (C_sets_of : Cal P w K mg base M "sets_of" ["marks"] 3 g_sets_of) (C_closure : Cal P w K mg base M "closure" ["rules", "thing"] 2 g_closure) : Cal P w K mg base M "pairs_of" ["book"] 4 (bodyG 3 (F_pairs_of g_sets_of g_closure)) :=
  cal_mk A sc_pairs_of fun f cdv A outer s H E hr => (dss_one (ds_ret (de_lc2 (own := [("thing", 1), ("mark", 2)]) (vs1 := [2]) rfl sc_pairs_of.nd (di_seq (de_cal C_sets_of (hr.mono (by decide)) (da_cons (de_marks T (de_v 0)) da_nil))) (blkOk_by (by rfl)) (gt_name 1) (gt_name 2) (fun _ _ _ _ _ => (pg_name (i := 1) sc_pairs_of.nd (by rfl) (by first | exact Or.inl rfl | exact Or.inr rfl))) (fun _ _ _ _ _ => (di_seq (de_cal C_closure (hr.mono (by decide)) (da_cons (de_rules T (de_v 0)) (da_cons (de_v 1) da_nil))))) (fun _ _ _ _ _ => (pg_name (i := 2) sc_pairs_of.nd (by rfl) (by first | exact Or.inl rfl | exact Or.inr rfl))) (fun _ _ _ _ _ => (de_tup (da_cons (de_v 1) (da_cons (de_v 2) da_nil)))))))
def F_Meeting_shows (g_check_book : List D → Option D) (g_is_set : List D → Option D) (g_common_without : List D → Option D) (g_sets_of : List D → Option D) : En → Option Out :=
  (sSeq (sDrop (fCall (gN 1 g_check_book) (aCons (fV 1) aNil))) (sSeq (sIf (bOr (bNot (fB (fCall (gN 2 g_is_set) (aCons (fFld 0 "marks" (fV 1)) (aCons (fFld 2 "thing" (fV 0)) aNil))))) (fB (f2 gNeX (fCall gLenX (aCons (fFld 2 "thing" (fV 0)) aNil)) (fFld 2 "number" (fV 0))))) (sRet (fC (.bl false))) sNil) (sSeq (sIf (bAnd (fB (f2 gGt (fFld 2 "number" (fV 0)) (fC (.int 0)))) (fB (f2 gNeX (fCall (gN 2 g_common_without) (aCons (fV 1) (aCons (fFld 2 "thing" (fV 0)) aNil))) (fTup aNil)))) (sRet (fC (.bl false))) sNil) (sSeq (sAsg (fLc [3] (iSeq (fCall (gN 1 g_sets_of) (aCons (fFld 0 "marks" (fV 1)) aNil))) (t1 3) (fB (f2 gEq (fCall gLenX (aCons (fV 3) aNil)) (f2 gAdd (fFld 2 "number" (fV 0)) (fC (.int 1))))) (fV 3)) (t1 2)) (sSeq (sIf (bOr (fB (f2 gNeX (fCall gLenX (aCons (fV 2) aNil)) (fCall gLenX (aCons (fFld 2 "table" (fV 0)) aNil)))) (bNot (fB (fCall gAll (aCons (fLc [3] (iSeq (fV 2)) (t1 3) bYes (f2 gInX (fV 3) (fFld 2 "table" (fV 0)))) aNil))))) (sRet (fC (.bl false))) sNil) (sRet (fCall gAll (aCons (fLc [3, 4] (iItemsX (fFld 2 "table" (fV 0))) (t2 3 4) bYes (f2 gInX (fV 4) (fCall (gN 2 g_common_without) (aCons (fV 1) (aCons (fV 3) aNil))))) aNil))))))))
theorem sc_Meeting_shows : FnScope ["self", "book", "due", "thing", "mark"] ["self", "book"] (defScope (inClass (top 29) 3)) := ⟨rfl, rfl, rfl, by decide +kernel, rfl, by decide +kernel, by decide +kernel⟩
theorem raw_Meeting_shows {g_check_book : List D → Option D} {g_is_set : List D → Option D} {g_common_without : List D → Option D} {g_sets_of : List D → Option D} (T : Tx K mg M) (A : AtM K (M.cl 2) "shows" "Meeting.shows" (inClass (top 29) 3) ["self", "book"]) (C_check_book : Cal P w K mg base M "check_book" ["thing"] 1 g_check_book) (C_is_set : Cal P w K mg base M "is_set" ["marks", "thing"] 2 g_is_set) (C_common_without : Cal P w K mg base M "common_without" ["book", "thing"] 3 g_common_without) (C_sets_of : Cal P w K mg base M "sets_of" ["marks"] 3 g_sets_of) : CalM P w K mg base M 2 "shows" ["self", "book"] 4 (bodyG 5 (F_Meeting_shows g_check_book g_is_set g_common_without g_sets_of)) :=
  calM_mk T.cls2 A sc_Meeting_shows fun f cdv A outer s H E hr => (dss_cons (ds_expr (de_cal C_check_book (hr.mono (by decide)) (da_cons (de_v 1) da_nil))) (dss_cons (ds_if (dw_t (dw_or (dt_not (dt_val (de_cal C_is_set (hr.mono (by decide)) (da_cons (de_marks T (de_v 1)) (da_cons (de_attr 2 (by decide) T.cls2 T.n2thing (de_v 0)) da_nil))))) (dw_or1 (dt_cmp (op_neY (M := M) hr) rd_neY (de_callB (call_lenY (M := M)) rc_lenY (by rfl) T.len (by rfl) (da_cons (de_attr 2 (by decide) T.cls2 T.n2thing (de_v 0)) da_nil)) (de_attr 2 (by decide) T.cls2 T.n2number (de_v 0)))))) (dss_one (ds_ret de_bl)) dss_nil) (dss_cons (ds_if (dw_t (dw_and (dt_cmp op_gt rd_cmp (de_attr 2 (by decide) T.cls2 T.n2number (de_v 0)) de_int) (dw_and1 (dt_cmp (op_neY (M := M) hr) rd_neY (de_cal C_common_without (hr.mono (by decide)) (da_cons (de_v 1) (da_cons (de_attr 2 (by decide) T.cls2 T.n2thing (de_v 0)) da_nil))) (de_tup da_nil))))) (dss_one (ds_ret de_bl)) dss_nil) (dss_cons (ds_setLc (i := 2) (own := [("thing", 3)]) rfl sc_Meeting_shows.nd (di_seq (de_cal C_sets_of (hr.mono (by decide)) (da_cons (de_marks T (de_v 1)) da_nil))) (blkOk_by (by rfl)) (gt_name 3) (sw_true rfl (by rfl) (by rfl) (by rfl)) (fun _ _ _ _ _ => (pg_name (i := 3) sc_Meeting_shows.nd (by rfl) (by first | exact Or.inl rfl | exact Or.inr rfl))) (fun _ _ _ _ _ => (dts_one (dt_cmp (op_eqX hr) rd_eq (de_callB (call_lenY (M := M)) rc_lenY (by rfl) T.len (by rfl) (da_cons (de_v 3) da_nil)) (de_op op_addAll rd_add (de_attr 2 (by decide) T.cls2 T.n2number (de_v 0)) de_int)))) (fun _ _ _ _ _ => (de_v 3))) (dss_cons (ds_if (dw_t (dw_or (dt_cmp (op_neY (M := M) hr) rd_neY (de_callB (call_lenY (M := M)) rc_lenY (by rfl) T.len (by rfl) (da_cons (de_v 2) da_nil)) (de_callB (call_lenY (M := M)) rc_lenY (by rfl) T.len (by rfl) (da_cons (de_attr 2 (by decide) T.cls2 T.n2table (de_v 0)) da_nil))) (dw_or1 (dt_not (dt_val (de_callB (cr_all rfl) rc_all (by rfl) T.all (by rfl) (da_cons (de_lc (own := [("thing", 3)]) rfl sc_Meeting_shows.nd (di_seq (de_v 2)) (blkOk_by (by rfl)) (gt_name 3) (fun _ _ _ _ _ => (pg_name (i := 3) sc_Meeting_shows.nd (by rfl) (by first | exact Or.inl rfl | exact Or.inr rfl))) (fun _ _ _ _ _ => dts_nil) (fun _ _ _ _ _ => (de_cmp (op_inY (M := M) hr) rd_inY (de_v 3) (de_attr 2 (by decide) T.cls2 T.n2table (de_v 0))))) da_nil))))))) (dss_one (ds_ret de_bl)) dss_nil) (dss_one (ds_ret (de_callB (cr_all rfl) rc_all (by rfl) T.all (by rfl) (da_cons (de_lc (own := [("thing", 3), ("mark", 4)]) rfl sc_Meeting_shows.nd (di_items (de_attr 2 (by decide) T.cls2 T.n2table (de_v 0))) (blkOk_by (by rfl)) (gt_pair 3 4) (fun _ _ _ _ _ => (pg_tup rfl (pgs_cons (pg_name (i := 3) sc_Meeting_shows.nd (by rfl) (by first | exact Or.inl rfl | exact Or.inr rfl)) (pgs_cons (pg_name (i := 4) sc_Meeting_shows.nd (by rfl) (by first | exact Or.inl rfl | exact Or.inr rfl)) pgs_nil)))) (fun _ _ _ _ _ => dts_nil) (fun _ _ _ _ _ => (de_cmp (op_inY (M := M) hr) rd_inY (de_v 4) (de_cal C_common_without (hr.mono (by decide)) (da_cons (de_v 1) (da_cons (de_v 3) da_nil)))))) da_nil)))))))))
def F_Halves_does_halve (g_is_set : List D → Option D) (g_is_within : List D → Option D) (g_common_halves : List D → Option D) : En → Option Out :=
  (sSeq (sAsg (f2 gIxX (fFld 3 "table" (fV 0)) (fV 2)) (t2 3 4)) (sSeq (sIf (bOr (bNot (fB (fCall (gN 2 g_is_set) (aCons (fFld 0 "marks" (fV 1)) (aCons (fV 3) aNil))))) (bNot (fB (fCall (gN 2 g_is_within) (aCons (fV 3) (aCons (fV 2) aNil)))))) (sRet (fC (.bl false))) sNil) (sRet (f2 gInX (fV 4) (fCall (gN 3 g_common_halves) (aCons (fV 1) (aCons (fV 2) (aCons (fV 3) aNil))))))))
theorem sc_Halves_does_halve : FnScope ["self", "book", "thing", "half", "mark"] ["self", "book", "thing"] (defScope (inClass (top 30) 4)) := ⟨rfl, rfl, rfl, by decide +kernel, rfl, by decide +kernel, by decide +kernel⟩
theorem raw_Halves_does_halve {g_is_set : List D → Option D} {g_is_within : List D → Option D} {g_common_halves : List D → Option D} (T : Tx K mg M) (A : AtM K (M.cl 3) "does_halve" "Halves.does_halve" (inClass (top 30) 4) ["self", "book", "thing"]) (C_is_set : Cal P w K mg base M "is_set" ["marks", "thing"] 2 g_is_set) (C_is_within : Cal P w K mg base M "is_within" ["one", "other"] 1 g_is_within) (C_common_halves : Cal P w K mg base M "common_halves" ["book", "thing", "half"] 3 g_common_halves) : CalM P w K mg base M 3 "does_halve" ["self", "book", "thing"] 4 (bodyG 5 (F_Halves_does_halve g_is_set g_is_within g_common_halves)) :=
  calM_mk T.cls3 A sc_Halves_does_halve fun f cdv A outer s H E hr => (dss_cons (ds_asg (de_ixX hr (de_attr 3 (by decide) T.cls3 T.n3table (de_v 0)) (de_v 2)) (pg_tup rfl (pgs_cons (pg_name (i := 3) sc_Halves_does_halve.nd (by rfl) (by first | exact Or.inl rfl | exact Or.inr rfl)) (pgs_cons (pg_name (i := 4) sc_Halves_does_halve.nd (by rfl) (by first | exact Or.inl rfl | exact Or.inr rfl)) pgs_nil))) (gt_pair 3 4)) (dss_cons (ds_if (dw_t (dw_or (dt_not (dt_val (de_cal C_is_set (hr.mono (by decide)) (da_cons (de_marks T (de_v 1)) (da_cons (de_v 3) da_nil))))) (dw_or1 (dt_not (dt_val (de_cal C_is_within (hr.mono (by decide)) (da_cons (de_v 3) (da_cons (de_v 2) da_nil)))))))) (dss_one (ds_ret de_bl)) dss_nil) (dss_one (ds_ret (de_cmp (op_inY (M := M) hr) rd_inY (de_v 4) (de_cal C_common_halves (hr.mono (by decide)) (da_cons (de_v 1) (da_cons (de_v 2) (da_cons (de_v 3) da_nil)))))))))
def F_few (g_check_book : List D → Option D) (g_pairs_of : List D → Option D) (g_root_for : List D → Option D) (g_Few : List D → Option (List (Str × D))) : En → Option Out :=
  (sSeq (sDrop (fCall (gN 1 g_check_book) (aCons (fV 0) aNil))) (sSeq (sAsg (fDcX [3] (iSeq (fCall (gN 1 g_pairs_of) (aCons (fV 0) aNil))) (t1 3) (fV 3) (fCall (gN 3 g_root_for) (aCons (fV 0) (aCons (f2 gIxX (fV 3) (fC (.int 0))) (aCons (f2 gIxX (fV 3) (fC (.int 1))) aNil))))) (t1 1)) (sSeq (sAsg (fCall gMax (aCons (fLc [3, 4] (iItemsX (fV 1)) (t2 3 4) bYes (fTup (aCons (fCall gLenX (aCons (fV 4) aNil)) (aCons (fV 4) (aCons (f2 gIxX (fV 3) (fC (.int 1))) aNil))))) aNil)) (t1 2)) (sRet (fMake 1 3 g_Few (aCons (f2 gIxX (fV 2) (fC (.int 0))) (aCons (fTup (aCons (f2 gIxX (fV 2) (fC (.int 1))) (aCons (f2 gIxX (fV 2) (fC (.int 2))) aNil))) (aCons (fV 1) aNil))))))))
theorem sc_few : FnScope ["book", "table", "hard", "pair", "root"] ["book"] (defScope (top 31)) := ⟨rfl, rfl, rfl, by decide +kernel, rfl, by decide +kernel, by decide +kernel⟩
theorem raw_few {g_check_book : List D → Option D} {g_pairs_of : List D → Option D} {g_root_for : List D → Option D} {g_Few : List D → Option (List (Str × D))} (T : Tx K mg M) (A : At K mg "few" (top 31) ["book"]) (C_check_book : Cal P w K mg base M "check_book" ["thing"] 1 g_check_book) (C_pairs_of : Cal P w K mg base M "pairs_of" ["book"] 4 g_pairs_of) (C_root_for : Cal P w K mg base M "root_for" ["book", "thing", "mark"] 3 g_root_for) (C_Few : CalI P w K mg base M "Few" 1 ["self", "number", "hard", "table"] 1 g_Few) : Cal P w K mg base M "few" ["book"] 5 (bodyG 5 (F_few g_check_book g_pairs_of g_root_for g_Few)) :=
  cal_mk A sc_few fun f cdv A outer s H E hr => (dss_cons (ds_expr (de_cal C_check_book (hr.mono (by decide)) (da_cons (de_v 0) da_nil))) (dss_cons (ds_setDcX (i := 1) (own := [("pair", 3)]) hr rfl sc_few.nd (di_seq (de_cal C_pairs_of (hr.mono (by decide)) (da_cons (de_v 0) da_nil))) (blkOk_by (by rfl)) (gt_name 3) (sw_dict rfl (by rfl) (by rfl) (by rfl)) (fun _ _ _ _ _ => (pg_name (i := 3) sc_few.nd (by rfl) (by first | exact Or.inl rfl | exact Or.inr rfl))) (fun _ _ _ _ _ => (de_v 3)) (fun _ _ _ _ _ => (de_cal C_root_for (hr.mono (by decide)) (da_cons (de_v 0) (da_cons (de_ixX hr (de_v 3) de_int) (da_cons (de_ixX hr (de_v 3) de_int) da_nil)))))) (dss_cons (ds_set (i := 2) sc_few.nd (de_callB (id := "max") (cr_ex hr true) rc_max (by rfl) T.max (by rfl) (da_cons (de_lc (own := [("pair", 3), ("root", 4)]) rfl sc_few.nd (di_items (de_v 1)) (blkOk_by (by rfl)) (gt_pair 3 4) (fun _ _ _ _ _ => (pg_tup rfl (pgs_cons (pg_name (i := 3) sc_few.nd (by rfl) (by first | exact Or.inl rfl | exact Or.inr rfl)) (pgs_cons (pg_name (i := 4) sc_few.nd (by rfl) (by first | exact Or.inl rfl | exact Or.inr rfl)) pgs_nil)))) (fun _ _ _ _ _ => dts_nil) (fun _ _ _ _ _ => (de_tup (da_cons (de_callB (call_lenY (M := M)) rc_lenY (by rfl) T.len (by rfl) (da_cons (de_v 4) da_nil)) (da_cons (de_v 4) (da_cons (de_ixX hr (de_v 3) de_int) da_nil)))))) da_nil))) (dss_one (ds_ret (de_calI C_Few (hr.mono (by decide)) (da_cons (de_ixX hr (de_v 2) de_int) (da_cons (de_tup (da_cons (de_ixX hr (de_v 2) de_int) (da_cons (de_ixX hr (de_v 2) de_int) da_nil))) (da_cons (de_v 1) da_nil))) 3))))))
def F_meeting (g_check_book : List D → Option D) (g_sets_of : List D → Option D) (g_common_without : List D → Option D) (g_Meeting : List D → Option (List (Str × D))) : En → Option Out :=
  (sSeq (sDrop (fCall (gN 1 g_check_book) (aCons (fV 0) aNil))) (sSeq (sAsg (fTup aNil) (t1 1)) (sSeq (sFor (iSeq (fCall (gN 1 g_sets_of) (aCons (fFld 0 "marks" (fV 0)) aNil))) (t1 2) (sIf (bAnd (fB (f2 gNeX (fV 2) (fTup aNil))) (bAnd (fB (f2 gGt (fCall gLenX (aCons (fV 2) aNil)) (fCall gLenX (aCons (fV 1) aNil)))) (fB (f2 gEq (fCall (gN 2 g_common_without) (aCons (fV 0) (aCons (fV 2) aNil))) (fTup aNil))))) (sAsg (fV 2) (t1 1)) sNil)) (sSeq (sAsg (fLc [2] (iSeq (fCall (gN 1 g_sets_of) (aCons (fFld 0 "marks" (fV 0)) aNil))) (t1 2) (fB (f2 gEq (fCall gLenX (aCons (fV 2) aNil)) (f2 gAdd (fCall gLenX (aCons (fV 1) aNil)) (fC (.int 1))))) (fV 2)) (t1 3)) (sRet (fMake 2 3 g_Meeting (aCons (fCall gLenX (aCons (fV 1) aNil)) (aCons (fV 1) (aCons (fDcX [2] (iSeq (fV 3)) (t1 2) (fV 2) (f2 gIxX (fCall (gN 2 g_common_without) (aCons (fV 0) (aCons (fV 2) aNil))) (fC (.int 0)))) aNil)))))))))
theorem sc_meeting : FnScope ["book", "best", "thing", "due"] ["book"] (defScope (top 32)) := ⟨rfl, rfl, rfl, by decide +kernel, rfl, by decide +kernel, by decide +kernel⟩
theorem raw_meeting {g_check_book : List D → Option D} {g_sets_of : List D → Option D} {g_common_without : List D → Option D} {g_Meeting : List D → Option (List (Str × D))} (T : Tx K mg M) (A : At K mg "meeting" (top 32) ["book"]) (C_check_book : Cal P w K mg base M "check_book" ["thing"] 1 g_check_book) (C_sets_of : Cal P w K mg base M "sets_of" ["marks"] 3 g_sets_of) (C_common_without : Cal P w K mg base M "common_without" ["book", "thing"] 3 g_common_without) (C_Meeting : CalI P w K mg base M "Meeting" 2 ["self", "number", "thing", "table"] 1 g_Meeting) : Cal P w K mg base M "meeting" ["book"] 4 (bodyG 4 (F_meeting g_check_book g_sets_of g_common_without g_Meeting)) :=
  cal_mk A sc_meeting fun f cdv A outer s H E hr => (dss_cons (ds_expr (de_cal C_check_book (hr.mono (by decide)) (da_cons (de_v 0) da_nil))) (dss_cons (ds_set (i := 1) sc_meeting.nd (de_tup da_nil)) (dss_cons (ds_for PassesOwn.never rfl (di_seq (de_cal C_sets_of (hr.mono (by decide)) (da_cons (de_marks T (de_v 0)) da_nil))) (pg_name (i := 2) sc_meeting.nd (by rfl) (by first | exact Or.inl rfl | exact Or.inr rfl)) (gt_name 2) (dss_one (ds_if (dw_t (dw_and (dt_cmp (op_neY (M := M) hr) rd_neY (de_v 2) (de_tup da_nil)) (dw_and (dt_cmp op_gt rd_cmp (de_callB (call_lenY (M := M)) rc_lenY (by rfl) T.len (by rfl) (da_cons (de_v 2) da_nil)) (de_callB (call_lenY (M := M)) rc_lenY (by rfl) T.len (by rfl) (da_cons (de_v 1) da_nil))) (dw_and1 (dt_cmp (op_eqX hr) rd_eq (de_cal C_common_without (hr.mono (by decide)) (da_cons (de_v 0) (da_cons (de_v 2) da_nil))) (de_tup da_nil)))))) (dss_one (ds_set (i := 1) sc_meeting.nd (de_v 2))) dss_nil))) (dss_cons (ds_setLc (i := 3) (own := [("thing", 2)]) rfl sc_meeting.nd (di_seq (de_cal C_sets_of (hr.mono (by decide)) (da_cons (de_marks T (de_v 0)) da_nil))) (blkOk_by (by rfl)) (gt_name 2) (sw_true rfl (by rfl) (by rfl) (by rfl)) (fun _ _ _ _ _ => (pg_name (i := 2) sc_meeting.nd (by rfl) (by first | exact Or.inl rfl | exact Or.inr rfl))) (fun _ _ _ _ _ => (dts_one (dt_cmp (op_eqX hr) rd_eq (de_callB (call_lenY (M := M)) rc_lenY (by rfl) T.len (by rfl) (da_cons (de_v 2) da_nil)) (de_op op_addAll rd_add (de_callB (call_lenY (M := M)) rc_lenY (by rfl) T.len (by rfl) (da_cons (de_v 1) da_nil)) de_int)))) (fun _ _ _ _ _ => (de_v 2))) (dss_one (ds_ret (de_calI C_Meeting (hr.mono (by decide)) (da_cons (de_callB (call_lenY (M := M)) rc_lenY (by rfl) T.len (by rfl) (da_cons (de_v 1) da_nil)) (da_cons (de_v 1) (da_cons (de_dcX (own := [("thing", 2)]) hr rfl sc_meeting.nd (di_seq (de_v 3)) (blkOk_by (by rfl)) (gt_name 2) (fun _ _ _ _ _ => (pg_name (i := 2) sc_meeting.nd (by rfl) (by first | exact Or.inl rfl | exact Or.inr rfl))) (fun _ _ _ _ _ => (de_v 2)) (fun _ _ _ _ _ => (de_ixX hr (de_cal C_common_without (hr.mono (by decide)) (da_cons (de_v 0) (da_cons (de_v 2) da_nil))) de_int))) da_nil))) 3)))))))
def F_half_for (g_halves_of : List D → Option D) (g_common_halves : List D → Option D) : En → Option Out :=
  (sSeq (sFor (iSeq (fCall (gN 1 g_halves_of) (aCons (fV 1) aNil))) (t1 2) (sSeq (sAsg (fCall (gN 3 g_common_halves) (aCons (fV 0) (aCons (fV 1) (aCons (fV 2) aNil)))) (t1 3)) (sIf (fB (f2 gNeX (fV 3) (fTup aNil))) (sRet (fTup (aCons (fV 2) (aCons (f2 gIxX (fV 3) (fC (.int 0))) aNil)))) sNil))) (sRet (fC .non)))
theorem sc_half_for : FnScope ["book", "thing", "half", "common"] ["book", "thing"] (defScope (top 33)) := ⟨rfl, rfl, rfl, by decide +kernel, rfl, by decide +kernel, by decide +kernel⟩
theorem raw_half_for {g_halves_of : List D → Option D} {g_common_halves : List D → Option D} (T : Tx K mg M) (A : At K mg "half_for" (top 33) ["book", "thing"]) (C_halves_of : Cal P w K mg base M "halves_of" ["thing"] 3 g_halves_of) (C_common_halves : Cal P w K mg base M "common_halves" ["book", "thing", "half"] 3 g_common_halves) : Cal P w K mg base M "half_for" ["book", "thing"] 4 (bodyG 4 (F_half_for g_halves_of g_common_halves)) :=
  cal_mk A sc_half_for fun f cdv A outer s H E hr => (dss_cons (ds_for PassesOwn.never rfl (di_seq (de_cal C_halves_of (hr.mono (by decide)) (da_cons (de_v 1) da_nil))) (pg_name (i := 2) sc_half_for.nd (by rfl) (by first | exact Or.inl rfl | exact Or.inr rfl)) (gt_name 2) (dss_cons (ds_set (i := 3) sc_half_for.nd (de_cal C_common_halves (hr.mono (by decide)) (da_cons (de_v 0) (da_cons (de_v 1) (da_cons (de_v 2) da_nil))))) (dss_one (ds_if (dt_cmp (op_neY (M := M) hr) rd_neY (de_v 3) (de_tup da_nil)) (dss_one (ds_ret (de_tup (da_cons (de_v 2) (da_cons (de_ixX hr (de_v 3) de_int) da_nil))))) dss_nil)))) (dss_one (ds_ret de_non)))
def F_halves (g_check_book : List D → Option D) (g_sets_of : List D → Option D) (g_is_apart : List D → Option D) (g_half_for : List D → Option D) (g_Halves : List D → Option (List (Str × D))) : En → Option Out :=
  (sSeq (sDrop (fCall (gN 1 g_check_book) (aCons (fV 0) aNil))) (sSeq (sAsg (fC .non) (t1 1)) (sSeq (sFor (iSeq (fCall (gN 1 g_sets_of) (aCons (fFld 0 "marks" (fV 0)) aNil))) (t1 2) (sIf (bAnd (fB (fCall (gN 2 g_is_apart) (aCons (fV 0) (aCons (fV 2) aNil)))) (bOr (fB (f2 gIsN (fV 1) (fC .non))) (fB (f2 gGt (fCall gLenX (aCons (fV 2) aNil)) (fCall gLenX (aCons (fV 1) aNil)))))) (sAsg (fV 2) (t1 1)) sNil)) (sSeq (sAsg (fIf (fB (f2 gIsN (fV 1) (fC .non))) (fC (.int 0)) (f2 gAdd (fCall gLenX (aCons (fV 1) aNil)) (fC (.int 1)))) (t1 3)) (sSeq (sAsg (fLc [2] (iSeq (fCall (gN 1 g_sets_of) (aCons (fFld 0 "marks" (fV 0)) aNil))) (t1 2) (fB (f2 gEq (fCall gLenX (aCons (fV 2) aNil)) (fV 3))) (fV 2)) (t1 4)) (sRet (fMake 3 3 g_Halves (aCons (fV 3) (aCons (fV 1) (aCons (fDcX [2] (iSeq (fV 4)) (t1 2) (fV 2) (fCall (gN 2 g_half_for) (aCons (fV 0) (aCons (fV 2) aNil)))) aNil))))))))))
theorem sc_halves : FnScope ["book", "best", "thing", "number", "due"] ["book"] (defScope (top 34)) := ⟨rfl, rfl, rfl, by decide +kernel, rfl, by decide +kernel, by decide +kernel⟩
theorem raw_halves {g_check_book : List D → Option D} {g_sets_of : List D → Option D} {g_is_apart : List D → Option D} {g_half_for : List D → Option D} {g_Halves : List D → Option (List (Str × D))} (T : Tx K mg M) (A : At K mg "halves" (top 34) ["book"]) (C_check_book : Cal P w K mg base M "check_book" ["thing"] 1 g_check_book) (C_sets_of : Cal P w K mg base M "sets_of" ["marks"] 3 g_sets_of) (C_is_apart : Cal P w K mg base M "is_apart" ["book", "thing"] 4 g_is_apart) (C_half_for : Cal P w K mg base M "half_for" ["book", "thing"] 4 g_half_for) (C_Halves : CalI P w K mg base M "Halves" 3 ["self", "number", "thing", "table"] 1 g_Halves) : Cal P w K mg base M "halves" ["book"] 5 (bodyG 5 (F_halves g_check_book g_sets_of g_is_apart g_half_for g_Halves)) :=
  cal_mk A sc_halves fun f cdv A outer s H E hr => (dss_cons (ds_expr (de_cal C_check_book (hr.mono (by decide)) (da_cons (de_v 0) da_nil))) (dss_cons (ds_set (i := 1) sc_halves.nd de_non) (dss_cons (ds_for PassesOwn.never rfl (di_seq (de_cal C_sets_of (hr.mono (by decide)) (da_cons (de_marks T (de_v 0)) da_nil))) (pg_name (i := 2) sc_halves.nd (by rfl) (by first | exact Or.inl rfl | exact Or.inr rfl)) (gt_name 2) (dss_one (ds_if (dw_t (dw_and (dt_val (de_cal C_is_apart (hr.mono (by decide)) (da_cons (de_v 0) (da_cons (de_v 2) da_nil)))) (dw_and1 (dw_t (dw_or (dt_cmp op_isN rd_isN (de_v 1) de_non) (dw_or1 (dt_cmp op_gt rd_cmp (de_callB (call_lenY (M := M)) rc_lenY (by rfl) T.len (by rfl) (da_cons (de_v 2) da_nil)) (de_callB (call_lenY (M := M)) rc_lenY (by rfl) T.len (by rfl) (da_cons (de_v 1) da_nil))))))))) (dss_one (ds_set (i := 1) sc_halves.nd (de_v 2))) dss_nil))) (dss_cons (ds_set (i := 3) sc_halves.nd (de_if (dt_cmp op_isN rd_isN (de_v 1) de_non) de_int (de_op op_addAll rd_add (de_callB (call_lenY (M := M)) rc_lenY (by rfl) T.len (by rfl) (da_cons (de_v 1) da_nil)) de_int))) (dss_cons (ds_setLc (i := 4) (own := [("thing", 2)]) rfl sc_halves.nd (di_seq (de_cal C_sets_of (hr.mono (by decide)) (da_cons (de_marks T (de_v 0)) da_nil))) (blkOk_by (by rfl)) (gt_name 2) (sw_true rfl (by rfl) (by rfl) (by rfl)) (fun _ _ _ _ _ => (pg_name (i := 2) sc_halves.nd (by rfl) (by first | exact Or.inl rfl | exact Or.inr rfl))) (fun _ _ _ _ _ => (dts_one (dt_cmp (op_eqX hr) rd_eq (de_callB (call_lenY (M := M)) rc_lenY (by rfl) T.len (by rfl) (da_cons (de_v 2) da_nil)) (de_v 3)))) (fun _ _ _ _ _ => (de_v 2))) (dss_one (ds_ret (de_calI C_Halves (hr.mono (by decide)) (da_cons (de_v 3) (da_cons (de_v 1) (da_cons (de_dcX (own := [("thing", 2)]) hr rfl sc_halves.nd (di_seq (de_v 4)) (blkOk_by (by rfl)) (gt_name 2) (fun _ _ _ _ _ => (pg_name (i := 2) sc_halves.nd (by rfl) (by first | exact Or.inl rfl | exact Or.inr rfl))) (fun _ _ _ _ _ => (de_v 2)) (fun _ _ _ _ _ => (de_cal C_half_for (hr.mono (by decide)) (da_cons (de_v 0) (da_cons (de_v 2) da_nil))))) da_nil))) 3))))))))
def F_caratheodory (g_few : List D → Option D) : En → Option Out :=
  (sRet (fFld 1 "number" (fCall (gN 1 g_few) (aCons (fV 0) aNil))))
theorem sc_caratheodory : FnScope ["book"] ["book"] (defScope (top 35)) := ⟨rfl, rfl, rfl, by decide +kernel, rfl, by decide +kernel, by decide +kernel⟩
theorem raw_caratheodory {g_few : List D → Option D} (T : Tx K mg M) (A : At K mg "caratheodory" (top 35) ["book"]) (C_few : Cal P w K mg base M "few" ["book"] 5 g_few) : Cal P w K mg base M "caratheodory" ["book"] 6 (bodyG 1 (F_caratheodory g_few)) :=
  cal_mk A sc_caratheodory fun f cdv A outer s H E hr => (dss_one (ds_ret (de_attr 1 (by decide) T.cls1 T.n1number (de_cal C_few (hr.mono (by decide)) (da_cons (de_v 0) da_nil)))))
def F_helly (g_meeting : List D → Option D) : En → Option Out :=
  (sRet (fFld 2 "number" (fCall (gN 1 g_meeting) (aCons (fV 0) aNil))))
theorem sc_helly : FnScope ["book"] ["book"] (defScope (top 36)) := ⟨rfl, rfl, rfl, by decide +kernel, rfl, by decide +kernel, by decide +kernel⟩
theorem raw_helly {g_meeting : List D → Option D} (T : Tx K mg M) (A : At K mg "helly" (top 36) ["book"]) (C_meeting : Cal P w K mg base M "meeting" ["book"] 4 g_meeting) : Cal P w K mg base M "helly" ["book"] 5 (bodyG 1 (F_helly g_meeting)) :=
  cal_mk A sc_helly fun f cdv A outer s H E hr => (dss_one (ds_ret (de_attr 2 (by decide) T.cls2 T.n2number (de_cal C_meeting (hr.mono (by decide)) (da_cons (de_v 0) da_nil)))))
def F_radon (g_halves : List D → Option D) : En → Option Out :=
  (sRet (fFld 3 "number" (fCall (gN 1 g_halves) (aCons (fV 0) aNil))))
theorem sc_radon : FnScope ["book"] ["book"] (defScope (top 37)) := ⟨rfl, rfl, rfl, by decide +kernel, rfl, by decide +kernel, by decide +kernel⟩
theorem raw_radon {g_halves : List D → Option D} (T : Tx K mg M) (A : At K mg "radon" (top 37) ["book"]) (C_halves : Cal P w K mg base M "halves" ["book"] 5 g_halves) : Cal P w K mg base M "radon" ["book"] 6 (bodyG 1 (F_radon g_halves)) :=
  cal_mk A sc_radon fun f cdv A outer s H E hr => (dss_one (ds_ret (de_attr 3 (by decide) T.cls3 T.n3number (de_cal C_halves (hr.mono (by decide)) (da_cons (de_v 0) da_nil)))))
def F__law_cell_at  : En → Option Out :=
  (sSeq (sIf (fB (f2 gLt (fV 1) (fCall gLenX (aCons (fV 0) aNil)))) (sRet (f2 gIxX (fV 0) (fV 1))) sNil) (sRet (fC (.int 0))))
theorem sc__law_cell_at : FnScope ["_law_script", "_law_k"] ["_law_script", "_law_k"] (defScope (top 39)) := ⟨rfl, rfl, rfl, by decide +kernel, rfl, by decide +kernel, by decide +kernel⟩
theorem raw__law_cell_at  (T : Tx K mg M) (A : At K mg "_law_cell_at" (top 39) ["_law_script", "_law_k"])  : Cal P w K mg base M "_law_cell_at" ["_law_script", "_law_k"] 1 (bodyG 2 (F__law_cell_at )) :=
  cal_mk A sc__law_cell_at fun f cdv A outer s H E hr => (dss_cons (ds_if (dt_cmp op_lt rd_cmp (de_v 1) (de_callB (call_lenY (M := M)) rc_lenY (by rfl) T.len (by rfl) (da_cons (de_v 0) da_nil))) (dss_one (ds_ret (de_ixX hr (de_v 0) (de_v 1)))) dss_nil) (dss_one (ds_ret de_int)))
def F__law_draw  : En → Option Out :=
  (sSeq (sAsg (fTup (aCons (fC (.int 1000003)) (aCons (fC (.int 1000033)) (aCons (fC (.int 1000037)) (aCons (fC (.int 1000039)) (aCons (fC (.int 1000081)) (aCons (fC (.int 1000099)) (aCons (fC (.int 1000117)) (aCons (fC (.int 1000121)) (aCons (fC (.int 1000133)) (aCons (fC (.int 1000151)) (aCons (fC (.int 1000159)) (aCons (fC (.int 1000171)) (aCons (fC (.int 1000183)) (aCons (fC (.int 1000187)) (aCons (fC (.int 1000193)) (aCons (fC (.int 1000199)) aNil))))))))))))))))) (t1 3)) (sRet (f2 gMod (f2 gMod (fCall gInt (aCons (f2 gAdd (f2 gMul (fV 0) (fC (.int 48271))) (f2 gMul (fV 1) (fC (.int 69621)))) aNil)) (f2 gIxX (fV 3) (f2 gMod (fCall gInt (aCons (fV 1) aNil)) (fC (.int 16))))) (fV 2))))
theorem sc__law_draw : FnScope ["_law_cell", "_law_k", "_law_bound", "_law_primes"] ["_law_cell", "_law_k", "_law_bound"] (defScope (top 40)) := ⟨rfl, rfl, rfl, by decide +kernel, rfl, by decide +kernel, by decide +kernel⟩
theorem raw__law_draw  (T : Tx K mg M) (A : At K mg "_law_draw" (top 40) ["_law_cell", "_law_k", "_law_bound"])  : Cal P w K mg base M "_law_draw" ["_law_cell", "_law_k", "_law_bound"] 1 (bodyG 4 (F__law_draw )) :=
  cal_mk A sc__law_draw fun f cdv A outer s H E hr => (dss_cons (ds_set (i := 3) sc__law_draw.nd (de_tup (da_cons de_int (da_cons de_int (da_cons de_int (da_cons de_int (da_cons de_int (da_cons de_int (da_cons de_int (da_cons de_int (da_cons de_int (da_cons de_int (da_cons de_int (da_cons de_int (da_cons de_int (da_cons de_int (da_cons de_int (da_cons de_int da_nil)))))))))))))))))) (dss_one (ds_ret (de_op op_mod rd_mod (de_op op_mod rd_mod (de_callTy call_int rc_int (by rfl) T.int (by rfl) (da_cons (de_op op_addAll rd_add (de_op op_mulW rd_mul (de_v 0) de_int) (de_op op_mulW rd_mul (de_v 1) de_int)) da_nil)) (de_ixX hr (de_v 3) (de_op op_mod rd_mod (de_callTy call_int rc_int (by rfl) T.int (by rfl) (da_cons (de_v 1) da_nil)) de_int))) (de_v 2)))))
def F__law_number (g__law_draw : List D → Option D) : En → Option Out :=
  (sSeq (sAsg (fC (.int 1)) (t1 3)) (sSeq (sFor (iRange (f2 gMod (fCall gInt (aCons (fV 1) aNil)) (fC (.int 24)))) (t1 4) (sAsg (f2 gMul (fV 3) (fC (.int 1009))) (t1 3))) (sSeq (sAsg (f2 gDiv (f2 gSub (fV 0) (f2 gPow (fC (.int 10)) (fC (.int 18)))) (fV 3)) (t1 5)) (sSeq (sIf (fB (f2 gGt (fV 5) (fC (.int 0)))) (sRet (f2 gMod (f2 gMod (fCall gInt (aCons (fV 5) aNil)) (fC (.int 1009))) (fV 2))) sNil) (sSeq (sAsg (f2 gMod (fCall gInt (aCons (fV 0) aNil)) (fC (.int 1000003))) (t1 6)) (sRet (f2 gMod (fCall (gN 3 g__law_draw) (aCons (f2 gMul (f2 gAdd (fV 6) (f2 gMul (fC (.int 977)) (fV 1))) (f2 gAdd (f2 gAdd (fV 6) (f2 gMul (fC (.int 31)) (fV 1))) (fC (.int 5)))) (aCons (f2 gAdd (f2 gMod (fCall gInt (aCons (fV 1) aNil)) (fC (.int 9))) (fC (.int 1))) (aCons (fC (.int 999983)) aNil)))) (fV 2))))))))
theorem sc__law_number : FnScope ["_law_cell", "_law_k", "_law_bound", "_law_power", "_law_lap", "_law_remains", "_law_small"] ["_law_cell", "_law_k", "_law_bound"] (defScope (top 41)) := ⟨rfl, rfl, rfl, by decide +kernel, rfl, by decide +kernel, by decide +kernel⟩
theorem raw__law_number {g__law_draw : List D → Option D} (T : Tx K mg M) (A : At K mg "_law_number" (top 41) ["_law_cell", "_law_k", "_law_bound"]) (C__law_draw : Cal P w K mg base M "_law_draw" ["_law_cell", "_law_k", "_law_bound"] 1 g__law_draw) : Cal P w K mg base M "_law_number" ["_law_cell", "_law_k", "_law_bound"] 2 (bodyG 7 (F__law_number g__law_draw)) :=
  cal_mk A sc__law_number fun f cdv A outer s H E hr => (dss_cons (ds_set (i := 3) sc__law_number.nd de_int) (dss_cons (ds_for PassesOwn.never rfl (di_range (de_op op_mod rd_mod (de_callTy call_int rc_int (by rfl) T.int (by rfl) (da_cons (de_v 1) da_nil)) de_int) T.range) (pg_name (i := 4) sc__law_number.nd (by rfl) (by first | exact Or.inl rfl | exact Or.inr rfl)) (gt_name 4) (dss_one (ds_set (i := 3) sc__law_number.nd (de_op op_mulW rd_mul (de_v 3) de_int)))) (dss_cons (ds_set (i := 5) sc__law_number.nd (de_op op_fdivW rd_div (de_op op_sub rd_sub (de_v 0) (de_op op_pow rd_pow de_int de_int)) (de_v 3))) (dss_cons (ds_if (dt_cmp op_gt rd_cmp (de_v 5) de_int) (dss_one (ds_ret (de_op op_mod rd_mod (de_op op_mod rd_mod (de_callTy call_int rc_int (by rfl) T.int (by rfl) (da_cons (de_v 5) da_nil)) de_int) (de_v 2)))) dss_nil) (dss_cons (ds_set (i := 6) sc__law_number.nd (de_op op_mod rd_mod (de_callTy call_int rc_int (by rfl) T.int (by rfl) (da_cons (de_v 0) da_nil)) de_int)) (dss_one (ds_ret (de_op op_mod rd_mod (de_cal C__law_draw (hr.mono (by decide)) (da_cons (de_op op_mulW rd_mul (de_op op_addAll rd_add (de_v 6) (de_op op_mulW rd_mul de_int (de_v 1))) (de_op op_addAll rd_add (de_op op_addAll rd_add (de_v 6) (de_op op_mulW rd_mul de_int (de_v 1))) de_int)) (da_cons (de_op op_addAll rd_add (de_op op_mod rd_mod (de_callTy call_int rc_int (by rfl) T.int (by rfl) (da_cons (de_v 1) da_nil)) de_int) de_int) (da_cons de_int da_nil)))) (de_v 2)))))))))
def F__law_sets  : En → Option Out :=
  (sSeq (sAsg (fLst (aCons (fTup aNil) aNil)) (t1 1)) (sSeq (sFor (iRange (fV 0)) (t1 2) (sAsg (f2 gAdd (fV 1) (fLc [5] (iSeq (fV 1)) (t1 5) bYes (f2 gAdd (fV 5) (fTup (aCons (fV 2) aNil))))) (t1 1))) (sSeq (sAsg (fLst aNil) (t1 3)) (sSeq (sFor (iRange (f2 gAdd (fV 0) (fC (.int 1)))) (t1 4) (sAsg (f2 gAdd (fV 3) (fCall gSorted (aCons (fLc [5] (iSeq (fV 1)) (t1 5) (fB (f2 gEq (fCall gLenX (aCons (fV 5) aNil)) (fV 4))) (fV 5)) aNil))) (t1 3))) (sRet (fV 3))))))
theorem sc__law_sets : FnScope ["_law_marks", "_law_found", "_law_mark", "_law_rows", "_law_size", "_law_one"] ["_law_marks"] (defScope (top 44)) := ⟨rfl, rfl, rfl, by decide +kernel, rfl, by decide +kernel, by decide +kernel⟩
theorem raw__law_sets  (T : Tx K mg M) (A : At K mg "_law_sets" (top 44) ["_law_marks"])  : Cal P w K mg base M "_law_sets" ["_law_marks"] 1 (bodyG 6 (F__law_sets )) :=
  cal_mk A sc__law_sets fun f cdv A outer s H E hr => (dss_cons (ds_set (i := 1) sc__law_sets.nd (de_lst (da_cons (de_tup da_nil) da_nil))) (dss_cons (ds_for PassesOwn.never rfl (di_range (de_v 0) T.range) (pg_name (i := 2) sc__law_sets.nd (by rfl) (by first | exact Or.inl rfl | exact Or.inr rfl)) (gt_name 2) (dss_one (ds_set (i := 1) sc__law_sets.nd (de_op op_addAll rd_add (de_v 1) (de_lc (own := [("_law_one", 5)]) rfl sc__law_sets.nd (di_seq (de_v 1)) (blkOk_by (by rfl)) (gt_name 5) (fun _ _ _ _ _ => (pg_name (i := 5) sc__law_sets.nd (by rfl) (by first | exact Or.inl rfl | exact Or.inr rfl))) (fun _ _ _ _ _ => dts_nil) (fun _ _ _ _ _ => (de_op op_addAll rd_add (de_v 5) (de_tup (da_cons (de_v 2) da_nil))))))))) (dss_cons (ds_set (i := 3) sc__law_sets.nd (de_lst da_nil)) (dss_cons (ds_for PassesOwn.never rfl (di_range (de_op op_addAll rd_add (de_v 0) de_int) T.range) (pg_name (i := 4) sc__law_sets.nd (by rfl) (by first | exact Or.inl rfl | exact Or.inr rfl)) (gt_name 4) (dss_one (ds_set (i := 3) sc__law_sets.nd (de_op op_addAll rd_add (de_v 3) (de_callB (cr_sortAll hr rfl) rc_sorted (by rfl) T.sorted (by rfl) (da_cons (de_lc (own := [("_law_one", 5)]) rfl sc__law_sets.nd (di_seq (de_v 1)) (blkOk_by (by rfl)) (gt_name 5) (fun _ _ _ _ _ => (pg_name (i := 5) sc__law_sets.nd (by rfl) (by first | exact Or.inl rfl | exact Or.inr rfl))) (fun _ _ _ _ _ => (dts_one (dt_cmp (op_eqX hr) rd_eq (de_callB (call_lenY (M := M)) rc_lenY (by rfl) T.len (by rfl) (da_cons (de_v 5) da_nil)) (de_v 4)))) (fun _ _ _ _ _ => (de_v 5))) da_nil)))))) (dss_one (ds_ret (de_v 3)))))))
def F__law_within  : En → Option Out :=
  (sRet (fCall gAll (aCons (fLc [2] (iSeq (fV 0)) (t1 2) bYes (f2 gInX (fV 2) (fV 1))) aNil)))
theorem sc__law_within : FnScope ["_law_one", "_law_other", "_law_mark"] ["_law_one", "_law_other"] (defScope (top 45)) := ⟨rfl, rfl, rfl, by decide +kernel, rfl, by decide +kernel, by decide +kernel⟩
theorem raw__law_within  (T : Tx K mg M) (A : At K mg "_law_within" (top 45) ["_law_one", "_law_other"])  : Cal P w K mg base M "_law_within" ["_law_one", "_law_other"] 1 (bodyG 3 (F__law_within )) :=
  cal_mk A sc__law_within fun f cdv A outer s H E hr => (dss_one (ds_ret (de_callB (cr_all rfl) rc_all (by rfl) T.all (by rfl) (da_cons (de_lc (own := [("_law_mark", 2)]) rfl sc__law_within.nd (di_seq (de_v 0)) (blkOk_by (by rfl)) (gt_name 2) (fun _ _ _ _ _ => (pg_name (i := 2) sc__law_within.nd (by rfl) (by first | exact Or.inl rfl | exact Or.inr rfl))) (fun _ _ _ _ _ => dts_nil) (fun _ _ _ _ _ => (de_cmp (op_inY (M := M) hr) rd_inY (de_v 2) (de_v 1)))) da_nil))))
def F__law_closure (g__law_within : List D → Option D) : En → Option Out :=
  (sSeq (sAsg (fCall gListX (aCons (fV 1) aNil)) (t1 2)) (sSeq (sFor (iRange (f2 gAdd (f2 gIxX (fV 0) (fC (.int 0))) (fC (.int 1)))) (t1 3) (sFor (iSeq (f2 gIxX (fV 0) (fC (.int 1)))) (t1 4) (sIf (fB (fCall (gN 2 g__law_within) (aCons (f2 gIxX (fV 4) (fC (.int 0))) (aCons (fV 2) aNil)))) (sAsg (f2 gAdd (fV 2) (fLc [5] (iSeq (f2 gIxX (fV 4) (fC (.int 1)))) (t1 5) (fB (f2 gNotIn (fV 5) (fV 2))) (fV 5))) (t1 2)) sNil))) (sRet (fCall gTuple (aCons (fCall gSorted (aCons (fV 2) aNil)) aNil)))))
theorem sc__law_closure : FnScope ["_law_plain_here", "_law_thing", "_law_held", "_law_turn", "_law_rule_here", "_law_mark"] ["_law_plain_here", "_law_thing"] (defScope (top 46)) := ⟨rfl, rfl, rfl, by decide +kernel, rfl, by decide +kernel, by decide +kernel⟩
theorem raw__law_closure {g__law_within : List D → Option D} (T : Tx K mg M) (A : At K mg "_law_closure" (top 46) ["_law_plain_here", "_law_thing"]) (C__law_within : Cal P w K mg base M "_law_within" ["_law_one", "_law_other"] 1 g__law_within) : Cal P w K mg base M "_law_closure" ["_law_plain_here", "_law_thing"] 2 (bodyG 6 (F__law_closure g__law_within)) :=
  cal_mk A sc__law_closure fun f cdv A outer s H E hr => (dss_cons (ds_set (i := 2) sc__law_closure.nd (de_callTy (call_listY (M := M) hr) rc_listY (by rfl) T.list (by rfl) (da_cons (de_v 1) da_nil))) (dss_cons (ds_for PassesOwn.never rfl (di_range (de_op op_addAll rd_add (de_ixX hr (de_v 0) de_int) de_int) T.range) (pg_name (i := 3) sc__law_closure.nd (by rfl) (by first | exact Or.inl rfl | exact Or.inr rfl)) (gt_name 3) (dss_one (ds_for PassesOwn.never rfl (di_seq (de_ixX hr (de_v 0) de_int)) (pg_name (i := 4) sc__law_closure.nd (by rfl) (by first | exact Or.inl rfl | exact Or.inr rfl)) (gt_name 4) (dss_one (ds_if (dt_val (de_cal C__law_within (hr.mono (by decide)) (da_cons (de_ixX hr (de_v 4) de_int) (da_cons (de_v 2) da_nil)))) (dss_one (ds_set (i := 2) sc__law_closure.nd (de_op op_addAll rd_add (de_v 2) (de_lc (own := [("_law_mark", 5)]) rfl sc__law_closure.nd (di_seq (de_ixX hr (de_v 4) de_int)) (blkOk_by (by rfl)) (gt_name 5) (fun _ _ _ _ _ => (pg_name (i := 5) sc__law_closure.nd (by rfl) (by first | exact Or.inl rfl | exact Or.inr rfl))) (fun _ _ _ _ _ => (dts_one (dt_cmp (op_notInAll hr) rd_notIn (de_v 5) (de_v 2)))) (fun _ _ _ _ _ => (de_v 5)))))) dss_nil))))) (dss_one (ds_ret (de_callTy call_tupleOf rc_tuple (by rfl) T.tuple (by rfl) (da_cons (de_callB (cr_sortAll hr rfl) rc_sorted (by rfl) T.sorted (by rfl) (da_cons (de_v 2) da_nil)) da_nil))))))
def F__law_made (g_Book : List D → Option (List (Str × D))) : En → Option Out :=
  (sRet (fMake 0 2 g_Book (aCons (f2 gIxX (fV 0) (fC (.int 0))) (aCons (f2 gIxX (fV 0) (fC (.int 1))) aNil))))
theorem sc__law_made : FnScope ["_law_plain_here"] ["_law_plain_here"] (defScope (top 50)) := ⟨rfl, rfl, rfl, by decide +kernel, rfl, by decide +kernel, by decide +kernel⟩
theorem raw__law_made {g_Book : List D → Option (List (Str × D))} (T : Tx K mg M) (A : At K mg "_law_made" (top 50) ["_law_plain_here"]) (C_Book : CalI P w K mg base M "Book" 0 ["self", "marks", "rules"] 4 g_Book) : Cal P w K mg base M "_law_made" ["_law_plain_here"] 6 (bodyG 1 (F__law_made g_Book)) :=
  cal_mk A sc__law_made fun f cdv A outer s H E hr => (dss_one (ds_ret (de_calI C_Book (hr.mono (by decide)) (da_cons (de_ixX hr (de_v 0) de_int) (da_cons (de_ixX hr (de_v 0) de_int) da_nil)) 2)))
def F__law_meet  : En → Option Out :=
  (sRet (fCall gTuple (aCons (fLc [2] (iSeq (fV 0)) (t1 2) (fB (f2 gInX (fV 2) (fV 1))) (fV 2)) aNil)))
theorem sc__law_meet : FnScope ["_law_one", "_law_other", "_law_mark"] ["_law_one", "_law_other"] (defScope (top 51)) := ⟨rfl, rfl, rfl, by decide +kernel, rfl, by decide +kernel, by decide +kernel⟩
theorem raw__law_meet  (T : Tx K mg M) (A : At K mg "_law_meet" (top 51) ["_law_one", "_law_other"])  : Cal P w K mg base M "_law_meet" ["_law_one", "_law_other"] 1 (bodyG 3 (F__law_meet )) :=
  cal_mk A sc__law_meet fun f cdv A outer s H E hr => (dss_one (ds_ret (de_callTy call_tupleOf rc_tuple (by rfl) T.tuple (by rfl) (da_cons (de_lc (own := [("_law_mark", 2)]) rfl sc__law_meet.nd (di_seq (de_v 0)) (blkOk_by (by rfl)) (gt_name 2) (fun _ _ _ _ _ => (pg_name (i := 2) sc__law_meet.nd (by rfl) (by first | exact Or.inl rfl | exact Or.inr rfl))) (fun _ _ _ _ _ => (dts_one (dt_cmp (op_inY (M := M) hr) rd_inY (de_v 2) (de_v 1)))) (fun _ _ _ _ _ => (de_v 2))) da_nil))))
def F__law_less  : En → Option Out :=
  (sRet (fCall gTuple (aCons (fLc [2] (iSeq (fV 0)) (t1 2) (fB (f2 gNeX (fV 2) (fV 1))) (fV 2)) aNil)))
theorem sc__law_less : FnScope ["_law_thing", "_law_mark", "_law_one"] ["_law_thing", "_law_mark"] (defScope (top 52)) := ⟨rfl, rfl, rfl, by decide +kernel, rfl, by decide +kernel, by decide +kernel⟩
theorem raw__law_less  (T : Tx K mg M) (A : At K mg "_law_less" (top 52) ["_law_thing", "_law_mark"])  : Cal P w K mg base M "_law_less" ["_law_thing", "_law_mark"] 1 (bodyG 3 (F__law_less )) :=
  cal_mk A sc__law_less fun f cdv A outer s H E hr => (dss_one (ds_ret (de_callTy call_tupleOf rc_tuple (by rfl) T.tuple (by rfl) (da_cons (de_lc (own := [("_law_one", 2)]) rfl sc__law_less.nd (di_seq (de_v 0)) (blkOk_by (by rfl)) (gt_name 2) (fun _ _ _ _ _ => (pg_name (i := 2) sc__law_less.nd (by rfl) (by first | exact Or.inl rfl | exact Or.inr rfl))) (fun _ _ _ _ _ => (dts_one (dt_cmp (op_neY (M := M) hr) rd_neY (de_v 2) (de_v 1)))) (fun _ _ _ _ _ => (de_v 2))) da_nil))))
def F__law_parts (g__law_sets : List D → Option D) (g__law_within : List D → Option D) : En → Option Out :=
  (sRet (fLc [1] (iSeq (fCall (gN 1 g__law_sets) (aCons (f2 gAdd (fC (.int 1)) (fCall gMax (aCons (f2 gAdd (fTup (aCons (fC (.int 0)) aNil)) (fV 0)) aNil))) aNil))) (t1 1) (fB (fCall (gN 2 g__law_within) (aCons (fV 1) (aCons (fV 0) aNil)))) (fV 1)))
theorem sc__law_parts : FnScope ["_law_thing", "_law_one"] ["_law_thing"] (defScope (top 53)) := ⟨rfl, rfl, rfl, by decide +kernel, rfl, by decide +kernel, by decide +kernel⟩
theorem raw__law_parts {g__law_sets : List D → Option D} {g__law_within : List D → Option D} (T : Tx K mg M) (A : At K mg "_law_parts" (top 53) ["_law_thing"]) (C__law_sets : Cal P w K mg base M "_law_sets" ["_law_marks"] 1 g__law_sets) (C__law_within : Cal P w K mg base M "_law_within" ["_law_one", "_law_other"] 1 g__law_within) : Cal P w K mg base M "_law_parts" ["_law_thing"] 2 (bodyG 2 (F__law_parts g__law_sets g__law_within)) :=
  cal_mk A sc__law_parts fun f cdv A outer s H E hr => (dss_one (ds_ret (de_lc (own := [("_law_one", 1)]) rfl sc__law_parts.nd (di_seq (de_cal C__law_sets (hr.mono (by decide)) (da_cons (de_op op_addAll rd_add de_int (de_callB (id := "max") (cr_ex hr true) rc_max (by rfl) T.max (by rfl) (da_cons (de_op op_addAll rd_add (de_tup (da_cons de_int da_nil)) (de_v 0)) da_nil))) da_nil))) (blkOk_by (by rfl)) (gt_name 1) (fun _ _ _ _ _ => (pg_name (i := 1) sc__law_parts.nd (by rfl) (by first | exact Or.inl rfl | exact Or.inr rfl))) (fun _ _ _ _ _ => (dts_one (dt_val (de_cal C__law_within (hr.mono (by decide)) (da_cons (de_v 1) (da_cons (de_v 0) da_nil)))))) (fun _ _ _ _ _ => (de_v 1)))))
def F__law_pairs (g__law_sets : List D → Option D) (g__law_closure : List D → Option D) : En → Option Out :=
  (sSeq (sAsg (fLst aNil) (t1 1)) (sSeq (sFor (iSeq (fCall (gN 1 g__law_sets) (aCons (f2 gIxX (fV 0) (fC (.int 0))) aNil))) (t1 2) (sAsg (f2 gAdd (fV 1) (fLc [3] (iSeq (fCall (gN 2 g__law_closure) (aCons (fV 0) (aCons (fV 2) aNil)))) (t1 3) bYes (fTup (aCons (fV 2) (aCons (fV 3) aNil))))) (t1 1))) (sRet (fV 1))))
theorem sc__law_pairs : FnScope ["_law_plain_here", "_law_found", "_law_thing", "_law_mark"] ["_law_plain_here"] (defScope (top 54)) := ⟨rfl, rfl, rfl, by decide +kernel, rfl, by decide +kernel, by decide +kernel⟩
theorem raw__law_pairs {g__law_sets : List D → Option D} {g__law_closure : List D → Option D} (T : Tx K mg M) (A : At K mg "_law_pairs" (top 54) ["_law_plain_here"]) (C__law_sets : Cal P w K mg base M "_law_sets" ["_law_marks"] 1 g__law_sets) (C__law_closure : Cal P w K mg base M "_law_closure" ["_law_plain_here", "_law_thing"] 2 g__law_closure) : Cal P w K mg base M "_law_pairs" ["_law_plain_here"] 3 (bodyG 4 (F__law_pairs g__law_sets g__law_closure)) :=
  cal_mk A sc__law_pairs fun f cdv A outer s H E hr => (dss_cons (ds_set (i := 1) sc__law_pairs.nd (de_lst da_nil)) (dss_cons (ds_for PassesOwn.never rfl (di_seq (de_cal C__law_sets (hr.mono (by decide)) (da_cons (de_ixX hr (de_v 0) de_int) da_nil))) (pg_name (i := 2) sc__law_pairs.nd (by rfl) (by first | exact Or.inl rfl | exact Or.inr rfl)) (gt_name 2) (dss_one (ds_set (i := 1) sc__law_pairs.nd (de_op op_addAll rd_add (de_v 1) (de_lc (own := [("_law_mark", 3)]) rfl sc__law_pairs.nd (di_seq (de_cal C__law_closure (hr.mono (by decide)) (da_cons (de_v 0) (da_cons (de_v 2) da_nil)))) (blkOk_by (by rfl)) (gt_name 3) (fun _ _ _ _ _ => (pg_name (i := 3) sc__law_pairs.nd (by rfl) (by first | exact Or.inl rfl | exact Or.inr rfl))) (fun _ _ _ _ _ => dts_nil) (fun _ _ _ _ _ => (de_tup (da_cons (de_v 2) (da_cons (de_v 3) da_nil))))))))) (dss_one (ds_ret (de_v 1)))))
def F__law_least (g__law_parts : List D → Option D) (g__law_closure : List D → Option D) : En → Option Out :=
  (sRet (fCall gMin (aCons (fLc [2] (iSeq (fCall (gN 1 g__law_parts) (aCons (f2 gIxX (fV 1) (fC (.int 0))) aNil))) (t1 2) (fB (f2 gInX (f2 gIxX (fV 1) (fC (.int 1))) (fCall (gN 2 g__law_closure) (aCons (fV 0) (aCons (fV 2) aNil))))) (fCall gLenX (aCons (fV 2) aNil))) aNil)))
theorem sc__law_least : FnScope ["_law_plain_here", "_law_pair", "_law_one"] ["_law_plain_here", "_law_pair"] (defScope (top 55)) := ⟨rfl, rfl, rfl, by decide +kernel, rfl, by decide +kernel, by decide +kernel⟩
theorem raw__law_least {g__law_parts : List D → Option D} {g__law_closure : List D → Option D} (T : Tx K mg M) (A : At K mg "_law_least" (top 55) ["_law_plain_here", "_law_pair"]) (C__law_parts : Cal P w K mg base M "_law_parts" ["_law_thing"] 2 g__law_parts) (C__law_closure : Cal P w K mg base M "_law_closure" ["_law_plain_here", "_law_thing"] 2 g__law_closure) : Cal P w K mg base M "_law_least" ["_law_plain_here", "_law_pair"] 3 (bodyG 3 (F__law_least g__law_parts g__law_closure)) :=
  cal_mk A sc__law_least fun f cdv A outer s H E hr => (dss_one (ds_ret (de_callB (id := "min") (cr_ex hr false) rc_min (by rfl) T.min (by rfl) (da_cons (de_lc (own := [("_law_one", 2)]) rfl sc__law_least.nd (di_seq (de_cal C__law_parts (hr.mono (by decide)) (da_cons (de_ixX hr (de_v 1) de_int) da_nil))) (blkOk_by (by rfl)) (gt_name 2) (fun _ _ _ _ _ => (pg_name (i := 2) sc__law_least.nd (by rfl) (by first | exact Or.inl rfl | exact Or.inr rfl))) (fun _ _ _ _ _ => (dts_one (dt_cmp (op_inY (M := M) hr) rd_inY (de_ixX hr (de_v 1) de_int) (de_cal C__law_closure (hr.mono (by decide)) (da_cons (de_v 0) (da_cons (de_v 2) da_nil)))))) (fun _ _ _ _ _ => (de_callB (call_lenY (M := M)) rc_lenY (by rfl) T.len (by rfl) (da_cons (de_v 2) da_nil)))) da_nil))))
def F__law_shared (g__law_less : List D → Option D) (g__law_closure : List D → Option D) : En → Option Out :=
  (sSeq (sAsg (fLc [3] (iSeq (fV 1)) (t1 3) bYes (fCall (gN 2 g__law_closure) (aCons (fV 0) (aCons (fCall (gN 2 g__law_less) (aCons (fV 1) (aCons (fV 3) aNil))) aNil)))) (t1 2)) (sRet (fCall gTuple (aCons (fLc [3] (iRange (f2 gIxX (fV 0) (fC (.int 0)))) (t1 3) (fB (fCall gAll (aCons (fLc [4] (iSeq (fV 2)) (t1 4) bYes (f2 gInX (fV 3) (fV 4))) aNil))) (fV 3)) aNil))))
theorem sc__law_shared : FnScope ["_law_plain_here", "_law_thing", "_law_rows", "_law_mark", "_law_row"] ["_law_plain_here", "_law_thing"] (defScope (top 56)) := ⟨rfl, rfl, rfl, by decide +kernel, rfl, by decide +kernel, by decide +kernel⟩
theorem raw__law_shared {g__law_less : List D → Option D} {g__law_closure : List D → Option D} (T : Tx K mg M) (A : At K mg "_law_shared" (top 56) ["_law_plain_here", "_law_thing"]) (C__law_less : Cal P w K mg base M "_law_less" ["_law_thing", "_law_mark"] 1 g__law_less) (C__law_closure : Cal P w K mg base M "_law_closure" ["_law_plain_here", "_law_thing"] 2 g__law_closure) : Cal P w K mg base M "_law_shared" ["_law_plain_here", "_law_thing"] 3 (bodyG 5 (F__law_shared g__law_less g__law_closure)) :=
  cal_mk A sc__law_shared fun f cdv A outer s H E hr => (dss_cons (ds_set (i := 2) sc__law_shared.nd (de_lc (own := [("_law_mark", 3)]) rfl sc__law_shared.nd (di_seq (de_v 1)) (blkOk_by (by rfl)) (gt_name 3) (fun _ _ _ _ _ => (pg_name (i := 3) sc__law_shared.nd (by rfl) (by first | exact Or.inl rfl | exact Or.inr rfl))) (fun _ _ _ _ _ => dts_nil) (fun _ _ _ _ _ => (de_cal C__law_closure (hr.mono (by decide)) (da_cons (de_v 0) (da_cons (de_cal C__law_less (hr.mono (by decide)) (da_cons (de_v 1) (da_cons (de_v 3) da_nil))) da_nil)))))) (dss_one (ds_ret (de_callTy call_tupleOf rc_tuple (by rfl) T.tuple (by rfl) (da_cons (de_lc (own := [("_law_mark", 3)]) rfl sc__law_shared.nd (di_range (de_ixX hr (de_v 0) de_int) T.range) (blkOk_by (by rfl)) (gt_name 3) (fun _ _ _ _ _ => (pg_name (i := 3) sc__law_shared.nd (by rfl) (by first | exact Or.inl rfl | exact Or.inr rfl))) (fun _ _ _ _ _ => (dts_one (dt_val (de_callB (cr_all rfl) rc_all (by rfl) T.all (by rfl) (da_cons (de_lc (own := [("_law_row", 4)]) rfl sc__law_shared.nd (di_seq (de_v 2)) (blkOk_by (by rfl)) (gt_name 4) (fun _ _ _ _ _ => (pg_name (i := 4) sc__law_shared.nd (by rfl) (by first | exact Or.inl rfl | exact Or.inr rfl))) (fun _ _ _ _ _ => dts_nil) (fun _ _ _ _ _ => (de_cmp (op_inY (M := M) hr) rd_inY (de_v 3) (de_v 4)))) da_nil))))) (fun _ _ _ _ _ => (de_v 3))) da_nil)))))
def F__law_common (g__law_closure : List D → Option D) (g__law_meet : List D → Option D) : En → Option Out :=
  (sSeq (sAsg (fCall gTuple (aCons (fLc [4] (iSeq (fV 1)) (t1 4) (fB (f2 gNotIn (fV 4) (fV 2))) (fV 4)) aNil)) (t1 3)) (sRet (fCall (gN 2 g__law_meet) (aCons (fCall (gN 2 g__law_closure) (aCons (fV 0) (aCons (fV 2) aNil))) (aCons (fCall (gN 2 g__law_closure) (aCons (fV 0) (aCons (fV 3) aNil))) aNil)))))
theorem sc__law_common : FnScope ["_law_plain_here", "_law_thing", "_law_half", "_law_rest", "_law_mark"] ["_law_plain_here", "_law_thing", "_law_half"] (defScope (top 57)) := ⟨rfl, rfl, rfl, by decide +kernel, rfl, by decide +kernel, by decide +kernel⟩
theorem raw__law_common {g__law_closure : List D → Option D} {g__law_meet : List D → Option D} (T : Tx K mg M) (A : At K mg "_law_common" (top 57) ["_law_plain_here", "_law_thing", "_law_half"]) (C__law_closure : Cal P w K mg base M "_law_closure" ["_law_plain_here", "_law_thing"] 2 g__law_closure) (C__law_meet : Cal P w K mg base M "_law_meet" ["_law_one", "_law_other"] 1 g__law_meet) : Cal P w K mg base M "_law_common" ["_law_plain_here", "_law_thing", "_law_half"] 3 (bodyG 5 (F__law_common g__law_closure g__law_meet)) :=
  cal_mk A sc__law_common fun f cdv A outer s H E hr => (dss_cons (ds_set (i := 3) sc__law_common.nd (de_callTy call_tupleOf rc_tuple (by rfl) T.tuple (by rfl) (da_cons (de_lc (own := [("_law_mark", 4)]) rfl sc__law_common.nd (di_seq (de_v 1)) (blkOk_by (by rfl)) (gt_name 4) (fun _ _ _ _ _ => (pg_name (i := 4) sc__law_common.nd (by rfl) (by first | exact Or.inl rfl | exact Or.inr rfl))) (fun _ _ _ _ _ => (dts_one (dt_cmp (op_notInAll hr) rd_notIn (de_v 4) (de_v 2)))) (fun _ _ _ _ _ => (de_v 4))) da_nil))) (dss_one (ds_ret (de_cal C__law_meet (hr.mono (by decide)) (da_cons (de_cal C__law_closure (hr.mono (by decide)) (da_cons (de_v 0) (da_cons (de_v 2) da_nil))) (da_cons (de_cal C__law_closure (hr.mono (by decide)) (da_cons (de_v 0) (da_cons (de_v 3) da_nil))) da_nil))))))
def F__law_can_halve (g__law_parts : List D → Option D) (g__law_common : List D → Option D) : En → Option Out :=
  (sRet (fCall gAny (aCons (fLc [2] (iSeq (fCall (gN 1 g__law_parts) (aCons (fV 1) aNil))) (t1 2) bYes (f2 gNeX (fCall (gN 3 g__law_common) (aCons (fV 0) (aCons (fV 1) (aCons (fV 2) aNil)))) (fTup aNil))) aNil)))
theorem sc__law_can_halve : FnScope ["_law_plain_here", "_law_thing", "_law_half"] ["_law_plain_here", "_law_thing"] (defScope (top 58)) := ⟨rfl, rfl, rfl, by decide +kernel, rfl, by decide +kernel, by decide +kernel⟩
theorem raw__law_can_halve {g__law_parts : List D → Option D} {g__law_common : List D → Option D} (T : Tx K mg M) (A : At K mg "_law_can_halve" (top 58) ["_law_plain_here", "_law_thing"]) (C__law_parts : Cal P w K mg base M "_law_parts" ["_law_thing"] 2 g__law_parts) (C__law_common : Cal P w K mg base M "_law_common" ["_law_plain_here", "_law_thing", "_law_half"] 3 g__law_common) : Cal P w K mg base M "_law_can_halve" ["_law_plain_here", "_law_thing"] 4 (bodyG 3 (F__law_can_halve g__law_parts g__law_common)) :=
  cal_mk A sc__law_can_halve fun f cdv A outer s H E hr => (dss_one (ds_ret (de_callB (cr_any rfl) rc_any (by rfl) T.any (by rfl) (da_cons (de_lc (own := [("_law_half", 2)]) rfl sc__law_can_halve.nd (di_seq (de_cal C__law_parts (hr.mono (by decide)) (da_cons (de_v 1) da_nil))) (blkOk_by (by rfl)) (gt_name 2) (fun _ _ _ _ _ => (pg_name (i := 2) sc__law_can_halve.nd (by rfl) (by first | exact Or.inl rfl | exact Or.inr rfl))) (fun _ _ _ _ _ => dts_nil) (fun _ _ _ _ _ => (de_cmp (op_neY (M := M) hr) rd_neY (de_cal C__law_common (hr.mono (by decide)) (da_cons (de_v 0) (da_cons (de_v 1) (da_cons (de_v 2) da_nil)))) (de_tup da_nil)))) da_nil))))
def F__law_is_few (g__law_sets : List D → Option D) (g__law_closure : List D → Option D) (g__law_less : List D → Option D) (g__law_pairs : List D → Option D) (g__law_parts : List D → Option D) : En → Option Out :=
  (sSeq (sAsg (fV 2) (t2 4 5)) (sSeq (sIf (bOr (fB (f2 gNotIn (fV 4) (fCall (gN 1 g__law_sets) (aCons (f2 gIxX (fV 0) (fC (.int 0))) aNil)))) (fB (f2 gNeX (fCall gLenX (aCons (fV 4) aNil)) (fV 1)))) (sRet (fC (.bl false))) sNil) (sSeq (sIf (fB (f2 gNotIn (fV 5) (fCall (gN 2 g__law_closure) (aCons (fV 0) (aCons (fV 4) aNil))))) (sRet (fC (.bl false))) sNil) (sSeq (sIf (fB (fCall gAny (aCons (fLc [8] (iSeq (fV 4)) (t1 8) bYes (f2 gInX (fV 5) (fCall (gN 2 g__law_closure) (aCons (fV 0) (aCons (fCall (gN 2 g__law_less) (aCons (fV 4) (aCons (fV 8) aNil))) aNil))))) aNil))) (sRet (fC (.bl false))) sNil) (sSeq (sIf (fB (f2 gNeX (fCall gSorted (aCons (fCall gListX (aCons (fV 3) aNil)) aNil)) (fCall gSorted (aCons (fCall (gN 1 g__law_pairs) (aCons (fV 0) aNil)) aNil)))) (sRet (fC (.bl false))) sNil) (sSeq (sFor (iItemsX (fV 3)) (t2 6 7) (sSeq (sIf (bOr (fB (f2 gNotIn (fV 7) (fCall (gN 1 g__law_parts) (aCons (f2 gIxX (fV 6) (fC (.int 0))) aNil)))) (fB (f2 gGt (fCall gLenX (aCons (fV 7) aNil)) (fV 1)))) (sRet (fC (.bl false))) sNil) (sIf (fB (f2 gNotIn (f2 gIxX (fV 6) (fC (.int 1))) (fCall (gN 2 g__law_closure) (aCons (fV 0) (aCons (fV 7) aNil))))) (sRet (fC (.bl false))) sNil))) (sRet (fC (.bl true)))))))))
theorem sc__law_is_few : FnScope ["_law_plain_here", "_law_number_here", "_law_hard", "_law_table", "_law_thing", "_law_mark", "_law_pair", "_law_root", "_law_one"] ["_law_plain_here", "_law_number_here", "_law_hard", "_law_table"] (defScope (top 59)) := ⟨rfl, rfl, rfl, by decide +kernel, rfl, by decide +kernel, by decide +kernel⟩
theorem raw__law_is_few {g__law_sets : List D → Option D} {g__law_closure : List D → Option D} {g__law_less : List D → Option D} {g__law_pairs : List D → Option D} {g__law_parts : List D → Option D} (T : Tx K mg M) (A : At K mg "_law_is_few" (top 59) ["_law_plain_here", "_law_number_here", "_law_hard", "_law_table"]) (C__law_sets : Cal P w K mg base M "_law_sets" ["_law_marks"] 1 g__law_sets) (C__law_closure : Cal P w K mg base M "_law_closure" ["_law_plain_here", "_law_thing"] 2 g__law_closure) (C__law_less : Cal P w K mg base M "_law_less" ["_law_thing", "_law_mark"] 1 g__law_less) (C__law_pairs : Cal P w K mg base M "_law_pairs" ["_law_plain_here"] 3 g__law_pairs) (C__law_parts : Cal P w K mg base M "_law_parts" ["_law_thing"] 2 g__law_parts) : Cal P w K mg base M "_law_is_few" ["_law_plain_here", "_law_number_here", "_law_hard", "_law_table"] 4 (bodyG 9 (F__law_is_few g__law_sets g__law_closure g__law_less g__law_pairs g__law_parts)) :=
  cal_mk A sc__law_is_few fun f cdv A outer s H E hr => (dss_cons (ds_asg (de_v 2) (pg_tup rfl (pgs_cons (pg_name (i := 4) sc__law_is_few.nd (by rfl) (by first | exact Or.inl rfl | exact Or.inr rfl)) (pgs_cons (pg_name (i := 5) sc__law_is_few.nd (by rfl) (by first | exact Or.inl rfl | exact Or.inr rfl)) pgs_nil))) (gt_pair 4 5)) (dss_cons (ds_if (dw_t (dw_or (dt_cmp (op_notInAll hr) rd_notIn (de_v 4) (de_cal C__law_sets (hr.mono (by decide)) (da_cons (de_ixX hr (de_v 0) de_int) da_nil))) (dw_or1 (dt_cmp (op_neY (M := M) hr) rd_neY (de_callB (call_lenY (M := M)) rc_lenY (by rfl) T.len (by rfl) (da_cons (de_v 4) da_nil)) (de_v 1))))) (dss_one (ds_ret de_bl)) dss_nil) (dss_cons (ds_if (dt_cmp (op_notInAll hr) rd_notIn (de_v 5) (de_cal C__law_closure (hr.mono (by decide)) (da_cons (de_v 0) (da_cons (de_v 4) da_nil)))) (dss_one (ds_ret de_bl)) dss_nil) (dss_cons (ds_if (dt_val (de_callB (cr_any rfl) rc_any (by rfl) T.any (by rfl) (da_cons (de_lc (own := [("_law_one", 8)]) rfl sc__law_is_few.nd (di_seq (de_v 4)) (blkOk_by (by rfl)) (gt_name 8) (fun _ _ _ _ _ => (pg_name (i := 8) sc__law_is_few.nd (by rfl) (by first | exact Or.inl rfl | exact Or.inr rfl))) (fun _ _ _ _ _ => dts_nil) (fun _ _ _ _ _ => (de_cmp (op_inY (M := M) hr) rd_inY (de_v 5) (de_cal C__law_closure (hr.mono (by decide)) (da_cons (de_v 0) (da_cons (de_cal C__law_less (hr.mono (by decide)) (da_cons (de_v 4) (da_cons (de_v 8) da_nil))) da_nil)))))) da_nil))) (dss_one (ds_ret de_bl)) dss_nil) (dss_cons (ds_if (dt_cmp (op_neY (M := M) hr) rd_neY (de_callB (cr_sortAll hr rfl) rc_sorted (by rfl) T.sorted (by rfl) (da_cons (de_callTy (call_listY (M := M) hr) rc_listY (by rfl) T.list (by rfl) (da_cons (de_v 3) da_nil)) da_nil)) (de_callB (cr_sortAll hr rfl) rc_sorted (by rfl) T.sorted (by rfl) (da_cons (de_cal C__law_pairs (hr.mono (by decide)) (da_cons (de_v 0) da_nil)) da_nil))) (dss_one (ds_ret de_bl)) dss_nil) (dss_cons (ds_for PassesOwn.never rfl (di_items (de_v 3)) (pg_tup rfl (pgs_cons (pg_name (i := 6) sc__law_is_few.nd (by rfl) (by first | exact Or.inl rfl | exact Or.inr rfl)) (pgs_cons (pg_name (i := 7) sc__law_is_few.nd (by rfl) (by first | exact Or.inl rfl | exact Or.inr rfl)) pgs_nil))) (gt_pair 6 7) (dss_cons (ds_if (dw_t (dw_or (dt_cmp (op_notInAll hr) rd_notIn (de_v 7) (de_cal C__law_parts (hr.mono (by decide)) (da_cons (de_ixX hr (de_v 6) de_int) da_nil))) (dw_or1 (dt_cmp op_gt rd_cmp (de_callB (call_lenY (M := M)) rc_lenY (by rfl) T.len (by rfl) (da_cons (de_v 7) da_nil)) (de_v 1))))) (dss_one (ds_ret de_bl)) dss_nil) (dss_one (ds_if (dt_cmp (op_notInAll hr) rd_notIn (de_ixX hr (de_v 6) de_int) (de_cal C__law_closure (hr.mono (by decide)) (da_cons (de_v 0) (da_cons (de_v 7) da_nil)))) (dss_one (ds_ret de_bl)) dss_nil)))) (dss_one (ds_ret de_bl))))))))
def F__law_is_meeting (g__law_sets : List D → Option D) (g__law_shared : List D → Option D) : En → Option Out :=
  (sSeq (sIf (bOr (fB (f2 gNotIn (fV 2) (fCall (gN 1 g__law_sets) (aCons (f2 gIxX (fV 0) (fC (.int 0))) aNil)))) (fB (f2 gNeX (fCall gLenX (aCons (fV 2) aNil)) (fV 1)))) (sRet (fC (.bl false))) sNil) (sSeq (sIf (bAnd (fB (f2 gNeX (fV 2) (fTup aNil))) (fB (f2 gNeX (fCall (gN 2 g__law_shared) (aCons (fV 0) (aCons (fV 2) aNil))) (fTup aNil)))) (sRet (fC (.bl false))) sNil) (sSeq (sIf (fB (f2 gNeX (fCall gSorted (aCons (fCall gListX (aCons (fV 3) aNil)) aNil)) (fCall gSorted (aCons (fLc [4] (iSeq (fCall (gN 1 g__law_sets) (aCons (f2 gIxX (fV 0) (fC (.int 0))) aNil))) (t1 4) (fB (f2 gEq (fCall gLenX (aCons (fV 4) aNil)) (f2 gAdd (fV 1) (fC (.int 1))))) (fV 4)) aNil)))) (sRet (fC (.bl false))) sNil) (sRet (fCall gAll (aCons (fLc [4, 5] (iItemsX (fV 3)) (t2 4 5) bYes (f2 gInX (fV 5) (fCall (gN 2 g__law_shared) (aCons (fV 0) (aCons (fV 4) aNil))))) aNil))))))
theorem sc__law_is_meeting : FnScope ["_law_plain_here", "_law_number_here", "_law_thing", "_law_table", "_law_one", "_law_mark"] ["_law_plain_here", "_law_number_here", "_law_thing", "_law_table"] (defScope (top 60)) := ⟨rfl, rfl, rfl, by decide +kernel, rfl, by decide +kernel, by decide +kernel⟩
theorem raw__law_is_meeting {g__law_sets : List D → Option D} {g__law_shared : List D → Option D} (T : Tx K mg M) (A : At K mg "_law_is_meeting" (top 60) ["_law_plain_here", "_law_number_here", "_law_thing", "_law_table"]) (C__law_sets : Cal P w K mg base M "_law_sets" ["_law_marks"] 1 g__law_sets) (C__law_shared : Cal P w K mg base M "_law_shared" ["_law_plain_here", "_law_thing"] 3 g__law_shared) : Cal P w K mg base M "_law_is_meeting" ["_law_plain_here", "_law_number_here", "_law_thing", "_law_table"] 4 (bodyG 6 (F__law_is_meeting g__law_sets g__law_shared)) :=
  cal_mk A sc__law_is_meeting fun f cdv A outer s H E hr => (dss_cons (ds_if (dw_t (dw_or (dt_cmp (op_notInAll hr) rd_notIn (de_v 2) (de_cal C__law_sets (hr.mono (by decide)) (da_cons (de_ixX hr (de_v 0) de_int) da_nil))) (dw_or1 (dt_cmp (op_neY (M := M) hr) rd_neY (de_callB (call_lenY (M := M)) rc_lenY (by rfl) T.len (by rfl) (da_cons (de_v 2) da_nil)) (de_v 1))))) (dss_one (ds_ret de_bl)) dss_nil) (dss_cons (ds_if (dw_t (dw_and (dt_cmp (op_neY (M := M) hr) rd_neY (de_v 2) (de_tup da_nil)) (dw_and1 (dt_cmp (op_neY (M := M) hr) rd_neY (de_cal C__law_shared (hr.mono (by decide)) (da_cons (de_v 0) (da_cons (de_v 2) da_nil))) (de_tup da_nil))))) (dss_one (ds_ret de_bl)) dss_nil) (dss_cons (ds_if (dt_cmp (op_neY (M := M) hr) rd_neY (de_callB (cr_sortAll hr rfl) rc_sorted (by rfl) T.sorted (by rfl) (da_cons (de_callTy (call_listY (M := M) hr) rc_listY (by rfl) T.list (by rfl) (da_cons (de_v 3) da_nil)) da_nil)) (de_callB (cr_sortAll hr rfl) rc_sorted (by rfl) T.sorted (by rfl) (da_cons (de_lc (own := [("_law_one", 4)]) rfl sc__law_is_meeting.nd (di_seq (de_cal C__law_sets (hr.mono (by decide)) (da_cons (de_ixX hr (de_v 0) de_int) da_nil))) (blkOk_by (by rfl)) (gt_name 4) (fun _ _ _ _ _ => (pg_name (i := 4) sc__law_is_meeting.nd (by rfl) (by first | exact Or.inl rfl | exact Or.inr rfl))) (fun _ _ _ _ _ => (dts_one (dt_cmp (op_eqX hr) rd_eq (de_callB (call_lenY (M := M)) rc_lenY (by rfl) T.len (by rfl) (da_cons (de_v 4) da_nil)) (de_op op_addAll rd_add (de_v 1) de_int)))) (fun _ _ _ _ _ => (de_v 4))) da_nil))) (dss_one (ds_ret de_bl)) dss_nil) (dss_one (ds_ret (de_callB (cr_all rfl) rc_all (by rfl) T.all (by rfl) (da_cons (de_lc (own := [("_law_one", 4), ("_law_mark", 5)]) rfl sc__law_is_meeting.nd (di_items (de_v 3)) (blkOk_by (by rfl)) (gt_pair 4 5) (fun _ _ _ _ _ => (pg_tup rfl (pgs_cons (pg_name (i := 4) sc__law_is_meeting.nd (by rfl) (by first | exact Or.inl rfl | exact Or.inr rfl)) (pgs_cons (pg_name (i := 5) sc__law_is_meeting.nd (by rfl) (by first | exact Or.inl rfl | exact Or.inr rfl)) pgs_nil)))) (fun _ _ _ _ _ => dts_nil) (fun _ _ _ _ _ => (de_cmp (op_inY (M := M) hr) rd_inY (de_v 5) (de_cal C__law_shared (hr.mono (by decide)) (da_cons (de_v 0) (da_cons (de_v 4) da_nil)))))) da_nil)))))))
def F__law_is_halves (g__law_sets : List D → Option D) (g__law_can_halve : List D → Option D) (g__law_parts : List D → Option D) (g__law_common : List D → Option D) : En → Option Out :=
  (sSeq (sIf (bAnd (fB (f2 gEq (fV 1) (fC (.int 0)))) (fB (f2 gNotN (fV 2) (fC .non)))) (sRet (fC (.bl false))) sNil) (sSeq (sIf (bAnd (fB (f2 gGt (fV 1) (fC (.int 0)))) (bOr (fB (f2 gNotIn (fV 2) (fCall (gN 1 g__law_sets) (aCons (f2 gIxX (fV 0) (fC (.int 0))) aNil)))) (bOr (fB (f2 gNeX (fCall gLenX (aCons (fV 2) aNil)) (f2 gSub (fV 1) (fC (.int 1))))) (fB (fCall (gN 2 g__law_can_halve) (aCons (fV 0) (aCons (fV 2) aNil))))))) (sRet (fC (.bl false))) sNil) (sSeq (sIf (fB (f2 gNeX (fCall gSorted (aCons (fCall gListX (aCons (fV 3) aNil)) aNil)) (fCall gSorted (aCons (fLc [4] (iSeq (fCall (gN 1 g__law_sets) (aCons (f2 gIxX (fV 0) (fC (.int 0))) aNil))) (t1 4) (fB (f2 gEq (fCall gLenX (aCons (fV 4) aNil)) (fV 1))) (fV 4)) aNil)))) (sRet (fC (.bl false))) sNil) (sSeq (sFor (iItemsX (fV 3)) (t2 4 5) (sIf (bOr (fB (f2 gNotIn (f2 gIxX (fV 5) (fC (.int 0))) (fCall (gN 1 g__law_parts) (aCons (fV 4) aNil)))) (fB (f2 gNotIn (f2 gIxX (fV 5) (fC (.int 1))) (fCall (gN 3 g__law_common) (aCons (fV 0) (aCons (fV 4) (aCons (f2 gIxX (fV 5) (fC (.int 0))) aNil))))))) (sRet (fC (.bl false))) sNil)) (sRet (fC (.bl true)))))))
theorem sc__law_is_halves : FnScope ["_law_plain_here", "_law_number_here", "_law_thing", "_law_table", "_law_one", "_law_pair"] ["_law_plain_here", "_law_number_here", "_law_thing", "_law_table"] (defScope (top 61)) := ⟨rfl, rfl, rfl, by decide +kernel, rfl, by decide +kernel, by decide +kernel⟩
theorem raw__law_is_halves {g__law_sets : List D → Option D} {g__law_can_halve : List D → Option D} {g__law_parts : List D → Option D} {g__law_common : List D → Option D} (T : Tx K mg M) (A : At K mg "_law_is_halves" (top 61) ["_law_plain_here", "_law_number_here", "_law_thing", "_law_table"]) (C__law_sets : Cal P w K mg base M "_law_sets" ["_law_marks"] 1 g__law_sets) (C__law_can_halve : Cal P w K mg base M "_law_can_halve" ["_law_plain_here", "_law_thing"] 4 g__law_can_halve) (C__law_parts : Cal P w K mg base M "_law_parts" ["_law_thing"] 2 g__law_parts) (C__law_common : Cal P w K mg base M "_law_common" ["_law_plain_here", "_law_thing", "_law_half"] 3 g__law_common) : Cal P w K mg base M "_law_is_halves" ["_law_plain_here", "_law_number_here", "_law_thing", "_law_table"] 5 (bodyG 6 (F__law_is_halves g__law_sets g__law_can_halve g__law_parts g__law_common)) :=
  cal_mk A sc__law_is_halves fun f cdv A outer s H E hr => (dss_cons (ds_if (dw_t (dw_and (dt_cmp (op_eqX hr) rd_eq (de_v 1) de_int) (dw_and1 (dt_cmp op_notN rd_notN (de_v 2) de_non)))) (dss_one (ds_ret de_bl)) dss_nil) (dss_cons (ds_if (dw_t (dw_and (dt_cmp op_gt rd_cmp (de_v 1) de_int) (dw_and1 (dw_t (dw_or (dt_cmp (op_notInAll hr) rd_notIn (de_v 2) (de_cal C__law_sets (hr.mono (by decide)) (da_cons (de_ixX hr (de_v 0) de_int) da_nil))) (dw_or (dt_cmp (op_neY (M := M) hr) rd_neY (de_callB (call_lenY (M := M)) rc_lenY (by rfl) T.len (by rfl) (da_cons (de_v 2) da_nil)) (de_op op_sub rd_sub (de_v 1) de_int)) (dw_or1 (dt_val (de_cal C__law_can_halve (hr.mono (by decide)) (da_cons (de_v 0) (da_cons (de_v 2) da_nil))))))))))) (dss_one (ds_ret de_bl)) dss_nil) (dss_cons (ds_if (dt_cmp (op_neY (M := M) hr) rd_neY (de_callB (cr_sortAll hr rfl) rc_sorted (by rfl) T.sorted (by rfl) (da_cons (de_callTy (call_listY (M := M) hr) rc_listY (by rfl) T.list (by rfl) (da_cons (de_v 3) da_nil)) da_nil)) (de_callB (cr_sortAll hr rfl) rc_sorted (by rfl) T.sorted (by rfl) (da_cons (de_lc (own := [("_law_one", 4)]) rfl sc__law_is_halves.nd (di_seq (de_cal C__law_sets (hr.mono (by decide)) (da_cons (de_ixX hr (de_v 0) de_int) da_nil))) (blkOk_by (by rfl)) (gt_name 4) (fun _ _ _ _ _ => (pg_name (i := 4) sc__law_is_halves.nd (by rfl) (by first | exact Or.inl rfl | exact Or.inr rfl))) (fun _ _ _ _ _ => (dts_one (dt_cmp (op_eqX hr) rd_eq (de_callB (call_lenY (M := M)) rc_lenY (by rfl) T.len (by rfl) (da_cons (de_v 4) da_nil)) (de_v 1)))) (fun _ _ _ _ _ => (de_v 4))) da_nil))) (dss_one (ds_ret de_bl)) dss_nil) (dss_cons (ds_for PassesOwn.never rfl (di_items (de_v 3)) (pg_tup rfl (pgs_cons (pg_name (i := 4) sc__law_is_halves.nd (by rfl) (by first | exact Or.inl rfl | exact Or.inr rfl)) (pgs_cons (pg_name (i := 5) sc__law_is_halves.nd (by rfl) (by first | exact Or.inl rfl | exact Or.inr rfl)) pgs_nil))) (gt_pair 4 5) (dss_one (ds_if (dw_t (dw_or (dt_cmp (op_notInAll hr) rd_notIn (de_ixX hr (de_v 5) de_int) (de_cal C__law_parts (hr.mono (by decide)) (da_cons (de_v 4) da_nil))) (dw_or1 (dt_cmp (op_notInAll hr) rd_notIn (de_ixX hr (de_v 5) de_int) (de_cal C__law_common (hr.mono (by decide)) (da_cons (de_v 0) (da_cons (de_v 4) (da_cons (de_ixX hr (de_v 5) de_int) da_nil)))))))) (dss_one (ds_ret de_bl)) dss_nil))) (dss_one (ds_ret de_bl))))))
def F_Few_shows (g_check_book : List D → Option D) (g_is_set : List D → Option D) (g_closure : List D → Option D) (g_without : List D → Option D) (g_pairs_of : List D → Option D) (g_is_within : List D → Option D) : En → Option Out :=
  (sSeq (sDrop (fCall (gN 1 g_check_book) (aCons (fV 1) aNil))) (sSeq (sAsg (fFld 1 "hard" (fV 0)) (t2 3 4)) (sSeq (sIf (bOr (bNot (fB (fCall (gN 2 g_is_set) (aCons (fFld 0 "marks" (fV 1)) (aCons (fV 3) aNil))))) (bOr (fB (f2 gNeX (fCall gLenX (aCons (fV 3) aNil)) (fFld 1 "number" (fV 0)))) (fB (f2 gNotIn (fV 4) (fCall (gN 2 g_closure) (aCons (fFld 0 "rules" (fV 1)) (aCons (fV 3) aNil))))))) (sRet (fC (.bl false))) sNil) (sSeq (sIf (fB (fCall gAny (aCons (fLc [7] (iSeq (fV 3)) (t1 7) bYes (f2 gInX (fV 4) (fCall (gN 2 g_closure) (aCons (fFld 0 "rules" (fV 1)) (aCons (fCall (gN 2 g_without) (aCons (fV 3) (aCons (fV 7) aNil))) aNil))))) aNil))) (sRet (fC (.bl false))) sNil) (sSeq (sAsg (fCall (gN 1 g_pairs_of) (aCons (fV 1) aNil)) (t1 2)) (sSeq (sIf (bOr (fB (f2 gNeX (fCall gLenX (aCons (fV 2) aNil)) (fCall gLenX (aCons (fFld 1 "table" (fV 0)) aNil)))) (bNot (fB (fCall gAll (aCons (fLc [5] (iSeq (fV 2)) (t1 5) bYes (f2 gInX (fV 5) (fFld 1 "table" (fV 0)))) aNil))))) (sRet (fC (.bl false))) sNil) (sSeq (sFor (iItemsX (fFld 1 "table" (fV 0))) (t2 5 6) (sSeq (sIf (bOr (bNot (fB (fCall (gN 2 g_is_within) (aCons (fV 6) (aCons (f2 gIxX (fV 5) (fC (.int 0))) aNil))))) (bOr (fB (f2 gGt (fCall gLenX (aCons (fV 6) aNil)) (fFld 1 "number" (fV 0)))) (bNot (fB (fCall (gN 2 g_is_set) (aCons (fFld 0 "marks" (fV 1)) (aCons (fV 6) aNil))))))) (sRet (fC (.bl false))) sNil) (sIf (fB (f2 gNotIn (f2 gIxX (fV 5) (fC (.int 1))) (fCall (gN 2 g_closure) (aCons (fFld 0 "rules" (fV 1)) (aCons (fV 6) aNil))))) (sRet (fC (.bl false))) sNil))) (sRet (fC (.bl true))))))))))
theorem sc_Few_shows : FnScope ["self", "book", "due", "thing", "mark", "pair", "root", "one"] ["self", "book"] (defScope (inClass (top 27) 3)) := ⟨rfl, rfl, rfl, by decide +kernel, rfl, by decide +kernel, by decide +kernel⟩
theorem raw_Few_shows {g_check_book : List D → Option D} {g_is_set : List D → Option D} {g_closure : List D → Option D} {g_without : List D → Option D} {g_pairs_of : List D → Option D} {g_is_within : List D → Option D} (T : Tx K mg M) (A : AtM K (M.cl 1) "shows" "Few.shows" (inClass (top 27) 3) ["self", "book"]) (C_check_book : Cal P w K mg base M "check_book" ["thing"] 1 g_check_book) (C_is_set : Cal P w K mg base M "is_set" ["marks", "thing"] 2 g_is_set) (C_closure : Cal P w K mg base M "closure" ["rules", "thing"] 2 g_closure) (C_without : Cal P w K mg base M "without" ["thing", "mark"] 1 g_without) (C_pairs_of : Cal P w K mg base M "pairs_of" ["book"] 4 g_pairs_of) (C_is_within : Cal P w K mg base M "is_within" ["one", "other"] 1 g_is_within) : CalM P w K mg base M 1 "shows" ["self", "book"] 5 (bodyG 8 (F_Few_shows g_check_book g_is_set g_closure g_without g_pairs_of g_is_within)) :=
  calM_mk T.cls1 A sc_Few_shows fun f cdv A outer s H E hr => (dss_cons (ds_expr (de_cal C_check_book (hr.mono (by decide)) (da_cons (de_v 1) da_nil))) (dss_cons (ds_asg (de_attr 1 (by decide) T.cls1 T.n1hard (de_v 0)) (pg_tup rfl (pgs_cons (pg_name (i := 3) sc_Few_shows.nd (by rfl) (by first | exact Or.inl rfl | exact Or.inr rfl)) (pgs_cons (pg_name (i := 4) sc_Few_shows.nd (by rfl) (by first | exact Or.inl rfl | exact Or.inr rfl)) pgs_nil))) (gt_pair 3 4)) (dss_cons (ds_if (dw_t (dw_or (dt_not (dt_val (de_cal C_is_set (hr.mono (by decide)) (da_cons (de_marks T (de_v 1)) (da_cons (de_v 3) da_nil))))) (dw_or (dt_cmp (op_neY (M := M) hr) rd_neY (de_callB (call_lenY (M := M)) rc_lenY (by rfl) T.len (by rfl) (da_cons (de_v 3) da_nil)) (de_attr 1 (by decide) T.cls1 T.n1number (de_v 0))) (dw_or1 (dt_cmp (op_notInAll hr) rd_notIn (de_v 4) (de_cal C_closure (hr.mono (by decide)) (da_cons (de_rules T (de_v 1)) (da_cons (de_v 3) da_nil)))))))) (dss_one (ds_ret de_bl)) dss_nil) (dss_cons (ds_if (dt_val (de_callB (cr_any rfl) rc_any (by rfl) T.any (by rfl) (da_cons (de_lc (own := [("one", 7)]) rfl sc_Few_shows.nd (di_seq (de_v 3)) (blkOk_by (by rfl)) (gt_name 7) (fun _ _ _ _ _ => (pg_name (i := 7) sc_Few_shows.nd (by rfl) (by first | exact Or.inl rfl | exact Or.inr rfl))) (fun _ _ _ _ _ => dts_nil) (fun _ _ _ _ _ => (de_cmp (op_inY (M := M) hr) rd_inY (de_v 4) (de_cal C_closure (hr.mono (by decide)) (da_cons (de_rules T (de_v 1)) (da_cons (de_cal C_without (hr.mono (by decide)) (da_cons (de_v 3) (da_cons (de_v 7) da_nil))) da_nil)))))) da_nil))) (dss_one (ds_ret de_bl)) dss_nil) (dss_cons (ds_set (i := 2) sc_Few_shows.nd (de_cal C_pairs_of (hr.mono (by decide)) (da_cons (de_v 1) da_nil))) (dss_cons (ds_if (dw_t (dw_or (dt_cmp (op_neY (M := M) hr) rd_neY (de_callB (call_lenY (M := M)) rc_lenY (by rfl) T.len (by rfl) (da_cons (de_v 2) da_nil)) (de_callB (call_lenY (M := M)) rc_lenY (by rfl) T.len (by rfl) (da_cons (de_attr 1 (by decide) T.cls1 T.n1table (de_v 0)) da_nil))) (dw_or1 (dt_not (dt_val (de_callB (cr_all rfl) rc_all (by rfl) T.all (by rfl) (da_cons (de_lc (own := [("pair", 5)]) rfl sc_Few_shows.nd (di_seq (de_v 2)) (blkOk_by (by rfl)) (gt_name 5) (fun _ _ _ _ _ => (pg_name (i := 5) sc_Few_shows.nd (by rfl) (by first | exact Or.inl rfl | exact Or.inr rfl))) (fun _ _ _ _ _ => dts_nil) (fun _ _ _ _ _ => (de_cmp (op_inY (M := M) hr) rd_inY (de_v 5) (de_attr 1 (by decide) T.cls1 T.n1table (de_v 0))))) da_nil))))))) (dss_one (ds_ret de_bl)) dss_nil) (dss_cons (ds_for PassesOwn.never rfl (di_items (de_attr 1 (by decide) T.cls1 T.n1table (de_v 0))) (pg_tup rfl (pgs_cons (pg_name (i := 5) sc_Few_shows.nd (by rfl) (by first | exact Or.inl rfl | exact Or.inr rfl)) (pgs_cons (pg_name (i := 6) sc_Few_shows.nd (by rfl) (by first | exact Or.inl rfl | exact Or.inr rfl)) pgs_nil))) (gt_pair 5 6) (dss_cons (ds_if (dw_t (dw_or (dt_not (dt_val (de_cal C_is_within (hr.mono (by decide)) (da_cons (de_v 6) (da_cons (de_ixX hr (de_v 5) de_int) da_nil))))) (dw_or (dt_cmp op_gt rd_cmp (de_callB (call_lenY (M := M)) rc_lenY (by rfl) T.len (by rfl) (da_cons (de_v 6) da_nil)) (de_attr 1 (by decide) T.cls1 T.n1number (de_v 0))) (dw_or1 (dt_not (dt_val (de_cal C_is_set (hr.mono (by decide)) (da_cons (de_marks T (de_v 1)) (da_cons (de_v 6) da_nil))))))))) (dss_one (ds_ret de_bl)) dss_nil) (dss_one (ds_if (dt_cmp (op_notInAll hr) rd_notIn (de_ixX hr (de_v 5) de_int) (de_cal C_closure (hr.mono (by decide)) (da_cons (de_rules T (de_v 1)) (da_cons (de_v 6) da_nil)))) (dss_one (ds_ret de_bl)) dss_nil)))) (dss_one (ds_ret de_bl)))))))))
def F_Halves_shows (g_check_book : List D → Option D) (g_is_set : List D → Option D) (g_is_apart : List D → Option D) (g_sets_of : List D → Option D) (g_Halves_does_halve : List D → Option D) : En → Option Out :=
  (sSeq (sDrop (fCall (gN 1 g_check_book) (aCons (fV 1) aNil))) (sSeq (sIf (fB (f2 gEq (fFld 3 "number" (fV 0)) (fC (.int 0)))) (sIf (fB (f2 gNotN (fFld 3 "thing" (fV 0)) (fC .non))) (sRet (fC (.bl false))) sNil) (sIf (bOr (bNot (fB (fCall (gN 2 g_is_set) (aCons (fFld 0 "marks" (fV 1)) (aCons (fFld 3 "thing" (fV 0)) aNil))))) (bOr (fB (f2 gNeX (fCall gLenX (aCons (fFld 3 "thing" (fV 0)) aNil)) (f2 gSub (fFld 3 "number" (fV 0)) (fC (.int 1))))) (bNot (fB (fCall (gN 2 g_is_apart) (aCons (fV 1) (aCons (fFld 3 "thing" (fV 0)) aNil))))))) (sRet (fC (.bl false))) sNil)) (sSeq (sAsg (fLc [3] (iSeq (fCall (gN 1 g_sets_of) (aCons (fFld 0 "marks" (fV 1)) aNil))) (t1 3) (fB (f2 gEq (fCall gLenX (aCons (fV 3) aNil)) (fFld 3 "number" (fV 0)))) (fV 3)) (t1 2)) (sSeq (sIf (bOr (fB (f2 gNeX (fCall gLenX (aCons (fV 2) aNil)) (fCall gLenX (aCons (fFld 3 "table" (fV 0)) aNil)))) (bNot (fB (fCall gAll (aCons (fLc [3] (iSeq (fV 2)) (t1 3) bYes (f2 gInX (fV 3) (fFld 3 "table" (fV 0)))) aNil))))) (sRet (fC (.bl false))) sNil) (sRet (fCall gAll (aCons (fLc [3] (iSeq (fV 2)) (t1 3) bYes (fMeth 3 2 "does_halve" g_Halves_does_halve (fV 0) (aCons (fV 1) (aCons (fV 3) aNil)))) aNil)))))))
theorem sc_Halves_shows : FnScope ["self", "book", "due", "thing"] ["self", "book"] (defScope (inClass (top 30) 3)) := ⟨rfl, rfl, rfl, by decide +kernel, rfl, by decide +kernel, by decide +kernel⟩
theorem raw_Halves_shows {g_check_book : List D → Option D} {g_is_set : List D → Option D} {g_is_apart : List D → Option D} {g_sets_of : List D → Option D} {g_Halves_does_halve : List D → Option D} (T : Tx K mg M) (A : AtM K (M.cl 3) "shows" "Halves.shows" (inClass (top 30) 3) ["self", "book"]) (C_check_book : Cal P w K mg base M "check_book" ["thing"] 1 g_check_book) (C_is_set : Cal P w K mg base M "is_set" ["marks", "thing"] 2 g_is_set) (C_is_apart : Cal P w K mg base M "is_apart" ["book", "thing"] 4 g_is_apart) (C_sets_of : Cal P w K mg base M "sets_of" ["marks"] 3 g_sets_of) (C_Halves_does_halve : CalM P w K mg base M 3 "does_halve" ["self", "book", "thing"] 4 g_Halves_does_halve) : CalM P w K mg base M 3 "shows" ["self", "book"] 5 (bodyG 4 (F_Halves_shows g_check_book g_is_set g_is_apart g_sets_of g_Halves_does_halve)) :=
  calM_mk T.cls3 A sc_Halves_shows fun f cdv A outer s H E hr => (dss_cons (ds_expr (de_cal C_check_book (hr.mono (by decide)) (da_cons (de_v 1) da_nil))) (dss_cons (ds_if (dt_cmp (op_eqX hr) rd_eq (de_attr 3 (by decide) T.cls3 T.n3number (de_v 0)) de_int) (dss_one (ds_if (dt_cmp op_notN rd_notN (de_attr 3 (by decide) T.cls3 T.n3thing (de_v 0)) de_non) (dss_one (ds_ret de_bl)) dss_nil)) (dss_one (ds_if (dw_t (dw_or (dt_not (dt_val (de_cal C_is_set (hr.mono (by decide)) (da_cons (de_marks T (de_v 1)) (da_cons (de_attr 3 (by decide) T.cls3 T.n3thing (de_v 0)) da_nil))))) (dw_or (dt_cmp (op_neY (M := M) hr) rd_neY (de_callB (call_lenY (M := M)) rc_lenY (by rfl) T.len (by rfl) (da_cons (de_attr 3 (by decide) T.cls3 T.n3thing (de_v 0)) da_nil)) (de_op op_sub rd_sub (de_attr 3 (by decide) T.cls3 T.n3number (de_v 0)) de_int)) (dw_or1 (dt_not (dt_val (de_cal C_is_apart (hr.mono (by decide)) (da_cons (de_v 1) (da_cons (de_attr 3 (by decide) T.cls3 T.n3thing (de_v 0)) da_nil))))))))) (dss_one (ds_ret de_bl)) dss_nil))) (dss_cons (ds_setLc (i := 2) (own := [("thing", 3)]) rfl sc_Halves_shows.nd (di_seq (de_cal C_sets_of (hr.mono (by decide)) (da_cons (de_marks T (de_v 1)) da_nil))) (blkOk_by (by rfl)) (gt_name 3) (sw_true rfl (by rfl) (by rfl) (by rfl)) (fun _ _ _ _ _ => (pg_name (i := 3) sc_Halves_shows.nd (by rfl) (by first | exact Or.inl rfl | exact Or.inr rfl))) (fun _ _ _ _ _ => (dts_one (dt_cmp (op_eqX hr) rd_eq (de_callB (call_lenY (M := M)) rc_lenY (by rfl) T.len (by rfl) (da_cons (de_v 3) da_nil)) (de_attr 3 (by decide) T.cls3 T.n3number (de_v 0))))) (fun _ _ _ _ _ => (de_v 3))) (dss_cons (ds_if (dw_t (dw_or (dt_cmp (op_neY (M := M) hr) rd_neY (de_callB (call_lenY (M := M)) rc_lenY (by rfl) T.len (by rfl) (da_cons (de_v 2) da_nil)) (de_callB (call_lenY (M := M)) rc_lenY (by rfl) T.len (by rfl) (da_cons (de_attr 3 (by decide) T.cls3 T.n3table (de_v 0)) da_nil))) (dw_or1 (dt_not (dt_val (de_callB (cr_all rfl) rc_all (by rfl) T.all (by rfl) (da_cons (de_lc (own := [("thing", 3)]) rfl sc_Halves_shows.nd (di_seq (de_v 2)) (blkOk_by (by rfl)) (gt_name 3) (fun _ _ _ _ _ => (pg_name (i := 3) sc_Halves_shows.nd (by rfl) (by first | exact Or.inl rfl | exact Or.inr rfl))) (fun _ _ _ _ _ => dts_nil) (fun _ _ _ _ _ => (de_cmp (op_inY (M := M) hr) rd_inY (de_v 3) (de_attr 3 (by decide) T.cls3 T.n3table (de_v 0))))) da_nil))))))) (dss_one (ds_ret de_bl)) dss_nil) (dss_one (ds_ret (de_callB (cr_all rfl) rc_all (by rfl) T.all (by rfl) (da_cons (de_lc (own := [("thing", 3)]) rfl sc_Halves_shows.nd (di_seq (de_v 2)) (blkOk_by (by rfl)) (gt_name 3) (fun _ _ _ _ _ => (pg_name (i := 3) sc_Halves_shows.nd (by rfl) (by first | exact Or.inl rfl | exact Or.inr rfl))) (fun _ _ _ _ _ => dts_nil) (fun _ _ _ _ _ => (de_calM (by decide) C_Halves_does_halve (hr.mono (by decide)) (de_v 0) (da_cons (de_v 1) (da_cons (de_v 3) da_nil))))) da_nil))))))))
end
end Dx
/-! Defs whose body makes a lambda: the code object is known. -/
namespace Dx
open PySem PySem.Spec PyProof.Rows L2
structure AtC (K : PySem.W.Frag) (mg : Str → Option Value) (base : Heap) (M : Mm) (x : Str) (st : Stmt) (ps : List Str) : Prop where
  ex : ∃ (a c Pt : Addr) (oc kV doc pm ct : Value) (od an : Option Addr) (osl : Array (Option Value)), K.lookup a = some ⟨oc, od, .func (PySem.W.fnOf x x (defArgs st) (defBody st) (defScope st) .none kV doc pm an (.ref c) ct), osl⟩ ∧ PySem.W.codeIn K (.ref c) x = true ∧ PySem.W.keepIn K (.ref a) = true ∧
    mg x = some (.ref a) ∧ L2.Binds K (PySem.W.fnOf x x (defArgs st) (defBody st) (defScope st) .none kV doc pm an (.ref c) ct) ps [] ∧ LamX.TabB base mg c Pt ∧ (Pt, (envOfC x (defScope st) 0 0 (.ref c)).qual ++ ("<lambda>" : Str)) ∈ M.T ∧ ∀ q ∈ M.T, q.1 = Pt → q.2 = (envOfC x (defScope st) 0 0 (.ref c)).qual ++ ("<lambda>" : Str)
theorem calC_mk {P : Program} {w : World} {K : PySem.W.Frag} {mg : Str → Option Value} {base : Heap} {M : Mm} {x : Str} {st : Stmt} {N ps : List Str} {k : Nat} {F : En → Option Out} (h : AtC K mg base M x st ps) (S : FnScope N ps (defScope st))
    (hb : ∀ (f c Pt : Addr) (A : Around) (outer : List Env) (s : Shared) (H : Hp) (E : XK), LamX.TabB base mg c Pt → (Pt, (envOfC x (defScope st) 0 0 (.ref c)).qual ++ ("<lambda>" : Str)) ∈ M.T → (∀ q ∈ M.T, q.1 = Pt → q.2 = (envOfC x (defScope st) 0 0 (.ref c)).qual ++ ("<lambda>" : Str)) →
      Room k (A.deeper (envOfC x (defScope st) s.heap.objs.size f (.ref c))) → DSs M (cxOf CX0 P w K mg base N x (defScope st) f (.ref c) A outer s H E).nox (defBody st) F) :
    Cal P w K mg base M x ps (k + 1) (bodyG N.length F) := by
  obtain ⟨a, c, Pt, oc, kV, doc, pm, ct, od, an, osl, h1, h2, h3, h4, h5, h6, h7, h8⟩ := h.ex
  refine ⟨a, _, h4, h3, h5, fn_of h1 h2 S (fun vs H Q E h => ?_) fun A outer s H vs Q E hr h => ?_⟩
  · obtain ⟨Z, ds, d, _, hA, hl, _⟩ := h
    rw [hA.length, hl]
  · obtain ⟨Z, ds, d, ok, hA, hl, hg, q⟩ := h
    refine ⟨_, (hb a c Pt A outer s H E h6 h7 h8 hr).nox, ?_⟩
    obtain ⟨o, ho, hd⟩ := Option.map_eq_some_iff.mp hg
    refine ⟨Z, _, o, ok, enR_start hA, ho, ?_⟩
    cases o with
    | nx δ' =>
      subst hd
      exact fun σ' H' g' _ => q .non H' g' .non
    | rt d' =>
      subst hd
      exact q
def fSortLen (f : En → Option D) : En → Option D := fun δ => (f δ).bind gSortLen
section
variable {P : Program} {w : World} {K : PySem.W.Frag} {mg : Str → Option Value} {base : Heap} {M : Mm}
def F_in_order : En → Option Out := sRet (fSortLen (fV 0))
theorem sc_in_order : FnScope ["sets"] ["sets"] (defScope (top 13)) := ⟨rfl, rfl, rfl, by decide +kernel, rfl, by decide +kernel, by decide +kernel⟩
theorem raw_in_order (T : Tx K mg M) (A : AtC K mg base M "in_order" (top 13) ["sets"]) : Cal P w K mg base M "in_order" ["sets"] 2 (bodyG 1 F_in_order) :=
  calC_mk A sc_in_order fun f c Pt A outer s H E TB hmT hu hr => (dss_one (ds_ret (de_sortLen (f := fV 0) TB rfl hmT hu hr (by rfl) T.sorted T.len (de_v 0))))
def F_parts_within : En → Option Out := sSeq (sAsg (fLst (aCons (fTup aNil) aNil)) (t1 1)) (sSeq (sFor (iSeq (fV 0)) (t1 2) (sAsg (fLst (aStar (fV 1) (aStar (fLc [3] (iSeq (fV 1)) (t1 3) bYes (fTup (aStar (fV 3) (aCons (fV 2) aNil)))) aNil))) (t1 1))) (sRet (fSortLen (fV 1))))
theorem sc_parts_within : FnScope ["thing", "found", "mark", "one"] ["thing"] (defScope (top 19)) := ⟨rfl, rfl, rfl, by decide +kernel, rfl, by decide +kernel, by decide +kernel⟩
theorem raw_parts_within (T : Tx K mg M) (A : AtC K mg base M "parts_within" (top 19) ["thing"]) : Cal P w K mg base M "parts_within" ["thing"] 2 (bodyG 4 F_parts_within) :=
  calC_mk A sc_parts_within fun f c Pt A outer s H E TB hmT hu hr =>
    (dss_cons (ds_set (i := 1) sc_parts_within.nd (de_lst (da_cons (de_tup da_nil) da_nil)))
      (dss_cons (ds_for PassesOwn.never rfl (di_seq (de_v 0)) (pg_name (i := 2) sc_parts_within.nd (by rfl) (by first | exact Or.inl rfl | exact Or.inr rfl)) (gt_name 2)
        (dss_one (ds_set (i := 1) sc_parts_within.nd (de_lst (da_star (de_v 1) (da_star (de_lc (own := [("one", 3)]) rfl sc_parts_within.nd (di_seq (de_v 1)) (blkOk_by (by rfl)) (gt_name 3) (fun _ _ _ _ _ => (pg_name (i := 3) sc_parts_within.nd (by rfl) (by first | exact Or.inl rfl | exact Or.inr rfl))) (fun _ _ _ _ _ => dts_nil) (fun _ _ _ _ _ => (de_tup (da_star (de_v 3) (da_cons (de_v 2) da_nil))))) da_nil))))))
      (dss_one (ds_ret (de_sortLen (f := fV 1) TB rfl hmT hu hr (by rfl) T.sorted T.len (de_v 1))))))
end
end Dx
/-! The closure: a dict that grows while rules fire. -/
namespace Dx
open PySem PySem.Spec PyProof.Rows L2

/-- the keys of a dict that is given more -/
def ksAdd (acc xs : List Int) : List Int := xs.foldl (fun h x => if h.contains x = true then h else h ++ [x]) acc
theorem ksAdd_len : ∀ (xs acc : List Int), (ksAdd acc xs).length ≤ acc.length + xs.length
  | [], acc => by show acc.length ≤ _; omega
  | x :: xs, acc => by
    show (ksAdd (if acc.contains x = true then acc else acc ++ [x]) xs).length ≤ _
    have h := ksAdd_len xs (if acc.contains x = true then acc else acc ++ [x])
    have h2 : (if acc.contains x = true then acc else acc ++ [x]).length ≤ acc.length + 1 := by
      split <;> simp
    rw [List.length_cons]
    omega
theorem keys_put {kvs : List (Key × V)} {ks : List Int} {i : Int} {v : V} (h : kvs.map (·.1) = ks.map Sum.inl) : (putK kvs (Sum.inl i) v).map (·.1) = (if ks.contains i = true then ks else ks ++ [i]).map Sum.inl := by
  have e : (kvs.any fun kv => decide (kv.1 = (Sum.inl i : Key))) = ks.contains i := by
    have e1 : (kvs.any fun kv => decide (kv.1 = (Sum.inl i : Key))) = (kvs.map (·.1)).any fun k => decide (k = (Sum.inl i : Key)) := by
      rw [List.any_map]
      rfl
    rw [e1, h, List.any_map, ← List.any_beq]
    congr 1
    funext k
    show decide ((Sum.inl k : Key) = Sum.inl i) = (i == k)
    by_cases hk : k = i
    · subst hk; simp
    · rw [decide_eq_false (fun z => hk (Sum.inl.inj z))]
      exact (beq_eq_false_iff_ne.mpr (Ne.symm hk)).symm
  unfold putK
  rw [e]
  by_cases hc : ks.contains i = true
  · rw [if_pos hc, if_pos hc, ← h, List.map_map]
    refine List.map_congr_left fun p _ => ?_
    show (if p.1 = Sum.inl i then (p.1, v) else p).1 = p.1
    split <;> rfl
  · rw [if_neg hc, if_neg hc, List.map_append, List.map_append, h]
    rfl
theorem keys_merge : ∀ {more kvs : List (Key × V)} {ms ks : List Int}, more.map (·.1) = ms.map Sum.inl → kvs.map (·.1) = ks.map Sum.inl → (mergeK kvs more).map (·.1) = (ksAdd ks ms).map Sum.inl
  | [], kvs, ms, ks, h, h2 => by
    cases ms with
    | nil => exact h2
    | cons m ms => simp at h
  | p :: more, kvs, ms, ks, h, h2 => by
    cases ms with
    | nil => simp at h
    | cons m ms =>
      rw [List.map_cons, List.map_cons] at h
      injection h with e1 e2
      show (mergeK (putK kvs p.1 p.2) more).map (·.1) = (ksAdd (if ks.contains m = true then ks else ks ++ [m]) ms).map Sum.inl
      refine keys_merge e2 ?_
      rw [show p.1 = Sum.inl m from e1]
      exact keys_put h2

/-! ### a thing that is new since H0 is changed -/
def Nw (H0 : Hp) (p : Addr) : Prop := ∀ o, H0 p = some o → ∃ ps, o = .tbl ps
theorem Nw.ne {H0 : Hp} {p b : Addr} {o : HO} (n : Nw H0 p) (h : H0 b = some o) (t : ∀ ps, o ≠ .tbl ps) : b ≠ p := fun e => by
  rw [e] at h
  obtain ⟨ps, q⟩ := n o h
  exact t ps q
theorem Nw.of {H0 H1 : Hp} {p : Addr} (e : LamX.ExtN H0 H1) (h : H1 p = none) : Nw H0 p := fun o ho => by
  cases o with
  | tbl ps => exact ⟨ps, rfl⟩
  | _ =>
    have q := e p _ ho (fun ps z => by cases z)
    rw [h] at q
    cases q
theorem Nw.back {H0 H1 : Hp} {p : Addr} (e : LamX.ExtN H0 H1) (n : Nw H1 p) : Nw H0 p := fun o ho => by
  cases o with
  | tbl ps => exact ⟨ps, rfl⟩
  | _ =>
    obtain ⟨ps, q⟩ := n _ (e p _ ho (fun ps z => by cases z))
    cases q
theorem new_go {C : Cs} {H0 H : Hp} {p : Addr} {o o' : HO} (hp : Nw H0 p) (g : Go C H0 H) (h : H p = some o') (n1 : ∀ ps, o' ≠ .tbl ps) (n2 : ∀ q, o' ≠ LamX.CodeO p q) : Go C H0 (upd H p o) := by
  refine ⟨fun b w e n => ?_, fun q hq => ?_⟩
  · rw [upd_ne (hp.ne e n)]
    exact g.ex b w e n
  · obtain ⟨ps, h1, h2, h3⟩ := g.tab q hq
    have d1 : q.1 ≠ p := fun z => by
      rw [z, h] at h1
      exact n1 ps (Option.some.inj h1)
    refine ⟨ps, by rw [upd_ne d1]; exact h1, h2, fun pos cv hcv => ?_⟩
    obtain ⟨c, e1, e2⟩ := h3 pos cv hcv
    refine ⟨c, e1, ?_⟩
    rw [upd_ne (fun z => by rw [z, h] at e2; exact n2 _ (Option.some.inj e2))]
    exact e2
theorem dk_go {C : Cs} {H0 H : Hp} {p : Addr} {o : HO} {kvs : List (Key × V)} (hp : Nw H0 p) (g : Go C H0 H) (h : H p = some (.dK kvs)) : Go C H0 (upd H p o) :=
  new_go hp g h (fun ps z => by cases z) (fun q z => by unfold LamX.CodeO at z; cases z)
theorem go_dk {C : Cs} {H H' : Hp} {a : Addr} {kvs : List (Key × V)} (g : Go C H H') (h : H a = some (.dK kvs)) : H' a = some (.dK kvs) := g.ex a _ h (fun ps z => by cases z)

/-! ### {x: True for x in xs} -/
def tDK (C : Cs) (i : Nat) (fi : En → Option (List D)) : TE := fun σ H Q => ∃ Z δ ns, Ok C Z H ∧ EnR C Z H σ δ ∧ fi δ = some (ns.map D.int) ∧ ns.length ≤ 100000 ∧ i < δ.length ∧
  ∀ a H' kvs, Go C H H' → Nw H a → H' a = some (.dK kvs) → kvs.map (·.1) = (ksAdd [] ns).map Sum.inl → Q (.ref a) H'
section
variable {M : Mm} {X : Cx} {pos : Pos}
theorem is_int_of {C : Cs} {Z : Hid} {H : Hp} {v : V} {n : Int} (h : Is C Z H v (.int n)) : v = .int n := by cases h; rfl
theorem pe_dk {kx vx tg iter : Expr} {scope : Scope} {own : List (Str × Nat)} {i : Nat} {fi : En → Option (List D)} (hc : X.calm = true) (hN : X.N.Nodup) (hi : DI M X tg iter fi) (ok : BlkOk X.N X.env.scope scope own)
    (hg : ∀ (s : Shared) (H : Hp) (C : Addr) (cl : List (Str × Addr)) (fp : List Addr), PG (X.blk s H scope (compEnvC scope cl C X.env) fp) tg (gName i))
    (hk : ∀ (s : Shared) (H : Hp) (C : Addr) (cl : List (Str × Addr)) (fp : List Addr), PE (X.blk s H scope (compEnvC scope cl C X.env) fp) kx (tVar i))
    (hv : ∀ (s : Shared) (H : Hp) (C : Addr) (cl : List (Str × Addr)) (fp : List Addr), PE (X.blk s H scope (compEnvC scope cl C X.env) fp) vx (tC (.bl true)))
    (hsl : i ∈ own.map (·.2) := by decide) (hs : ∀ x, foldedSetIterable iter X.env x = pure x := by intro _; rfl) :
    PE X (.DictComp kx vx [⟨tg, iter, [], 0⟩] scope pos) (tDK (cs X M) i fi) := by
  refine PE.imp (pe_dc hc hN hi ok hg (fun _ _ _ _ _ => pts_nil) hk hv hs) fun σ H Q h => ?_
  obtain ⟨Z, δ, ns, okk, en, hf, hl, hlen, q⟩ := h
  refine ⟨Z, δ, _, okk, en, hf, fun J H1 g1 w Dl hD => ?_⟩
  have hwl : (ns.map D.int).length = ns.length := List.length_map _
  have nw : Nw H1 Dl := fun o e => by rw [hD] at e; cases e
  have go0 : Go (cs X M) H1 (upd H1 Dl (.dK [])) := (okk.go g1).new hD
  refine ⟨fun j m H => m = ns.length - j ∧ j ≤ ns.length ∧ Go (cs X M) H1 H ∧ ∃ kvs, H Dl = some (.dK kvs) ∧ kvs.map (·.1) = (ksAdd [] (ns.take j)).map Sum.inl, ⟨ns.length, by simp, Nat.zero_le _, go0, [], upd_same, rfl⟩, ?_⟩
  rintro j m H ⟨rfl, hj, g2, kvs, hDk, hkeys⟩
  by_cases hlt : j < ns.length
  · refine .inr ⟨w.2.goes j H (by rw [hwl]; exact hlt) g2.gz, fun H' => j + 1 ≤ ns.length ∧ Go (cs X M) H1 H' ∧ ∃ kvs, H' Dl = some (.dK kvs) ∧ kvs.map (·.1) = (ksAdd [] (ns.take (j + 1))).map Sum.inl, fun H' n => ⟨ns.length - (j + 1), by omega, rfl, n⟩, fun x H' y => ?_⟩
    obtain ⟨g3, d, hd, is⟩ := w.2.yields j H x H' (by rw [hwl]; exact hlt) g2.gz y
    rw [List.getElem?_map, List.getElem?_eq_getElem hlt] at hd
    cases hd
    have ix := is_int_of (is (fun _ => False) (fun _ _ _ z => z) (fun _ z => z.elim))
    subst ix
    refine ⟨by rw [wipe_set hsl, wipe_wipe], ?_⟩
    have hlen2 : i < (L2.wipe σ (own.map (·.2))).length := by rw [wipe_length, ← en.1]; exact hlen
    refine ⟨_, List.getElem?_set_self hlen2, ?_⟩
    have hD3 := go_dk g3 hDk
    have hkl : kvs.length ≤ j := by
      have e := congrArg List.length hkeys
      rw [List.length_map, List.length_map] at e
      have := ksAdd_len (ns.take j) []
      rw [List.length_take] at this
      simp at this
      omega
    have hlim : (100000 : Nat) < sizeLine := by rw [sizeLine_eq]; decide
    refine ⟨kvs, Sum.inl ns[j], rfl, hD3, by omega, hlt, dk_go nw (g2.trans g3) hD3, _, upd_same, ?_⟩
    rw [keys_put hkeys, List.take_succ_eq_append_getElem hlt]
    unfold ksAdd
    rw [List.foldl_append]
    rfl
  · have e : j = ns.length := by omega
    subst e
    rw [List.take_length] at hkeys
    refine .inl ⟨by have := w.2.stops H g2.gz; rwa [hwl] at this, q _ H kvs (g1.trans g2) (Nw.of g1.ex hD) hDk hkeys⟩
/-! ### d.update(e) -/
def rUpd : V → List V → Hp → VK → Prop := fun x xs H Q => ∃ a b ks ls, x = .ref a ∧ xs = [.ref b] ∧ a ≠ b ∧ H a = some (.dK ks) ∧ H b = some (.dK ls) ∧ ks.length + ls.length ≤ 1000000 ∧ Q .non (upd H a (.dK (mergeK ks ls)))
theorem mt_upd : MtR X "dict.update" rUpd := by
  intro pins s σ H x xs v us Q I rx r h
  obtain ⟨a, b, ks, ls, rfl, rfl, ne, ha, hb, hl, q⟩ := h
  cases rx
  obtain ⟨u, rfl, ru⟩ := vals1 r
  cases ru
  obtain ⟨z1, y1, v1, r1, d1⟩ := dk_of I.hok ha
  obtain ⟨z2, y2, v2, r2, d2⟩ := dk_of I.hok hb
  have hlim : (1000000 : Nat) < sizeLine := by rw [sizeLine_eq]; decide
  refine call_meetsIn F.slot_dict_update d1.typeIs F.entry_dict_update (F.args_dict_update_2 _ _) (meets_dict_update (mixKind X.prog X.w) a b ne y2) ⟨v1, v2, d1, d2, ?_, fun h' d' _ hs => ?_⟩
  · rw [← r1.length, ← r2.length]
    omega
  · have hm := length_mergeK ls ks
    obtain ⟨q1, _, _, hq, _⟩ := id d'
    exact ⟨.non, _, d_write (t' := s.toks) I (by rw [ha]; exact True.intro) hs ⟨q1, hq⟩ (dk_new (by omega) y1 (r2.merge r1) d'), rfl, q⟩
end
end Dx
/-! Sets, rules, books as data; decoders. -/
namespace Dx
open PySem PySem.Spec PyProof.Rows L2
abbrev Sx := List Int
abbrev Rl := Sx × Sx
def tS (s : Sx) : D := .tup (s.map .int)
def tL (ss : List Sx) : D := .lst (ss.map tS)
def tR (r : Rl) : D := .tup [tS r.1, tS r.2]
def tRs (rs : List Rl) : D := .tup (rs.map tR)
def decInts : List D → Option (List Int)
  | [] => some []
  | d :: ds => match d with
    | .int i => (decInts ds).map fun is => i :: is
    | _ => none
def decS : D → Option Sx
  | .tup ds => decInts ds
  | _ => none
def decSs : List D → Option (List Sx)
  | [] => some []
  | d :: ds => (decS d).bind fun s => (decSs ds).map fun ss => s :: ss
def decL : D → Option (List Sx)
  | .lst ds => decSs ds
  | _ => none
def decR : D → Option Rl
  | .tup [a, b] => (decS a).bind fun x => (decS b).map fun y => (x, y)
  | _ => none
def decRs1 : List D → Option (List Rl)
  | [] => some []
  | d :: ds => (decR d).bind fun s => (decRs1 ds).map fun ss => s :: ss
def decRs : D → Option (List Rl)
  | .tup ds => decRs1 ds
  | _ => none
theorem decInts_t : ∀ s : Sx, decInts (s.map .int) = some s
  | [] => rfl
  | i :: s => by
    show (decInts (s.map .int)).map _ = _
    rw [decInts_t s]
    rfl
theorem decS_t (s : Sx) : decS (tS s) = some s := decInts_t s
theorem decSs_t : ∀ s : List Sx, decSs (s.map tS) = some s
  | [] => rfl
  | i :: s => by
    show (decS (tS i)).bind (fun x => (decSs (s.map tS)).map fun ss => x :: ss) = _
    rw [decS_t, decSs_t s]
    rfl
theorem decL_t (s : List Sx) : decL (tL s) = some s := decSs_t s
theorem decR_t (r : Rl) : decR (tR r) = some r := by
  show (decS (tS r.1)).bind (fun x => (decS (tS r.2)).map fun y => (x, y)) = _
  rw [decS_t, decS_t]
  rfl
theorem decRs1_t : ∀ s : List Rl, decRs1 (s.map tR) = some s
  | [] => rfl
  | i :: s => by
    show (decR (tR i)).bind (fun x => (decRs1 (s.map tR)).map fun ss => x :: ss) = _
    rw [decR_t, decRs1_t s]
    rfl
theorem decRs_t (s : List Rl) : decRs (tRs s) = some s := decRs1_t s
theorem decInts_of : ∀ {ds : List D} {s : Sx}, decInts ds = some s → ds = s.map .int
  | [], _, h => by cases h; rfl
  | d :: ds, s, h => by
    unfold decInts at h
    split at h
    · obtain ⟨is, h1, h2⟩ := Option.map_eq_some_iff.mp h
      subst h2
      rw [decInts_of h1]
      rfl
    · cases h
theorem decS_of {d : D} {s : Sx} (h : decS d = some s) : d = tS s := by
  unfold decS at h
  split at h
  · rw [decInts_of h]; rfl
  · cases h
theorem decSs_of : ∀ {ds : List D} {s : List Sx}, decSs ds = some s → ds = s.map tS
  | [], _, h => by cases h; rfl
  | d :: ds, s, h => by
    obtain ⟨x, h1, h⟩ := Option.bind_eq_some_iff.mp h
    obtain ⟨xs, h2, h3⟩ := Option.map_eq_some_iff.mp h
    subst h3
    rw [decS_of h1, decSs_of h2]
    rfl
theorem decL_of {d : D} {s : List Sx} (h : decL d = some s) : d = tL s := by
  unfold decL at h
  split at h
  · rw [decSs_of h]; rfl
  · cases h
theorem decR_of {d : D} {r : Rl} (h : decR d = some r) : d = tR r := by
  unfold decR at h
  split at h
  · obtain ⟨x, h1, h⟩ := Option.bind_eq_some_iff.mp h
    obtain ⟨xs, h2, h3⟩ := Option.map_eq_some_iff.mp h
    subst h3
    rw [decS_of h1, decS_of h2]
    rfl
  · cases h
theorem decRs1_of : ∀ {ds : List D} {s : List Rl}, decRs1 ds = some s → ds = s.map tR
  | [], _, h => by cases h; rfl
  | d :: ds, s, h => by
    obtain ⟨x, h1, h⟩ := Option.bind_eq_some_iff.mp h
    obtain ⟨xs, h2, h3⟩ := Option.map_eq_some_iff.mp h
    subst h3
    rw [decR_of h1, decRs1_of h2]
    rfl
theorem decRs_of {d : D} {s : List Rl} (h : decRs d = some s) : d = tRs s := by
  unfold decRs at h
  split at h
  · rw [decRs1_of h]; rfl
  · cases h
/-! ### the closure's loop -/
def leI (a b : Int) : Bool := decide (a ≤ b)
def sortI (s : Sx) : Sx := s.mergeSort leI
def subI (s t : Sx) : Bool := s.all fun m => t.contains m
def fire1 (h : Sx) (r : Rl) : Sx := if subI r.1 h = true then ksAdd h r.2 else h
def fire (rs : List Rl) (h : Sx) : Sx := rs.foldl fire1 h
def lp (rs : List Rl) : Nat → Sx → Int → Option Sx
  | 0, _, _ => none
  | n + 1, h, m => if h.length ≤ 1000 then if m = (h.length : Int) then some h else lp rs n (fire rs h) h.length else none
def smallRs (rs : List Rl) : Bool := decide (rs.length ≤ 100) && rs.all fun r => decide (r.2.length ≤ 1000)
def clo (rs : List Rl) (s : Sx) : Option Sx := if (smallRs rs && decide (s.length ≤ 1000)) = true then (lp rs 100 (ksAdd [] s) (-1)).bind fun h => if h.length < 64 then some (sortI h) else none else none
def g_closure : List D → Option D
  | [a, b] => (decRs a).bind fun rs => (decS b).bind fun s => (clo rs s).map tS
  | _ => none
/-- is_within over sets and over the held marks -/
def g_is_within : List D → Option D
  | [a, .ks ks] => (decS a).map fun s => .bl (subI s ks)
  | [a, b] => (decS a).bind fun s => (decS b).map fun t => .bl (subI s t)
  | _ => none
theorem mem_ksAdd {x : Int} : ∀ {xs acc : List Int}, x ∈ ksAdd acc xs ↔ x ∈ acc ∨ x ∈ xs
  | [], acc => by simp [ksAdd]
  | y :: xs, acc => by
    show x ∈ ksAdd (if acc.contains y = true then acc else acc ++ [y]) xs ↔ _
    rw [mem_ksAdd]
    by_cases h : acc.contains y = true
    · rw [if_pos h]
      have h' : y ∈ acc := by simpa using h
      constructor
      · rintro (h1 | h1)
        · exact .inl h1
        · exact .inr (List.mem_cons_of_mem _ h1)
      · rintro (h1 | h1)
        · exact .inl h1
        · rcases List.mem_cons.mp h1 with rfl | h1
          · exact .inl h'
          · exact .inr h1
    · rw [if_neg h]
      simp only [List.mem_append, List.mem_cons, List.not_mem_nil, or_false]
      constructor
      · rintro ((h1 | h1) | h1)
        · exact .inl h1
        · exact .inr (.inl h1)
        · exact .inr (.inr h1)
      · rintro (h1 | h1 | h1)
        · exact .inl (.inl h1)
        · exact .inl (.inr h1)
        · exact .inr h1
theorem ksAdd_ksAdd : ∀ (l p acc : List Int), ksAdd acc (ksAdd p l) = ksAdd (ksAdd acc p) l
  | [], _, _ => rfl
  | x :: l, p, acc => by
    show ksAdd acc (ksAdd (if p.contains x = true then p else p ++ [x]) l) = ksAdd (if (ksAdd acc p).contains x = true then ksAdd acc p else ksAdd acc p ++ [x]) l
    rw [ksAdd_ksAdd]
    congr 1
    by_cases h : p.contains x = true
    · have h' : (ksAdd acc p).contains x = true := by
        have : x ∈ p := by simpa using h
        simpa using (mem_ksAdd (acc := acc)).mpr (.inr this)
      rw [if_pos h, if_pos h']
    · rw [if_neg h]
      unfold ksAdd
      rw [List.foldl_append]
      rfl
end Dx
/-! The walk of closure. -/
namespace Dx
open PySem PySem.Spec PyProof.Rows L2
theorem en_of {C : Cs} {Z : Hid} {H : Hp} {σ : L2.St} {δ : En} (hl : δ.length = σ.length) (h : ∀ (i : Nat), i < δ.length → ∀ d, δ[i]? = some (some d) → ∃ v, σ[i]? = some (some v) ∧ Is C Z H v d) : EnR C Z H σ δ :=
  ⟨hl, fun i d hd => h i (List.getElem?_eq_some_iff.mp hd).1 d hd⟩
/-- the state at the loops' heads -/
structure CSt (C : Cs) (Z : Hid) (H0 : Hp) (rs : List Rl) (a : Addr) (σ : L2.St) (H : Hp) (xs : Sx) (m : Int) : Prop where
  go : Go C H0 H
  len : σ.length = 7
  r : ∃ v, σ[0]? = some (some v) ∧ Is C Z H0 v (tRs rs)
  at2 : σ[2]? = some (some (.ref a))
  nw : Nw H0 a
  held : ∃ kvs, H a = some (.dK kvs) ∧ kvs.map (·.1) = xs.map Sum.inl
  many : σ[3]? = some (some (.int m))
def cEn (rs : List Rl) (xs : Sx) (m : Int) : En := [some (tRs rs), none, some (.ks xs), some (.int m), none, none, none]
def noT (H : Hp) : Hp := fun b => match H b with
  | some (.tbl _) => none
  | o => o
theorem noT_some {H : Hp} {b : Addr} {o : HO} (h : H b = some o) (n : ∀ ps, o ≠ .tbl ps) : noT H b = some o := by
  unfold noT
  rw [h]
  cases o with
  | tbl ps => exact absurd rfl (n ps)
  | _ => rfl
theorem noT_of {H : Hp} {b : Addr} {o : HO} (h : noT H b = some o) : H b = some o ∧ ∀ ps, o ≠ .tbl ps := by
  unfold noT at h
  cases e : H b with
  | none => rw [e] at h; cases h
  | some u =>
    rw [e] at h
    cases u with
    | tbl ps => cases h
    | _ => cases h; exact ⟨rfl, fun ps z => by cases z⟩
/-- hidden otherwise: tables never stand for data -/
theorem Is.hideN {C : Cs} {Z Z' : Hid} {H : Hp} {v : V} {d : D} (e : ∀ a o, H a = some o → (∀ ps, o ≠ .tbl ps) → ¬ Z a → ¬ Z' a) (h : Is C Z H v d) : Is C Z' H v d := by
  have h1 : Is C Z (noT H) v d := Is.mono (fun b o _ hb n => noT_some hb n) d v h
  have h2 : Is C Z' (noT H) v d := Is.hide (fun a ha hz => by
    cases q : noT H a with
    | none => exact absurd q ha
    | some o =>
      obtain ⟨q1, q2⟩ := noT_of q
      exact e a o q1 q2 hz) d v h1
  exact Is.mono (fun b o _ hb _ => (noT_of hb).1) d v h2
theorem CSt.nz {C : Cs} {Z : Hid} {H0 H : Hp} {rs : List Rl} {a : Addr} {σ : L2.St} {xs : Sx} {m : Int} (ok : Ok C Z H0) (s : CSt C Z H0 rs a σ H xs m) : ¬ Z a := fun z => by
  obtain ⟨o, e, n⟩ := ok.hid a z
  obtain ⟨ps, q⟩ := s.nw o e
  exact n ps q
theorem CSt.en {C : Cs} {Z : Hid} {H0 H : Hp} {rs : List Rl} {a : Addr} {σ : L2.St} {xs : Sx} {m : Int} (ok : Ok C Z H0) (s : CSt C Z H0 rs a σ H xs m) : EnR C Z H σ (cEn rs xs m) := by
  obtain ⟨v, h1, h2⟩ := s.r
  obtain ⟨kvs, h5, h6⟩ := s.held
  refine en_of (by rw [s.len]; rfl) fun i hi d hd => ?_
  match i, hi, hd with
  | 0, _, hd => cases hd; exact ⟨v, h1, h2.go s.go⟩
  | 1, _, hd => cases hd
  | 2, _, hd => cases hd; exact ⟨_, s.at2, .ks (s.nz ok) h5 h6⟩
  | 3, _, hd => cases hd; exact ⟨_, s.many, .int m⟩
  | 4, _, hd => cases hd
  | 5, _, hd => cases hd
  | 6, _, hd => cases hd
/-- the held marks hidden -/
def hid2 (Z : Hid) (a : Addr) : Hid := fun b => Z b ∨ b = a
theorem CSt.ok2 {C : Cs} {Z : Hid} {H0 H : Hp} {rs : List Rl} {a : Addr} {σ : L2.St} {xs : Sx} {m : Int} (ok : Ok C Z H0) (s : CSt C Z H0 rs a σ H xs m) : Ok C (hid2 Z a) H := ⟨fun z hz => by
  rcases hz with hz | hz
  · exact (ok.go s.go).hid z hz
  · obtain ⟨kvs, h5, _⟩ := s.held
    exact ⟨_, by rw [hz]; exact h5, fun ps z => by cases z⟩, s.go.tab⟩
theorem CSt.en2 {C : Cs} {Z : Hid} {H0 H : Hp} {rs : List Rl} {a : Addr} {σ : L2.St} {xs : Sx} {m : Int} (s : CSt C Z H0 rs a σ H xs m) : EnR C (hid2 Z a) H σ [some (tRs rs), none, none, none, none, none, none] := by
  obtain ⟨v, h1, h2⟩ := s.r
  refine en_of (by rw [s.len]; rfl) fun i hi d hd => ?_
  match i, hi, hd with
  | 0, _, hd =>
    cases hd
    refine ⟨v, h1, Is.mono s.go.z _ _ (Is.hideN (fun b o hb n hz q => ?_) h2)⟩
    rcases q with q | q
    · exact hz q
    · subst q
      obtain ⟨ps, e⟩ := s.nw o hb
      exact n ps e
  | 1, _, hd => cases hd
  | 2, _, hd => cases hd
  | 3, _, hd => cases hd
  | 4, _, hd => cases hd
  | 5, _, hd => cases hd
  | 6, _, hd => cases hd
theorem CSt.go' {C : Cs} {Z : Hid} {H0 H H' : Hp} {rs : List Rl} {a : Addr} {σ : L2.St} {xs : Sx} {m : Int} (s : CSt C Z H0 rs a σ H xs m) (g : Go C H H') : CSt C Z H0 rs a σ H' xs m := by
  obtain ⟨kvs, h5, h6⟩ := s.held
  exact ⟨s.go.trans g, s.len, s.r, s.at2, s.nw, ⟨kvs, go_dk g h5, h6⟩, s.many⟩
/-- slots 4, 5 stored -/
theorem CSt.st45 {C : Cs} {Z : Hid} {H0 H : Hp} {rs : List Rl} {a : Addr} {σ : L2.St} {xs : Sx} {m : Int} (s : CSt C Z H0 rs a σ H xs m) (x y : Option V) : CSt C Z H0 rs a ((σ.set 4 x).set 5 y) H xs m := by
  have e : ∀ i, i ≠ 4 → i ≠ 5 → ((σ.set 4 x).set 5 y)[i]? = σ[i]? := fun i h4 h5 => by
    rw [List.getElem?_set_ne (Ne.symm h5), List.getElem?_set_ne (Ne.symm h4)]
  obtain ⟨v, h1, h2⟩ := s.r
  exact ⟨s.go, by rw [List.length_set, List.length_set]; exact s.len, ⟨v, by rw [e 0 (by decide) (by decide)]; exact h1, h2⟩, by rw [e 2 (by decide) (by decide)]; exact s.at2, s.nw, s.held, by rw [e 3 (by decide) (by decide)]; exact s.many⟩
theorem CSt.st3 {C : Cs} {Z : Hid} {H0 H : Hp} {rs : List Rl} {a : Addr} {σ : L2.St} {xs : Sx} {m : Int} (s : CSt C Z H0 rs a σ H xs m) (k : Int) : CSt C Z H0 rs a (σ.set 3 (some (.int k))) H xs k := by
  have e : ∀ i, i ≠ 3 → (σ.set 3 (some (V.int k)))[i]? = σ[i]? := fun i h3 => by rw [List.getElem?_set_ne (Ne.symm h3)]
  obtain ⟨v, h1, h2⟩ := s.r
  exact ⟨s.go, by rw [List.length_set]; exact s.len, ⟨v, by rw [e 0 (by decide)]; exact h1, h2⟩, by rw [e 2 (by decide)]; exact s.at2, s.nw, s.held, List.getElem?_set_self (by rw [s.len]; decide)⟩
theorem sc_closure : FnScope ["rules", "thing", "held", "many", "premise", "conclusion", "mark"] ["rules", "thing"] (defScope (top 15)) := ⟨rfl, rfl, rfl, by decide +kernel, rfl, by decide +kernel, by decide +kernel⟩
/-- the marks fired so far -/
theorem fire_take {rs : List Rl} {h : Sx} {i : Nat} (hi : i < rs.length) : fire (rs.take (i + 1)) h = fire1 (fire (rs.take i) h) rs[i] := by
  unfold fire
  rw [List.take_succ_eq_append_getElem hi, List.foldl_append]
  rfl
theorem fire_len : ∀ (rs : List Rl) (h : Sx), rs.all (fun r => decide (r.2.length ≤ 1000)) = true → (fire rs h).length ≤ h.length + 1000 * rs.length
  | [], h, _ => by show h.length ≤ _; omega
  | r :: rs, h, hr => by
    rw [List.all_cons, Bool.and_eq_true] at hr
    have h1 : (fire1 h r).length ≤ h.length + 1000 := by
      unfold fire1
      have := of_decide_eq_true hr.1
      split
      · have := ksAdd_len r.2 h
        omega
      · omega
    have h2 := fire_len rs (fire1 h r) hr.2
    show (fire rs (fire1 h r)).length ≤ _
    rw [List.length_cons]
    omega
theorem fV_of {δ : En} {i : Nat} {d : D} (h : δ[i]? = some (some d)) : fV i δ = some d := by
  unfold fV
  rw [h]
  rfl
section
variable {P : Program} {w : World} {K : PySem.W.Frag} {mg : Str → Option Value} {base : Heap} {M : Mm}
theorem raw_closure {g_w : List D → Option D} (hW : ∀ s ks, g_w [tS s, .ks ks] = some (.bl (subI s ks))) (T : Tx K mg M) (A : At K mg "closure" (top 15) ["rules", "thing"]) (C_is_within : Cal P w K mg base M "is_within" ["one", "other"] 1 g_w) :
    Cal P w K mg base M "closure" ["rules", "thing"] 2 g_closure := by
  obtain ⟨fa, fd, hF, hm, hb⟩ := A.ex
  refine ⟨fa, fd, hm, hF.kp, hb, hF.ok sc_closure (fun vs H Q E h => ?_) fun cdv A outer s H0 vs Q E hr h => ?_⟩
  · obtain ⟨Z, ds, d, _, hA, hl, _⟩ := h
    rw [hA.length, hl]
  · obtain ⟨Z, ds, d, ok, hA, hl, hg, q⟩ := h
    refine ⟨_, pss_cons (ps_par (i := 2) (j := 3) rfl sc_closure.nd (by rfl) (by rfl) (by decide) (by rfl) (by rfl)
        (pa_cons (pe_dk (M := M) (i := 6) (own := [("mark", 6)]) rfl sc_closure.nd (di_seq (de_v 1)) (blkOk_by (by rfl)) (fun _ _ _ _ _ => pg_name (i := 6) sc_closure.nd (by rfl) (Or.inl rfl)) (fun _ _ _ _ _ => pe_var (i := 6) (by rfl) (Or.inl rfl)) (fun _ _ _ _ _ => pe_bl)) (pa_cons (pe_un un_neg pe_int) pa_nil)) (by rfl))
      (pss_cons (ps_while PassesOwn.never (dt_cmp (M := M) (op_neY (M := M) hr) rd_neY (de_v 3) (de_callB (call_lenY (M := M)) rc_lenY (by rfl) T.len (by rfl) (da_cons (de_v 2) da_nil)))
          (pss_cons (ps_set (i := 3) sc_closure.nd (by rfl) (Or.inl rfl) (de_callB (M := M) (call_lenY (M := M)) rc_lenY (by rfl) T.len (by rfl) (da_cons (de_v 2) da_nil)))
            (pss_one (ps_for PassesOwn.never rfl (di_seq (M := M) (de_v 0)) (pg_tup rfl (pgs_cons (pg_name (i := 4) sc_closure.nd (by rfl) (Or.inl rfl)) (pgs_cons (pg_name (i := 5) sc_closure.nd (by rfl) (Or.inl rfl)) pgs_nil)))
              (pss_one (ps_if (dt_val (de_cal (M := M) C_is_within (hr.mono (by decide)) (da_cons (de_v 4) (da_cons (de_v 2) da_nil))))
                (pss_one (ps_expr (pe_bm F.plainAttrs_dict F.slot_dict_update F.type_dict_update mt_upd (pe_var (i := 2) (by rfl) (Or.inl rfl))
                  (pa_cons (pe_dk (M := M) (i := 6) (own := [("mark", 6)]) rfl sc_closure.nd (di_seq (de_v 5)) (blkOk_by (by rfl)) (fun _ _ _ _ _ => pg_name (i := 6) sc_closure.nd (by rfl) (Or.inl rfl)) (fun _ _ _ _ _ => pe_var (i := 6) (by rfl) (Or.inl rfl)) (fun _ _ _ _ _ => pe_bl)) pa_nil))))
                pss_nil))))))
        (pss_one (ds_ret (M := M) (de_callTy call_tupleOf rc_tuple (by rfl) T.tuple (by rfl) (da_cons (de_callB (cr_sortAll hr rfl) rc_sorted (by rfl) T.sorted (by rfl) (da_cons (de_v 2) da_nil)) da_nil))))), ?_⟩
    unfold g_closure at hg
    split at hg
    · rename_i da db
      obtain ⟨rs, e1, hg⟩ := Option.bind_eq_some_iff.mp hg
      obtain ⟨t, e2, hg⟩ := Option.bind_eq_some_iff.mp hg
      obtain ⟨res, hclo, e3⟩ := Option.map_eq_some_iff.mp hg
      subst e3
      have e1' := decRs_of e1
      have e2' := decS_of e2
      subst e1' e2'
      unfold clo at hclo
      by_cases hsm : (smallRs rs && decide (t.length ≤ 1000)) = true
      · rw [if_pos hsm] at hclo
        obtain ⟨fin, hlp, hres⟩ := Option.bind_eq_some_iff.mp hclo
        by_cases h64 : fin.length < 64
        · rw [if_pos h64] at hres
          cases hres
          rw [Bool.and_eq_true] at hsm
          have htl := of_decide_eq_true hsm.2
          have hrs := hsm.1
          unfold smallRs at hrs
          rw [Bool.and_eq_true] at hrs
          have hrl := of_decide_eq_true hrs.1
          have hen := enR_start (N := ["rules", "thing", "held", "many", "premise", "conclusion", "mark"]) hA
          cases hA with
          | @cons v0 _ _ _ i0 hA =>
            cases hA with
            | @cons v1 _ _ _ i1 hA =>
              cases hA
              refine ⟨Z, _, t, ok, hen, rfl, by omega, (by show 6 < 7; decide), fun a H1 kvs g1 nw hD hk => ?_⟩
              refine ⟨1, rfl, ?_⟩
              refine ⟨.ref a, .int (-1), rfl, ?_⟩
              have st1 : CSt ⟨P, w, K, M.cl, M.T⟩ Z H0 rs a [some v0, some v1, some (.ref a), some (.int (-1)), none, none, none] H1 (ksAdd [] t) (-1) :=
                ⟨g1, rfl, ⟨v0, rfl, i0⟩, rfl, nw, ⟨kvs, hD, hk⟩, rfl⟩
              refine ⟨fun n σ H => ∃ xs m, CSt ⟨P, w, K, M.cl, M.T⟩ Z H0 rs a σ H xs m ∧ lp rs n xs m = some fin, ⟨100, _, _, st1, hlp⟩, ?_⟩
              rintro n σ H ⟨xs, m, st, hl⟩
              cases n with
              | zero => cases hl
              | succ n =>
                have hl : (if xs.length ≤ 1000 then if m = (xs.length : Int) then some xs else lp rs n (fire rs xs) xs.length else none) = some fin := hl
                by_cases hx : xs.length ≤ 1000
                · rw [if_pos hx] at hl
                  refine ⟨Z, cEn rs xs m, !decide (m = (xs.length : Int)), ok.go st.go, st.en ok, ?_, fun H2 g2 => ?_⟩
                  · show (some (D.bl (!(PyData.eqv (.int m) (.int (xs.length : Int)))))).bind asB = _
                    have e : PyData.eqv (.int m) (.int (xs.length : Int)) = decide (m = (xs.length : Int)) := by simp only [PyData.eqv]; rw [Bool.eq_iff_iff]; simp
                    rw [e]
                    rfl
                  · have st2 := st.go' g2
                    by_cases hm' : m = (xs.length : Int)
                    · rw [if_pos hm'] at hl
                      cases hl
                      rw [decide_eq_true hm']
                      refine ⟨Z, cEn rs fin m, .rt (tS (sortI fin)), ok.go st2.go, st2.en ok, ?_, fun v H3 g3 is => q v H3 (st2.go.trans g3) is⟩
                      show ((((if fin.length < 64 then some (D.lst ((fin.mergeSort fun a b => decide (a ≤ b)).map .int)) else none).bind fun x => (some []).map fun ys => x :: ys).bind gTuple).map Out.rt) = _
                      rw [if_pos h64]
                      rfl
                    · rw [if_neg hm'] at hl
                      rw [decide_eq_false hm']
                      refine ⟨fun σ' H' => ∃ xs m, CSt ⟨P, w, K, M.cl, M.T⟩ Z H0 rs a σ' H' xs m ∧ lp rs n xs m = some fin, fun σ' H' h => ⟨n, Nat.lt_succ_self n, h⟩, ?_⟩
                      refine ⟨Z, cEn rs xs m, .int xs.length, ok.go st2.go, st2.en ok, rfl, fun v H3 g3 i3 => ?_⟩
                      cases i3
                      have st3 := (st2.go' g3).st3 (xs.length : Int)
                      refine ⟨hid2 Z a, _, rs.map tR, st3.ok2 ok, st3.en2, rfl, fun J H4 g4 w => ?_⟩
                      have st4 := st3.go' g4
                      have ok4 := st4.ok2 ok
                      have hwl : (rs.map tR).length = rs.length := List.length_map _
                      refine for_it w.2 (fun i σ H => CSt ⟨P, _, K, M.cl, M.T⟩ Z H0 rs a σ H (fire (rs.take i) xs) (xs.length : Int) ∧ GoZ ⟨P, _, K, M.cl, M.T⟩ (hid2 Z a) H4 H) ⟨st4, ⟨ExZ.refl _ _, st4.go.tab⟩⟩ (fun i σ H _ p => p.2) (fun i x σ H H' hi p y => ?_) (fun σ H p => ?_)
                      · obtain ⟨st5, gz5⟩ := p
                        obtain ⟨g6, d6, hd6, is6⟩ := y
                        have hi' : i < rs.length := by rw [← hwl]; exact hi
                        rw [List.getElem?_map, List.getElem?_eq_getElem hi'] at hd6
                        cases hd6
                        have st6 := st5.go' g6
                        have is7 := is6 Z (fun b _ hz z => hz (.inl z)) (fun b hb => by
                          obtain ⟨o, e, _⟩ := (ok.go st5.go).hid b hb
                          rw [e]
                          simp)
                        cases is7 with
                        | @tup p7 vs7 _ z7 hS7 hA7 hl7 =>
                          cases hA7 with
                          | @cons vx _ _ _ ix hA7 =>
                            cases hA7 with
                            | @cons vy _ _ _ iy hA7 =>
                              cases hA7
                              refine ⟨p7, [vx, vy], rfl, SqT.of hS7, rfl, vx, [vy], rfl, vy, [], rfl, rfl, ?_⟩
                              have st7 := st6.st45 (some vx) (some vy)
                              have en7 : EnR ⟨P, _, K, M.cl, M.T⟩ Z H' ((σ.set 4 (some vx)).set 5 (some vy)) [some (tRs rs), none, some (.ks (fire (rs.take i) xs)), some (.int xs.length), some (tS rs[i].1), some (tS rs[i].2), none] :=
                                ((st6.en ok).set (i := 4) ix).set (i := 5) iy
                              refine ⟨Z, _, subI rs[i].1 (fire (rs.take i) xs), ok.go st7.go, en7, ?_, fun H8 g8 => ?_⟩
                              · show ((gN 2 g_w [tS rs[i].1, .ks (fire (rs.take i) xs)])).bind asB = _
                                unfold gN
                                rw [if_pos (show [tS rs[i].1, D.ks (fire (rs.take i) xs)].length = 2 from rfl), hW]
                                rfl
                              · have st8 := st7.go' g8
                                have hft := fire_take (h := xs) hi'
                                by_cases hsub : subI rs[i].1 (fire (rs.take i) xs) = true
                                · rw [hsub]
                                  obtain ⟨kv8, h8a, h8b⟩ := st8.held
                                  refine ⟨.ref a, st8.at2, .inr (.inr (.inl ⟨rfl, .inl ⟨kv8, h8a⟩⟩)), ?_⟩
                                  have hri : rs[i].2.length ≤ 1000 := of_decide_eq_true (List.all_eq_true.mp hrs.2 _ (List.getElem_mem hi'))
                                  refine ⟨Z, _, rs[i].2, ok.go st8.go, en7.go g8, rfl, by omega, (by show 6 < 7; decide), fun b H9 ls g9 nwb hb9 hkb => ?_⟩
                                  have ne : a ≠ b := nwb.ne h8a (fun ps z => by cases z)
                                  have h9a := go_dk g9 h8a
                                  have hlen8 : kv8.length ≤ 101000 := by
                                    have e := congrArg List.length h8b
                                    rw [List.length_map, List.length_map] at e
                                    have hfl := fire_len (rs.take i) xs (by
                                      rw [List.all_eq_true]
                                      intro r hr
                                      exact List.all_eq_true.mp hrs.2 _ (List.mem_of_mem_take hr))
                                    have : (rs.take i).length ≤ rs.length := by rw [List.length_take]; omega
                                    omega
                                  have hlen9 : ls.length ≤ 1000 := by
                                    have e := congrArg List.length hkb
                                    rw [List.length_map, List.length_map] at e
                                    have := ksAdd_len rs[i].2 []
                                    simp at this
                                    omega
                                  refine ⟨a, b, kv8, ls, rfl, rfl, ne, h9a, hb9, by omega, ?_⟩
                                  have st9 := st8.go' g9
                                  have goN : Go ⟨P, _, K, M.cl, M.T⟩ H0 (upd H9 a (.dK (mergeK kv8 ls))) := dk_go st9.nw st9.go h9a
                                  refine ⟨⟨goN, st9.len, st9.r, st9.at2, st9.nw, ⟨_, upd_same, ?_⟩, st9.many⟩, ⟨fun c oc hc hoc n => ?_, goN.tab⟩⟩
                                  · have hk2 := keys_merge hkb h8b
                                    rw [hk2, hft]
                                    unfold fire1
                                    rw [if_pos hsub, ksAdd_ksAdd]
                                    rfl
                                  · rw [upd_ne (fun z => hc (.inr z))]
                                    exact g9.ex c oc (g8.ex c oc (g6.ex c oc (gz5.ex c oc hc hoc n) n) n) n
                                · have hsub' : subI rs[i].1 (fire (rs.take i) xs) = false := by simpa using hsub
                                  rw [hsub']
                                  refine ⟨?_, ⟨fun c oc hc hoc n => g8.ex c oc (g6.ex c oc (gz5.ex c oc hc hoc n) n) n, st8.go.tab⟩⟩
                                  rw [hft]
                                  unfold fire1
                                  rw [if_neg hsub]
                                  exact st8
                      · obtain ⟨st5, _⟩ := p
                        rw [hwl, List.take_length] at st5
                        exact ⟨_, _, st5, hl⟩
                · rw [if_neg hx] at hl
                  cases hl
        · rw [if_neg h64] at hres
          cases hres
      · rw [if_neg hsm] at hclo
        cases hclo
    · cases hg
end
end Dx
/-! check_book, the four __init__. -/
namespace Dx
open PySem PySem.Spec PyProof.Rows L2
structure Tb (K : PySem.W.Frag) (M : Mm) : Prop where
  isi : SlX.SIsi K (M.cl 0)
  kit : PySem.W.kitOne K (.ref (M.cl 0)) (.ref (M.cl 0)) = some true
section
variable {M : Mm} {X : Cx} {pos : Pos}
def fIsB (f : En → Option D) : En → Option D := fun δ => (f δ).bind fun d => match d with
  | .obj 0 [(_, m), (_, r)] => some (.bl true)
  | _ => none
theorem de_isB {a : Expr} {f : En → Option D} {p p2 : Pos} (T : Tx X.K X.mg M) (B : Tb X.K M) (ha : DE M X a f) (hg : Gl X "isinstance" := by rfl) (hgT : Gl X "Book" := by rfl)
    (hs1 : starEach [a, .Name "Book" p2] X.env = (false, eval a X.env) :: starEach [.Name "Book" p2] X.env := by rfl) (hs2 : starEach [.Name "Book" p2] X.env = (false, eval (.Name "Book" p2) X.env) :: starEach [] X.env := by rfl) (hpl : (backTo pos (starEach [.Name "Book" p2] X.env)).any (·.1) = false := by rfl) :
    DE M X (.Call (.Name "isinstance" p) [a, .Name "Book" p2] [] pos) (fIsB f) := by
  have h2 : PE X (.Name "Book" p2) (tC (.ref (M.cl 0))) := pe_glob hgT T.bookN rfl (by decide)
  refine PE.imp (pe_callB (SlX.call_isiSl (.ref (M.cl 0))) hg T.isinstance (by decide +kernel) (pa_cons ha (pa_cons h2 pa_nil hs2) hs1) (by decide) (by decide) hs1 hpl) fun σ H Q h => ?_
  obtain ⟨Z, δ, d, ok, en, hf, q⟩ := h
  obtain ⟨x, hx, hf⟩ := Option.bind_eq_some_iff.mp hf
  refine ⟨Z, δ, x, ok, en, hx, fun v H1 g1 i1 => ?_⟩
  split at hf
  · cases hf
    cases i1 with
    | obj z nc h1 h2 => exact absurd rfl nc
    | @book a dx vm vr m r z zd h1 h2 h3 => exact ⟨a, M.cl 0, dx, _, .ref (M.cl 0), true, rfl, rfl, fun w hw => hw, h1, T.book, B.isi, B.kit, q _ H1 g1 (.bl true)⟩
  · cases hf
end
section
variable {P : Program} {w : World} {K : PySem.W.Frag} {mg : Str → Option Value} {base : Heap} {M : Mm}
def F_check_book : En → Option Out := sIf (bNot (fB (fIsB (fV 0)))) sNo sNil
theorem sc_check_book : FnScope ["thing"] ["thing"] (defScope (top 17)) := ⟨rfl, rfl, rfl, by decide +kernel, rfl, by decide +kernel, by decide +kernel⟩
theorem raw_check_book (T : Tx K mg M) (B : Tb K M) (A : At K mg "check_book" (top 17) ["thing"]) : Cal P w K mg base M "check_book" ["thing"] 1 (bodyG 1 F_check_book) :=
  cal_mk A sc_check_book fun f cdv A outer s H E hr => dss_one (ds_if (dt_not (dt_val (de_isB T B (de_v 0)))) dss_no dss_nil)
end
end Dx
/-! The four __init__. -/
namespace Dx
open PySem PySem.Spec PyProof.Rows L2
theorem Is.mono1 {C : Cs} {Z : Hid} {H H' : Hp} {v : V} {d : D} (h : Is C Z H v d) (e : ExZ Z H H') : Is C Z H' v d := Is.mono e d v h
/-- the new instance and its dict hidden -/
def hidI (Z : Hid) (x dx : Addr) : Hid := fun b => Z b ∨ b = x ∨ b = dx
def insH (C : Cs) (c : Nat) (H0 : Hp) (x dx : Addr) : Hp := upd (upd H0 dx (.own x)) x (.ins (C.cl c) dx [])
section
variable {C : Cs} {Z : Hid} {H0 : Hp} {x dx : Addr} {c : Nat}
theorem insH_old (hx : H0 x = none) (hd : H0 dx = none) {b : Addr} {o : HO} (h : H0 b = some o) : insH C c H0 x dx b = some o := by
  unfold insH
  rw [upd_ne (ne_of_none h hx), upd_ne (ne_of_none h hd)]
  exact h
theorem insH_go (ok : Ok C Z H0) (hx : H0 x = none) (hd : H0 dx = none) : Go C H0 (insH C c H0 x dx) :=
  ⟨.of fun b o h => insH_old hx hd h, ok.tab.ext fun b o h => insH_old hx hd h⟩
theorem insH_ok (ok : Ok C Z H0) (hx : H0 x = none) (hd : H0 dx = none) (ne : dx ≠ x) : Ok C (hidI Z x dx) (insH C c H0 x dx) := by
  refine ⟨fun z hz => ?_, (insH_go ok hx hd).tab⟩
  rcases hz with hz | rfl | rfl
  · exact (ok.go (insH_go ok hx hd)).hid z hz
  · exact ⟨_, upd_same, fun ps q => by cases q⟩
  · exact ⟨.own x, by unfold insH; rw [upd_ne ne, upd_same], fun ps q => by cases q⟩
theorem insH_is (ok : Ok C Z H0) (hx : H0 x = none) (hd : H0 dx = none) {vs : List V} {ds : List D} (h : IsAll C Z H0 vs ds) : IsAll C (hidI Z x dx) (insH C c H0 x dx) vs ds := by
  have h1 : IsAll C (hidI Z x dx) H0 vs ds := IsAll.hide (fun a ha hz q => by
    rcases q with q | rfl | rfl
    · exact hz q
    · exact ha hx
    · exact ha hd) ds vs h
  exact IsAll.mono (insH_go (c := c) ok hx hd).z ds vs h1
theorem ins_go {H H1 : Hp} {o : HO} {dx1 : Addr} {fs : List (Str × V)} {cl : Addr} (g : Go C H0 H) (hx : H0 x = none) (h : H x = some (.ins cl dx1 fs)) : Go C H0 (upd H x o) :=
  new_go (fun u e => by rw [hx] at e; cases e) g h (fun ps z => by cases z) (fun q z => by unfold LamX.CodeO at z; cases z)
end
def gI3 (n1 n2 n3 : Str) (f1 f2 f3 : En → Option D) : List D → Option (List (Str × D)) := fun ds => if ds.length = 3 then (f1 (none :: ds.map some)).bind fun d1 => (f2 (none :: ds.map some)).bind fun d2 => (f3 (none :: ds.map some)).map fun d3 => [(n1, d1), (n2, d2), (n3, d3)] else none
theorem putF_two {a b : Str} {x y : V} (h : a ≠ b) : putF b y [(a, x)] = [(a, x), (b, y)] := by
  show (if a = b then _ else (a, x) :: putF b y []) = _
  rw [if_neg h]
  rfl
theorem putF_three {a b c : Str} {x y z : V} (h : a ≠ c) (h2 : b ≠ c) : putF c z [(a, x), (b, y)] = [(a, x), (b, y), (c, z)] := by
  show (if a = c then _ else (a, x) :: putF c z [(b, y)]) = _
  rw [if_neg h, putF_two h2]
section
variable {P : Program} {w : World} {K : PySem.W.Frag} {mg : Str → Option Value} {base : Heap} {M : Mm}
theorem en_free {C : Cs} {Z : Hid} {H : Hp} {v : V} {σ : L2.St} {δ : En} (h : EnR C Z H σ δ) : EnR C Z H (some v :: σ) (none :: δ) := ⟨by rw [List.length_cons, List.length_cons, h.1], fun i d hd => by
  cases i with
  | zero => cases hd
  | succ i => exact h.2 i d hd⟩
theorem init3 {c : Nat} (hc : c ≠ 0) (T : Cls K (M.cl c)) {n1 n2 n3 : Str} (N1 : NoAttr K (M.cl c) n1) (N2 : NoAttr K (M.cl c) n2) (N3 : NoAttr K (M.cl c) n3) (h12 : n1 ≠ n2) (h13 : n1 ≠ n3) (h23 : n2 ≠ n3) {qual : Str} {st : Stmt} {a : Addr} {fd : FuncData} {N ps : List Str} {k : Nat} {f1 f2 f3 : En → Option D} (F : Fun K "__init__" qual st a fd) (S : FnScope N ps (defScope st)) (hN : N.length = 4) (hp : ps.length = 4)
    (hb : ∀ (cdv : Value) (A : Around) (outer : List Env) (s : Shared) (H : Hp) (E : XK), Room k (A.deeper (envOfC qual (defScope st) s.heap.objs.size a cdv)) →
      PSs (cxOf CX0 P w K mg base N qual (defScope st) a cdv A outer s H E).nox (defBody st) (tSeq (sFld K (tVar 0) (tD ⟨P, w, K, M.cl, M.T⟩ f1) n1) (tSeq (sFld K (tVar 0) (tD ⟨P, w, K, M.cl, M.T⟩ f2) n2) (sFld K (tVar 0) (tD ⟨P, w, K, M.cl, M.T⟩ f3) n3)))) :
    FnOk P w K mg base CX0 (k + 1) a fd ps (spI ⟨P, w, K, M.cl, M.T⟩ c (gI3 n1 n2 n3 f1 f2 f3)) := by
  refine F.ok S (fun vs H Q E h => ?_) fun cdv A outer s H vs Q E hr h => ?_
  · obtain ⟨Z, H0, x, dx, us, ds, fs, rfl, ok, hA, hx, hd, ne, rfl, hg, q⟩ := h
    unfold gI3 at hg
    by_cases hl : ds.length = 3
    · rw [List.length_cons, hA.length, hl, hp]
    · rw [if_neg hl] at hg; cases hg
  · obtain ⟨Z, H0, x, dx, us, ds, fs, rfl, ok, hA, hx, hd, ne, rfl, hg, q⟩ := h
    refine ⟨_, hb cdv A outer s _ E hr, ?_⟩
    unfold gI3 at hg
    by_cases hl : ds.length = 3
    · rw [if_pos hl] at hg
      obtain ⟨d1, e1, hg⟩ := Option.bind_eq_some_iff.mp hg
      obtain ⟨d2, e2, hg⟩ := Option.bind_eq_some_iff.mp hg
      obtain ⟨d3, e3, hg⟩ := Option.map_eq_some_iff.mp hg
      subst hg
      let C : Cs := ⟨P, w, K, M.cl, M.T⟩
      have hst : L2.start N (.ref x :: us) = some (.ref x) :: us.map some := by
        unfold L2.start
        have hul := hA.length
        rw [hN, List.map_cons, List.length_cons, hul, hl]
        simp
      rw [hst]
      have ok1 : Ok C (hidI Z x dx) (insH C c H0 x dx) := insH_ok ok hx hd ne
      have all1 : IsAll C (hidI Z x dx) (insH C c H0 x dx) us ds := insH_is ok hx hd hA
      have en1 : EnR C (hidI Z x dx) (insH C c H0 x dx) (some (.ref x) :: us.map some) (none :: ds.map some) := by
        refine en_free ⟨by rw [List.length_map, List.length_map, all1.length], fun i d hi => ?_⟩
        rw [List.getElem?_map] at hi
        cases e : ds[i]? with
        | none => rw [e] at hi; cases hi
        | some d' =>
          rw [e] at hi
          cases hi
          obtain ⟨v, hv, is⟩ := all1.get e
          exact ⟨v, by rw [List.getElem?_map, hv]; rfl, is⟩
      have go1 : Go C H0 (insH C c H0 x dx) := insH_go ok hx hd
      have at1 : insH C c H0 x dx x = some (.ins (M.cl c) dx []) := upd_same
      have zx : hidI Z x dx x := .inr (.inl rfl)
      have zup : ∀ {H : Hp} {o : HO}, ExZ (hidI Z x dx) H (upd H x o) := fun {H o} b oo hb h _ => by
        rw [upd_ne (fun z => hb (by rw [z]; exact zx))]
        exact h
      refine ⟨hidI Z x dx, _, d1, ok1, en1, e1, fun v1 H1 g1 i1 => ?_⟩
      have at2 : H1 x = some (.ins (M.cl c) dx []) := g1.ex x _ at1 (fun ps z => by cases z)
      refine ⟨.ref x, rfl, x, M.cl c, dx, [], rfl, at2, T, N1, (by decide), ?_⟩
      have go2 : Go C H0 (upd H1 x (.ins (M.cl c) dx (putF n1 v1 []))) := ins_go (H1 := H1) (go1.trans g1) hx at2
      have okU : ∀ {H : Hp} {fs : List (Str × V)}, Go C H0 (upd H x (.ins (M.cl c) dx fs)) → (∀ z, hidI Z x dx z → z ≠ x → ∃ o, H z = some o ∧ ∀ ps, o ≠ .tbl ps) → Ok C (hidI Z x dx) (upd H x (.ins (M.cl c) dx fs)) := fun {H fs} g hh => ⟨fun z hz => by
        by_cases e : z = x
        · rw [e]
          exact ⟨_, upd_same, fun ps q => by cases q⟩
        · obtain ⟨o, h1, h2⟩ := hh z hz e
          exact ⟨o, by rw [upd_ne e]; exact h1, h2⟩, g.tab⟩
      have ok2 := okU go2 fun z hz _ => (ok1.go g1).hid z hz
      have en2 := (en1.go g1).mono (zup (H := H1) (o := .ins (M.cl c) dx (putF n1 v1 [])))
      refine ⟨hidI Z x dx, _, d2, ok2, en2, e2, fun v2 H2 g2 i2 => ?_⟩
      have at3 : H2 x = some (.ins (M.cl c) dx (putF n1 v1 [])) := g2.ex x _ upd_same (fun ps z => by cases z)
      refine ⟨.ref x, rfl, x, M.cl c, dx, _, rfl, at3, T, N2, (by show 1 < 1000; decide), ?_⟩
      have go3 : Go C H0 (upd H2 x (.ins (M.cl c) dx (putF n2 v2 (putF n1 v1 [])))) := ins_go (H1 := H2) (go2.trans g2) hx at3
      have ok3 := okU go3 fun z hz _ => (ok2.go g2).hid z hz
      have en3 := (en2.go g2).mono (zup (H := H2) (o := .ins (M.cl c) dx (putF n2 v2 (putF n1 v1 []))))
      refine ⟨hidI Z x dx, _, d3, ok3, en3, e3, fun v3 H3 g3 i3 => ?_⟩
      have at4 : H3 x = some (.ins (M.cl c) dx (putF n2 v2 (putF n1 v1 []))) := g3.ex x _ upd_same (fun ps z => by cases z)
      have ep2 : putF n2 v2 (putF n1 v1 []) = [(n1, v1), (n2, v2)] := putF_two h12
      have ep3 : putF n3 v3 (putF n2 v2 (putF n1 v1 [])) = [(n1, v1), (n2, v2), (n3, v3)] := by rw [ep2]; exact putF_three h13 h23
      refine ⟨.ref x, rfl, x, M.cl c, dx, _, rfl, at4, T, N3, (by rw [ep2]; show 2 < 1000; decide), ?_⟩
      have go4 : Go C H0 (upd H3 x (.ins (M.cl c) dx (putF n3 v3 (putF n2 v2 (putF n1 v1 []))))) := ins_go (H1 := H3) (go3.trans g3) hx at4
      have j1 : Is C (hidI Z x dx) H3 v1 d1 := ((((i1.mono1 zup).go g2).mono1 zup).go g3)
      have j2 : Is C (hidI Z x dx) H3 v2 d2 := ((i2.mono1 zup).go g3)
      have fin : ∀ {v : V} {d : D}, Is C (hidI Z x dx) H3 v d → Is C Z (upd H3 x (.ins (M.cl c) dx (putF n3 v3 (putF n2 v2 (putF n1 v1 []))))) v d := fun {v d} h => Is.hide (fun b _ hb z => hb (.inl z)) d v (h.mono1 zup)
      refine q _ go4 (.obj (ok.notZ hx) hc (by rw [upd_same, ep3]) (.cons (fin j1) (.cons (fin j2) (.cons (fin i3) .nil))))
    · rw [if_neg hl] at hg; cases hg
end
end Dx
/-! The classes' __init__ walked. -/
namespace Dx
open PySem PySem.Spec PyProof.Rows L2
structure AtI (K : PySem.W.Frag) (mg : Str → Option Value) (C : Addr) (x qual : Str) (st : Stmt) (ps : List Str) : Prop where
  ex : ∃ a fd, Fun K "__init__" qual st a fd ∧ mg x = some (.ref C) ∧ Mk K C a ∧ L2.Binds K fd ps []
section
variable {P : Program} {w : World} {K : PySem.W.Frag} {mg : Str → Option Value} {base : Heap} {M : Mm}
theorem sc_Few : FnScope ["self", "number", "hard", "table"] ["self", "number", "hard", "table"] (defScope (inClass (top 27) 0)) := ⟨rfl, rfl, rfl, by decide +kernel, rfl, by decide +kernel, by decide +kernel⟩
def g_Few : List D → Option (List (Str × D)) := gI3 "number" "hard" "table" (fV 1) (fV 2) (fCall gDict (aCons (fV 3) aNil))
theorem raw_Few (T : Tx K mg M) (A : AtI K mg (M.cl 1) "Few" "Few.__init__" (inClass (top 27) 0) ["self", "number", "hard", "table"]) : CalI P w K mg base M "Few" 1 ["self", "number", "hard", "table"] 1 g_Few := by
  obtain ⟨a, fd, h1, h2, h3, h4⟩ := A.ex
  refine ⟨a, fd, h2, h3, h4, init3 (by decide) T.cls1 T.n1number T.n1hard T.n1table (by decide +kernel) (by decide +kernel) (by decide +kernel) h1 sc_Few rfl rfl fun cdv A outer s H E hr => ?_⟩
  exact pss_cons (ps_fld (pe_var (i := 0) (by rfl) (Or.inl rfl)) (de_v (M := M) 1) rfl) (pss_cons (ps_fld (pe_var (i := 0) (by rfl) (Or.inl rfl)) (de_v (M := M) 2) rfl) (pss_one (ps_fld (pe_var (i := 0) (by rfl) (Or.inl rfl)) (de_callTy (M := M) (call_dictY (M := M) hr) rc_dict (by rfl) T.dict (by rfl) (da_cons (de_v 3) da_nil)) rfl)))
theorem sc_Meeting : FnScope ["self", "number", "thing", "table"] ["self", "number", "thing", "table"] (defScope (inClass (top 29) 0)) := ⟨rfl, rfl, rfl, by decide +kernel, rfl, by decide +kernel, by decide +kernel⟩
def g_Meeting : List D → Option (List (Str × D)) := gI3 "number" "thing" "table" (fV 1) (fCall gTuple (aCons (fV 2) aNil)) (fCall gDict (aCons (fV 3) aNil))
theorem raw_Meeting (T : Tx K mg M) (A : AtI K mg (M.cl 2) "Meeting" "Meeting.__init__" (inClass (top 29) 0) ["self", "number", "thing", "table"]) : CalI P w K mg base M "Meeting" 2 ["self", "number", "thing", "table"] 1 g_Meeting := by
  obtain ⟨a, fd, h1, h2, h3, h4⟩ := A.ex
  refine ⟨a, fd, h2, h3, h4, init3 (by decide) T.cls2 T.n2number T.n2thing T.n2table (by decide +kernel) (by decide +kernel) (by decide +kernel) h1 sc_Meeting rfl rfl fun cdv A outer s H E hr => ?_⟩
  exact pss_cons (ps_fld (pe_var (i := 0) (by rfl) (Or.inl rfl)) (de_v (M := M) 1) rfl) (pss_cons (ps_fld (pe_var (i := 0) (by rfl) (Or.inl rfl)) (de_callTy (M := M) call_tupleOf rc_tuple (by rfl) T.tuple (by rfl) (da_cons (de_v 2) da_nil)) rfl) (pss_one (ps_fld (pe_var (i := 0) (by rfl) (Or.inl rfl)) (de_callTy (M := M) (call_dictY (M := M) hr) rc_dict (by rfl) T.dict (by rfl) (da_cons (de_v 3) da_nil)) rfl)))
theorem sc_Halves : FnScope ["self", "number", "thing", "table"] ["self", "number", "thing", "table"] (defScope (inClass (top 30) 0)) := ⟨rfl, rfl, rfl, by decide +kernel, rfl, by decide +kernel, by decide +kernel⟩
def g_Halves : List D → Option (List (Str × D)) := gI3 "number" "thing" "table" (fV 1) (fV 2) (fCall gDict (aCons (fV 3) aNil))
theorem raw_Halves (T : Tx K mg M) (A : AtI K mg (M.cl 3) "Halves" "Halves.__init__" (inClass (top 30) 0) ["self", "number", "thing", "table"]) : CalI P w K mg base M "Halves" 3 ["self", "number", "thing", "table"] 1 g_Halves := by
  obtain ⟨a, fd, h1, h2, h3, h4⟩ := A.ex
  refine ⟨a, fd, h2, h3, h4, init3 (by decide) T.cls3 T.n3number T.n3thing T.n3table (by decide +kernel) (by decide +kernel) (by decide +kernel) h1 sc_Halves rfl rfl fun cdv A outer s H E hr => ?_⟩
  exact pss_cons (ps_fld (pe_var (i := 0) (by rfl) (Or.inl rfl)) (de_v (M := M) 1) rfl) (pss_cons (ps_fld (pe_var (i := 0) (by rfl) (Or.inl rfl)) (de_v (M := M) 2) rfl) (pss_one (ps_fld (pe_var (i := 0) (by rfl) (Or.inl rfl)) (de_callTy (M := M) (call_dictY (M := M) hr) rc_dict (by rfl) T.dict (by rfl) (da_cons (de_v 3) da_nil)) rfl)))
/-! ### Book -/
def F_book1 (g_is_integer : List D → Option D) : En → Option Out := sIf (bNot (fB (fCall (gN 3 g_is_integer) (aCons (fV 1) (aCons (fC (.int 1)) (aCons (fC (.int 5)) aNil)))))) sNo sNil
def F_book2 (g_is_rule : List D → Option D) : En → Option Out := sIf (bOr (bNot (fB (fIsi .tuple (fV 2)))) (bOr (fB (f2 gGt (fCall gLenX (aCons (fV 2) aNil)) (fC (.int 16)))) (bNot (fB (fCall gAll (aCons (fLc [3] (iSeq (fV 2)) (t1 3) bYes (fCall (gN 2 g_is_rule) (aCons (fV 1) (aCons (fV 3) aNil)))) aNil)))))) sNo sNil
def bkEn (m r : D) (x : V) : En := [some (.raw x), some m, some r, none]
/-- a book of data that ok passes -/
def g_Book (ok : Int → List Rl → Bool) : List D → Option (List (Str × D))
  | [.int m, d] => (decRs d).bind fun rs => if ok m rs = true then some [("marks", .int m), ("rules", d)] else none
  | _ => none
theorem raw_Book {gi gr : List D → Option D} {okB : Int → List Rl → Bool} (T : Tx K mg M) (A : AtI K mg (M.cl 0) "Book" "Book.__init__" (inClass (top 16) 1) ["self", "marks", "rules"]) (C_is_integer : Cal P w K mg base M "is_integer" ["thing", "low", "high"] 1 gi) (C_is_rule : Cal P w K mg base M "is_rule" ["marks", "thing"] 3 gr)
    (e1 : ∀ m rs x, okB m rs = true → F_book1 gi (bkEn (.int m) (tRs rs) x) = some (.nx (bkEn (.int m) (tRs rs) x))) (e2 : ∀ m rs x, okB m rs = true → F_book2 gr (bkEn (.int m) (tRs rs) x) = some (.nx (bkEn (.int m) (tRs rs) x))) :
    CalI P w K mg base M "Book" 0 ["self", "marks", "rules"] 4 (g_Book okB) := by
  obtain ⟨a, fd, h1, h2, h3, h4⟩ := A.ex
  have sc : FnScope ["self", "marks", "rules", "one"] ["self", "marks", "rules"] (defScope (inClass (top 16) 1)) := ⟨rfl, rfl, rfl, by decide +kernel, rfl, by decide +kernel, by decide +kernel⟩
  obtain ⟨t5, h5⟩ := T.most_marks
  obtain ⟨t16, h16⟩ := T.most_rules
  refine ⟨a, fd, h2, h3, h4, h1.ok sc (fun vs H Q E h => ?_) fun cdv A outer s H vs Q E hr h => ?_⟩
  · obtain ⟨Z, H0, x, dx, us, ds, fs, rfl, ok, hA, hx, hd, ne, rfl, hg, q⟩ := h
    unfold g_Book at hg
    split at hg
    · rw [List.length_cons, hA.length]; rfl
    · cases hg
  · obtain ⟨Z, H0, x, dx, us, ds, fs, rfl, ok, hA, hx, hd, ne, rfl, hg, q⟩ := h
    refine ⟨_, pss_cons (ds_if (M := M) (dt_not (dt_val (de_cal C_is_integer (hr.mono (by decide)) (da_cons (de_v 1) (da_cons de_int (da_cons (de_globI (by rfl) h5) da_nil)))))) dss_no dss_nil)
      (pss_cons (ds_if (M := M) (dw_t (dw_or (dt_not (dt_val (de_isi (T := .tuple) (de_v 2) T.isinstance T.tuple (by rfl)))) (dw_or (dt_cmp op_gt rd_cmp (de_callB (call_lenY (M := M)) rc_lenY (by rfl) T.len (by rfl) (da_cons (de_v 2) da_nil)) (de_globI (by rfl) h16))
          (dw_or1 (dt_not (dt_val (de_callB (cr_all rfl) rc_all (by rfl) T.all (by rfl) (da_cons (de_lc (own := [("one", 3)]) rfl sc.nd (di_seq (de_v 2)) (blkOk_by (by rfl)) (gt_name 3) (fun _ _ _ _ _ => (pg_name (i := 3) sc.nd (by rfl) (by first | exact Or.inl rfl | exact Or.inr rfl))) (fun _ _ _ _ _ => dts_nil) (fun _ _ _ _ _ => (de_cal C_is_rule (hr.mono (by decide)) (da_cons (de_v 1) (da_cons (de_v 3) da_nil))))) da_nil)))))))) dss_no dss_nil)
        (pss_cons (SlX.ps_sl (pe_var (i := 0) (by rfl) (Or.inl rfl)) (pe_var (i := 1) (by rfl) (by first | exact Or.inl rfl | exact Or.inr (Or.inl rfl) | exact Or.inr (Or.inr rfl)))) (pss_one (SlX.ps_sl (pe_var (i := 0) (by rfl) (Or.inl rfl)) (pe_var (i := 2) (by rfl) (Or.inl rfl)))))), ?_⟩
    unfold g_Book at hg
    split at hg
    · rename_i m dr
      obtain ⟨rs, hrs, hg⟩ := Option.bind_eq_some_iff.mp hg
      by_cases hok : okB m rs = true
      · rw [if_pos hok] at hg
        cases hg
        have er := decRs_of hrs
        subst er
        let C : Cs := ⟨P, w, K, M.cl, M.T⟩
        have ok1 : Ok C (hidI Z x dx) (insH C 0 H0 x dx) := insH_ok ok hx hd ne
        have all1 : IsAll C (hidI Z x dx) (insH C 0 H0 x dx) us [.int m, tRs rs] := insH_is ok hx hd hA
        have go1 : Go C H0 (insH C 0 H0 x dx) := insH_go ok hx hd
        have zx : hidI Z x dx x := .inr (.inl rfl)
        have zd : hidI Z x dx dx := .inr (.inr rfl)
        have en1 : EnR C (hidI Z x dx) (insH C 0 H0 x dx) (L2.start ["self", "marks", "rules", "one"] (.ref x :: us)) (bkEn (.int m) (tRs rs) (.ref x)) := enR_start (N := ["self", "marks", "rules", "one"]) (.cons (.raw (.ref x)) all1)
        have at1 : insH C 0 H0 x dx x = some (.ins (M.cl 0) dx []) := upd_same
        have at1d : insH C 0 H0 x dx dx = some (.own x) := by unfold insH; rw [upd_ne ne, upd_same]
        refine ⟨hidI Z x dx, _, _, ok1, en1, e1 m rs (.ref x) hok, fun σ1 H1 g1 en2 => ?_⟩
        refine ⟨hidI Z x dx, _, _, ok1.go g1, en2, e2 m rs (.ref x) hok, fun σ2 H2 g2 en3 => ?_⟩
        obtain ⟨v0, hv0, i0⟩ := en3.2 0 _ rfl
        obtain ⟨v1, hv1, i1⟩ := en3.2 1 _ rfl
        obtain ⟨v2, hv2, i2⟩ := en3.2 2 _ rfl
        cases i0
        obtain ⟨pm, sm⟩ := T.marks
        obtain ⟨pr, sr⟩ := T.rules
        have at2 : H2 x = some (.ins (M.cl 0) dx []) := g2.ex x _ (g1.ex x _ at1 (fun ps z => by cases z)) (fun ps z => by cases z)
        have at2d : H2 dx = some (.own x) := g2.ex dx _ (g1.ex dx _ at1d (fun ps z => by cases z)) (fun ps z => by cases z)
        refine ⟨v1, hv1, .ref x, hv0, x, M.cl 0, dx, pm, [], 0, rfl, .inl ⟨at2, rfl⟩, T.book, sm, ?_⟩
        refine ⟨v2, hv2, .ref x, hv0, x, M.cl 0, dx, pr, _, 1, rfl, SlX.slH_slt ne, T.book, sr, ?_⟩
        have go2 : Go C H0 H2 := (go1.trans g1).trans g2
        have go3 : Go C H0 (SlX.slH (SlX.slH H2 x (M.cl 0) dx (SlX.putS 0 v1 [])) x (M.cl 0) dx (SlX.putS 1 v2 (SlX.putS 0 v1 []))) := by
          rw [SlX.slH_twice ne]
          unfold SlX.slH
          refine new_go (fun u e => by rw [hx] at e; cases e) (new_go (o' := .own x) (fun u e => by rw [hd] at e; cases e) go2 at2d (fun ps z => by cases z) (fun q z => by unfold LamX.CodeO at z; cases z)) (o' := .ins (M.cl 0) dx []) ?_ (fun ps z => by cases z) (fun q z => by unfold LamX.CodeO at z; cases z)
          rw [upd_ne (Ne.symm ne)]
          exact at2
        have ez : ExZ (hidI Z x dx) H2 (SlX.slH (SlX.slH H2 x (M.cl 0) dx (SlX.putS 0 v1 [])) x (M.cl 0) dx (SlX.putS 1 v2 (SlX.putS 0 v1 []))) := fun b o hb h _ => by
          rw [SlX.slH_ne (fun z => hb (by rw [z]; exact zx)) (fun z => hb (by rw [z]; exact zd)), SlX.slH_ne (fun z => hb (by rw [z]; exact zx)) (fun z => hb (by rw [z]; exact zd))]
          exact h
        have fin : ∀ {v : V} {d : D}, Is C (hidI Z x dx) H2 v d → Is C Z (SlX.slH (SlX.slH H2 x (M.cl 0) dx (SlX.putS 0 v1 [])) x (M.cl 0) dx (SlX.putS 1 v2 (SlX.putS 0 v1 []))) v d := fun {v d} h => Is.hide (fun b _ hb z => hb (.inl z)) d v (h.mono1 ez)
        exact q _ go3 (.book (ok.notZ hx) (ok.notZ hd) (SlX.slH_slt ne) (fin i1) (fin i2))
      · rw [if_neg hok] at hg
        cases hg
    · cases hg
end
end Dx
/-! How the formers compute. -/
namespace Dx
open PySem PySem.Spec PyProof.Rows L2
section
variable {δ : En} {i j l : Nat} {d x y : D} {f g fa fb fc : En → Option D} {fs : En → Option (List D)} {ds : List D} {t ta tb : En → Option Bool} {F G : En → Option Out}
@[simp] theorem s_fV (h : δ[i]? = some (some d)) : fV i δ = some d := fV_of h
@[simp] theorem s_fC : fC d δ = some d := rfl
@[simp] theorem s_f2 {k : D → D → Option D} (h1 : fa δ = some x) (h2 : fb δ = some y) : f2 k fa fb δ = k x y := by unfold f2; rw [h1, h2]; rfl
@[simp] theorem s_fB {b : Bool} (h : f δ = some (.bl b)) : fB f δ = some b := by unfold fB; rw [h]; rfl
@[simp] theorem s_bAnd : bAnd ta tb δ = (ta δ).bind fun x => if x = true then tb δ else some false := rfl
@[simp] theorem s_bOr : bOr ta tb δ = (ta δ).bind fun x => if x = true then some true else tb δ := rfl
@[simp] theorem s_bNot : bNot ta δ = (ta δ).map not := rfl
@[simp] theorem s_bYes : bYes δ = some true := rfl
@[simp] theorem s_vAnd : vAnd fa fb δ = (fB fa δ).bind fun x => if x = true then fb δ else some (.bl false) := rfl
@[simp] theorem s_vNot : vNot fa δ = (fB fa δ).map fun x => .bl (!x) := rfl
@[simp] theorem s_fIf : fIf t fa fb δ = (t δ).bind fun x => if x = true then fa δ else fb δ := rfl
@[simp] theorem s_aNil : aNil δ = some [] := rfl
@[simp] theorem s_aCons (h1 : f δ = some x) (h2 : fs δ = some ds) : aCons f fs δ = some (x :: ds) := by unfold aCons; rw [h1, h2]; rfl
@[simp] theorem s_aStar {xs : List D} (h1 : f δ = some x) (h2 : items x = some xs) (h3 : fs δ = some ds) : aStar f fs δ = some (xs ++ ds) := by unfold aStar; rw [h1, h3]; simp [h2]
@[simp] theorem s_fCall {k : List D → Option D} (h : fs δ = some ds) : fCall k fs δ = k ds := by unfold fCall; rw [h]; rfl
@[simp] theorem s_gN {n : Nat} {k : List D → Option D} (h : ds.length = n) : gN n k ds = k ds := by unfold gN; rw [if_pos h]
@[simp] theorem s_fTup (h : fs δ = some ds) (hl : ds.length ≤ 1000) : fTup fs δ = some (.tup ds) := by unfold fTup few; rw [h]; simp [hl]
@[simp] theorem s_fLst (h : fs δ = some ds) (hl : ds.length ≤ 1000) : fLst fs δ = some (.lst ds) := by unfold fLst few; rw [h]; simp [hl]
@[simp] theorem s_iSeq (h : f δ = some x) : iSeq f δ = items x := by unfold iSeq; rw [h]; rfl
@[simp] theorem s_iRange {n : Int} (h : f δ = some (.int n)) (h1 : n ≤ 1000000) (h2 : -1000000 ≤ n) : iRange f δ = some (rangeD n) := by unfold iRange; rw [h]; simp [h1, h2]
@[simp] theorem s_tup : items (.tup ds) = some ds := rfl
@[simp] theorem s_lst : items (.lst ds) = some ds := rfl
@[simp] theorem s_fLc {vs : List Nat} {fi : En → Option (List D)} {tf : D → En → Option En} {ys : List D} (h : fi δ = some ds) (h2 : lcRun (fun x => tf x (wipeE δ vs)) t f ds = some ys) : fLc vs fi tf t f δ = some (.lst ys) := by unfold fLc; rw [h]; simp [h2]
theorem s_sAsg {tf : D → En → Option En} {δ' : En} (h : f δ = some d) (h2 : tf d δ = some δ') : sAsg f tf δ = some (.nx δ') := by unfold sAsg; rw [h]; simp [h2]
theorem s_sRet (h : f δ = some d) : sRet f δ = some (.rt d) := by unfold sRet; rw [h]; rfl
theorem s_sSeqN {δ' : En} (h : F δ = some (.nx δ')) : sSeq F G δ = G δ' := by unfold sSeq; rw [h]; rfl
theorem s_sSeqR (h : F δ = some (.rt d)) : sSeq F G δ = some (.rt d) := by unfold sSeq; rw [h]; rfl
theorem s_sIf {b : Bool} (h : t δ = some b) : sIf t F G δ = if b = true then F δ else G δ := by unfold sIf; rw [h]; rfl
theorem s_sNil : sNil δ = some (.nx δ) := rfl
theorem s_body {n : Nat} (h : F (ds.map some ++ List.replicate (n - ds.length) none) = some (.rt d)) : bodyG n F ds = some d := by unfold bodyG; rw [h]; rfl
theorem s_fFld {c : Nat} {n : Str} {fl : List (Str × D)} (h : f δ = some (.obj c fl)) : fFld c n f δ = fl.lookup n := by
  unfold fFld
  rw [h]
  simp
end
/-- a list comprehension over encoded data -/
theorem lc_map {α : Type} {en : D → Option En} {t : En → Option Bool} {f : En → Option D} (enc : α → D) (δ' : α → En) (p : α → Bool) (h : α → D) : ∀ (xs : List α), (∀ x ∈ xs, en (enc x) = some (δ' x)) → (∀ x ∈ xs, t (δ' x) = some (p x)) → (∀ x ∈ xs, p x = true → f (δ' x) = some (h x)) →
    lcRun en t f (xs.map enc) = some ((xs.filter p).map h)
  | [], _, _, _ => rfl
  | x :: xs, h1, h2, h3 => by
    have ih := lc_map enc δ' p h xs (fun y hy => h1 y (List.mem_cons_of_mem _ hy)) (fun y hy => h2 y (List.mem_cons_of_mem _ hy)) (fun y hy => h3 y (List.mem_cons_of_mem _ hy))
    rw [List.map_cons]
    unfold lcRun
    rw [h1 x (List.mem_cons_self ..)]
    simp only [Option.bind_some]
    rw [h2 x (List.mem_cons_self ..)]
    simp only [Option.bind_some]
    rw [ih]
    by_cases hp : p x = true
    · rw [if_pos hp, h3 x (List.mem_cons_self ..) hp, List.filter_cons_of_pos hp]
      rfl
    · rw [if_neg hp, List.filter_cons_of_neg hp]
theorem lc_all {α : Type} {en : D → Option En} {f : En → Option D} (enc : α → D) (δ' : α → En) (h : α → D) (xs : List α) (h1 : ∀ x ∈ xs, en (enc x) = some (δ' x)) (h3 : ∀ x ∈ xs, f (δ' x) = some (h x)) :
    lcRun en bYes f (xs.map enc) = some (xs.map h) := by
  have q := lc_map (t := bYes) enc δ' (fun _ => true) h xs h1 (fun _ _ => rfl) (fun x hx _ => h3 x hx)
  rw [List.filter_eq_self.mpr (fun _ _ => rfl)] at q
  exact q
theorem asBs_map {α : Type} (q : α → Bool) : ∀ xs : List α, asBs (xs.map fun x => .bl (q x)) = some (xs.map q)
  | [] => rfl
  | x :: xs => by
    rw [List.map_cons]
    unfold asBs
    rw [asBs_map q xs]
    rfl
theorem gAll_map {α : Type} (q : α → Bool) (xs : List α) : gAll [.lst (xs.map fun x => .bl (q x))] = some (.bl (xs.all q)) := by
  unfold gAll
  simp only [asBs_map]
  show some (D.bl ((xs.map q).all id)) = _
  rw [List.all_map]
  rfl
theorem gAny_map {α : Type} (q : α → Bool) (xs : List α) : gAny [.lst (xs.map fun x => .bl (q x))] = some (.bl (xs.any q)) := by
  unfold gAny
  simp only [asBs_map]
  show some (D.bl ((xs.map q).any id)) = _
  rw [List.any_map]
  rfl
/-! ### sets -/
theorem flat_ints (s : Sx) : (s.map D.int).all flatD = true := by
  rw [List.all_eq_true]
  intro d hd
  obtain ⟨i, _, rfl⟩ := List.mem_map.mp hd
  rfl
theorem inD_ints (i : Int) (s : Sx) : inD (.int i) (s.map D.int) = s.contains i := by
  unfold inD
  rw [List.any_map, ← List.any_beq]
  congr 1
  funext k
  show pyEq (.int k) (.int i) = (i == k)
  unfold pyEq
  simp only [toPy, PyData.eqv]
  rw [Bool.eq_iff_iff, beq_iff_eq, beq_iff_eq]
  exact eq_comm
theorem gIn_set (i : Int) (s : Sx) : gInX (.int i) (tS s) = some (.bl (s.contains i)) := by
  show (if flatD (.int i) && (s.map D.int).all flatD then some (D.bl (inD (.int i) (s.map D.int))) else none) = _
  rw [flat_ints, inD_ints]
  rfl
theorem gNotIn_set (i : Int) (s : Sx) : gNotIn (.int i) (tS s) = some (.bl (!s.contains i)) := by
  have h : gIn (.int i) (tS s) = some (.bl (s.contains i)) := gIn_set i s
  unfold gNotIn
  rw [h]
theorem gIn_ks (i : Int) (s : Sx) : gInX (.int i) (.ks s) = some (.bl (s.contains i)) := by
  show some (D.bl (s.any fun k => decide (k = i))) = _
  rw [← List.any_beq]
  congr 3
  funext k
  rw [Bool.eq_iff_iff, decide_eq_true_eq, beq_iff_eq]
  exact eq_comm
theorem ev_is_within (s t : Sx) : bodyG 3 F_is_within [tS s, tS t] = some (.bl (subI s t)) := by
  refine s_body (s_sRet ?_)
  rw [s_fCall (s_aCons (s_fLc rfl (lc_all D.int (fun i => [some (tS s), some (tS t), some (.int i)]) (fun i => .bl (t.contains i)) s (fun i _ => rfl) fun i _ => ?_)) s_aNil)]
  · exact gAll_map (fun i => t.contains i) s
  · rw [s_f2 (s_fV rfl) (s_fV rfl), gIn_set]
theorem ev_is_withinK (s t : Sx) : bodyG 3 F_is_within [tS s, .ks t] = some (.bl (subI s t)) := by
  refine s_body (s_sRet ?_)
  rw [s_fCall (s_aCons (s_fLc rfl (lc_all D.int (fun i => [some (tS s), some (.ks t), some (.int i)]) (fun i => .bl (t.contains i)) s (fun i _ => rfl) fun i _ => ?_)) s_aNil)]
  · exact gAll_map (fun i => t.contains i) s
  · rw [s_f2 (s_fV rfl) (s_fV rfl), gIn_ks]
end Dx
/-! The N layer: one list (the draws) changes, its values are any: judgements that hand on predicate transformers. -/
namespace Dx
open PySem PySem.Spec PyProof.Rows L2

/-- the list of the draws stands at p: the script, 0, how many were drawn -/
def Dr (C : Cs) (Z : Hid) (H : Hp) (p : Addr) : Prop := ∃ (v : V) (c : Int) (cells : List Int), H p = some (.lst [v, .int 0, .int c]) ∧ 0 ≤ c ∧ Is C Z H v (.lst (cells.map D.int))
structure GoN (C : Cs) (Z : Hid) (p : Addr) (H H' : Hp) : Prop where
  ex : ∀ b o, b ≠ p → H b = some o → (∀ ps, o ≠ .tbl ps) → H' b = some o
  tab : LamX.Tabs C.T H'
  dr : Dr C Z H' p
/-- what the N readings stand on -/
structure OkN (C : Cs) (Z : Hid) (p : Addr) (H : Hp) : Prop where
  ok : Ok C Z H
  zp : Z p
  dr : Dr C Z H p
section
variable {C : Cs} {Z : Hid} {p : Addr} {H H1 H2 : Hp}
theorem Dr.go {H' : Hp} (d : Dr C Z H p) (g : Go C H H') : Dr C Z H' p := by
  obtain ⟨v, c, is, h1, h2, h3⟩ := d
  exact ⟨v, c, is, g.ex p _ h1 (fun ps z => by cases z), h2, h3.go g⟩
theorem GoN.of (o : OkN C Z p H) (g : Go C H H1) : GoN C Z p H H1 := ⟨fun b u _ h n => g.ex b u h n, g.tab, o.dr.go g⟩
theorem GoN.refl (o : OkN C Z p H) : GoN C Z p H H := .of o o.ok.refl
theorem GoN.trans (a : GoN C Z p H H1) (b : GoN C Z p H1 H2) : GoN C Z p H H2 := ⟨fun c o n h t => b.ex c o n (a.ex c o n h t) t, b.tab, b.dr⟩
theorem GoN.z (g : GoN C Z p H H1) (zp : Z p) : ExZ Z H H1 := fun b o hb h n => g.ex b o (fun e => hb (by rw [e]; exact zp)) h n
theorem OkN.go (o : OkN C Z p H) (g : GoN C Z p H H1) : OkN C Z p H1 := by
  refine ⟨⟨fun z hz => ?_, g.tab⟩, o.zp, g.dr⟩
  by_cases e : z = p
  · obtain ⟨v, c, is, h1, _⟩ := g.dr
    exact ⟨_, by rw [e]; exact h1, fun ps q => by cases q⟩
  · obtain ⟨u, h, n⟩ := o.ok.hid z hz
    exact ⟨u, g.ex z u e h n, n⟩
theorem Is.goN {v : V} {d : D} (h : Is C Z H v d) (g : GoN C Z p H H1) (zp : Z p) : Is C Z H1 v d := h.mono1 (g.z zp)
theorem IsAll.goN {vs : List V} {ds : List D} (h : IsAll C Z H vs ds) (g : GoN C Z p H H1) (zp : Z p) : IsAll C Z H1 vs ds := IsAll.mono (g.z zp) ds vs h
theorem EnR.goN {σ : L2.St} {δ : En} (h : EnR C Z H σ δ) (g : GoN C Z p H H1) (zp : Z p) : EnR C Z H1 σ δ := h.mono (g.z zp)
theorem GoN.gz (g : GoN C Z p H H1) (zp : Z p) : GoZ C Z H H1 := ⟨g.z zp, g.tab⟩
end
abbrev WE (α : Type) := Addr → En → (α → Prop) → Prop
def Mn {α : Type} (w : WE α) : Prop := ∀ p δ (P P' : α → Prop), (∀ d, P d → P' d) → w p δ P → w p δ P'
def tN (C : Cs) (w : WE D) : TE := fun σ H Q => ∃ Z δ p, OkN C Z p H ∧ EnR C Z H σ δ ∧ w p δ fun d => ∀ v H', GoN C Z p H H' → Is C Z H' v d → Q v H'
def tNT (C : Cs) (w : WE Bool) : TT := fun σ H Q => ∃ Z δ p, OkN C Z p H ∧ EnR C Z H σ δ ∧ w p δ fun b => ∀ H', GoN C Z p H H' → Q b H'
def tNA (C : Cs) (w : WE (List D)) : TA := fun σ H Q => ∃ Z δ p, OkN C Z p H ∧ EnR C Z H σ δ ∧ w p δ fun ds => ∀ vs H', GoN C Z p H H' → IsAll C Z H' vs ds → Q vs H'
structure NE (M : Mm) (X : Cx) (e : Expr) (w : WE D) : Prop where
  pe : PE X e (tN (cs X M) w)
  mn : Mn w
structure NT (M : Mm) (X : Cx) (e : Expr) (w : WE Bool) : Prop where
  pt : PT X e (tNT (cs X M) w)
  mn : Mn w
structure NA (M : Mm) (X : Cx) (es : List Expr) (w : WE (List D)) : Prop where
  pa : PA X es (tNA (cs X M) w)
  mn : Mn w
def wP {α : Type} (f : En → Option α) : WE α := fun _ δ P => ∃ d, f δ = some d ∧ P d
theorem wP_mn {α : Type} {f : En → Option α} : Mn (wP f) := fun p δ P P' h ⟨d, h1, h2⟩ => ⟨d, h1, h d h2⟩
section
variable {M : Mm} {X : Cx} {pos : Pos} {e a b : Expr} {es : List Expr} {w wa wb : WE D} {ws : WE (List D)} {f : En → Option D}
theorem ne_pure (h : DE M X e f) : NE M X e (wP f) := ⟨PE.imp h fun σ H Q ⟨Z, δ, p, o, en, d, hd, q⟩ => ⟨Z, δ, d, o.ok, en, hd, fun v H' g i => q v H' (.of o g) i⟩, wP_mn⟩
theorem nt_pure {t : En → Option Bool} (h : DT M X e t) : NT M X e (wP t) := ⟨PT.imp h fun σ H Q ⟨Z, δ, p, o, en, d, hd, q⟩ => ⟨Z, δ, d, o.ok, en, hd, fun H' g => q H' (.of o g)⟩, wP_mn⟩
def wNil : WE (List D) := fun _ _ P => P []
def wCons (w : WE D) (ws : WE (List D)) : WE (List D) := fun p δ P => w p δ fun d => ws p δ fun ds => P (d :: ds)
theorem na_nil : NA M X [] wNil := ⟨PA.imp pa_nil fun σ H Q ⟨Z, δ, p, o, en, q⟩ => q [] H (.refl o) .nil, fun p δ P P' h q => h _ q⟩
theorem na_cons (h1 : NE M X a w) (h2 : NA M X es ws) (hs : starEach (a :: es) X.env = (false, eval a X.env) :: starEach es X.env := by rfl) : NA M X (a :: es) (wCons w ws) := by
  refine ⟨PA.imp (pa_cons h1.pe h2.pa hs) fun σ H Q ⟨Z, δ, p, o, en, q⟩ => ⟨Z, δ, p, o, en, h1.mn p δ _ _ (fun d hd v H1 g1 i1 => ?_) q⟩, fun p δ P P' h q => h1.mn p δ _ _ (fun d hd => h2.mn p δ _ _ (fun ds hds => h _ hds) hd) q⟩
  exact ⟨Z, δ, p, o.go g1, en.goN g1 o.zp, h2.mn p δ _ _ (fun ds hds vs H2 g2 i2 => hds _ H2 (g1.trans g2) (.cons (i1.goN g2 o.zp) i2)) hd⟩
def wTup (ws : WE (List D)) : WE D := fun p δ P => ws p δ fun ds => few ds = true ∧ P (.tup ds)
theorem ne_tup {k : Nat} (h : NA M X es ws) : NE M X (.Tuple es k pos) (wTup ws) := by
  refine ⟨PE.imp (pe_tup h.pa) fun σ H Q ⟨Z, δ, p, o, en, q⟩ => ⟨Z, δ, p, o, en, h.mn p δ _ _ (fun ds hds vs H1 g1 i1 => ?_) q⟩, fun p δ P P' h' q => h.mn p δ _ _ (fun ds hds => ⟨hds.1, h' _ hds.2⟩) q⟩
  have o1 := o.go g1
  exact ⟨by rw [i1.length]; exact few_ok hds.1, fun a ha => hds.2 _ _ (g1.trans (.of o1 (o1.ok.new ha))) (new_tup o1.ok i1 (few_ok hds.1) ha)⟩
def wOp (g : D → D → Option D) (wa wb : WE D) : WE D := fun p δ P => wa p δ fun x => wb p δ fun y => ∃ d, g x y = some d ∧ P d
theorem tN_op {C : Cs} {r : R2} {g : D → D → Option D} (hr : RD C r g) (ma : Mn wa) (mb : Mn wb) {σ : L2.St} {H : Hp} {Q : VK} (h : tN C (wOp g wa wb) σ H Q) : tOp r (tN C wa) (tN C wb) σ H Q := by
  obtain ⟨Z, δ, p, o, en, q⟩ := h
  refine ⟨Z, δ, p, o, en, ma p δ _ _ (fun x hx v H1 g1 i1 => ?_) q⟩
  refine ⟨Z, δ, p, o.go g1, en.goN g1 o.zp, mb p δ _ _ (fun y ⟨d, hd, qd⟩ u H2 g2 i2 => ?_) hx⟩
  have o2 := (o.go g1).go g2
  exact hr Z H2 v u x y d Q o2.ok (i1.goN g2 o.zp) i2 hd fun z H3 g3 i3 => qd z H3 ((g1.trans g2).trans (.of o2 g3)) i3
theorem wOp_mn {g : D → D → Option D} (ma : Mn wa) (mb : Mn wb) : Mn (wOp g wa wb) := fun p δ P P' h q => ma p δ _ _ (fun x hx => mb p δ _ _ (fun y ⟨d, h1, h2⟩ => ⟨d, h1, h d h2⟩) hx) q
theorem ne_op {op : Operator} {r : R2} {g : D → D → Option D} (ho : OpR X (binaryOp op) r) (hr : RD (cs X M) r g) (ha : NE M X a wa) (hb : NE M X b wb) : NE M X (.BinOp a op b pos) (wOp g wa wb) := ⟨PE.imp (pe_op ho ha.pe hb.pe) fun _ _ _ h => tN_op hr ha.mn hb.mn h, wOp_mn ha.mn hb.mn⟩
def wB (w : WE D) : WE Bool := fun p δ P => w p δ fun d => ∃ b, d = .bl b ∧ P b
theorem nt_cmp {op : CmpOp} {r : R2} {g : D → D → Option D} (ho : OpR X (compareOp op) r) (hr : RD (cs X M) r g) (ha : NE M X a wa) (hb : NE M X b wb) (hm : behindInMarks op b = false := by first | exact nomark _ | rfl) : NT M X (.Compare a [op] [b] pos) (wB (wOp g wa wb)) := by
  refine ⟨PT.imp (pt_cmpR ho ha.pe hb.pe hm) fun σ H Q ⟨Z, δ, p, o, en, q⟩ => ?_, fun p δ P P' h q => wOp_mn ha.mn hb.mn p δ _ _ (fun d ⟨k, h1, h2⟩ => ⟨k, h1, h k h2⟩) q⟩
  refine tN_op hr ha.mn hb.mn ⟨Z, δ, p, o, en, wOp_mn ha.mn hb.mn p δ _ _ (fun d ⟨k, hk, qk⟩ v H1 g1 i1 => ?_) q⟩
  subst hk
  cases i1
  exact ⟨k, rfl, qk H1 g1⟩
def wNot (w : WE Bool) : WE Bool := fun p δ P => w p δ fun b => P (!b)
theorem nt_not {w : WE Bool} (h : NT M X a w) : NT M X (.UnaryOp .Not a pos) (wNot w) := ⟨PT.imp (pt_not h.pt) fun σ H Q ⟨Z, δ, p, o, en, q⟩ => ⟨Z, δ, p, o, en, q⟩, fun p δ P P' h' q => h.mn p δ _ _ (fun b hb => h' _ hb) q⟩
theorem nt_val (h : NE M X e w) (he : ∀ whole, isTrue e X.env whole = (do let v ← whole; standAt e.pos; holding [v] (truthy v)) := by intro _; rfl) : NT M X e (wB w) := by
  refine ⟨PT.imp (pt_val h.pe he) fun σ H Q ⟨Z, δ, p, o, en, q⟩ => ⟨Z, δ, p, o, en, h.mn p δ _ _ (fun d ⟨k, hk, qk⟩ v H1 g1 i1 => ?_) q⟩, fun p δ P P' h' q => h.mn p δ _ _ (fun d ⟨k, h1, h2⟩ => ⟨k, h1, h' k h2⟩) q⟩
  subst hk
  cases i1
  exact ⟨k, rfl, qk H1 g1⟩
theorem ne_ix {n : Nat} (hr : Room n X.A) (ha : NE M X a wa) (hb : NE M X b wb) (hs : PlainIx b := by intro _ _; rfl) : NE M X (.Subscript a b pos) (wOp gIx wa wb) := by
  refine ⟨PE.imp (pe_ix (ix_tup.or ix_list) ha.pe hb.pe hs) fun σ H Q h => ?_, wOp_mn ha.mn hb.mn⟩
  refine tN_op (C := cs X M) (fun Z H x y dx dy d Q ok i1 i2 hg q => ?_) ha.mn hb.mn h
  cases dx with
  | tup ds =>
    cases dy with
    | int i =>
      cases i1 with
      | tup z hS hA hl =>
        cases i2
        obtain ⟨v, hv, is⟩ := hA.at hg
        exact .inl ⟨_, _, i, v, rfl, rfl, .inl (.inl hS), hv, q v H ok.refl is⟩
    | _ => cases hg
  | lst ds =>
    cases dy with
    | int i =>
      cases i1 with
      | lst z hS hA hl =>
        cases i2
        obtain ⟨v, hv, is⟩ := hA.at hg
        exact .inr ⟨_, _, i, v, rfl, rfl, .inl (.inl hS), hv, q v H ok.refl is⟩
    | _ => cases hg
  | _ => cases dy <;> cases hg
def wCall (g : List D → Option D) (ws : WE (List D)) : WE D := fun p δ P => ws p δ fun ds => ∃ d, g ds = some d ∧ P d
theorem tN_call {C : Cs} {r : List V → Hp → VK → Prop} {g : List D → Option D} (hr : RC C r g) (m : Mn ws) {σ : L2.St} {H : Hp} {Q : VK} (h : tN C (wCall g ws) σ H Q) : tCB r (tNA C ws) σ H Q := by
  obtain ⟨Z, δ, p, o, en, q⟩ := h
  refine ⟨Z, δ, p, o, en, m p δ _ _ (fun ds ⟨d, hd, qd⟩ vs H1 g1 i1 => ?_) q⟩
  exact hr Z H1 vs ds d Q (o.go g1).ok i1 hd fun v H2 g2 i2 => qd v H2 (g1.trans (.of (o.go g1) g2)) i2
theorem wCall_mn {g : List D → Option D} (m : Mn ws) : Mn (wCall g ws) := fun p δ P P' h q => m p δ _ _ (fun ds ⟨d, h1, h2⟩ => ⟨d, h1, h d h2⟩) q
theorem ne_callTy {x : Str} {T : String} {pp : Pos} {r : List V → Hp → VK → Prop} {g : List D → Option D} (hc : CallR X (.type T) r) (hr : RC (cs X M) r g) (hg : Gl X x) (hm : X.mg x = none) (hv : bootBuiltins x = some (.type T)) (ha : NA M X (a :: es) ws) (hn : x ≠ "__name__" := by decide) (hdb : (x == ("__debug__" : Str)) = false := by decide)
    (he : starEach (a :: es) X.env = (false, eval a X.env) :: starEach es X.env := by rfl) (hpl : (backTo pos (starEach es X.env)).any (·.1) = false := by rfl) : NE M X (.Call (.Name x pp) (a :: es) [] pos) (wCall g ws) :=
  ⟨PE.imp (pe_callTy hc hg hm hv ha.pa hn hdb he hpl) fun _ _ _ h => tN_call hr ha.mn h, wCall_mn ha.mn⟩

/-! ### defs that draw -/
/-- their promise: the first argument is the list of the draws -/
def spN (C : Cs) (n : Nat) (W : List D → (D → Prop) → Prop) : Sp := fun vs H Q _ => ∃ Z p us ds, vs = .ref p :: us ∧ OkN C Z p H ∧ IsAll C Z H us ds ∧ ds.length + 1 = n ∧ W ds fun d => ∀ v H', GoN C Z p H H' → Is C Z H' v d → Q v H'
structure CalN (P : Program) (w : World) (K : PySem.W.Frag) (mg : Str → Option Value) (base : Heap) (M : Mm) (x : Str) (ps : List Str) (k : Nat) (W : List D → (D → Prop) → Prop) : Prop where
  ex : ∃ a fd, mg x = some (.ref a) ∧ PySem.W.keepIn K (.ref a) = true ∧ L2.Binds K fd ps [] ∧ FnOk P w K mg base CX0 k a fd ps (spN ⟨P, w, K, M.cl, M.T⟩ ps.length W)
  mn : ∀ ds (P P' : D → Prop), (∀ d, P d → P' d) → W ds P → W ds P'
def wDraw (i n : Nat) (W : List D → (D → Prop) → Prop) (ws : WE (List D)) : WE D := fun p δ P => fV i δ = some (.raw (.ref p)) ∧ ws p δ fun ds => ds.length + 1 = n ∧ W ds P
theorem ne_cal {x y : Str} {ps : List Str} {k n i : Nat} {W : List D → (D → Prop) → Prop} {pp py : Pos} (C : CalN X.prog X.w X.K X.mg X.base M x ps k W) (hr : Room k X.A) (hy : PE X (.Name y py) (tVar i)) (ha : NA M X es ws) (hn : ps.length = n := by rfl) (hg : Gl X x := by rfl)
    (he : starEach (.Name y py :: es) X.env = (false, eval (.Name y py) X.env) :: starEach es X.env := by rfl) (hpl : (backTo pos (starEach es X.env)).any (·.1) = false := by rfl) (hdb : (x == ("__debug__" : Str)) = false := by decide) : NE M X (.Call (.Name x pp) (.Name y py :: es) [] pos) (wDraw i n W ws) := by
  refine ⟨?_, fun p δ P P' h q => ⟨q.1, ha.mn p δ _ _ (fun ds hds => ⟨hds.1, C.mn ds _ _ h hds.2⟩) q.2⟩⟩
  obtain ⟨f, fd, h1, h2, h3, h4⟩ := C.ex
  subst hn
  refine PE.imp (pe_call h4 hr hg h1 h2 h3 .nil (pass0 (X := X)) (pa_cons hy ha.pa he) hdb he hpl) fun σ H Q ⟨Z, δ, p, o, en, hi, q⟩ => ?_
  obtain ⟨v, hv, is⟩ := en.2 i (.raw (.ref p)) (by
    unfold fV at hi
    cases e : δ[i]? with
    | none => rw [e] at hi; cases hi
    | some u =>
      rw [e] at hi
      cases u with
      | none => cases hi
      | some u => cases hi; rfl)
  cases is
  refine ⟨_, hv, Z, δ, p, o, en, ha.mn p δ _ _ (fun ds ⟨hl, hW⟩ us H1 g1 i1 => ?_) q⟩
  refine ⟨Z, p, us ++ [], ds, rfl, o.go g1, by rw [List.append_nil]; exact i1, hl, C.mn ds _ _ (fun d hd v H2 g2 i2 => hd v H2 (g1.trans g2) i2) hW⟩
end
end Dx
/-! The N layer: comprehensions, statements, loops, defs. -/
namespace Dx
open PySem PySem.Spec PyProof.Rows L2
def tNI (C : Cs) (wi : WE (List D)) : TI := fun σ H R => ∃ Z δ p, OkN C Z p H ∧ EnR C Z H σ δ ∧ wi p δ fun ds => ∀ J H1, GoN C Z p H H1 → WalkD C Z J H1 ds → R J H1
structure NI (M : Mm) (X : Cx) (tg iter : Expr) (w : WE (List D)) : Prop where
  pi : PI X tg iter (tNI (cs X M) w)
  mn : Mn w
structure NTs (M : Mm) (X : Cx) (es : List Expr) (w : WE Bool) : Prop where
  pt : PTs X es (tNT (cs X M) w)
  mn : Mn w
section
variable {M : Mm} {X : Cx} {pos : Pos} {tg e a : Expr} {w : WE D}
theorem ni_pure {iter : Expr} {fi : En → Option (List D)} (h : DI M X tg iter fi) : NI M X tg iter (wP fi) := ⟨PI.imp h fun σ H R ⟨Z, δ, p, o, en, ds, hd, q⟩ => ⟨Z, δ, ds, o.ok, en, hd, fun J H1 g w => q J H1 (.of o g) w⟩, wP_mn⟩
theorem nts_nil : NTs M X [] (wP bYes) := ⟨PTs.imp (dts_nil (M := M)) fun σ H Q ⟨Z, δ, p, o, en, b, hb, q⟩ => ⟨Z, δ, b, o.ok, en, hb, fun H' g => q H' (.of o g)⟩, wP_mn⟩
theorem nts_one {c : Expr} {t : WE Bool} (h : NT M X c t) : NTs M X [c] t := ⟨pts_one h.pt, h.mn⟩
def wRange (w : WE D) : WE (List D) := fun p δ P => w p δ fun d => ∃ n, d = .int n ∧ n ≤ 1000000 ∧ -1000000 ≤ n ∧ P (rangeD n)
theorem ni_range {pp : Pos} (ha : NE M X a w) (hm : X.mg "range" = none) (hg : Gl X "range" := by rfl) (hs : starEach [a] X.env = [(false, eval a X.env)] := by rfl) (hs2 : starEach (a :: []) X.env = (false, eval a X.env) :: starEach [] X.env := by rfl) :
    NI M X tg (.Call (.Name "range" pp) [a] [] pos) (wRange w) := by
  refine ⟨PI.imp (pi_range1 hg hm (pa_cons ha.pe pa_nil hs2) hs) fun σ H R ⟨Z, δ, p, o, en, q⟩ => ⟨Z, δ, p, o, en, ha.mn p δ _ _ (fun d ⟨n, hd, h1, h2, hq⟩ v H1 g1 i1 => ?_) q⟩, fun p δ P P' h q => ha.mn p δ _ _ (fun d ⟨n, hd, h1, h2, hq⟩ => ⟨n, hd, h1, h2, h _ hq⟩) q⟩
  subst hd
  cases i1
  exact ⟨n, rfl, by omega, by omega, hq _ H1 g1 (walkD_range h1)⟩
def wList (w : WE D) : WE (List D) := fun p δ P => w p δ fun d => ∃ ds, d = .lst ds ∧ P ds
theorem ni_list (ha : NE M X a w) : NI M X tg a (wList w) := by
  refine ⟨PI.imp (pi_list ha.pe) fun σ H R ⟨Z, δ, p, o, en, q⟩ => ⟨Z, δ, p, o, en, ha.mn p δ _ _ (fun d ⟨ds, hd, hq⟩ v H1 g1 i1 => ?_) q⟩, fun p δ P P' h q => ha.mn p δ _ _ (fun d ⟨ds, hd, hq⟩ => ⟨ds, hd, h _ hq⟩) q⟩
  subst hd
  cases i1 with
  | lst z hS hA hz => exact ⟨_, rfl, ⟨_, .inl (.inl hS)⟩, hq _ H1 g1 (walkD_lst (C := cs X M) (o.go g1).ok z hS hA hz)⟩
end
/-! ### list comprehensions -/
def lcW (en : D → Option En) (t : WE Bool) (f : WE D) (p : Addr) : List D → (List D → Prop) → Prop
  | [], P => P []
  | x :: xs, P => ∃ δ, en x = some δ ∧ t p δ fun b => if b = true then f p δ fun y => lcW en t f p xs fun ys => P (y :: ys) else lcW en t f p xs P
theorem lcW_mn {en : D → Option En} {t : WE Bool} {f : WE D} {p : Addr} (mt : Mn t) (mf : Mn f) : ∀ (ds : List D) (P P' : List D → Prop), (∀ ys, P ys → P' ys) → lcW en t f p ds P → lcW en t f p ds P'
  | [], P, P', h, q => h _ q
  | x :: xs, P, P', h, q => by
    obtain ⟨δ, h1, q⟩ := q
    refine ⟨δ, h1, mt p δ _ _ (fun b hb => ?_) q⟩
    cases b with
    | true => exact mf p δ _ _ (fun y hy => lcW_mn mt mf xs _ _ (fun ys hys => h _ hys) hy) hb
    | false => exact lcW_mn mt mf xs _ _ h hb
def wLc (vs : List Nat) (fi : WE (List D)) (tf : D → En → Option En) (t : WE Bool) (f : WE D) : WE D := fun p δ P => fi p δ fun ds => ds.length ≤ 100000 ∧ lcW (fun x => tf x (wipeE δ vs)) t f p ds fun ys => P (.lst ys)
theorem lcN_imp {C : Cs} {Z : Hid} {p : Addr} {H0 H1 : Hp} {σ : L2.St} {δ : En} {ds : List D} {J : It} {g : TG} {tf : D → En → Option En} {sl vs : List Nat} {t : WE Bool} {f : WE D} {Q : VK} {Dl : Addr} (mt : Mn t) (mf : Mn f) (o : OkN C Z p H1) (en : EnR C Z H1 σ δ) (g0 : GoN C Z p H0 H1) (w : WalkD C Z J H1 ds) (gt : GT C g tf sl) (hsl : ∀ i ∈ sl, i ∈ vs)
    (hlen : ds.length ≤ 100000) (hf : lcW (fun x => tf x (wipeE δ vs)) t f p ds fun ys => ∀ v H', GoN C Z p H0 H' → Is C Z H' v (.lst ys) → Q v H') (hD : H1 Dl = none) :
    ∃ W : Nat → Nat → Hp → Prop, (∃ m, W 0 m (upd H1 Dl (.lst []))) ∧ ∀ i m H, W i m H →
      (J.stop i H ∧ Q (.ref Dl) H) ∨ (J.go i H ∧ ∃ Nx : Hp → Prop, (∀ H', Nx H' → ∃ m', m' < m ∧ W (i + 1) m' H') ∧ ∀ x H', J.yld i H x H' → g x (L2.wipe σ vs) H' fun σ2 H2 => L2.wipe σ2 vs = L2.wipe σ vs ∧ tNT C t σ2 H2 fun b H3 =>
        if b = true then tN C f σ2 H3 fun y H4 => ∃ acc, H4 Dl = some (.lst acc) ∧ acc.length < sizeLine ∧ Nx (upd H4 Dl (.lst (acc ++ [y]))) else Nx H3) := by
  let Z' : Hid := fun a => Z a ∨ a = Dl
  have pD : p ≠ Dl := fun e => by
    obtain ⟨v, c, cells, h1, _⟩ := o.dr
    rw [e, hD] at h1
    cases h1
  have hid1 : ∀ a, H1 a ≠ none → ¬ Z a → ¬ Z' a := fun a h1 h2 h3 => by
    rcases h3 with h3 | h3
    · exact h2 h3
    · rw [h3] at h1; exact h1 hD
  have notD : ¬ Z Dl := o.ok.notZ hD
  have up : ∀ {H : Hp} {v : V} {d : D}, Is C Z' H v d → Is C Z H v d := fun {H v d} h => Is.hide (fun a _ hz z => hz (.inl z)) d v h
  have dr1 : Dr C Z' H1 p := by
    obtain ⟨v, c, cells, h1, h2, h3⟩ := o.dr
    exact ⟨v, c, cells, h1, h2, Is.hide hid1 _ _ h3⟩
  have drUp : ∀ {H : Hp}, Dr C Z' H p → Dr C Z H p := fun {H} ⟨v, c, cells, h1, h2, h3⟩ => ⟨v, c, cells, h1, h2, up h3⟩
  have okZ : ∀ {H : Hp}, GoN C Z p H1 H → Dr C Z' H p → (∃ xs, H Dl = some (.lst xs)) → OkN C Z' p H := fun {H} g dr ⟨xs, h⟩ => ⟨⟨fun z hz => by
    rcases hz with hz | hz
    · exact (o.go g).ok.hid z hz
    · exact ⟨_, by rw [hz]; exact h, fun ps z => by cases z⟩, g.tab⟩, .inl o.zp, dr⟩
  have enw : EnR C Z' H1 (L2.wipe σ vs) (wipeE δ vs) := by
    have e := en.wipe vs
    exact ⟨e.1, fun i d h => let ⟨v, a, b⟩ := e.2 i d h; ⟨v, a, Is.hide hid1 d v b⟩⟩
  have go0 : Go C H1 (upd H1 Dl (.lst [])) := o.ok.new hD
  have ezD : ∀ {H : Hp} {u : HO}, ExZ Z' H (upd H Dl u) := fun {H u} b oo hb h _ => by
    rw [upd_ne (fun z => hb (.inr z))]
    exact h
  have drD : ∀ {H : Hp} {u : HO}, Dr C Z' H p → Dr C Z' (upd H Dl u) p := fun {H u} ⟨v, c, cells, h1, h2, h3⟩ => ⟨v, c, cells, by rw [upd_ne pD]; exact h1, h2, h3.mono1 ezD⟩
  refine lc_it w.2 (fun i H => (GoN C Z p H1 H ∧ ExZ Z' (upd H1 Dl (.lst [])) H) ∧ Dr C Z' H p ∧ ∃ us zs, H Dl = some (.lst us) ∧ IsAll C Z' H us zs ∧ us.length ≤ i ∧ lcW (fun x => tf x (wipeE δ vs)) t f p (ds.drop i) fun r => ∀ v H', GoN C Z p H0 H' → Is C Z H' v (.lst (zs ++ r)) → Q v H')
    ⟨⟨.of o go0, ExZ.refl _ _⟩, drD dr1, [], [], upd_same, .nil, Nat.zero_le _, by simpa using hf⟩ (fun i H _ q => q.1.1.gz o.zp) (fun i x H H' hi q y => ?_) (fun H q => ?_)
  · obtain ⟨⟨g1, e1⟩, d1, us, zs, hL, hA, hl, hr⟩ := q
    obtain ⟨g2, d, hd, is⟩ := y
    have oH := okZ g1 d1 ⟨us, hL⟩
    have is' := is Z' hid1 fun a ha => let ⟨u, h, _⟩ := oH.ok.hid a ha; by rw [h]; simp
    rw [List.drop_eq_getElem_cons hi] at hr
    have ed : ds[i] = d := by
      rw [List.getElem?_eq_getElem hi] at hd
      exact Option.some.inj hd
    rw [ed] at hr
    obtain ⟨δ1, h1, hr⟩ := hr
    have gn2 : GoN C Z' p H H' := .of oH g2
    have oH' := oH.go gn2
    have en1 : EnR C Z' H' (L2.wipe σ vs) (wipeE δ vs) := ((enw.mono (ezD (u := .lst []))).mono e1).goN gn2 oH.zp
    refine gt Z' H' _ _ x d δ1 _ oH'.ok en1 is' h1 fun σ2 en2 hw => ⟨by rw [hw vs hsl, wipe_wipe], Z', δ1, p, oH', en2, mt p δ1 _ _ (fun b hb H3 g3 => ?_) hr⟩
    have oH3 := oH'.go g3
    have hL3 : H3 Dl = some (.lst us) := g3.ex Dl _ (Ne.symm pD) (g2.ex Dl _ hL (fun ps z => by cases z)) (fun ps z => by cases z)
    have gA : GoN C Z p H1 H3 := g1.trans ⟨fun c u n h m => g3.ex c u n (g2.ex c u h m) m, g3.tab, drUp g3.dr⟩
    have eA : ExZ Z' (upd H1 Dl (.lst [])) H3 := (e1.trans g2.z).trans (g3.z oH'.zp)
    have hA3 := (hA.go g2).goN g3 oH'.zp
    cases b with
    | true =>
      show tN C f σ2 H3 _
      refine ⟨Z', δ1, p, oH3, en2.goN g3 oH'.zp, mf p δ1 _ _ (fun yd hy v H4 g4 i4 => ?_) hb⟩
      have hL4 : H4 Dl = some (.lst us) := g4.ex Dl _ (Ne.symm pD) hL3 (fun ps z => by cases z)
      have gB : GoN C Z p H1 H4 := gA.trans ⟨g4.ex, g4.tab, drUp g4.dr⟩
      have hlim : (100000 : Nat) < sizeLine := by rw [sizeLine_eq]; decide
      have hA4 := hA3.goN g4 oH3.zp
      refine ⟨us, hL4, by omega, ⟨⟨fun c u n h m => ?_, tab_upd gB.tab ⟨us, hL4⟩, drUp (drD g4.dr)⟩, (eA.trans (g4.z oH3.zp)).trans ezD⟩, drD g4.dr, us ++ [v], zs ++ [yd], upd_same, ?_, by rw [List.length_append, List.length_singleton]; omega, ?_⟩
      · rw [upd_ne (ne_of_none h hD)]
        exact gB.ex c u n h m
      · exact (IsAll.mono ezD _ _ hA4).append (.cons (i4.mono1 ezD) .nil)
      · refine lcW_mn mt mf _ _ _ (fun ys hys => ?_) hy
        rw [List.append_assoc]
        exact hys
    | false => exact ⟨⟨gA, eA⟩, g3.dr, us, zs, hL3, hA3, by omega, hb⟩
  · obtain ⟨⟨g1, e1⟩, d1, us, zs, hL, hA, hl, hr⟩ := q
    rw [List.drop_length] at hr
    have hr : ∀ v H', GoN C Z p H0 H' → Is C Z H' v (.lst (zs ++ [])) → Q v H' := hr
    rw [List.append_nil] at hr
    have hz := w.1
    exact hr _ H (g0.trans g1) (.lst notD hL (IsAll.hide (fun a _ h z => h (.inl z)) _ _ hA) (by rw [← hA.length]; omega))
section
variable {M : Mm} {X : Cx} {pos : Pos} {elt tg iter : Expr} {ifs : List Expr} {scope : Scope} {own : List (Str × Nat)} {wi : WE (List D)} {g : TG} {tf : D → En → Option En} {sl : List Nat} {t : WE Bool} {f : WE D}
theorem ne_lc (hc : X.calm = true) (hN : X.N.Nodup) (hi : NI M X tg iter wi) (ok : BlkOk X.N X.env.scope scope own) (gt : GT (cs X M) g tf sl)
    (hg : ∀ (s : Shared) (H : Hp) (C : Addr) (cl : List (Str × Addr)) (fp : List Addr), PG (X.blk s H scope (compEnvC scope cl C X.env) fp) tg g) (ht : ∀ (s : Shared) (H : Hp) (C : Addr) (cl : List (Str × Addr)) (fp : List Addr), NTs M (X.blk s H scope (compEnvC scope cl C X.env) fp) ifs t)
    (he : ∀ (s : Shared) (H : Hp) (C : Addr) (cl : List (Str × Addr)) (fp : List Addr), NE M (X.blk s H scope (compEnvC scope cl C X.env) fp) elt f) (mt : Mn t) (mf : Mn f) (hsl : ∀ i ∈ sl, i ∈ own.map (·.2) := by decide) (hs : ∀ x, foldedSetIterable iter X.env x = pure x := by intro _; rfl) :
    NE M X (.ListComp elt [⟨tg, iter, ifs, 0⟩] scope pos) (wLc (own.map (·.2)) wi tf t f) := by
  refine ⟨PE.imp (pe_lc (tt := tNT (cs X M) t) (te := tN (cs X M) f) hc hN hi.pi ok hg (fun s H C cl fp => (ht s H C cl fp).pt) (fun s H C cl fp => (he s H C cl fp).pe) hs) fun σ H Q ⟨Z, δ, p, o, en, q⟩ => ⟨Z, δ, p, o, en, hi.mn p δ _ _ (fun ds ⟨hl, hq⟩ J H1 g1 w Dl hD => ?_) q⟩,
    fun p δ P P' h q => hi.mn p δ _ _ (fun ds ⟨hl, hq⟩ => ⟨hl, lcW_mn mt mf _ _ _ (fun ys hys => h _ hys) hq⟩) q⟩
  exact lcN_imp mt mf (o.go g1) (en.goN g1 o.zp) g1 w gt hsl hl hq hD
end
end Dx
/-! The N layer: statements, loops, defs. -/
namespace Dx
open PySem PySem.Spec PyProof.Rows L2
def ResN (C : Cs) (Z : Hid) (p : Addr) (H : Hp) (E : Ends) (o : Out) : Prop := match o with
  | .nx δ' => ∀ σ' H', GoN C Z p H H' → EnR C Z H' σ' δ' → E.nx σ' H'
  | .rt d => ∀ v H', GoN C Z p H H' → Is C Z H' v d → E.rt v H'
def tNS (C : Cs) (W : WE Out) : TS := fun E σ H => ∃ Z δ p, OkN C Z p H ∧ EnR C Z H σ δ ∧ W p δ fun o => ResN C Z p H E o
structure NS (M : Mm) (X : Cx) (st : Stmt) (W : WE Out) : Prop where
  ps : PS X st (tNS (cs X M) W)
  mn : Mn W
structure NSs (M : Mm) (X : Cx) (st : List Stmt) (W : WE Out) : Prop where
  ps : PSs X st (tNS (cs X M) W)
  mn : Mn W
theorem ResN.go {C : Cs} {Z : Hid} {p : Addr} {H H1 : Hp} {E : Ends} {o : Out} (g : GoN C Z p H H1) (h : ResN C Z p H E o) : ResN C Z p H1 E o := by
  cases o with
  | nx δ => exact fun σ' H' g' en => h σ' H' (g.trans g') en
  | rt d => exact fun v H' g' i => h v H' (g.trans g') i
section
variable {M : Mm} {X : Cx} {pos : Pos} {st : Stmt} {rest : List Stmt} {W V : WE Out} {e : Expr} {w : WE D}
theorem ns_pure {F : En → Option Out} (h : DS M X st F) : NS M X st (wP F) := by
  refine ⟨PS.imp h fun E σ H ⟨Z, δ, p, o, en, r, hr, q⟩ => ⟨Z, δ, r, o.ok, en, hr, ?_⟩, wP_mn⟩
  cases r with
  | nx δ' => exact fun σ' H' g en' => q σ' H' (.of o g) en'
  | rt d => exact fun v H' g i => q v H' (.of o g) i
theorem nss_pure {sts : List Stmt} {F : En → Option Out} (h : DSs M X sts F) : NSs M X sts (wP F) := by
  refine ⟨PSs.imp h fun E σ H ⟨Z, δ, p, o, en, r, hr, q⟩ => ⟨Z, δ, r, o.ok, en, hr, ?_⟩, wP_mn⟩
  cases r with
  | nx δ' => exact fun σ' H' g en' => q σ' H' (.of o g) en'
  | rt d => exact fun v H' g i => q v H' (.of o g) i
def wSeq (W V : WE Out) : WE Out := fun p δ P => W p δ fun o => match o with
  | .nx δ' => V p δ' P
  | .rt d => P (.rt d)
theorem wSeq_mn (m1 : Mn W) (m2 : Mn V) : Mn (wSeq W V) := fun p δ P P' h q => m1 p δ _ _ (fun o ho => by
  cases o with
  | nx δ' => exact m2 p δ' _ _ h ho
  | rt d => exact h _ ho) q
theorem nss_one (h : NS M X st W) : NSs M X [st] W := ⟨pss_one h.ps, h.mn⟩
theorem nss_cons (h1 : NS M X st W) (h2 : NSs M X rest V) : NSs M X (st :: rest) (wSeq W V) := by
  refine ⟨PSs.imp (pss_cons h1.ps h2.ps) fun E σ H ⟨Z, δ, p, o, en, q⟩ => ⟨Z, δ, p, o, en, h1.mn p δ _ _ (fun r hr => ?_) q⟩, wSeq_mn h1.mn h2.mn⟩
  cases r with
  | nx δ' =>
    intro σ1 H1 g1 en1
    refine ⟨Z, δ', p, o.go g1, en1, h2.mn p δ' _ _ (fun r' hr' => ?_) hr⟩
    cases r' with
    | nx δ2 => exact fun σ' H' g2 en2 => hr' σ' H' (g1.trans g2) en2
    | rt d => exact fun v H' g2 i2 => hr' v H' (g1.trans g2) i2
  | rt d => exact hr
def wAsg (w : WE D) (tf : D → En → Option En) : WE Out := fun p δ P => w p δ fun d => ∃ δ', tf d δ = some δ' ∧ P (.nx δ')
theorem wAsg_mn {tf : D → En → Option En} (m : Mn w) : Mn (wAsg w tf) := fun p δ P P' h q => m p δ _ _ (fun d ⟨δ', h1, h2⟩ => ⟨δ', h1, h _ h2⟩) q
theorem ns_set {i : Nat} {x : Str} {pos' : Pos} (hN : X.N.Nodup) (he : NE M X e w) (hi : X.N[i]? = some x := by rfl) (hx : Loc X.env.scope x := by first | exact Or.inl rfl | exact Or.inr rfl)
    (hs : swapsWith e (some (.Name x pos')) pos.line X.env = pure false := by rfl) (hf : X.fn x = true ∨ X.env.scope.names.lookup x = some .local := by first | exact .inl rfl | exact .inr rfl | assumption) : NS M X (.Assign [.Name x pos'] e pos) (wAsg w (t1 i)) := by
  refine ⟨PS.imp (ps_set hN hi hx he.pe hs hf) fun E σ H ⟨Z, δ, p, o, en, q⟩ => ⟨Z, δ, p, o, en, he.mn p δ _ _ (fun d ⟨δ', h1, h2⟩ v H1 g1 i1 => ?_) q⟩, wAsg_mn he.mn⟩
  cases h1
  exact h2 _ H1 g1 ((en.goN g1 o.zp).set i1)
def wRet (w : WE D) : WE Out := fun p δ P => w p δ fun d => P (.rt d)
theorem ns_ret (he : NE M X e w) : NS M X (.Return (some e) pos) (wRet w) :=
  ⟨PS.imp (ps_ret he.pe) fun E σ H ⟨Z, δ, p, o, en, q⟩ => ⟨Z, δ, p, o, en, q⟩, fun p δ P P' h q => he.mn p δ _ _ (fun d hd => h _ hd) q⟩
def wIf (t : WE Bool) (W V : WE Out) : WE Out := fun p δ P => t p δ fun b => if b = true then W p δ P else V p δ P
theorem ns_if {c : Expr} {a b : List Stmt} {t : WE Bool} (hc : NT M X c t) (ha : NSs M X a W) (hb : NSs M X b V) : NS M X (.If c a b pos) (wIf t W V) := by
  refine ⟨PS.imp (ps_if hc.pt ha.ps hb.ps) fun E σ H ⟨Z, δ, p, o, en, q⟩ => ⟨Z, δ, p, o, en, hc.mn p δ _ _ (fun k hk H1 g1 => ?_) q⟩, fun p δ P P' h q => hc.mn p δ _ _ (fun k hk => ?_) q⟩
  · cases k with
    | true => exact ⟨Z, δ, p, o.go g1, en.goN g1 o.zp, ha.mn p δ _ _ (fun r hr => hr.go g1) hk⟩
    | false => exact ⟨Z, δ, p, o.go g1, en.goN g1 o.zp, hb.mn p δ _ _ (fun r hr => hr.go g1) hk⟩
  · cases k with
    | true => exact ha.mn p δ _ _ h hk
    | false => exact hb.mn p δ _ _ h hk
/-- a, b = x, y -/
def wPar (i j : Nat) (ws : WE (List D)) : WE Out := fun p δ P => ws p δ fun ds => ∃ x y, ds = [x, y] ∧ P (.nx ((δ.set i (some x)).set j (some y)))
theorem ns_par {i j : Nat} {x y : Str} {a b : Expr} {ws : WE (List D)} {px py pt : Pos} {kt k2 : Nat} {pt2 : Pos} (hc : X.calm = true) (hN : X.N.Nodup) (ha : NA M X [a, b] ws) (hij : i ≠ j := by decide) (hi : X.N[i]? = some x := by rfl) (hj : X.N[j]? = some y := by rfl)
    (hx : X.env.scope.names.lookup x = some .local := by rfl) (hy : X.env.scope.names.lookup y = some .local := by rfl)
    (hw : swappedStores [.Tuple [.Name x px, .Name y py] kt pt] (.Tuple [a, b] k2 pt2) X.env = pure (some [x, y]) := by rfl)
    (hs : swapsWithSole [.Tuple [.Name x px, .Name y py] kt pt] (.Tuple [a, b] k2 pt2) pos.line X.env = pure false := by rfl) :
    NS M X (.Assign [.Tuple [.Name x px, .Name y py] kt pt] (.Tuple [a, b] k2 pt2) pos) (wPar i j ws) := by
  refine ⟨PS.imp (ps_par hc hN hi hj hij hx hy ha.pa hw hs) fun E σ H ⟨Z, δ, p, o, en, q⟩ => ⟨Z, δ, p, o, en, ha.mn p δ _ _ (fun ds ⟨dx, dy, hd, hP⟩ vs H1 g1 i1 => ?_) q⟩, fun p δ P P' h q => ha.mn p δ _ _ (fun ds ⟨dx, dy, hd, hP⟩ => ⟨dx, dy, hd, h _ hP⟩) q⟩
  subst hd
  cases i1 with
  | cons h1 i1 =>
    cases i1 with
    | cons h2 i1 =>
      cases i1
      exact ⟨_, _, rfl, hP _ H1 g1 (((en.goN g1 o.zp).set h1).set h2)⟩
/-- a for's turns -/
def forW (tf : D → En → Option En) (W : WE Out) (p : Addr) : List D → En → (Out → Prop) → Prop
  | [], δ, P => P (.nx δ)
  | x :: xs, δ, P => ∃ δ1, tf x δ = some δ1 ∧ W p δ1 fun o => match o with
    | .nx δ2 => forW tf W p xs δ2 P
    | .rt d => P (.rt d)
theorem forW_mn {tf : D → En → Option En} (m : Mn W) {p : Addr} : ∀ (ds : List D) (δ : En) (P P' : Out → Prop), (∀ o, P o → P' o) → forW tf W p ds δ P → forW tf W p ds δ P'
  | [], δ, P, P', h, q => h _ q
  | x :: xs, δ, P, P', h, q => by
    obtain ⟨δ1, h1, q⟩ := q
    refine ⟨δ1, h1, m p δ1 _ _ (fun o ho => ?_) q⟩
    cases o with
    | nx δ2 => exact forW_mn m xs δ2 P P' h ho
    | rt d => exact h _ ho
def wFor (wi : WE (List D)) (tf : D → En → Option En) (W : WE Out) : WE Out := fun p δ P => wi p δ fun ds => forW tf W p ds δ P
theorem ns_for {tg iter : Expr} {body : List Stmt} {wi : WE (List D)} {g : TG} {tf : D → En → Option En} {sl : List Nat} (hp : PassesOwn (model X.prog X.w) X.A X.env X.xe) (hc : X.calm = true) (hi : NI M X tg iter wi) (hg : PG X tg g) (gt : GT (cs X M) g tf sl) (hb : NSs M X body W)
    (hs : ∀ x, foldedSetIterable iter X.env x = pure x := by intro _; rfl) : NS M X (.For tg iter body [] pos) (wFor wi tf W) := by
  refine ⟨PS.imp (ps_for hp hc hi.pi hg hb.ps hs) fun E σ H ⟨Z, δ, p, o, en, q⟩ => ⟨Z, δ, p, o, en, hi.mn p δ _ _ (fun ds hds J H1 g1 w => ?_) q⟩, fun p δ P P' h q => hi.mn p δ _ _ (fun ds hds => forW_mn hb.mn ds δ P P' h hds) q⟩
  have o1 := o.go g1
  refine for_it (D := E) w.2 (fun i σ H' => GoN (cs X M) Z p H1 H' ∧ ∃ δi, EnR (cs X M) Z H' σ δi ∧ forW tf W p (ds.drop i) δi fun r => ResN (cs X M) Z p H E r) ⟨.refl o1, δ, en.goN g1 o.zp, by simpa using hds⟩ (fun i σ H' _ q => q.1.gz o.zp) (fun i x σ H' H2 hi q y => ?_) (fun σ H' q => ?_)
  · obtain ⟨g2, δi, eni, hfi⟩ := q
    obtain ⟨g3, d, hd, is⟩ := y
    rw [List.drop_eq_getElem_cons hi] at hfi
    have ed : ds[i] = d := by
      rw [List.getElem?_eq_getElem hi] at hd
      exact Option.some.inj hd
    rw [ed] at hfi
    obtain ⟨δ1, h1, hfi⟩ := hfi
    have o2 := o1.go g2
    have gn3 : GoN (cs X M) Z p H' H2 := .of o2 g3
    have o3 := o2.go gn3
    refine gt Z H2 σ δi x d δ1 _ o3.ok (eni.goN gn3 o.zp) (is Z (fun _ _ h => h) fun a ha => let ⟨u, h, _⟩ := o2.ok.hid a ha; by rw [h]; simp) h1 fun σ2 en2 _ => ⟨Z, δ1, p, o3, en2, hb.mn p δ1 _ _ (fun r hr => ?_) hfi⟩
    cases r with
    | nx δ2 => exact fun σ' H3 g4 en3 => ⟨(g2.trans gn3).trans g4, δ2, en3, hr⟩
    | rt dd => exact fun v H3 g4 i3 => hr v H3 (((g1.trans g2).trans gn3).trans g4) i3
  · obtain ⟨g2, δi, eni, hfi⟩ := q
    rw [List.drop_length] at hfi
    exact hfi σ H' (g1.trans g2) eni
end
/-! ### a def that draws -/
def bodyN (n : Nat) (W : WE Out) : List D → (D → Prop) → Prop := fun ds P => ∀ p, W p ((some (.raw (.ref p)) :: ds.map some) ++ List.replicate (n - (ds.length + 1)) none) fun o => match o with
  | .nx _ => P .non
  | .rt d => P d
theorem calN_mk {P : Program} {w : World} {K : PySem.W.Frag} {mg : Str → Option Value} {base : Heap} {M : Mm} {x : Str} {st : Stmt} {N ps : List Str} {k : Nat} {W : WE Out} (h : At K mg x st ps) (S : FnScope N ps (defScope st)) (mn : Mn W)
    (hb : ∀ (f : Addr) (cdv : Value) (A : Around) (outer : List Env) (s : Shared) (H : Hp) (E : XK), Room k (A.deeper (envOfC x (defScope st) s.heap.objs.size f cdv)) → NSs M (cxOf CX0 P w K mg base N x (defScope st) f cdv A outer s H E).nox (defBody st) W) :
    CalN P w K mg base M x ps (k + 1) (bodyN N.length W) := by
  obtain ⟨a, fd, h1, h2, h3⟩ := h.ex
  refine ⟨⟨a, fd, h2, h1.kp, h3, h1.ok S (fun vs H Q E hh => ?_) fun cdv A outer s H vs Q E hr hh => ?_⟩, fun ds P P' hP q p => mn p _ _ _ (fun o ho => ?_) (q p)⟩
  · obtain ⟨Z, p, us, ds, rfl, _, hA, hl, _⟩ := hh
    rw [List.length_cons, hA.length, hl]
  · obtain ⟨Z, p, us, ds, rfl, o, hA, hl, q⟩ := hh
    refine ⟨_, (hb a cdv A outer s H E hr).ps, ?_⟩
    have en := enR_start (N := N) (C := ⟨P, w, K, M.cl, M.T⟩) (.cons (.raw (.ref p)) hA)
    refine ⟨Z, _, p, o, en, mn p _ _ _ (fun r hr' => ?_) (q p)⟩
    cases r with
    | nx δ' => exact fun σ' H' g' _ => hr' .non H' g' .non
    | rt d' => exact hr'
  · cases o with
    | nx δ' => exact hP _ ho
    | rt d' => exact hP _ ho
theorem CalN.imp {P : Program} {w : World} {K : PySem.W.Frag} {mg : Str → Option Value} {base : Heap} {M : Mm} {x : Str} {ps : List Str} {k : Nat} {W W' : List D → (D → Prop) → Prop} (C : CalN P w K mg base M x ps k W) (mn : ∀ ds (P P' : D → Prop), (∀ d, P d → P' d) → W' ds P → W' ds P')
    (h : ∀ ds P, ds.length + 1 = ps.length → W' ds P → W ds P) : CalN P w K mg base M x ps k W' := by
  obtain ⟨a, fd, h1, h2, h3, h4⟩ := C.ex
  refine ⟨⟨a, fd, h1, h2, h3, h4.imp fun vs H Q E hh => ?_⟩, mn⟩
  obtain ⟨Z, p, us, ds, e, o, hA, hl, q⟩ := hh
  exact ⟨Z, p, us, ds, e, o, hA, hl, h ds _ hl q⟩
end Dx
/-! The draws: _law_next, _law_pick, _law_set, _law_rule, _law_plain. -/
namespace Dx
open PySem PySem.Spec PyProof.Rows L2
section
variable {M : Mm} {X : Cx} {pos : Pos} {e a b : Expr} {es : List Expr} {w wa wb : WE D} {ws : WE (List D)}
theorem ne_imp (h : NE M X e w) {w' : WE D} (m : Mn w') (hi : ∀ p δ P, w' p δ P → w p δ P) : NE M X e w' :=
  ⟨PE.imp h.pe fun σ H Q ⟨Z, δ, p, o, en, q⟩ => ⟨Z, δ, p, o, en, hi _ _ _ q⟩, m⟩
theorem ne_callP {x : Str} {ps : List Str} {k n : Nat} {g : List D → Option D} {pp : Pos} (C : Cal X.prog X.w X.K X.mg X.base M x ps k g) (hr : Room k X.A) (ha : NA M X (a :: es) ws) (hn : ps.length = n := by rfl) (hg : Gl X x := by rfl)
    (he : starEach (a :: es) X.env = (false, eval a X.env) :: starEach es X.env := by rfl) (hpl : (backTo pos (starEach es X.env)).any (·.1) = false := by rfl) (hdb : (x == ("__debug__" : Str)) = false := by decide) : NE M X (.Call (.Name x pp) (a :: es) [] pos) (wCall (gN n g) ws) := by
  obtain ⟨f, fd, h1, h2, h3, h4⟩ := C.ex
  subst hn
  refine ⟨PE.imp (pe_call h4 hr hg h1 h2 h3 .nil (pass0 (X := X)) ha.pa hdb he hpl) fun σ H Q ⟨Z, δ, p, o, en, q⟩ => ?_, wCall_mn ha.mn⟩
  refine ⟨Z, δ, p, o, en, ha.mn p δ _ _ (fun ds ⟨d, hd, qd⟩ vs H1 g1 i1 => ?_) q⟩
  obtain ⟨hl, hg⟩ := gN_some hd
  show spD (cs X M) ps.length g (vs ++ []) H1 Q E0
  rw [List.append_nil]
  have o1 := o.go g1
  exact ⟨Z, ds, d, o1.ok, i1, hl, hg, fun v H' g2 i2 => qd v H' (g1.trans (.of o1 g2)) i2⟩
/-- what stands at place j of the list of the draws -/
def drAt : Nat → D → Prop
  | 0, d => ∃ cells : List Int, d = .lst (cells.map D.int)
  | 1, d => d = .int 0
  | 2, d => ∃ c : Int, 0 ≤ c ∧ d = .int c
  | _, _ => False
def wDr (i j : Nat) : WE D := fun p δ P => fV i δ = some (.raw (.ref p)) ∧ ∀ d, drAt j d → P d
theorem wDr_mn {i j : Nat} : Mn (wDr i j) := fun p δ P P' h q => ⟨q.1, fun d hd => h d (q.2 d hd)⟩
theorem raw_at {C : Cs} {Z : Hid} {H : Hp} {σ : L2.St} {δ : En} {i : Nat} {p : Addr} (en : EnR C Z H σ δ) (h : fV i δ = some (.raw (.ref p))) : σ[i]? = some (some (.ref p)) := by
  obtain ⟨v, hv, is⟩ := en.2 i (.raw (.ref p)) (by
    unfold fV at h
    cases e : δ[i]? with
    | none => rw [e] at h; cases h
    | some u =>
      rw [e] at h
      cases u with
      | none => cases h
      | some u => cases h; rfl)
  cases is
  exact hv
theorem ne_dr {i : Nat} (j : Nat) {y : Str} {py pj : Pos} {n : Nat} (hy : PE X (.Name y py) (tVar i)) (hj : j < 3) : NE M X (.Subscript (.Name y py) (.Constant (.int (j : Int)) n pj) pos) (wDr i j) := by
  refine ⟨PE.imp (pe_ix ix_list hy pe_int (by intro _ _; rfl)) fun σ H Q ⟨Z, δ, p, o, en, hi, q⟩ => ?_, wDr_mn⟩
  obtain ⟨v, c, cells, h1, h2, h3⟩ := o.dr
  have hv := raw_at en hi
  match j, hj with
  | 0, _ => exact ⟨_, hv, p, _, 0, v, rfl, rfl, .inl (.inl h1), rfl, q _ ⟨cells, rfl⟩ _ H (.refl o) h3⟩
  | 1, _ => exact ⟨_, hv, p, _, 1, .int 0, rfl, rfl, .inl (.inl h1), rfl, q _ rfl _ H (.refl o) (.int _)⟩
  | 2, _ => exact ⟨_, hv, p, _, 2, .int c, rfl, rfl, .inl (.inl h1), rfl, q _ ⟨c, h2, rfl⟩ _ H (.refl o) (.int _)⟩
theorem ns_inc {i : Nat} {y : Str} {py py2 pb p1 p2 p3 p4 p5 : Pos} {n1 n2 n3 : Nat} (hy : PE X (.Name y py) (tVar i)) (hy2 : PE X (.Name y py2) (tVar i))
    (hsw : swapsWithSole [.Subscript (.Name y py) (.Constant (.int 2) n1 p1) p3] (.BinOp (.Subscript (.Name y py2) (.Constant (.int 2) n2 p2) p4) .Add (.Constant (.int 1) n3 pb) p5) pos.line X.env = pure false := by rfl) :
    NS M X (.Assign [.Subscript (.Name y py) (.Constant (.int 2) n1 p1) p3] (.BinOp (.Subscript (.Name y py2) (.Constant (.int 2) n2 p2) p4) .Add (.Constant (.int 1) n3 pb) p5) pos) (fun p δ P => fV i δ = some (.raw (.ref p)) ∧ P (.nx δ)) := by
  refine ⟨PS.imp (ps_asg (pe_op op_add (pe_ix ix_list hy2 pe_int (by intro _ _; rfl)) pe_int) (pg_sub hy pe_int set_list) hsw) fun E σ H ⟨Z, δ, p, o, en, hi, q⟩ => ?_, fun p δ P P' h q => ⟨q.1, h _ q.2⟩⟩
  obtain ⟨v, c, cells, hp, h2, h3⟩ := o.dr
  have hv := raw_at en hi
  refine ⟨_, hv, p, _, 2, .int c, rfl, rfl, .inl (.inl hp), rfl, ?_⟩
  refine ⟨c, 1, rfl, rfl, ?_⟩
  refine ⟨_, hv, p, _, 2, 2, rfl, rfl, hp, rfl, ?_⟩
  have ez : ExZ Z H (upd H p (.lst [v, .int 0, .int (c + 1)])) := fun b u hb h _ => by
    rw [upd_ne (fun z => hb (by rw [z]; exact o.zp))]
    exact h
  exact q σ _ ⟨fun b u hb h _ => by rw [upd_ne hb]; exact h, tab_upd o.ok.tab ⟨_, hp⟩, v, c + 1, cells, upd_same, by omega, h3.mono1 ez⟩ (en.mono ez)
end
end Dx
/-! What _law_cell_at, _law_draw and _law_number answer; the defs that draw. -/
namespace Dx
open PySem PySem.Spec PyProof.Rows L2
section
variable {δ : En} {fa fb : En → Option D} {i j : Int}
theorem e_mul (h1 : fa δ = some (.int i)) (h2 : fb δ = some (.int j)) (h : cMul i j = true) : f2 gMul fa fb δ = some (.int (i * j)) := (s_f2 h1 h2).trans (if_pos h)
theorem e_mod (h1 : fa δ = some (.int i)) (h2 : fb δ = some (.int j)) (h : 0 < j) : f2 gMod fa fb δ = some (.int (i % j)) := (s_f2 h1 h2).trans (if_pos (decide_eq_true h))
theorem e_div (h1 : fa δ = some (.int i)) (h2 : fb δ = some (.int j)) (h : cDiv i j = true) : f2 gDiv fa fb δ = some (.int (i / j)) := (s_f2 h1 h2).trans (if_pos h)
theorem e_add (h1 : fa δ = some (.int i)) (h2 : fb δ = some (.int j)) : f2 gAdd fa fb δ = some (.int (i + j)) := s_f2 h1 h2
theorem e_int (h1 : fa δ = some (.int i)) : fCall gInt (aCons fa aNil) δ = some (.int i) := s_fCall (s_aCons h1 s_aNil)
end
theorem log2_le {n m : Nat} (h : n < 2 ^ m) (hm : 0 < m) : n.log2 < m := by
  by_cases h0 : n = 0
  · subst h0
    exact hm
  · exact (Nat.log2_lt h0).mpr h
theorem cMul_ok {i j : Int} (hi : i.natAbs < 2 ^ 64) (hj : j.natAbs < 2 ^ 250) : cMul i j = true := decide_eq_true (by
  have := log2_le hi (by decide)
  have := log2_le hj (by decide)
  omega)
theorem ev_cell_at (cells : List Int) (k : Int) (h : 0 ≤ k) : ∃ n, bodyG 2 F__law_cell_at [.lst (cells.map D.int), .int k] = some (.int n) := by
  have e1 : f2 gLt (fV 1) (fCall gLenX (aCons (fV 0) aNil)) [some (.lst (cells.map D.int)), some (.int k)] = some (.bl (decide (k < ((cells.map D.int).length : Int)))) := rfl
  by_cases hk : k < ((cells.map D.int).length : Int)
  · have hl : k.toNat < cells.length := by rw [List.length_map] at hk; omega
    refine ⟨cells[k.toNat], s_body (s_sSeqR ?_)⟩
    refine (s_sIf (s_fB e1)).trans ?_
    rw [if_pos (decide_eq_true hk)]
    refine s_sRet ((s_f2 rfl rfl).trans ?_)
    have hk' : k = (k.toNat : Int) := by omega
    show atI (cells.map D.int) k = _
    refine (congrArg (atI (cells.map D.int)) hk').trans (atI_nat (v := D.int cells[k.toNat]) ?_)
    rw [List.getElem?_map, List.getElem?_eq_getElem hl]
    rfl
  · refine ⟨0, s_body ((s_sSeqN (δ' := [some (.lst (cells.map D.int)), some (.int k)]) ((s_sIf (s_fB e1)).trans ?_)).trans (s_sRet rfl))⟩
    rw [if_neg (by rw [decide_eq_true_eq]; exact hk)]
    exact s_sNil
theorem ev_draw (x k : Int) (hx : x.natAbs < 2 ^ 250) (h1 : 1 ≤ k) (h2 : k ≤ 9) : ∃ i, bodyG 4 F__law_draw [.int x, .int k, .int 999983] = some (.int i) ∧ 0 ≤ i ∧ i < 999983 := by
  let ps : List D := [.int 1000003, .int 1000033, .int 1000037, .int 1000039, .int 1000081, .int 1000099, .int 1000117, .int 1000121, .int 1000133, .int 1000151, .int 1000159, .int 1000171, .int 1000183, .int 1000187, .int 1000193, .int 1000199]
  have hp : ∃ q : Int, 0 < q ∧ gIxX (.tup ps) (.int (k % 16)) = some (.int q) := by
    have hk : k = 1 ∨ k = 2 ∨ k = 3 ∨ k = 4 ∨ k = 5 ∨ k = 6 ∨ k = 7 ∨ k = 8 ∨ k = 9 := by omega
    rcases hk with h | h | h | h | h | h | h | h | h <;> subst h <;> exact ⟨_, by decide, rfl⟩
  obtain ⟨q, hq, eq⟩ := hp
  refine ⟨(x * 48271 + k * 69621) % q % 999983, s_body ((s_sSeqN (s_sAsg (d := .tup ps) rfl rfl)).trans (s_sRet ?_)), Int.emod_nonneg _ (by decide), Int.emod_lt_of_pos _ (by decide)⟩
  have hx' : cMul x 48271 = true := decide_eq_true (by
    have := log2_le hx (by decide)
    have : (48271 : Int).natAbs.log2 = 15 := by decide
    omega)
  refine e_mod (e_mod (e_int (e_add (e_mul rfl rfl hx') (e_mul rfl rfl (cMul_ok (by omega) (by decide))))) ((s_f2 (x := .tup ps) rfl (e_mod (i := k) (j := 16) (e_int rfl) rfl (by decide))).trans eq) hq) rfl (by decide)
theorem loop_number (c k b : Int) (a5 a6 : Option D) : ∀ (n : Nat) (xs : List D) (j : Nat) (x : Option D), xs.length = n → n + j ≤ 24 →
    ∃ x', forF (t1 4) (sAsg (f2 gMul (fV 3) (fC (.int 1009))) (t1 3)) xs [some (.int c), some (.int k), some (.int b), some (.int (1009 ^ j)), x, a5, a6] = some (.nx [some (.int c), some (.int k), some (.int b), some (.int (1009 ^ (j + n))), x', a5, a6])
  | 0, [], j, x, _, _ => ⟨x, rfl⟩
  | n + 1, y :: ys, j, x, hl, hj => by
    obtain ⟨x', h⟩ := loop_number c k b a5 a6 n ys (j + 1) (some y) (by simpa using hl) (by omega)
    refine ⟨x', ?_⟩
    have hb : ((1009 : Int) ^ j).natAbs < 2 ^ 250 := by
      have h1 : ((1009 : Int) ^ j).natAbs = 1009 ^ j := by
        rw [Int.natAbs_pow]
        rfl
      rw [h1]
      calc 1009 ^ j ≤ 1009 ^ 24 := Nat.pow_le_pow_right (by decide) (by omega)
        _ < 2 ^ 250 := by decide
    have e1 : sAsg (f2 gMul (fV 3) (fC (.int 1009))) (t1 3) [some (.int c), some (.int k), some (.int b), some (.int (1009 ^ j)), some y, a5, a6] = some (.nx [some (.int c), some (.int k), some (.int b), some (.int (1009 ^ (j + 1))), some y, a5, a6]) := by
      refine s_sAsg (e_mul (i := 1009 ^ j) (j := 1009) rfl rfl ?_) ?_
      · have := log2_le (n := ((1009 : Int) ^ j).natAbs) (m := 250) hb (by decide)
        exact decide_eq_true (by have : (1009 : Int).natAbs.log2 = 9 := by decide
                                 omega)
      · rw [Int.pow_succ]
        rfl
    unfold forF
    show ((sAsg (f2 gMul (fV 3) (fC (.int 1009))) (t1 3) [some (.int c), some (.int k), some (.int b), some (.int (1009 ^ j)), some y, a5, a6]).bind _) = _
    rw [e1]
    rw [show j + (n + 1) = j + 1 + n by omega]
    exact h
theorem ev_number {g : List D → Option D} (hg : ∀ x k : Int, x.natAbs < 2 ^ 250 → 1 ≤ k → k ≤ 9 → ∃ i, g [.int x, .int k, .int 999983] = some (.int i) ∧ 0 ≤ i ∧ i < 999983) (c k b : Int) (h1 : 1 ≤ k) (h2 : k ≤ 12) (hb : 0 < b) :
    ∃ i, bodyG 7 (F__law_number g) [.int c, .int k, .int b] = some (.int i) ∧ 0 ≤ i ∧ i < b := by
  have hk : (k % 24).toNat ≤ 23 := by omega
  obtain ⟨x', hl⟩ := loop_number c k b none none (rangeD (k % 24)).length (rangeD (k % 24)) 0 none rfl (by unfold rangeD; rw [List.length_map, List.length_range]; omega)
  generalize hn : (rangeD (k % 24)).length = n at hl
  have hn24 : n ≤ 23 := by rw [← hn]; unfold rangeD; rw [List.length_map, List.length_range]; exact hk
  rw [Nat.zero_add] at hl
  have s1 : sFor (iRange (f2 gMod (fCall gInt (aCons (fV 1) aNil)) (fC (.int 24)))) (t1 4) (sAsg (f2 gMul (fV 3) (fC (.int 1009))) (t1 3)) [some (.int c), some (.int k), some (.int b), some (.int (1009 ^ 0)), none, none, none] = some (.nx [some (.int c), some (.int k), some (.int b), some (.int (1009 ^ n)), x', none, none]) := by
    unfold sFor
    rw [s_iRange (n := k % 24) (e_mod (i := k) (j := 24) (e_int rfl) rfl (by decide)) (by omega) (by omega)]
    exact hl
  have hp : 1009 ^ n ≤ 1009 ^ 23 := Nat.pow_le_pow_right (by decide) hn24
  have hp0 : 0 < 1009 ^ n := Nat.pow_pos (by decide)
  have hpa : ((1009 : Int) ^ n).natAbs = 1009 ^ n := by
    rw [Int.natAbs_pow]
    rfl
  have hpi : (1009 : Int) ^ n = ((1009 ^ n : Nat) : Int) := by
    rw [Int.natCast_pow]
    rfl
  have hd : cDiv (c - 10 ^ 18) (1009 ^ n) = true := by
    unfold cDiv
    rw [Bool.and_eq_true, decide_eq_true_eq, decide_eq_true_eq, hpa]
    refine ⟨by rw [hpi]; omega, ?_⟩
    have : 1009 ^ n < 2 ^ 250 := Nat.lt_of_le_of_lt hp (by decide)
    have := log2_le this (by decide)
    omega
  generalize hr : (c - 10 ^ 18) / (1009 : Int) ^ n = r
  have s2 : sAsg (f2 gDiv (f2 gSub (fV 0) (f2 gPow (fC (.int 10)) (fC (.int 18)))) (fV 3)) (t1 5) [some (.int c), some (.int k), some (.int b), some (.int (1009 ^ n)), x', none, none] = some (.nx [some (.int c), some (.int k), some (.int b), some (.int (1009 ^ n)), x', some (.int r), none]) := by
    have e0 : f2 gPow (fC (.int 10)) (fC (.int 18)) [some (.int c), some (.int k), some (.int b), some (.int (1009 ^ n)), x', none, none] = some (.int (10 ^ 18)) := (s_f2 (x := .int 10) (y := .int 18) rfl rfl).trans (by with_unfolding_all rfl)
    refine s_sAsg (e_div (i := c - 10 ^ 18) (j := 1009 ^ n) (s_f2 (x := .int c) (y := .int (10 ^ 18)) rfl e0) rfl hd) ?_
    rw [hr]
    rfl
  have e3 : f2 gGt (fV 5) (fC (.int 0)) [some (.int c), some (.int k), some (.int b), some (.int (1009 ^ n)), x', some (.int r), none] = some (.bl (decide (r > 0))) := rfl
  by_cases hr0 : r > 0
  · refine ⟨r % 1009 % b, s_body ((s_sSeqN (s_sAsg rfl rfl)).trans ((s_sSeqN s1).trans ((s_sSeqN s2).trans (s_sSeqR ((s_sIf (s_fB e3)).trans ?_))))), Int.emod_nonneg _ (by omega), Int.emod_lt_of_pos _ hb⟩
    rw [if_pos (decide_eq_true hr0)]
    exact s_sRet (e_mod (e_mod (e_int rfl) rfl (by decide)) rfl hb)
  · have sm0 := Int.emod_nonneg c (b := 1000003) (by decide)
    have sm1 := Int.emod_lt_of_pos c (b := 1000003) (by decide)
    have s4 : sIf (fB (f2 gGt (fV 5) (fC (.int 0)))) (sRet (f2 gMod (f2 gMod (fCall gInt (aCons (fV 5) aNil)) (fC (.int 1009))) (fV 2))) sNil [some (.int c), some (.int k), some (.int b), some (.int (1009 ^ n)), x', some (.int r), none] = some (.nx [some (.int c), some (.int k), some (.int b), some (.int (1009 ^ n)), x', some (.int r), none]) := by
      rw [s_sIf (s_fB e3), if_neg (by rw [decide_eq_true_eq]; exact hr0)]
      rfl
    generalize hs : c % 1000003 = s at sm0 sm1
    have hm0 : 0 ≤ (s + 977 * k) * (s + 31 * k + 5) := Int.mul_nonneg (by omega) (by omega)
    have hm1 : (s + 977 * k) * (s + 31 * k + 5) ≤ 1100000 * 1100000 := Int.mul_le_mul (by omega) (by omega) (by omega) (by decide)
    obtain ⟨i, hi, _, _⟩ := hg ((s + 977 * k) * (s + 31 * k + 5)) (k % 9 + 1) (by
      have : ((s + 977 * k) * (s + 31 * k + 5)).natAbs ≤ 1100000 * 1100000 := by omega
      exact Nat.lt_of_le_of_lt this (by decide)) (by omega) (by omega)
    refine ⟨i % b, s_body ((s_sSeqN (s_sAsg rfl rfl)).trans ((s_sSeqN s1).trans ((s_sSeqN s2).trans ((s_sSeqN s4).trans ((s_sSeqN (s_sAsg (d := .int s) ?_ rfl)).trans (s_sRet ?_)))))), Int.emod_nonneg _ (by omega), Int.emod_lt_of_pos _ hb⟩
    · rw [← hs]
      exact e_mod (e_int rfl) rfl (by decide)
    · refine e_mod ?_ rfl hb
      have lt : ∀ {z : Int}, z.natAbs < 2 ^ 64 → z.natAbs < 2 ^ 250 := fun h => Nat.lt_trans h (by decide)
      let δ : En := [some (.int c), some (.int k), some (.int b), some (.int (1009 ^ n)), x', some (.int r), some (.int s)]
      have a1 : f2 gMul (fC (.int 977)) (fV 1) δ = some (.int (977 * k)) := e_mul rfl rfl (cMul_ok (by decide) (lt (by omega)))
      have a2 : f2 gMul (fC (.int 31)) (fV 1) δ = some (.int (31 * k)) := e_mul rfl rfl (cMul_ok (by decide) (lt (by omega)))
      have a3 : f2 gMul (f2 gAdd (fV 6) (f2 gMul (fC (.int 977)) (fV 1))) (f2 gAdd (f2 gAdd (fV 6) (f2 gMul (fC (.int 31)) (fV 1))) (fC (.int 5))) δ = some (.int ((s + 977 * k) * (s + 31 * k + 5))) :=
        e_mul (e_add rfl a1) (e_add (i := s + 31 * k) (j := 5) (e_add rfl a2) rfl) (cMul_ok (by omega) (lt (by omega)))
      have a4 : f2 gAdd (f2 gMod (fCall gInt (aCons (fV 1) aNil)) (fC (.int 9))) (fC (.int 1)) δ = some (.int (k % 9 + 1)) := e_add (i := k % 9) (j := 1) (e_mod (i := k) (j := 9) (e_int rfl) rfl (by decide)) rfl
      exact (s_fCall (s_aCons a3 (s_aCons a4 (s_aCons (x := .int 999983) rfl s_aNil)))).trans ((s_gN rfl).trans hi)
end Dx
/-! _law_next, _law_pick, _law_set, _law_rule, _law_plain: any answer within the bounds. -/
namespace Dx
open PySem PySem.Spec PyProof.Rows L2
def cMulS (i _ : Int) : Bool := decide (-(2 ^ 64) < i) && decide (i < 2 ^ 64)
theorem rd_mulS {C : Cs} : RD C (rI CMul fun i j => .int (i * j)) (gI2 cMulS fun i j => i * j) := rd_I2 fun i j h => by
  unfold cMulS at h
  rw [Bool.and_eq_true, decide_eq_true_eq, decide_eq_true_eq] at h
  exact .inl h
theorem gI2_of {c : Int → Int → Bool} {k : Int → Int → Int} {i j : Int} (h : c i j = true) : gI2 c k (.int i) (.int j) = some (.int (k i j)) := if_pos h
def wNext : List D → (D → Prop) → Prop := fun ds P => ∃ b : Int, ds = [.int b] ∧ 0 < b ∧ ∀ i : Int, 0 ≤ i → i < b → P (.int i)
theorem sc__law_next : FnScope ["_law_draw_here", "_law_bound", "_law_at", "_law_cell"] ["_law_draw_here", "_law_bound"] (defScope (top 42)) := ⟨rfl, rfl, rfl, by decide +kernel, rfl, by decide +kernel, by decide +kernel⟩
theorem sc__law_pick : FnScope ["_law_draw_here", "_law_things"] ["_law_draw_here", "_law_things"] (defScope (top 43)) := ⟨rfl, rfl, rfl, by decide +kernel, rfl, by decide +kernel, by decide +kernel⟩
theorem sc__law_set : FnScope ["_law_draw_here", "_law_marks", "_law_mark"] ["_law_draw_here", "_law_marks"] (defScope (top 47)) := ⟨rfl, rfl, rfl, by decide +kernel, rfl, by decide +kernel, by decide +kernel⟩
theorem sc__law_rule : FnScope ["_law_draw_here", "_law_marks"] ["_law_draw_here", "_law_marks"] (defScope (top 48)) := ⟨rfl, rfl, rfl, by decide +kernel, rfl, by decide +kernel, by decide +kernel⟩
theorem sc__law_plain : FnScope ["_law_draw_here", "_law_most", "_law_many", "_law_marks", "_law_turn"] ["_law_draw_here", "_law_most", "_law_many"] (defScope (top 49)) := ⟨rfl, rfl, rfl, by decide +kernel, rfl, by decide +kernel, by decide +kernel⟩
section
variable {P : Program} {w : World} {K : PySem.W.Frag} {mg : Str → Option Value} {base : Heap} {M : Mm}
theorem pv {X : Cx} (i : Nat) {x : Str} {pos : Pos} (hN : X.N[i]? = some x := by rfl) (hv : Vis X.env.scope x := by first | exact Or.inl rfl | exact Or.inr (Or.inl rfl) | exact Or.inr (Or.inr rfl)) (hd : (x == ("__debug__" : Str)) = false := by decide)
    (hcd : (x == ("__classdict__" : Str)) = false := by decide) : PE X (.Name x pos) (tVar i) := pe_var (i := i) hN hv hd hcd
theorem wNext_mn : ∀ ds (P P' : D → Prop), (∀ d, P d → P' d) → wNext ds P → wNext ds P' := fun ds P P' h ⟨b, h1, h2, h3⟩ => ⟨b, h1, h2, fun i a c => h _ (h3 i a c)⟩
theorem calN_mk' {x : Str} {st : Stmt} {N ps : List Str} {k : Nat} {W : WE Out} {W' : List D → (D → Prop) → Prop} (h : At K mg x st ps) (S : FnScope N ps (defScope st)) (mn : ∀ ds (P P' : D → Prop), (∀ d, P d → P' d) → W' ds P → W' ds P')
    (hb : ∀ (f : Addr) (cdv : Value) (A : Around) (outer : List Env) (s : Shared) (H : Hp) (E : XK), Room k (A.deeper (envOfC x (defScope st) s.heap.objs.size f cdv)) → NSs M (cxOf CX0 P w K mg base N x (defScope st) f cdv A outer s H E).nox (defBody st) W)
    (hi : ∀ ds P, ds.length + 1 = ps.length → W' ds P → bodyN N.length W ds P) : CalN P w K mg base M x ps (k + 1) W' := by
  obtain ⟨a, fd, h1, h2, h3⟩ := h.ex
  refine ⟨⟨a, fd, h2, h1.kp, h3, h1.ok S (fun vs H Q E hh => ?_) fun cdv A outer s H vs Q E hr hh => ?_⟩, mn⟩
  · obtain ⟨Z, p, us, ds, rfl, _, hA, hl, _⟩ := hh
    rw [List.length_cons, hA.length, hl]
  · obtain ⟨Z, p, us, ds, rfl, o, hA, hl, q⟩ := hh
    have B := hb a cdv A outer s H E hr
    refine ⟨_, B.ps, ?_⟩
    have en := enR_start (N := N) (C := ⟨P, w, K, M.cl, M.T⟩) (.cons (.raw (.ref p)) hA)
    refine ⟨Z, _, p, o, en, B.mn p _ _ _ (fun r hr' => ?_) (hi ds _ hl q p)⟩
    cases r with
    | nx δ' => exact fun σ' H' g' _ => hr' .non H' g' .non
    | rt d' => exact hr'
theorem len1 {ds : List D} (h : ds.length + 1 = 2) : ∃ x, ds = [x] := by
  match ds, h with
  | [x], _ => exact ⟨x, rfl⟩
theorem raw_next {gc gn : List D → Option D} (T : Tx K mg M) (A : At K mg "_law_next" (top 42) ["_law_draw_here", "_law_bound"]) (Cc : Cal P w K mg base M "_law_cell_at" ["_law_script", "_law_k"] 1 gc) (Cn : Cal P w K mg base M "_law_number" ["_law_cell", "_law_k", "_law_bound"] 2 gn)
    (hc : ∀ (cells : List Int) (k : Int), 0 ≤ k → ∃ n, gc [.lst (cells.map D.int), .int k] = some (.int n))
    (hn : ∀ c k b : Int, 1 ≤ k → k ≤ 12 → 0 < b → ∃ i, gn [.int c, .int k, .int b] = some (.int i) ∧ 0 ≤ i ∧ i < b) : CalN P w K mg base M "_law_next" ["_law_draw_here", "_law_bound"] 3 wNext := by
  refine calN_mk' A sc__law_next wNext_mn (fun f cdv A outer s H E hr => nss_cons (ns_inc (i := 0) (pv 0) (pv 0))
    (nss_cons (ns_set (i := 2) sc__law_next.nd (ne_op op_fdivW rd_div (ne_dr (i := 0) 2 (pv 0) (by decide)) (ne_pure de_int)))
    (nss_cons (ns_set (i := 3) sc__law_next.nd (ne_op op_addAll rd_add (ne_callP Cc (hr.mono (by decide)) (na_cons (ne_dr (i := 0) 0 (pv 0) (by decide)) (na_cons (ne_op op_addAll rd_add (ne_dr (i := 0) 1 (pv 0) (by decide)) (ne_pure (de_v 2))) na_nil))) (ne_op op_mul rd_mulS (ne_pure de_int) (ne_pure (de_v 2)))))
    (nss_one (ns_ret (ne_callP Cn (hr.mono (by decide)) (na_cons (ne_pure (de_v 3)) (na_cons (ne_op op_addAll rd_add (ne_op op_mod rd_mod (ne_callTy call_int rc_int (by rfl) T.int (by rfl) (na_cons (ne_dr (i := 0) 2 (pv 0) (by decide)) na_nil)) (ne_pure de_int)) (ne_pure de_int)) (na_cons (ne_pure (de_v 1)) na_nil))))))))) ?_
  intro ds Q hl hW p
  obtain ⟨b, rfl, hb, hq⟩ := hW
  refine ⟨rfl, ?_⟩
  refine ⟨rfl, fun d ⟨c, hc0, hd⟩ => ?_⟩
  subst hd
  refine ⟨_, rfl, .int (c / 12), gI2_of (by first | (unfold cDiv; decide) | (unfold cMulS; decide) | (unfold cMod; decide)), _, rfl, ?_⟩
  refine ⟨rfl, fun d ⟨cells, hd⟩ => ?_⟩
  subst hd
  refine ⟨rfl, fun d hd => ?_⟩
  have hd : d = .int 0 := hd
  subst hd
  refine ⟨_, rfl, .int (0 + c / 12), rfl, ?_⟩
  obtain ⟨n, en⟩ := hc cells (0 + c / 12) (by omega)
  refine ⟨.int n, (s_gN rfl).trans en, ?_⟩
  refine ⟨_, rfl, _, rfl, .int (31 * (c / 12)), gI2_of (by unfold cMulS; decide), .int (n + 31 * (c / 12)), rfl, _, rfl, ?_⟩
  refine ⟨_, rfl, ?_⟩
  refine ⟨rfl, fun d ⟨c2, hc2, hd⟩ => ?_⟩
  subst hd
  refine ⟨.int c2, rfl, _, rfl, .int (c2 % 12), gI2_of (by unfold cMod; decide), _, rfl, .int (c2 % 12 + 1), rfl, ?_⟩
  refine ⟨_, rfl, ?_⟩
  obtain ⟨i, ei, i0, i1⟩ := hn (n + 31 * (c / 12)) (c2 % 12 + 1) b (by omega) (by omega) hb
  exact ⟨.int i, (s_gN rfl).trans ei, hq i i0 i1⟩
def wPick : List D → (D → Prop) → Prop := fun ds P => ∃ xs, ds = [.lst xs] ∧ xs ≠ [] ∧ ∀ x ∈ xs, P x
theorem wPick_mn : ∀ ds (P P' : D → Prop), (∀ d, P d → P' d) → wPick ds P → wPick ds P' := fun ds P P' h ⟨b, h1, h2, h3⟩ => ⟨b, h1, h2, fun i a => h _ (h3 i a)⟩
theorem raw_pick (T : Tx K mg M) (A : At K mg "_law_pick" (top 43) ["_law_draw_here", "_law_things"]) (Cx : CalN P w K mg base M "_law_next" ["_law_draw_here", "_law_bound"] 3 wNext) : CalN P w K mg base M "_law_pick" ["_law_draw_here", "_law_things"] 4 wPick := by
  refine calN_mk' A sc__law_pick wPick_mn (fun f cdv A outer s H E hr => nss_one (ns_ret (ne_ix hr (ne_pure (de_v 1)) (ne_cal Cx (hr.mono (by decide)) (pv 0) (na_cons (ne_pure (de_callB (call_lenY (M := M)) rc_lenY (by rfl) T.len (by rfl) (da_cons (de_v 1) da_nil))) na_nil))))) ?_
  intro ds Q hl hW p
  obtain ⟨xs, rfl, h0, hq⟩ := hW
  refine ⟨.lst xs, rfl, rfl, .int xs.length, rfl, rfl, xs.length, rfl, ?_, fun i i0 i1 => ?_⟩
  · cases xs with
    | nil => exact absurd rfl h0
    | cons x xs => rw [List.length_cons]; omega
  · have hi : i.toNat < xs.length := by omega
    have ei : i = (i.toNat : Int) := by omega
    refine ⟨xs[i.toNat], ?_, hq _ (List.getElem_mem hi)⟩
    show atI xs i = _
    exact (congrArg (atI xs) ei).trans (atI_nat (List.getElem?_eq_getElem hi))
/-- a set of marks below m -/
def Vs (m : Int) (s : Sx) : Prop := s.Pairwise (· < ·) ∧ ∀ i ∈ s, 0 ≤ i ∧ i < m
def Vr (m : Int) (r : Rl) : Prop := Vs m r.1 ∧ Vs m r.2
def wSet : List D → (D → Prop) → Prop := fun ds P => ∃ m : Int, ds = [.int m] ∧ 0 ≤ m ∧ m ≤ 100 ∧ ∀ s, Vs m s → P (tS s)
def wRule : List D → (D → Prop) → Prop := fun ds P => ∃ m : Int, ds = [.int m] ∧ 0 ≤ m ∧ m ≤ 100 ∧ ∀ r, Vr m r → P (tR r)
def wPlain : List D → (D → Prop) → Prop := fun ds P => ds = [.int 4, .int 4] ∧ ∀ (m : Int) (rs : List Rl), 1 ≤ m → m ≤ 4 → rs.length ≤ 4 → (∀ r ∈ rs, Vr m r) → P (.tup [.int m, tRs rs])
theorem wSet_mn : ∀ ds (P P' : D → Prop), (∀ d, P d → P' d) → wSet ds P → wSet ds P' := fun ds P P' h ⟨b, h1, h2, h3, h4⟩ => ⟨b, h1, h2, h3, fun i a => h _ (h4 i a)⟩
theorem wRule_mn : ∀ ds (P P' : D → Prop), (∀ d, P d → P' d) → wRule ds P → wRule ds P' := fun ds P P' h ⟨b, h1, h2, h3, h4⟩ => ⟨b, h1, h2, h3, fun i a => h _ (h4 i a)⟩
theorem wPlain_mn : ∀ ds (P P' : D → Prop), (∀ d, P d → P' d) → wPlain ds P → wPlain ds P' := fun ds P P' h ⟨h1, h2⟩ => ⟨h1, fun m rs a b c d => h _ (h2 m rs a b c d)⟩
/-- any sublist may come of a comprehension over ints -/
theorem lcW_sub {en : D → Option En} {t : WE Bool} {f : WE D} {p : Addr} (δ' : Int → En) : ∀ (xs : List Int) (Q : List D → Prop), (∀ i ∈ xs, en (.int i) = some (δ' i)) → (∀ i ∈ xs, ∀ R : Bool → Prop, (∀ b, R b) → t p (δ' i) R) → (∀ i ∈ xs, ∀ R : D → Prop, R (.int i) → f p (δ' i) R) →
    (∀ s : Sx, s.Sublist xs → Q (s.map D.int)) → lcW en t f p (xs.map D.int) Q
  | [], Q, _, _, _, q => q [] (.refl _)
  | x :: xs, Q, h1, h2, h3, q => by
    refine ⟨δ' x, h1 x (List.mem_cons_self ..), h2 x (List.mem_cons_self ..) _ fun b => ?_⟩
    have ih := fun Q' q' => lcW_sub (t := t) (f := f) (p := p) δ' xs Q' (fun i hi => h1 i (List.mem_cons_of_mem _ hi)) (fun i hi => h2 i (List.mem_cons_of_mem _ hi)) (fun i hi => h3 i (List.mem_cons_of_mem _ hi)) q'
    cases b with
    | true =>
      rw [if_pos rfl]
      refine h3 x (List.mem_cons_self ..) _ (ih _ fun s hs => ?_)
      exact q (x :: s) (hs.cons_cons x)
    | false =>
      rw [if_neg (by decide)]
      exact ih _ fun s hs => q s (hs.cons x)
def rg (m : Int) : Sx := (List.range m.toNat).map fun (i : Nat) => (i : Int)
theorem rangeD_rg (m : Int) : rangeD m = (rg m).map D.int := by unfold rangeD rg; rw [List.map_map]; rfl
theorem rg_lt (m : Int) : (rg m).Pairwise (· < ·) := by
  unfold rg
  rw [List.pairwise_map]
  exact List.pairwise_lt_range.imp fun h => by omega
theorem rg_mem {m i : Int} : i ∈ rg m ↔ 0 ≤ i ∧ i < m := by
  unfold rg
  rw [List.mem_map]
  refine ⟨fun ⟨n, h, e⟩ => ?_, fun h => ⟨i.toNat, ?_, by omega⟩⟩
  · rw [List.mem_range] at h
    omega
  · rw [List.mem_range]
    omega
theorem rg_sub {m : Int} {s : Sx} (h : s.Sublist (rg m)) : Vs m s := ⟨(rg_lt m).sublist h, fun i hi => rg_mem.mp (h.subset hi)⟩
theorem wB_mn {w : WE D} (m : Mn w) : Mn (wB w) := fun p δ P P' h q => m p δ _ _ (fun d ⟨k, h1, h2⟩ => ⟨k, h1, h k h2⟩) q
theorem wCons_mn {w : WE D} {ws : WE (List D)} (m1 : Mn w) (m2 : Mn ws) : Mn (wCons w ws) := fun p δ P P' h q => m1 p δ _ _ (fun d hd => m2 p δ _ _ (fun ds hds => h _ hds) hd) q
theorem wNil_mn : Mn wNil := fun p δ P P' h q => h _ q
theorem wDraw_mn {i n : Nat} {W : List D → (D → Prop) → Prop} {ws : WE (List D)} (mW : ∀ ds (P P' : D → Prop), (∀ d, P d → P' d) → W ds P → W ds P') (m : Mn ws) : Mn (wDraw i n W ws) := fun p δ P P' h q => ⟨q.1, m p δ _ _ (fun ds hds => ⟨hds.1, mW ds _ _ h hds.2⟩) q.2⟩
theorem raw_set (T : Tx K mg M) (A : At K mg "_law_set" (top 47) ["_law_draw_here", "_law_marks"]) (Cx : CalN P w K mg base M "_law_next" ["_law_draw_here", "_law_bound"] 3 wNext) : CalN P w K mg base M "_law_set" ["_law_draw_here", "_law_marks"] 4 wSet := by
  refine calN_mk' A sc__law_set wSet_mn (fun f cdv A outer s H E hr => nss_one (ns_ret (ne_callTy call_tupleOf rc_tuple (by rfl) T.tuple (by rfl) (na_cons
    (ne_lc (own := [("_law_mark", 2)]) rfl sc__law_set.nd (ni_range (ne_pure (de_v 1)) T.range) (blkOk_by (by rfl)) (gt_name 2) (fun _ _ _ _ _ => (pg_name (i := 2) sc__law_set.nd (by rfl) (by first | exact Or.inl rfl | exact Or.inr rfl)))
      (fun _ _ _ _ _ => nts_one (nt_cmp op_lt rd_cmp (ne_cal Cx (hr.mono (by decide)) (pv 0) (na_cons (ne_pure de_int) na_nil)) (ne_pure de_int))) (fun _ _ _ _ _ => ne_pure (de_v 2)) ?_ wP_mn) na_nil)))) ?_
  · exact wB_mn (wOp_mn (wDraw_mn wNext_mn (wCons_mn wP_mn wNil_mn)) wP_mn)
  intro ds Q hl hW p
  obtain ⟨m, rfl, h0, h4, hq⟩ := hW
  refine ⟨_, rfl, m, rfl, by omega, by omega, ?_, ?_⟩
  · unfold rangeD
    rw [List.length_map, List.length_range]
    omega
  rw [rangeD_rg]
  refine lcW_sub (fun i => [some (.raw (.ref p)), some (.int m), some (.int i)]) (rg m) _ (fun i _ => rfl) (fun i hi R hR => ?_) (fun i hi R hR => ⟨_, rfl, hR⟩) fun s hs => ?_
  · exact ⟨rfl, _, rfl, rfl, 5, rfl, by decide, fun j j0 j1 => ⟨_, rfl, _, rfl, _, rfl, hR _⟩⟩
  · exact ⟨tS s, rfl, hq s (rg_sub hs)⟩
theorem raw_rule (T : Tx K mg M) (A : At K mg "_law_rule" (top 48) ["_law_draw_here", "_law_marks"]) (Cs : CalN P w K mg base M "_law_set" ["_law_draw_here", "_law_marks"] 4 wSet) : CalN P w K mg base M "_law_rule" ["_law_draw_here", "_law_marks"] 5 wRule := by
  refine calN_mk' A sc__law_rule wRule_mn (fun f cdv A outer s H E hr => nss_one (ns_ret (ne_tup (na_cons (ne_cal Cs (hr.mono (by decide)) (pv 0) (na_cons (ne_pure (de_v 1)) na_nil)) (na_cons (ne_cal Cs (hr.mono (by decide)) (pv 0) (na_cons (ne_pure (de_v 1)) na_nil)) na_nil))))) ?_
  intro ds Q hl hW p
  obtain ⟨m, rfl, h0, h4, hq⟩ := hW
  refine ⟨rfl, _, rfl, rfl, m, rfl, h0, h4, fun a ha => ?_⟩
  refine ⟨rfl, _, rfl, rfl, m, rfl, h0, h4, fun b hb => ?_⟩
  exact ⟨rfl, hq (a, b) ⟨ha, hb⟩⟩
/-- any list of results may come of a comprehension whose element is drawn -/
theorem lcW_any {α : Type} {en : D → Option En} {f : WE D} {p : Addr} (enc : α → D) (ok : α → Prop) : ∀ (xs : List D) (Q : List D → Prop), (∀ x ∈ xs, ∃ δ, en x = some δ ∧ ∀ R : D → Prop, (∀ a, ok a → R (enc a)) → f p δ R) →
    (∀ s : List α, s.length = xs.length → (∀ a ∈ s, ok a) → Q (s.map enc)) → lcW en (wP bYes) f p xs Q
  | [], Q, _, q => q [] rfl (fun _ h => by cases h)
  | x :: xs, Q, h1, q => by
    obtain ⟨δ, e, hf⟩ := h1 x (List.mem_cons_self ..)
    refine ⟨δ, e, true, rfl, ?_⟩
    show f p δ fun y => lcW en (wP bYes) f p xs fun ys => Q (y :: ys)
    refine hf _ fun a ha => ?_
    refine lcW_any enc ok xs _ (fun y hy => h1 y (List.mem_cons_of_mem _ hy)) fun s hs hok => ?_
    exact q (a :: s) (by rw [List.length_cons, hs, List.length_cons]) fun b hb => by
      rcases List.mem_cons.mp hb with h | h
      · rw [h]; exact ha
      · exact hok b h
theorem raw_plain (T : Tx K mg M) (A : At K mg "_law_plain" (top 49) ["_law_draw_here", "_law_most", "_law_many"]) (Cx : CalN P w K mg base M "_law_next" ["_law_draw_here", "_law_bound"] 3 wNext) (Cr : CalN P w K mg base M "_law_rule" ["_law_draw_here", "_law_marks"] 5 wRule) : CalN P w K mg base M "_law_plain" ["_law_draw_here", "_law_most", "_law_many"] 6 wPlain := by
  refine calN_mk' A sc__law_plain wPlain_mn (fun f cdv A outer s H E hr => nss_cons (ns_set (i := 3) sc__law_plain.nd (ne_op op_addAll rd_add (ne_pure de_int) (ne_cal Cx (hr.mono (by decide)) (pv 0) (na_cons (ne_pure (de_v 1)) na_nil)))) (nss_one (ns_ret (ne_tup (na_cons (ne_pure (de_v 3)) (na_cons (ne_callTy call_tupleOf rc_tuple (by rfl) T.tuple (by rfl) (na_cons
    (ne_lc (own := [("_law_turn", 4)]) rfl sc__law_plain.nd (ni_range (ne_cal Cx (hr.mono (by decide)) (pv 0) (na_cons (ne_pure (de_op op_addAll rd_add (de_v 2) de_int)) na_nil)) T.range) (blkOk_by (by rfl)) (gt_name 4) (fun _ _ _ _ _ => (pg_name (i := 4) sc__law_plain.nd (by rfl) (by first | exact Or.inl rfl | exact Or.inr rfl)))
      (fun _ _ _ _ _ => nts_nil) (fun _ _ _ _ _ => ne_cal Cr (hr.mono (by decide)) (pv 0) (na_cons (ne_pure (de_v 3)) na_nil)) wP_mn ?_) na_nil)) na_nil)))))) ?_
  · exact wDraw_mn wRule_mn (wCons_mn wP_mn wNil_mn)
  intro ds Q hl hW p
  obtain ⟨rfl, hq⟩ := hW
  refine ⟨_, rfl, rfl, _, rfl, rfl, 4, rfl, by decide, fun j j0 j1 => ⟨.int (1 + j), rfl, _, rfl, ?_⟩⟩
  refine ⟨_, rfl, ?_⟩
  refine ⟨rfl, _, rfl, rfl, 5, rfl, by decide, fun n n0 n1 => ⟨n, rfl, by omega, by omega, ?_, ?_⟩⟩
  · unfold rangeD
    rw [List.length_map, List.length_range]
    omega
  refine lcW_any tR (Vr (1 + j)) (rangeD n) _ (fun x _ => ⟨_, rfl, fun R hR => ⟨rfl, _, rfl, rfl, 1 + j, rfl, by omega, by omega, hR⟩⟩) fun rs hrs hok => ?_
  refine ⟨tRs rs, rfl, rfl, hq (1 + j) rs (by omega) (by omega) ?_ hok⟩
  rw [hrs]
  unfold rangeD
  rw [List.length_map, List.length_range]
  omega
end
end Dx
/-! Dicts that are still written: pop and store; _law_bent. -/
namespace Dx
open PySem PySem.Spec PyProof.Rows L2
section
variable {M : Mm} {X : Cx} {kk : Nat}
theorem exO_ty {C : Cs} {H : Hp} {h : Heap} {a : Addr} {xs : List (NestedKey × Addr × Value)} (d : DicH C H a xs) (ok : HOk C.P C.w H h) : ∃ ob, h.get? a = some ob ∧ ob.dict = none := by
  obtain ⟨_, _, dd⟩ := d.heap ok
  obtain ⟨ob, _, _, h1, h2, _⟩ := dd
  exact ⟨ob, h1, h2.2.1⟩
/-- d.pop(k) -/
def tXPop (C : Cs) (to te : TE) : TE := fun σ H Q => to σ H fun x H1 => ∃ a, x = .ref a ∧ (∃ ys, DicH C H1 a ys) ∧ te σ H1 fun y H2 => ∃ oo ys k b q v, y = .ref b ∧ H2 a = some (ExO a oo) ∧ DicAt C a oo ys ∧ (∀ x ∈ ys, KeyIn C H2 x.1 x.2.1) ∧ KeyIn C H2 k b ∧ atKey ys k = some q ∧ RelV v q.2 ∧
  ∀ o', DicAt C a o' (withoutH ys k) → Q v (upd H2 a (ExO a o'))
theorem pe_xpop {o e : Expr} {apos cpos : Pos} {to te : TE} (hr : Room kk X.A) (ho : PE X o to) (he : PE X e te) (m : M1 X o "pop" apos e cpos) : PE X (.Call (.Attribute o "pop" apos) [e] [] cpos) (tXPop (cs X M) to te) := by
  refine ⟨fun pins s σ H Q I h => ?_⟩
  refine wpAny_Call_method m.base m.few m.line PySem.F.plainAttrs_dict PySem.F.slot_dict_pop PySem.F.type_dict_pop (thn (ho.run pins s σ H _ I h) fun u s1 ⟨x, H1, I1, rx, a, ex, ⟨ys, d⟩, q1⟩ => ?_)
  subst ex
  obtain rfl : u = Value.ref a := rx
  obtain ⟨_, _, dd⟩ := d.heap I1.hok
  refine ⟨dd.typeIs, fun b q => by cases q; exact exO_ty d I1.hok, ?_⟩
  rw [m.trees]
  refine Calls.callWith_builtin rfl (Calls.evalArgs_plain (Calls.spliced_cons (thn (he.run pins s1 σ H1 _ I1 q1) fun iv s2 ⟨y, H2, I2, ry, oo, ys2, k, b, q, v, ey, hD, hd, hks, hk, ha, rv, q2⟩ => Calls.spliced_nil ?_)))
  subst ey
  cases ry
  have hH : DicH (cs X M) H2 a ys2 := ⟨oo, hD, hd, hks⟩
  obtain ⟨h1, h2, h3⟩ := hH.heap I2.hok
  have := hr.un
  refine call_pop_heap (knd := nestedKind X.prog X.w) (.inl rfl) (PySem.F.args_dict_pop_2 _ _) (nested_room (by show X.A.units + 1 + 8 < cLine; omega)) (hk _ I2.hok) h1 h3 ha (fun h' dd' hs => ?_) h2
  have hl : (withoutH ys2 k).length ≤ sizeLine := Nat.le_trans (List.length_filter_le _ _) h2
  obtain ⟨o', d', ob, ho'⟩ := dic_new (C := cs X M) (H := H2) (H' := upd H2 a (ExO a emptyD)) h1 hl dd'
  refine ⟨v, _, d_write I2 (by rw [hD]; exact True.intro) hs ⟨o', ho'⟩ ?_, rv, q2 o' d'⟩
  exact ⟨ho', ⟨o', ho'⟩, fun g1 g2 a b => b _ a⟩
/-- d[k] = v -/
def rSetX (C : Cs) : V → V → V → Hp → (Hp → Prop) → Prop := fun o i v H Q => ∃ a b oo ys k, o = .ref a ∧ i = .ref b ∧ H a = some (ExO a oo) ∧ DicAt C a oo ys ∧ (∀ x ∈ ys, KeyIn C H x.1 x.2.1) ∧ KeyIn C H k b ∧ ys.length < sizeLine ∧
  ∀ o' u, RelV v u → DicAt C a o' (storedH ys k b u) → Q (upd H a (ExO a o'))
theorem set_xdic (hr : Room kk X.A) : PSet X (rSetX (cs X M)) := by
  intro pins s σ H o i v ov iv u Q I ro ri rv h
  obtain ⟨a, b, oo, ys, k, rfl, rfl, hD, hd, hks, hk, hl, q⟩ := h
  cases ro
  cases ri
  have hH : DicH (cs X M) H a ys := ⟨oo, hD, hd, hks⟩
  obtain ⟨h1, h2, h3⟩ := hH.heap I.hok
  have := hr.un
  refine wpAny_setItem_heap (knd := nestedKind X.prog X.w) (nested_room (by show X.A.units + 1 + 8 < cLine; omega)) (hk _ I.hok) h3 (fun h' dd' hs => ?_) h2
  have hl : (storedH ys k b u).length ≤ sizeLine := by
    have := storedH_length ys k b u
    omega
  obtain ⟨o', d', ob, ho'⟩ := dic_new (C := cs X M) (H := H) (H' := upd H a (ExO a emptyD)) h1 hl dd'
  refine ⟨_, d_write I (by rw [hD]; exact True.intro) hs ⟨o', ho'⟩ ?_, q o' u rv d'⟩
  exact ⟨ho', ⟨o', ho'⟩, fun g1 g2 a b => b _ a⟩
end
end Dx
/-! _law_bent: two copies, one key popped, one value stored. -/
namespace Dx
open PySem PySem.Spec PyProof.Rows L2
theorem tab_exO {C : Cs} {H : Hp} {p : Addr} {o : HO} {u : Obj} {es : Array DictEntry} {ep : Nat} (t : LamX.Tabs C.T H) (h : H p = some (ExO p u)) (hd : u.data = .dict es ep) : LamX.Tabs C.T (upd H p o) := by
  intro q hq
  obtain ⟨ps, h1, h2, h3⟩ := t q hq
  have n1 : q.1 ≠ p := fun z => by
    rw [z, h] at h1
    unfold ExO at h1
    cases h1
  refine ⟨ps, by rw [upd_ne n1]; exact h1, h2, fun pos cv hcv => ?_⟩
  obtain ⟨c, e1, e2⟩ := h3 pos cv hcv
  refine ⟨c, e1, ?_⟩
  rw [upd_ne (fun z => ?_)]
  · exact e2
  · rw [z, h] at e2
    exact exO_code hd (Option.some.inj e2)
/-- a dict that only we know -/
def Hd (C : Cs) (Z : Hid) (H : Hp) (L : Addr) (kvs : List (D × D)) : Prop := ∃ o ys, H L = some (ExO L o) ∧ DicAt C L o ys ∧ IsKv C Z H ys kvs
section
variable {C : Cs} {Z : Hid} {p L : Addr} {H H1 : Hp} {kvs : List (D × D)}
theorem Hd.goN (h : Hd C Z H L kvs) (g : GoN C Z p H H1) (zp : Z p) (n : L ≠ p) : Hd C Z H1 L kvs := by
  obtain ⟨o, ys, h1, h2, h3⟩ := h
  exact ⟨o, ys, g.ex L _ n h1 exO_ne, h2, h3.mono' (g.z zp)⟩
theorem ez_upd {o : HO} (zL : Z L) : ExZ Z H (upd H L o) := fun b u hb h _ => by
  rw [upd_ne (fun z => hb (by rw [z]; exact zL))]
  exact h
theorem Dr.upd (d : Dr C Z H p) {o : HO} (zL : Z L) (n : L ≠ p) : Dr C Z (upd H L o) p := by
  obtain ⟨v, c, is, h1, h2, h3⟩ := d
  exact ⟨v, c, is, by rw [upd_ne (Ne.symm n)]; exact h1, h2, h3.mono1 (ez_upd zL)⟩
theorem OkN.wr (o : OkN C Z p H) (h : Hd C Z H L kvs) {u : Obj} (zL : Z L) (n : L ≠ p) : OkN C Z p (upd H L (ExO L u)) := by
  obtain ⟨u0, ys, h1, h2, h3⟩ := h
  obtain ⟨es, ep, hd⟩ := dicAt_data h2
  refine ⟨⟨fun z hz => ?_, tab_exO o.ok.tab h1 hd⟩, o.zp, o.dr.upd zL n⟩
  by_cases e : z = L
  · rw [e]
    exact ⟨_, upd_same, exO_ne⟩
  · rw [upd_ne e]
    exact o.ok.hid z hz
theorem fV_at {σ : L2.St} {δ : En} {i : Nat} {d : D} (en : EnR C Z H σ δ) (h : fV i δ = some d) : ∃ v, σ[i]? = some (some v) ∧ Is C Z H v d := en.2 i d (by
  unfold fV at h
  cases e : δ[i]? with
  | none => rw [e] at h; cases h
  | some u =>
    rw [e] at h
    cases u with
    | none => cases h
    | some u => cases h; rfl)
theorem enR_re {σ : L2.St} {δ : En} {i : Nat} {v : V} {d : D} (en : EnR C Z H σ δ) (hs : σ[i]? = some (some v)) (is : Is C Z H v d) : EnR C Z H σ (δ.set i (some d)) := by
  refine ⟨by rw [List.length_set]; exact en.1, fun j e hj => ?_⟩
  by_cases hi : i = j
  · subst hi
    by_cases hl : i < δ.length
    · rw [List.getElem?_set_self hl] at hj
      cases hj
      exact ⟨v, hs, is⟩
    · rw [List.getElem?_eq_none (by rw [List.length_set]; omega)] at hj
      cases hj
  · rw [List.getElem?_set_ne hi] at hj
    exact en.2 j e hj
end
def wBent (V : WE Out) : WE Out := fun p δ P => ∃ d1 kvs od d4 d5 d6, δ = [some (.raw (.ref p)), d1, some (.dic kvs), some od, d4, d5, d6] ∧ kvs.all (fun q => uni q.1) = true ∧ kvs.length < 100000 ∧ kvs ≠ [] ∧
  ∀ q1 ∈ kvs, ∀ q2 ∈ kvs, ∀ k1 k2, keyOf q1.1 = some k1 → keyOf q2.1 = some k2 → V p [some (.raw (.ref p)), d1, some (.dic kvs), some od, d4, some (.dic (dDel kvs k1)), some (.dic (dPut kvs q2.1 k2 od))] P
theorem dAt_mem {kvs : List (D × D)} {q : D × D} {k : NestedKey} (h : q ∈ kvs) (e : keyOf q.1 = some k) : ∃ d, dAt kvs k = some d := by
  unfold dAt
  cases f : kvs.find? fun p => decide (keyOf p.1 = some k) with
  | none =>
    have := List.find?_eq_none.mp f q h
    simp [e] at this
  | some x => exact ⟨_, rfl⟩
theorem uni_key {d : D} (h : uni d = true) : ∃ k, keyOf d = some k := by
  unfold uni at h
  split at h
  · exact ⟨_, by assumption⟩
  · cases h
section
variable {M : Mm} {X : Cx} {kk : Nat}
def wArg : WE D := wDraw 0 2 wPick (wCons (wP (fCall gListX (aCons (fV 2) aNil))) wNil)
theorem wArg_of {p : Addr} {d1 d3 d4 d5 d6 : Option D} {kvs : List (D × D)} {R : D → Prop} (h0 : kvs ≠ []) (h : ∀ q ∈ kvs, R q.1) : wArg p [some (.raw (.ref p)), d1, some (.dic kvs), d3, d4, d5, d6] R := by
  refine ⟨rfl, _, rfl, rfl, kvs.map (·.1), rfl, fun e => h0 (List.map_eq_nil_iff.mp e), fun x hx => ?_⟩
  obtain ⟨q, hq, rfl⟩ := List.mem_map.mp hx
  exact h q hq
theorem nss_bent {s1 s2 s3 : Stmt} {rest : List Stmt} {V : WE Out}
    (h1 : PS X s1 (tPar 5 6 (tCons (tCB (rDictY (cs X M)) (tCons (tVar 2) tNil)) (tCons (tCB (rDictY (cs X M)) (tCons (tVar 2) tNil)) tNil))))
    (h2 : PS X s2 (tDrop (tXPop (cs X M) (tVar 5) (tN (cs X M) wArg)))) (h3 : PS X s3 (tAsg (tVar 3) (L2.gSub (tVar 6) (tN (cs X M) wArg) (rSetX (cs X M)))))
    (hr : NSs M X rest V) (mA : Mn wArg) : NSs M X (s1 :: s2 :: s3 :: rest) (wBent V) := by
  refine ⟨PSs.imp (pss_cons h1 (pss_cons h2 (pss_cons h3 hr.ps))) fun E σ H ⟨Z, δ, p, o, en, q⟩ => ?_, fun p δ P P' h ⟨d1, kvs, od, d4, d5, d6, a, b, c, d, e⟩ => ⟨d1, kvs, od, d4, d5, d6, a, b, c, d, fun q1 m1 q2 m2 k1 k2 e1 e2 => hr.mn _ _ _ _ h (e q1 m1 q2 m2 k1 k2 e1 e2)⟩⟩
  obtain ⟨d1, kvs, od, d4, d5, d6, rfl, hu, hlen, hne, hV⟩ := q
  obtain ⟨vt, ht, it⟩ := fV_at (i := 2) (d := .dic kvs) en rfl
  cases it with
  | @dic a o0 xs _ za hHa hda hkv =>
  -- the two copies
  refine ⟨_, ht, .inl ⟨a, xs, rfl, ⟨o0, hHa, hda, kv_keys hkv⟩, kv_hash hkv hu hda.2.2.2.2, fun L1 o1 n1 hd1 => ?_⟩⟩
  have g1 := o.ok.new (u := ExO L1 o1) n1
  have hHa1 : (upd H L1 (ExO L1 o1)) a = some (ExO a o0) := g1.exO hHa
  refine ⟨_, ht, .inl ⟨a, xs, rfl, ⟨o0, hHa1, hda, kv_keys (hkv.go g1)⟩, kv_hash hkv hu hda.2.2.2.2, fun L2 o2 n2 hd2 => ?_⟩⟩
  have g2 := (o.ok.go g1).new (u := ExO L2 o2) n2
  generalize eH2 : upd (upd H L1 (ExO L1 o1)) L2 (ExO L2 o2) = H2 at g2
  have n12 : L1 ≠ L2 := fun e => by
    rw [← e, upd_same] at n2
    cases n2
  have n2H : H L2 = none := by
    rw [upd_ne (Ne.symm n12)] at n2
    exact n2
  have g : Go (cs X M) H H2 := g1.trans g2
  have p1 : L1 ≠ p := fun e => by
    obtain ⟨v, c, is, h, _⟩ := o.dr
    rw [← e, n1] at h
    cases h
  have p2 : L2 ≠ p := fun e => by
    obtain ⟨v, c, is, h, _⟩ := o.dr
    rw [← e, n2H] at h
    cases h
  let Z' : Hid := fun b => Z b ∨ (b = L1 ∨ b = L2)
  have z1 : Z' L1 := .inr (.inl rfl)
  have z2 : Z' L2 := .inr (.inr rfl)
  have hide : ∀ b, H b ≠ none → ¬ Z b → ¬ Z' b := fun b h1 h2 h3 => by
    rcases h3 with h3 | h3 | h3
    · exact h2 h3
    · rw [h3] at h1; exact h1 n1
    · rw [h3] at h1; exact h1 n2H
  have hL1 : H2 L1 = some (ExO L1 o1) := by rw [← eH2, upd_ne n12]; exact upd_same
  have hL2 : H2 L2 = some (ExO L2 o2) := by rw [← eH2]; exact upd_same
  have okN2 : OkN (cs X M) Z' p H2 := by
    refine ⟨⟨fun z hz => ?_, g.tab⟩, .inl o.zp, ?_⟩
    · rcases hz with hz | hz | hz
      · exact (o.ok.go g).hid z hz
      · rw [hz]; exact ⟨_, hL1, exO_ne⟩
      · rw [hz]; exact ⟨_, hL2, exO_ne⟩
    · obtain ⟨v, c, is, a1, a2, a3⟩ := o.dr
      exact Dr.go ⟨v, c, is, a1, a2, Is.hide hide _ _ a3⟩ g
  have en0' : EnR (cs X M) Z' H σ [some (.raw (.ref p)), d1, some (.dic kvs), some od, d4, d5, d6] := ⟨en.1, fun i d hi => let ⟨v, x, y⟩ := en.2 i d hi; ⟨v, x, Is.hide hide d v y⟩⟩
  have en0 := en0'.go g
  have kv2 : IsKv (cs X M) Z' H2 xs kvs := (IsKv.hide hide _ _ hkv).go g
  have D1 : Hd (cs X M) Z' H2 L1 kvs := ⟨o1, xs, hL1, hd1, kv2⟩
  have D2 : Hd (cs X M) Z' H2 L2 kvs := ⟨o2, xs, hL2, hd2, kv2⟩
  have en2 : EnR (cs X M) Z' H2 ((σ.set 5 (some (.ref L1))).set 6 (some (.ref L2))) [some (.raw (.ref p)), d1, some (.dic kvs), some od, d4, some (.raw (.ref L1)), some (.raw (.ref L2))] := (en0.set (i := 5) (.raw (.ref L1))).set (i := 6) (.raw (.ref L2))
  refine ⟨_, _, rfl, ?_⟩
  -- pop
  have st1 := raw_at (i := 5) en2 rfl
  have st2 := raw_at (i := 6) en2 rfl
  refine ⟨_, st1, L1, rfl, ⟨xs, o1, hL1, hd1, kv_keys kv2⟩, ?_⟩
  refine ⟨Z', _, p, okN2, en2, wArg_of hne fun q1 hq1 v H3 g3 i3 => ?_⟩
  obtain ⟨k1, ek1⟩ := uni_key (List.all_eq_true.mp hu q1 hq1)
  obtain ⟨b1, rfl⟩ := key_ref i3 ek1
  obtain ⟨o1', ys1, c1, c2, c3⟩ := D1.goN g3 okN2.zp p1
  obtain ⟨dd, hdd⟩ := dAt_mem hq1 ek1
  obtain ⟨bb, uu, vv, ea, rv, _⟩ := (kv_at k1 c3).2 dd hdd
  refine ⟨o1', ys1, k1, b1, (bb, uu), vv, rfl, c1, c2, kv_keys c3, keyIn_of i3 ek1, ea, rv, fun o4 hd4 => ?_⟩
  have okN3 := okN2.go g3
  have okN4 : OkN (cs X M) Z' p (upd H3 L1 (ExO L1 o4)) := okN3.wr (D1.goN g3 okN2.zp p1) z1 p1
  have ez4 : ExZ Z' H3 (upd H3 L1 (ExO L1 o4)) := ez_upd z1
  have en4 := (en2.goN g3 okN2.zp).mono ez4
  have D14 : Hd (cs X M) Z' (upd H3 L1 (ExO L1 o4)) L1 (dDel kvs k1) := ⟨o4, _, upd_same, hd4, (kv_del k1 c3).mono' ez4⟩
  have D24 : Hd (cs X M) Z' (upd H3 L1 (ExO L1 o4)) L2 kvs := by
    obtain ⟨o5, ys, x1, x2, x3⟩ := D2.goN g3 okN2.zp p2
    exact ⟨o5, ys, by rw [upd_ne (Ne.symm n12)]; exact x1, x2, x3.mono' ez4⟩
  have gx4 : ∀ b u, b ≠ p → H b = some u → (∀ ps, u ≠ .tbl ps) → (upd H3 L1 (ExO L1 o4)) b = some u := fun b u hb h n => by
    rw [upd_ne (ne_of_none h n1)]
    exact g3.ex b u hb (g.ex b u h n) n
  generalize upd H3 L1 (ExO L1 o4) = H4 at okN4 en4 D14 D24 gx4
  -- store
  obtain ⟨vo, hvo, ivo⟩ := fV_at (i := 3) (d := od) en4 rfl
  refine ⟨_, hvo, _, st2, ?_⟩
  refine ⟨Z', _, p, okN4, en4, wArg_of hne fun q2 hq2 v5 H5 g5 i5 => ?_⟩
  obtain ⟨k2, ek2⟩ := uni_key (List.all_eq_true.mp hu q2 hq2)
  obtain ⟨b2, rfl⟩ := key_ref i5 ek2
  have D25 := D24.goN g5 okN4.zp p2
  obtain ⟨o5, ys2, c5, c6, c7⟩ := D25
  have hl7 := kv_len c7
  have hlim : (100000 : Nat) < sizeLine := by rw [sizeLine_eq]; decide
  refine ⟨L2, b2, o5, ys2, k2, rfl, rfl, c5, c6, kv_keys c7, keyIn_of i5 ek2, by omega, fun o6 u6 r6 hd6 => ?_⟩
  have okN5 := okN4.go g5
  have okN6 : OkN (cs X M) Z' p (upd H5 L2 (ExO L2 o6)) := okN5.wr ⟨o5, ys2, c5, c6, c7⟩ z2 p2
  have ez6 : ExZ Z' H5 (upd H5 L2 (ExO L2 o6)) := ez_upd z2
  have en6 := (en4.goN g5 okN4.zp).mono ez6
  have D26 : Hd (cs X M) Z' (upd H5 L2 (ExO L2 o6)) L2 (dPut kvs q2.1 k2 od) := ⟨o6, _, upd_same, hd6, (kv_put c7 i5 ek2 r6 (ivo.goN g5 okN4.zp)).mono' ez6⟩
  have D16 : Hd (cs X M) Z' (upd H5 L2 (ExO L2 o6)) L1 (dDel kvs k1) := by
    obtain ⟨o7, ys, x1, x2, x3⟩ := D14.goN g5 okN4.zp p1
    exact ⟨o7, ys, by rw [upd_ne n12]; exact x1, x2, x3.mono' ez6⟩
  have gx6 : ∀ b u, b ≠ p → H b = some u → (∀ ps, u ≠ .tbl ps) → (upd H5 L2 (ExO L2 o6)) b = some u := fun b u hb h n => by
    rw [upd_ne (ne_of_none h n2H)]
    exact g5.ex b u hb (gx4 b u hb h n) n
  generalize upd H5 L2 (ExO L2 o6) = H6 at okN6 en6 D26 D16 gx6
  have back : ∀ b, H6 b ≠ none → ¬ Z' b → ¬ Z b := fun b _ h z => h (.inl z)
  have dr6 : Dr (cs X M) Z H6 p := by
    obtain ⟨v, c, is, a1, a2, a3⟩ := okN6.dr
    exact ⟨v, c, is, a1, a2, Is.hide back _ _ a3⟩
  have gN : GoN (cs X M) Z p H H6 := ⟨gx6, okN6.ok.tab, dr6⟩
  have en7 : EnR (cs X M) Z H6 ((σ.set 5 (some (.ref L1))).set 6 (some (.ref L2))) [some (.raw (.ref p)), d1, some (.dic kvs), some od, d4, some (.raw (.ref L1)), some (.raw (.ref L2))] := ⟨en6.1, fun i d hi => let ⟨v, x, y⟩ := en6.2 i d hi; ⟨v, x, Is.hide back d v y⟩⟩
  have nz1 : ¬ Z L1 := o.ok.notZ n1
  have nz2 : ¬ Z L2 := o.ok.notZ n2H
  have i1 : Is (cs X M) Z H6 (.ref L1) (.dic (dDel kvs k1)) := by
    obtain ⟨o7, ys, x1, x2, x3⟩ := D16
    exact .dic nz1 x1 x2 (IsKv.hide back _ _ x3)
  have i2 : Is (cs X M) Z H6 (.ref L2) (.dic (dPut kvs q2.1 k2 od)) := by
    obtain ⟨o7, ys, x1, x2, x3⟩ := D26
    exact .dic nz2 x1 x2 (IsKv.hide back _ _ x3)
  have en8 := enR_re (i := 6) (enR_re (i := 5) en7 st1 i1) st2 i2
  exact ⟨Z, _, p, o.go gN, en8, hr.mn _ _ _ _ (fun r hr' => hr'.go gN) (hV q1 hq1 q2 hq2 k1 k2 ek1 ek2)⟩
end
end Dx
/-! _law_bent. -/
namespace Dx
open PySem PySem.Spec PyProof.Rows L2
theorem sc__law_bent : FnScope ["_law_draw_here", "_law_plain_here", "_law_table", "_law_odd", "_law_rows", "_law_lesser", "_law_late"] ["_law_draw_here", "_law_plain_here", "_law_table", "_law_odd"] (defScope (top 62)) := ⟨rfl, rfl, rfl, by decide +kernel, rfl, by decide +kernel, by decide +kernel⟩
def wBentP : List D → (D → Prop) → Prop := fun ds P => ∃ pl kvs od kr, ds = [pl, .dic kvs, od] ∧ kvs.all (fun q => uni q.1) = true ∧ kvs.length < 1000 ∧ gDict [.lst (kvD kvs).reverse] = some (.dic kr) ∧
  (kvs = [] → P (.lst [.dic kvs, .dic kr, .dic []])) ∧
  (kvs ≠ [] → ∀ q1 ∈ kvs, ∀ q2 ∈ kvs, ∀ k1 k2, keyOf q1.1 = some k1 → keyOf q2.1 = some k2 → P (.lst [.dic kvs, .dic kr, .dic [], .dic (dDel kvs k1), .dic (dPut kvs q2.1 k2 od)]))
theorem wBentP_mn : ∀ ds (P P' : D → Prop), (∀ d, P d → P' d) → wBentP ds P → wBentP ds P' := fun ds P P' h ⟨pl, kvs, od, kr, h1, h2, h3, h4, h5, h6⟩ => ⟨pl, kvs, od, kr, h1, h2, h3, h4, fun e => h _ (h5 e), fun e q1 m1 q2 m2 k1 k2 e1 e2 => h _ (h6 e q1 m1 q2 m2 k1 k2 e1 e2)⟩
section
variable {P : Program} {w : World} {K : PySem.W.Frag} {mg : Str → Option Value} {base : Heap} {M : Mm}
theorem raw_bent (T : Tx K mg M) (A : At K mg "_law_bent" (top 62) ["_law_draw_here", "_law_plain_here", "_law_table", "_law_odd"]) (Cp : CalN P w K mg base M "_law_pick" ["_law_draw_here", "_law_things"] 4 wPick) :
    CalN P w K mg base M "_law_bent" ["_law_draw_here", "_law_plain_here", "_law_table", "_law_odd"] 5 wBentP := by
  refine calN_mk' A sc__law_bent wBentP_mn (fun f cdv A outer s H E hr => nss_cons (ns_pure (ds_set (i := 4) sc__law_bent.nd (de_lst (da_cons (de_v 2) (da_cons (de_callTy (call_dictY (M := M) hr) rc_dict (by rfl) T.dict (by rfl) (da_cons (de_rev (de_listItems hr (de_v 2) T.list)) da_nil)) (da_cons (de_callTy (call_dictY (M := M) hr) rc_dict (by rfl) T.dict (by rfl) (da_cons (de_lst da_nil) da_nil)) da_nil))))))
    (nss_cons (ns_if (nt_pure (dt_cmp (op_neY (M := M) hr) rd_neY (de_v 2) (de_callTy (call_dictY (M := M) hr) rc_dict (by rfl) T.dict (by rfl) (da_cons (de_lst da_nil) da_nil))))
      (nss_bent (ps_par rfl sc__law_bent.nd (by rfl) (by rfl) (by decide) (by rfl) (by rfl) (pa_cons (pe_callTy (call_dictY (M := M) hr) (by rfl) T.dict (by rfl) (pa_cons (pv 2) pa_nil)) (pa_cons (pe_callTy (call_dictY (M := M) hr) (by rfl) T.dict (by rfl) (pa_cons (pv 2) pa_nil)) pa_nil)) (by rfl))
        (ps_expr (pe_xpop hr (pv 5) (ne_cal Cp (hr.mono (by decide)) (pv 0) (na_cons (ne_pure (de_callTy (call_listY (M := M) hr) rc_listY (by rfl) T.list (by rfl) (da_cons (de_v 2) da_nil))) na_nil)).pe ⟨by rfl, by rfl, by rfl, by rfl⟩))
        (ps_asg (pv 3) (pg_sub (pv 6) (ne_cal Cp (hr.mono (by decide)) (pv 0) (na_cons (ne_pure (de_callTy (call_listY (M := M) hr) rc_listY (by rfl) T.list (by rfl) (da_cons (de_v 2) da_nil))) na_nil)).pe (set_xdic hr)))
        (nss_one (ns_pure (ds_set (i := 4) sc__law_bent.nd (de_op op_addAll rd_add (de_v 4) (de_lst (da_cons (de_v 5) (da_cons (de_v 6) da_nil))))))) ?_)
      (nss_pure dss_nil)) (nss_one (ns_ret (ne_pure (de_v 4)))))) ?_
  · exact wDraw_mn wPick_mn (wCons_mn wP_mn wNil_mn)
  intro ds Q hl hW p
  obtain ⟨pl, kvs, od, kr, rfl, hu, hlen, hrev, hq0, hq1⟩ := hW
  have hi : fCall gDict (aCons (fRev (fListItems (fV 2))) aNil) [some (.raw (.ref p)), some pl, some (.dic kvs), some od, none, none, none] = some (.dic kr) := (s_fCall (s_aCons (x := .lst (kvD kvs).reverse) rfl s_aNil)).trans hrev
  have hn : fCall gDict (aCons (fLst aNil) aNil) = fun _ => some (.dic []) := rfl
  refine ⟨_, (s_sAsg (s_fLst (s_aCons rfl (s_aCons hi (s_aCons (by rw [hn]) s_aNil))) (show 3 ≤ 1000 by decide)) rfl), ?_⟩
  refine ⟨!kvs.isEmpty, ?_, ?_⟩
  · refine s_fB ((s_f2 rfl (by rw [hn])).trans ?_)
    rfl
  cases kvs with
  | nil => exact ⟨_, rfl, _, rfl, hq0 rfl⟩
  | cons x xs =>
    refine ⟨_, _, _, _, _, _, rfl, hu, by omega, by simp, fun q1 m1 q2 m2 k1 k2 e1 e2 => ?_⟩
    exact ⟨_, rfl, _, rfl, hq1 (by simp) q1 m1 q2 m2 k1 k2 e1 e2⟩
end
end Dx
/-! The list of the draws is made. -/
namespace Dx
open PySem PySem.Spec PyProof.Rows L2
def tD0 (C : Cs) : TS := fun E σ H => ∃ (a : Addr) (ns : List Int), σ[0]? = some (some (.ref a)) ∧ LamX.Tabs C.T H ∧ SqL C.K H a (ns.map V.int) ∧ ns.length ≤ 1000 ∧ ∀ Z p H1, OkN C Z p H1 → E.nx (σ.set 1 (some (.ref p))) H1
structure NB (M : Mm) (X : Cx) (st : List Stmt) (W : WE Out) : Prop where
  ps : PSs X st (tSeq (tD0 (cs X M)) (tNS (cs X M) W))
  mn : Mn W
section
variable {M : Mm} {X : Cx} {pos : Pos}
theorem nb_cons {s : Stmt} {rest : List Stmt} {W : WE Out} (h1 : PS X s (tD0 (cs X M))) (h2 : NSs M X rest W) : NB M X (s :: rest) W := ⟨pss_cons h1 h2.ps, h2.mn⟩
theorem cutV_ints (ns : List Int) (lo hi : Option Int) : ∃ ms : List Int, cutV (ns.map V.int) lo hi = ms.map V.int ∧ ms.length ≤ ns.length := by
  refine ⟨(ns.drop (HT.sIx ns.length 0 lo)).take (HT.sIx ns.length ns.length hi - HT.sIx ns.length 0 lo), ?_, ?_⟩
  · unfold cutV
    rw [List.length_map, List.map_take, List.map_drop]
  · rw [List.length_take, List.length_drop]
    omega
theorem ps_draw0 {x y : Str} {py px p1 p2 p3 p4 p5 p6 : Pos} {n1 n2 n3 : Nat} (hN : X.N.Nodup) (hy : X.N[1]? = some y) (hl : Loc X.env.scope y) (hx : PE X (.Name x px) (tVar 0))
    (hs : swapsWith (.List [.Subscript (.Name x px) (.Slice none (some (.Constant (.int 63) n1 p1)) none p2) p3, .Constant (.int 0) n2 p4, .Constant (.int 0) n3 p5] p6) (some (.Name y py)) pos.line X.env = pure false := by rfl)
    (hf : X.fn y = true ∨ X.env.scope.names.lookup y = some .local := by first | exact .inl rfl | exact .inr rfl | assumption) :
    PS X (.Assign [.Name y py] (.List [.Subscript (.Name x px) (.Slice none (some (.Constant (.int 63) n1 p1)) none p2) p3, .Constant (.int 0) n2 p4, .Constant (.int 0) n3 p5] p6) pos) (tD0 (cs X M)) := by
  refine PS.imp (ps_set hN hy hl (pe_lst (pa_cons (pe_slice sl_list hx po_none (po_some pe_int)) (pa_cons pe_int (pa_cons pe_int pa_nil)))) hs hf) fun E σ H ⟨a, ns, ha, ht, hS, hlen, hq⟩ => ?_
  refine ⟨_, ha, 63, rfl, a, _, rfl, hS, fun q hq0 => ?_⟩
  obtain ⟨ms, e, hms⟩ := cutV_ints ns none (some 63)
  rw [e]
  refine ⟨show 3 ≤ sizeLine by rw [sizeLine_eq]; decide, fun p hp => ?_⟩
  have g1 : ∀ {H : Hp} {r : Addr} {u : HO}, H r = none → LamX.Tabs (cs X M).T H → LamX.Tabs (cs X M).T (upd H r u) := fun {H r u} h t => t.ext fun b w z => by
    rw [upd_ne (ne_of_none z h)]
    exact z
  have npq : p ≠ q := fun z => by
    rw [z, upd_same] at hp
    cases hp
  refine hq (fun b => b = p) p _ ⟨⟨fun z hz => ⟨.lst [.ref q, .int 0, .int 0], by rw [show z = p from hz]; exact upd_same, fun ps z => by cases z⟩, g1 hp (g1 hq0 ht)⟩, rfl, _, 0, ms, upd_same, by decide, ?_⟩
  refine .lst (fun z => npq z.symm) (by rw [upd_ne (Ne.symm npq)]; exact upd_same) (isAll_ints ms) ?_
  have hlim : (1000 : Nat) < sizeLine := by rw [sizeLine_eq]; decide
  rw [List.length_map]
  omega
end
end Dx
/-! Printed by gen2.py: the walks of _law_papers_right and law. -/
namespace Dx
open PySem PySem.Spec PyProof.Rows L2
section
variable {P : Program} {w : World} {K : PySem.W.Frag} {mg : Str → Option Value} {base : Heap} {M : Mm}
def F_pap0 (g_halves : List D → Option D) (g_meeting : List D → Option D) (g_few : List D → Option D) : En → Option Out :=
  (sPar3 6 7 8 (aCons (fCall (gN 1 g_few) (aCons (fV 2) aNil)) (aCons (fCall (gN 1 g_meeting) (aCons (fV 2) aNil)) (aCons (fCall (gN 1 g_halves) (aCons (fV 2) aNil)) aNil))))
def F_pap1 (g_Few : List D → Option (List (Str × D))) (g_Few_shows : List D → Option D) (g__law_is_few : List D → Option D) : En → Option Out :=
  (sFor (iSeq (fTup (aCons (fTup (aCons (fFld 1 "number" (fV 6)) (aCons (fFld 1 "hard" (fV 6)) aNil))) (aCons (fTup (aCons (f2 gAdd (fFld 1 "number" (fV 6)) (fC (.int 1))) (aCons (fFld 1 "hard" (fV 6)) aNil))) (aCons (fTup (aCons (fCall gLenX (aCons (fV 4) aNil)) (aCons (fTup (aCons (fV 4) (aCons (fV 5) aNil))) aNil))) aNil))))) (t2 9 10) (sIf (fB (f2 gNeX (fMeth 1 1 "shows" g_Few_shows (fMake 1 3 g_Few (aCons (fV 9) (aCons (fV 10) (aCons (fV 3) aNil)))) (aCons (fV 2) aNil)) (fCall (gN 4 g__law_is_few) (aCons (fV 1) (aCons (fV 9) (aCons (fV 10) (aCons (fV 3) aNil))))))) (sRet (fC (.bl false))) sNil))
def F_pap2 (g_Meeting : List D → Option (List (Str × D))) (g_Meeting_shows : List D → Option D) (g__law_is_meeting : List D → Option D) : En → Option Out :=
  (sFor (iSeq (fTup (aCons (fTup (aCons (fFld 2 "number" (fV 7)) (aCons (fFld 2 "thing" (fV 7)) aNil))) (aCons (fTup (aCons (f2 gAdd (fFld 2 "number" (fV 7)) (fC (.int 1))) (aCons (fFld 2 "thing" (fV 7)) aNil))) (aCons (fTup (aCons (fCall gLenX (aCons (fV 4) aNil)) (aCons (fV 4) aNil))) aNil))))) (t2 9 11) (sIf (fB (f2 gNeX (fMeth 2 1 "shows" g_Meeting_shows (fMake 2 3 g_Meeting (aCons (fV 9) (aCons (fV 11) (aCons (fV 3) aNil)))) (aCons (fV 2) aNil)) (fCall (gN 4 g__law_is_meeting) (aCons (fV 1) (aCons (fV 9) (aCons (fV 11) (aCons (fV 3) aNil))))))) (sRet (fC (.bl false))) sNil))
def F_pap3 (g_Halves : List D → Option (List (Str × D))) (g_Halves_shows : List D → Option D) (g__law_is_halves : List D → Option D) : En → Option Out :=
  (sFor (iSeq (fTup (aCons (fTup (aCons (fFld 3 "number" (fV 8)) (aCons (fFld 3 "thing" (fV 8)) aNil))) (aCons (fTup (aCons (f2 gAdd (fFld 3 "number" (fV 8)) (fC (.int 1))) (aCons (fFld 3 "thing" (fV 8)) aNil))) (aCons (fTup (aCons (f2 gAdd (fCall gLenX (aCons (fV 4) aNil)) (fC (.int 1))) (aCons (fV 4) aNil))) aNil))))) (t2 9 11) (sIf (fB (f2 gNeX (fMeth 3 1 "shows" g_Halves_shows (fMake 3 3 g_Halves (aCons (fV 9) (aCons (fV 11) (aCons (fV 3) aNil)))) (aCons (fV 2) aNil)) (fCall (gN 4 g__law_is_halves) (aCons (fV 1) (aCons (fV 9) (aCons (fV 11) (aCons (fV 3) aNil))))))) (sRet (fC (.bl false))) sNil))
def F_law0 (g__law_sets : List D → Option D) (g__law_made : List D → Option D) : En → Option Out :=
  (sAsg (fTup (aCons (fCall (gN 1 g__law_made) (aCons (fV 3) aNil)) (aCons (fCall (gN 1 g__law_sets) (aCons (f2 gIxX (fV 3) (fC (.int 0))) aNil)) aNil))) (t2 5 6))
def F_law1 (g_caratheodory : List D → Option D) (g__law_pairs : List D → Option D) (g__law_least : List D → Option D) : En → Option Out :=
  (sIf (fB (f2 gNeX (fCall (gN 1 g_caratheodory) (aCons (fV 5) aNil)) (fCall gMax (aCons (fLc [11] (iSeq (fCall (gN 1 g__law_pairs) (aCons (fV 3) aNil))) (t1 11) bYes (fCall (gN 2 g__law_least) (aCons (fV 3) (aCons (fV 11) aNil)))) aNil)))) (sRet (fC (.bl false))) sNil)
def F_law2 (g_helly : List D → Option D) (g__law_shared : List D → Option D) : En → Option Out :=
  (sIf (fB (f2 gNeX (fCall (gN 1 g_helly) (aCons (fV 5) aNil)) (fCall gMax (aCons (fLc [7] (iSeq (fV 6)) (t1 7) (bOr (fB (f2 gEq (fV 7) (fTup aNil))) (fB (f2 gEq (fCall (gN 2 g__law_shared) (aCons (fV 3) (aCons (fV 7) aNil))) (fTup aNil)))) (fCall gLenX (aCons (fV 7) aNil))) aNil)))) (sRet (fC (.bl false))) sNil)
def F_law3 (g__law_can_halve : List D → Option D) : En → Option Out :=
  (sAsg (fLc [10] (iRange (f2 gAdd (f2 gIxX (fV 3) (fC (.int 0))) (fC (.int 2)))) (t1 10) (fB (fCall gAll (aCons (fLc [7] (iSeq (fV 6)) (t1 7) (fB (f2 gEq (fCall gLenX (aCons (fV 7) aNil)) (fV 10))) (fCall (gN 2 g__law_can_halve) (aCons (fV 3) (aCons (fV 7) aNil)))) aNil))) (fV 10)) (t1 4))
def F_law4 (g_radon : List D → Option D) : En → Option Out :=
  (sIf (fB (f2 gNeX (fCall (gN 1 g_radon) (aCons (fV 5) aNil)) (f2 gIxX (fV 4) (fC (.int 0))))) (sRet (fC (.bl false))) sNil)
def F_law5 (g_halves : List D → Option D) (g_meeting : List D → Option D) (g_few : List D → Option D) : En → Option Out :=
  (sPar3 7 8 9 (aCons (fCall (gN 1 g_few) (aCons (fV 5) aNil)) (aCons (fCall (gN 1 g_meeting) (aCons (fV 5) aNil)) (aCons (fCall (gN 1 g_halves) (aCons (fV 5) aNil)) aNil))))
def F_law6 (g_Few_shows : List D → Option D) (g__law_is_few : List D → Option D) : En → Option Out :=
  (sIf (bOr (bNot (fB (fMeth 1 1 "shows" g_Few_shows (fV 7) (aCons (fV 5) aNil)))) (bNot (fB (fCall (gN 4 g__law_is_few) (aCons (fV 3) (aCons (fFld 1 "number" (fV 7)) (aCons (fFld 1 "hard" (fV 7)) (aCons (fFld 1 "table" (fV 7)) aNil)))))))) (sRet (fC (.bl false))) sNil)
def F_law7 (g_Meeting_shows : List D → Option D) (g__law_is_meeting : List D → Option D) : En → Option Out :=
  (sIf (bOr (bNot (fB (fMeth 2 1 "shows" g_Meeting_shows (fV 8) (aCons (fV 5) aNil)))) (bNot (fB (fCall (gN 4 g__law_is_meeting) (aCons (fV 3) (aCons (fFld 2 "number" (fV 8)) (aCons (fFld 2 "thing" (fV 8)) (aCons (fFld 2 "table" (fV 8)) aNil)))))))) (sRet (fC (.bl false))) sNil)
def F_law8 (g_Halves_shows : List D → Option D) (g__law_is_halves : List D → Option D) : En → Option Out :=
  (sIf (bOr (bNot (fB (fMeth 3 1 "shows" g_Halves_shows (fV 9) (aCons (fV 5) aNil)))) (bNot (fB (fCall (gN 4 g__law_is_halves) (aCons (fV 3) (aCons (fFld 3 "number" (fV 9)) (aCons (fFld 3 "thing" (fV 9)) (aCons (fFld 3 "table" (fV 9)) aNil)))))))) (sRet (fC (.bl false))) sNil)
theorem sc__law_papers_right : FnScope ["_law_draw_here", "_law_plain_here", "_law_book", "_law_table", "_law_thing", "_law_mark", "_law_one", "_law_two", "_law_three", "_law_number_here", "_law_hard", "_law_some"] ["_law_draw_here", "_law_plain_here", "_law_book"] (defScope (top 63)) := ⟨rfl, rfl, rfl, by decide +kernel, rfl, by decide +kernel, by decide +kernel⟩
def W_papers (g_halves : List D → Option D) (g_meeting : List D → Option D) (g_few : List D → Option D) (g_Few : List D → Option (List (Str × D))) (g_Few_shows : List D → Option D) (g__law_is_few : List D → Option D) (g_Meeting : List D → Option (List (Str × D))) (g_Meeting_shows : List D → Option D) (g__law_is_meeting : List D → Option D) (g_Halves : List D → Option (List (Str × D))) (g_Halves_shows : List D → Option D) (g__law_is_halves : List D → Option D) : WE Out :=
  (wSeq (wPar 4 5 (wCons (wDraw 0 2 wSet (wCons (wP (f2 gIxX (fV 1) (fC (.int 0)))) wNil)) (wCons (wDraw 0 2 wNext (wCons (wP (f2 gIxX (fV 1) (fC (.int 0)))) wNil)) wNil))) (wSeq (wP (F_pap0 g_halves g_meeting g_few)) (wSeq (wFor (wList (wDraw 0 4 wBentP (wCons (wP (fV 1)) (wCons (wP (fCall gDict (aCons (fFld 1 "table" (fV 6)) aNil))) (wCons (wP (fV 4)) wNil))))) (t1 3) (wP (F_pap1 g_Few g_Few_shows g__law_is_few))) (wSeq (wFor (wList (wDraw 0 4 wBentP (wCons (wP (fV 1)) (wCons (wP (fCall gDict (aCons (fFld 2 "table" (fV 7)) aNil))) (wCons (wP (fV 5)) wNil))))) (t1 3) (wP (F_pap2 g_Meeting g_Meeting_shows g__law_is_meeting))) (wSeq (wFor (wList (wDraw 0 4 wBentP (wCons (wP (fV 1)) (wCons (wP (fCall gDict (aCons (fFld 3 "table" (fV 8)) aNil))) (wCons (wP (fTup (aCons (fV 4) (aCons (fV 5) aNil)))) wNil))))) (t1 3) (wP (F_pap3 g_Halves g_Halves_shows g__law_is_halves))) (wP (sRet (fC (.bl true)))))))))
theorem raw_papers {g_halves : List D → Option D} {g_meeting : List D → Option D} {g_few : List D → Option D} {g_Few : List D → Option (List (Str × D))} {g_Few_shows : List D → Option D} {g__law_is_few : List D → Option D} {g_Meeting : List D → Option (List (Str × D))} {g_Meeting_shows : List D → Option D} {g__law_is_meeting : List D → Option D} {g_Halves : List D → Option (List (Str × D))} {g_Halves_shows : List D → Option D} {g__law_is_halves : List D → Option D} {W : List D → (D → Prop) → Prop} (T : Tx K mg M) (A : At K mg "_law_papers_right" (top 63) ["_law_draw_here", "_law_plain_here", "_law_book"]) (C_halves : Cal P w K mg base M "halves" ["book"] 5 g_halves) (C_meeting : Cal P w K mg base M "meeting" ["book"] 4 g_meeting) (C_few : Cal P w K mg base M "few" ["book"] 5 g_few) (C_Few : CalI P w K mg base M "Few" 1 ["self", "number", "hard", "table"] 1 g_Few) (C_Few_shows : CalM P w K mg base M 1 "shows" ["self", "book"] 5 g_Few_shows) (C__law_is_few : Cal P w K mg base M "_law_is_few" ["_law_plain_here", "_law_number_here", "_law_hard", "_law_table"] 4 g__law_is_few) (C_Meeting : CalI P w K mg base M "Meeting" 2 ["self", "number", "thing", "table"] 1 g_Meeting) (C_Meeting_shows : CalM P w K mg base M 2 "shows" ["self", "book"] 4 g_Meeting_shows) (C__law_is_meeting : Cal P w K mg base M "_law_is_meeting" ["_law_plain_here", "_law_number_here", "_law_thing", "_law_table"] 4 g__law_is_meeting) (C_Halves : CalI P w K mg base M "Halves" 3 ["self", "number", "thing", "table"] 1 g_Halves) (C_Halves_shows : CalM P w K mg base M 3 "shows" ["self", "book"] 5 g_Halves_shows) (C__law_is_halves : Cal P w K mg base M "_law_is_halves" ["_law_plain_here", "_law_number_here", "_law_thing", "_law_table"] 5 g__law_is_halves) (C_law_set : CalN P w K mg base M "_law_set" ["_law_draw_here", "_law_marks"] 4 wSet) (C_law_next : CalN P w K mg base M "_law_next" ["_law_draw_here", "_law_bound"] 3 wNext) (C_law_bent : CalN P w K mg base M "_law_bent" ["_law_draw_here", "_law_plain_here", "_law_table", "_law_odd"] 5 wBentP) (mn : ∀ ds (P P' : D → Prop), (∀ d, P d → P' d) → W ds P → W ds P')
    (hi : ∀ ds P, ds.length + 1 = 3 → W ds P → bodyN 12 (W_papers g_halves g_meeting g_few g_Few g_Few_shows g__law_is_few g_Meeting g_Meeting_shows g__law_is_meeting g_Halves g_Halves_shows g__law_is_halves) ds P) : CalN P w K mg base M "_law_papers_right" ["_law_draw_here", "_law_plain_here", "_law_book"] 6 W :=
  calN_mk' A sc__law_papers_right mn (fun f cdv A outer s H E hr => (nss_cons (ns_par (i := 4) (j := 5) rfl sc__law_papers_right.nd (na_cons (ne_cal C_law_set (hr.mono (by decide)) (pv 0) (na_cons (ne_pure (de_ixX hr (de_v 1) de_int)) na_nil)) (na_cons (ne_cal C_law_next (hr.mono (by decide)) (pv 0) (na_cons (ne_pure (de_ixX hr (de_v 1) de_int)) na_nil)) na_nil))) (nss_cons (ns_pure (ds_par3 (i := 6) (j := 7) (l := 8) rfl sc__law_papers_right.nd (da_cons (de_cal C_few (hr.mono (by decide)) (da_cons (de_v 2) da_nil)) (da_cons (de_cal C_meeting (hr.mono (by decide)) (da_cons (de_v 2) da_nil)) (da_cons (de_cal C_halves (hr.mono (by decide)) (da_cons (de_v 2) da_nil)) da_nil))))) (nss_cons (ns_for PassesOwn.never rfl (ni_list (ne_cal C_law_bent (hr.mono (by decide)) (pv 0) (na_cons (ne_pure (de_v 1)) (na_cons (ne_pure (de_callTy (call_dictY (M := M) hr) rc_dict (by rfl) T.dict (by rfl) (da_cons (de_attr 1 (by decide) T.cls1 T.n1table (de_v 6)) da_nil))) (na_cons (ne_pure (de_v 4)) na_nil))))) (pg_name (i := 3) sc__law_papers_right.nd (by rfl) (by first | exact Or.inl rfl | exact Or.inr rfl)) (gt_name 3) (nss_pure (dss_one (ds_for PassesOwn.never rfl (di_seq (de_tup (da_cons (de_tup (da_cons (de_attr 1 (by decide) T.cls1 T.n1number (de_v 6)) (da_cons (de_attr 1 (by decide) T.cls1 T.n1hard (de_v 6)) da_nil))) (da_cons (de_tup (da_cons (de_op op_addAll rd_add (de_attr 1 (by decide) T.cls1 T.n1number (de_v 6)) de_int) (da_cons (de_attr 1 (by decide) T.cls1 T.n1hard (de_v 6)) da_nil))) (da_cons (de_tup (da_cons (de_callB (call_lenY (M := M)) rc_lenY (by rfl) T.len (by rfl) (da_cons (de_v 4) da_nil)) (da_cons (de_tup (da_cons (de_v 4) (da_cons (de_v 5) da_nil))) da_nil))) da_nil))))) (pg_tup rfl (pgs_cons (pg_name (i := 9) sc__law_papers_right.nd (by rfl) (by first | exact Or.inl rfl | exact Or.inr rfl)) (pgs_cons (pg_name (i := 10) sc__law_papers_right.nd (by rfl) (by first | exact Or.inl rfl | exact Or.inr rfl)) pgs_nil))) (gt_pair 9 10) (dss_one (ds_if (dt_cmp (op_neY (M := M) hr) rd_neY (de_calM (by decide) C_Few_shows (hr.mono (by decide)) (de_calI C_Few (hr.mono (by decide)) (da_cons (de_v 9) (da_cons (de_v 10) (da_cons (de_v 3) da_nil))) 3) (da_cons (de_v 2) da_nil)) (de_cal C__law_is_few (hr.mono (by decide)) (da_cons (de_v 1) (da_cons (de_v 9) (da_cons (de_v 10) (da_cons (de_v 3) da_nil)))))) (dss_one (ds_ret de_bl)) dss_nil)))))) (nss_cons (ns_for PassesOwn.never rfl (ni_list (ne_cal C_law_bent (hr.mono (by decide)) (pv 0) (na_cons (ne_pure (de_v 1)) (na_cons (ne_pure (de_callTy (call_dictY (M := M) hr) rc_dict (by rfl) T.dict (by rfl) (da_cons (de_attr 2 (by decide) T.cls2 T.n2table (de_v 7)) da_nil))) (na_cons (ne_pure (de_v 5)) na_nil))))) (pg_name (i := 3) sc__law_papers_right.nd (by rfl) (by first | exact Or.inl rfl | exact Or.inr rfl)) (gt_name 3) (nss_pure (dss_one (ds_for PassesOwn.never rfl (di_seq (de_tup (da_cons (de_tup (da_cons (de_attr 2 (by decide) T.cls2 T.n2number (de_v 7)) (da_cons (de_attr 2 (by decide) T.cls2 T.n2thing (de_v 7)) da_nil))) (da_cons (de_tup (da_cons (de_op op_addAll rd_add (de_attr 2 (by decide) T.cls2 T.n2number (de_v 7)) de_int) (da_cons (de_attr 2 (by decide) T.cls2 T.n2thing (de_v 7)) da_nil))) (da_cons (de_tup (da_cons (de_callB (call_lenY (M := M)) rc_lenY (by rfl) T.len (by rfl) (da_cons (de_v 4) da_nil)) (da_cons (de_v 4) da_nil))) da_nil))))) (pg_tup rfl (pgs_cons (pg_name (i := 9) sc__law_papers_right.nd (by rfl) (by first | exact Or.inl rfl | exact Or.inr rfl)) (pgs_cons (pg_name (i := 11) sc__law_papers_right.nd (by rfl) (by first | exact Or.inl rfl | exact Or.inr rfl)) pgs_nil))) (gt_pair 9 11) (dss_one (ds_if (dt_cmp (op_neY (M := M) hr) rd_neY (de_calM (by decide) C_Meeting_shows (hr.mono (by decide)) (de_calI C_Meeting (hr.mono (by decide)) (da_cons (de_v 9) (da_cons (de_v 11) (da_cons (de_v 3) da_nil))) 3) (da_cons (de_v 2) da_nil)) (de_cal C__law_is_meeting (hr.mono (by decide)) (da_cons (de_v 1) (da_cons (de_v 9) (da_cons (de_v 11) (da_cons (de_v 3) da_nil)))))) (dss_one (ds_ret de_bl)) dss_nil)))))) (nss_cons (ns_for PassesOwn.never rfl (ni_list (ne_cal C_law_bent (hr.mono (by decide)) (pv 0) (na_cons (ne_pure (de_v 1)) (na_cons (ne_pure (de_callTy (call_dictY (M := M) hr) rc_dict (by rfl) T.dict (by rfl) (da_cons (de_attr 3 (by decide) T.cls3 T.n3table (de_v 8)) da_nil))) (na_cons (ne_pure (de_tup (da_cons (de_v 4) (da_cons (de_v 5) da_nil)))) na_nil))))) (pg_name (i := 3) sc__law_papers_right.nd (by rfl) (by first | exact Or.inl rfl | exact Or.inr rfl)) (gt_name 3) (nss_pure (dss_one (ds_for PassesOwn.never rfl (di_seq (de_tup (da_cons (de_tup (da_cons (de_attr 3 (by decide) T.cls3 T.n3number (de_v 8)) (da_cons (de_attr 3 (by decide) T.cls3 T.n3thing (de_v 8)) da_nil))) (da_cons (de_tup (da_cons (de_op op_addAll rd_add (de_attr 3 (by decide) T.cls3 T.n3number (de_v 8)) de_int) (da_cons (de_attr 3 (by decide) T.cls3 T.n3thing (de_v 8)) da_nil))) (da_cons (de_tup (da_cons (de_op op_addAll rd_add (de_callB (call_lenY (M := M)) rc_lenY (by rfl) T.len (by rfl) (da_cons (de_v 4) da_nil)) de_int) (da_cons (de_v 4) da_nil))) da_nil))))) (pg_tup rfl (pgs_cons (pg_name (i := 9) sc__law_papers_right.nd (by rfl) (by first | exact Or.inl rfl | exact Or.inr rfl)) (pgs_cons (pg_name (i := 11) sc__law_papers_right.nd (by rfl) (by first | exact Or.inl rfl | exact Or.inr rfl)) pgs_nil))) (gt_pair 9 11) (dss_one (ds_if (dt_cmp (op_neY (M := M) hr) rd_neY (de_calM (by decide) C_Halves_shows (hr.mono (by decide)) (de_calI C_Halves (hr.mono (by decide)) (da_cons (de_v 9) (da_cons (de_v 11) (da_cons (de_v 3) da_nil))) 3) (da_cons (de_v 2) da_nil)) (de_cal C__law_is_halves (hr.mono (by decide)) (da_cons (de_v 1) (da_cons (de_v 9) (da_cons (de_v 11) (da_cons (de_v 3) da_nil)))))) (dss_one (ds_ret de_bl)) dss_nil)))))) (nss_one (ns_pure (ds_ret de_bl))))))))) hi
theorem sc_law : FnScope ["_law_script", "_law_draw_here", "_law_by", "_law_plain_here", "_law_firm", "_law_book", "_law_every", "_law_one", "_law_two", "_law_three", "_law_number_here", "_law_pair"] ["_law_script"] (defScope (top 64)) := ⟨rfl, rfl, rfl, by decide +kernel, rfl, by decide +kernel, by decide +kernel⟩
def W_law (g__law_sets : List D → Option D) (g__law_made : List D → Option D) (g_caratheodory : List D → Option D) (g__law_pairs : List D → Option D) (g__law_least : List D → Option D) (g_helly : List D → Option D) (g__law_shared : List D → Option D) (g__law_can_halve : List D → Option D) (g_radon : List D → Option D) (g_halves : List D → Option D) (g_meeting : List D → Option D) (g_few : List D → Option D) (g_Few_shows : List D → Option D) (g__law_is_few : List D → Option D) (g_Meeting_shows : List D → Option D) (g__law_is_meeting : List D → Option D) (g_Halves_shows : List D → Option D) (g__law_is_halves : List D → Option D) (WPap : List D → (D → Prop) → Prop) : WE Out :=
  (wSeq (wFor (wP (iRange (fC (.int 2)))) (t1 2) (wSeq (wAsg (wDraw 1 3 wPlain (wCons (wP (fC (.int 4))) (wCons (wP (fC (.int 4))) wNil))) (t1 3)) (wSeq (wP (F_law0 g__law_sets g__law_made)) (wSeq (wP (F_law1 g_caratheodory g__law_pairs g__law_least)) (wSeq (wP (F_law2 g_helly g__law_shared)) (wSeq (wP (F_law3 g__law_can_halve)) (wSeq (wP (F_law4 g_radon)) (wSeq (wP (F_law5 g_halves g_meeting g_few)) (wSeq (wP (F_law6 g_Few_shows g__law_is_few)) (wSeq (wP (F_law7 g_Meeting_shows g__law_is_meeting)) (wSeq (wP (F_law8 g_Halves_shows g__law_is_halves)) (wIf (wNot (wB (wDraw 1 3 WPap (wCons (wP (fV 3)) (wCons (wP (fV 5)) wNil))))) (wP (sRet (fC (.bl false)))) (wP sNil))))))))))))) (wP (sRet (fC (.bl true)))))
theorem raw_lawBody {g__law_sets : List D → Option D} {g__law_made : List D → Option D} {g_caratheodory : List D → Option D} {g__law_pairs : List D → Option D} {g__law_least : List D → Option D} {g_helly : List D → Option D} {g__law_shared : List D → Option D} {g__law_can_halve : List D → Option D} {g_radon : List D → Option D} {g_halves : List D → Option D} {g_meeting : List D → Option D} {g_few : List D → Option D} {g_Few_shows : List D → Option D} {g__law_is_few : List D → Option D} {g_Meeting_shows : List D → Option D} {g__law_is_meeting : List D → Option D} {g_Halves_shows : List D → Option D} {g__law_is_halves : List D → Option D} {WPap : List D → (D → Prop) → Prop} (T : Tx K mg M) (C__law_sets : Cal P w K mg base M "_law_sets" ["_law_marks"] 1 g__law_sets) (C__law_made : Cal P w K mg base M "_law_made" ["_law_plain_here"] 6 g__law_made) (C_caratheodory : Cal P w K mg base M "caratheodory" ["book"] 6 g_caratheodory) (C__law_pairs : Cal P w K mg base M "_law_pairs" ["_law_plain_here"] 3 g__law_pairs) (C__law_least : Cal P w K mg base M "_law_least" ["_law_plain_here", "_law_pair"] 3 g__law_least) (C_helly : Cal P w K mg base M "helly" ["book"] 5 g_helly) (C__law_shared : Cal P w K mg base M "_law_shared" ["_law_plain_here", "_law_thing"] 3 g__law_shared) (C__law_can_halve : Cal P w K mg base M "_law_can_halve" ["_law_plain_here", "_law_thing"] 4 g__law_can_halve) (C_radon : Cal P w K mg base M "radon" ["book"] 6 g_radon) (C_halves : Cal P w K mg base M "halves" ["book"] 5 g_halves) (C_meeting : Cal P w K mg base M "meeting" ["book"] 4 g_meeting) (C_few : Cal P w K mg base M "few" ["book"] 5 g_few) (C_Few_shows : CalM P w K mg base M 1 "shows" ["self", "book"] 5 g_Few_shows) (C__law_is_few : Cal P w K mg base M "_law_is_few" ["_law_plain_here", "_law_number_here", "_law_hard", "_law_table"] 4 g__law_is_few) (C_Meeting_shows : CalM P w K mg base M 2 "shows" ["self", "book"] 4 g_Meeting_shows) (C__law_is_meeting : Cal P w K mg base M "_law_is_meeting" ["_law_plain_here", "_law_number_here", "_law_thing", "_law_table"] 4 g__law_is_meeting) (C_Halves_shows : CalM P w K mg base M 3 "shows" ["self", "book"] 5 g_Halves_shows) (C__law_is_halves : Cal P w K mg base M "_law_is_halves" ["_law_plain_here", "_law_number_here", "_law_thing", "_law_table"] 5 g__law_is_halves) (C_law_plain : CalN P w K mg base M "_law_plain" ["_law_draw_here", "_law_most", "_law_many"] 6 wPlain) (C_law_papers_right : CalN P w K mg base M "_law_papers_right" ["_law_draw_here", "_law_plain_here", "_law_book"] 6 WPap) (f : Addr) (cdv : Value) (A : Around) (outer : List Env) (s : Shared) (H : Hp) (E : XK) (hr : Room 6 (A.deeper (envOfC "law" (defScope (top 64)) s.heap.objs.size f cdv))) :
    NB M (cxOf CX0 P w K mg base ["_law_script", "_law_draw_here", "_law_by", "_law_plain_here", "_law_firm", "_law_book", "_law_every", "_law_one", "_law_two", "_law_three", "_law_number_here", "_law_pair"] "law" (defScope (top 64)) f cdv A outer s H E).nox (defBody (top 64)) (W_law g__law_sets g__law_made g_caratheodory g__law_pairs g__law_least g_helly g__law_shared g__law_can_halve g_radon g_halves g_meeting g_few g_Few_shows g__law_is_few g_Meeting_shows g__law_is_meeting g_Halves_shows g__law_is_halves WPap) :=
  nb_cons (ps_draw0 sc_law.nd (by rfl) (Or.inl rfl) (pv 0)) (nss_cons (ns_for PassesOwn.never rfl (ni_pure (di_range de_int T.range)) (pg_name (i := 2) sc_law.nd (by rfl) (by first | exact Or.inl rfl | exact Or.inr rfl)) (gt_name 2) (nss_cons (ns_set (i := 3) sc_law.nd (ne_cal C_law_plain (hr.mono (by decide)) (pv 1) (na_cons (ne_pure de_int) (na_cons (ne_pure de_int) na_nil)))) (nss_cons (ns_pure (ds_asg (de_tup (da_cons (de_cal C__law_made (hr.mono (by decide)) (da_cons (de_v 3) da_nil)) (da_cons (de_cal C__law_sets (hr.mono (by decide)) (da_cons (de_ixX hr (de_v 3) de_int) da_nil)) da_nil))) (pg_tup rfl (pgs_cons (pg_name (i := 5) sc_law.nd (by rfl) (by first | exact Or.inl rfl | exact Or.inr rfl)) (pgs_cons (pg_name (i := 6) sc_law.nd (by rfl) (by first | exact Or.inl rfl | exact Or.inr rfl)) pgs_nil))) (gt_pair 5 6))) (nss_cons (ns_pure (ds_if (dt_cmp (op_neY (M := M) hr) rd_neY (de_cal C_caratheodory (hr.mono (by decide)) (da_cons (de_v 5) da_nil)) (de_callB (id := "max") (cr_ex hr true) rc_max (by rfl) T.max (by rfl) (da_cons (de_lc (own := [("_law_pair", 11)]) rfl sc_law.nd (di_seq (de_cal C__law_pairs (hr.mono (by decide)) (da_cons (de_v 3) da_nil))) (blkOk_by (by rfl)) (gt_name 11) (fun _ _ _ _ _ => (pg_name (i := 11) sc_law.nd (by rfl) (by first | exact Or.inl rfl | exact Or.inr rfl))) (fun _ _ _ _ _ => dts_nil) (fun _ _ _ _ _ => (de_cal C__law_least (hr.mono (by decide)) (da_cons (de_v 3) (da_cons (de_v 11) da_nil))))) da_nil))) (dss_one (ds_ret de_bl)) dss_nil)) (nss_cons (ns_pure (ds_if (dt_cmp (op_neY (M := M) hr) rd_neY (de_cal C_helly (hr.mono (by decide)) (da_cons (de_v 5) da_nil)) (de_callB (id := "max") (cr_ex hr true) rc_max (by rfl) T.max (by rfl) (da_cons (de_lc (own := [("_law_one", 7)]) rfl sc_law.nd (di_seq (de_v 6)) (blkOk_by (by rfl)) (gt_name 7) (fun _ _ _ _ _ => (pg_name (i := 7) sc_law.nd (by rfl) (by first | exact Or.inl rfl | exact Or.inr rfl))) (fun _ _ _ _ _ => (dts_one (dw_t (dw_or (dt_cmp (op_eqX hr) rd_eq (de_v 7) (de_tup da_nil)) (dw_or1 (dt_cmp (op_eqX hr) rd_eq (de_cal C__law_shared (hr.mono (by decide)) (da_cons (de_v 3) (da_cons (de_v 7) da_nil))) (de_tup da_nil))))))) (fun _ _ _ _ _ => (de_callB (call_lenY (M := M)) rc_lenY (by rfl) T.len (by rfl) (da_cons (de_v 7) da_nil)))) da_nil))) (dss_one (ds_ret de_bl)) dss_nil)) (nss_cons (ns_pure (ds_setLc (i := 4) (own := [("_law_number_here", 10)]) rfl sc_law.nd (di_range (de_op op_addAll rd_add (de_ixX hr (de_v 3) de_int) de_int) T.range) (blkOk_by (by rfl)) (gt_name 10) (sw_true rfl (by rfl) (by rfl) (by rfl)) (fun _ _ _ _ _ => (pg_name (i := 10) sc_law.nd (by rfl) (by first | exact Or.inl rfl | exact Or.inr rfl))) (fun _ _ _ _ _ => (dts_one (dt_val (de_callB (cr_all rfl) rc_all (by rfl) T.all (by rfl) (da_cons (de_lc (own := [("_law_one", 7)]) rfl sc_law.nd (di_seq (de_v 6)) (blkOk_by (by rfl)) (gt_name 7) (fun _ _ _ _ _ => (pg_name (i := 7) sc_law.nd (by rfl) (by first | exact Or.inl rfl | exact Or.inr rfl))) (fun _ _ _ _ _ => (dts_one (dt_cmp (op_eqX hr) rd_eq (de_callB (call_lenY (M := M)) rc_lenY (by rfl) T.len (by rfl) (da_cons (de_v 7) da_nil)) (de_v 10)))) (fun _ _ _ _ _ => (de_cal C__law_can_halve (hr.mono (by decide)) (da_cons (de_v 3) (da_cons (de_v 7) da_nil))))) da_nil))))) (fun _ _ _ _ _ => (de_v 10)))) (nss_cons (ns_pure (ds_if (dt_cmp (op_neY (M := M) hr) rd_neY (de_cal C_radon (hr.mono (by decide)) (da_cons (de_v 5) da_nil)) (de_ixX hr (de_v 4) de_int)) (dss_one (ds_ret de_bl)) dss_nil)) (nss_cons (ns_pure (ds_par3 (i := 7) (j := 8) (l := 9) rfl sc_law.nd (da_cons (de_cal C_few (hr.mono (by decide)) (da_cons (de_v 5) da_nil)) (da_cons (de_cal C_meeting (hr.mono (by decide)) (da_cons (de_v 5) da_nil)) (da_cons (de_cal C_halves (hr.mono (by decide)) (da_cons (de_v 5) da_nil)) da_nil))))) (nss_cons (ns_pure (ds_if (dw_t (dw_or (dt_not (dt_val (de_calM (by decide) C_Few_shows (hr.mono (by decide)) (de_v 7) (da_cons (de_v 5) da_nil)))) (dw_or1 (dt_not (dt_val (de_cal C__law_is_few (hr.mono (by decide)) (da_cons (de_v 3) (da_cons (de_attr 1 (by decide) T.cls1 T.n1number (de_v 7)) (da_cons (de_attr 1 (by decide) T.cls1 T.n1hard (de_v 7)) (da_cons (de_attr 1 (by decide) T.cls1 T.n1table (de_v 7)) da_nil)))))))))) (dss_one (ds_ret de_bl)) dss_nil)) (nss_cons (ns_pure (ds_if (dw_t (dw_or (dt_not (dt_val (de_calM (by decide) C_Meeting_shows (hr.mono (by decide)) (de_v 8) (da_cons (de_v 5) da_nil)))) (dw_or1 (dt_not (dt_val (de_cal C__law_is_meeting (hr.mono (by decide)) (da_cons (de_v 3) (da_cons (de_attr 2 (by decide) T.cls2 T.n2number (de_v 8)) (da_cons (de_attr 2 (by decide) T.cls2 T.n2thing (de_v 8)) (da_cons (de_attr 2 (by decide) T.cls2 T.n2table (de_v 8)) da_nil)))))))))) (dss_one (ds_ret de_bl)) dss_nil)) (nss_cons (ns_pure (ds_if (dw_t (dw_or (dt_not (dt_val (de_calM (by decide) C_Halves_shows (hr.mono (by decide)) (de_v 9) (da_cons (de_v 5) da_nil)))) (dw_or1 (dt_not (dt_val (de_cal C__law_is_halves (hr.mono (by decide)) (da_cons (de_v 3) (da_cons (de_attr 3 (by decide) T.cls3 T.n3number (de_v 9)) (da_cons (de_attr 3 (by decide) T.cls3 T.n3thing (de_v 9)) (da_cons (de_attr 3 (by decide) T.cls3 T.n3table (de_v 9)) da_nil)))))))))) (dss_one (ds_ret de_bl)) dss_nil)) (nss_one (ns_if (nt_not (nt_val (ne_cal C_law_papers_right (hr.mono (by decide)) (pv 1) (na_cons (ne_pure (de_v 3)) (na_cons (ne_pure (de_v 5)) na_nil))))) (nss_pure (dss_one (ds_ret de_bl))) (nss_pure dss_nil)))))))))))))) (nss_one (ns_pure (ds_ret de_bl))))
end
end Dx
/-! The law's promise. -/
namespace Dx
open PySem PySem.Spec PyProof.Rows L2
def spLaw (C : Cs) : Sp := fun vs H Q _ => ∃ (a : Addr) (ns : List Int), vs = [.ref a] ∧ LamX.Tabs C.T H ∧ SqL C.K H a (ns.map V.int) ∧ ns.length ≤ 1000 ∧ ∀ H', Q (.bl true) H'
def lawEn (p : Addr) : En := [none, some (.raw (.ref p)), none, none, none, none, none, none, none, none, none, none]
theorem law_ok {P : Program} {w : World} {K : PySem.W.Frag} {mg : Str → Option Value} {base : Heap} {M : Mm} {k : Nat} {W : WE Out} {a : Addr} {fd : FuncData} (h1 : Fun K "law" "law" (top 64) a fd)
    (hb : ∀ (f : Addr) (cdv : Value) (A : Around) (outer : List Env) (s : Shared) (H : Hp) (E : XK), Room k (A.deeper (envOfC "law" (defScope (top 64)) s.heap.objs.size f cdv)) →
      NB M (cxOf CX0 P w K mg base ["_law_script", "_law_draw_here", "_law_by", "_law_plain_here", "_law_firm", "_law_book", "_law_every", "_law_one", "_law_two", "_law_three", "_law_number_here", "_law_pair"] "law" (defScope (top 64)) f cdv A outer s H E).nox (defBody (top 64)) W)
    (hW : ∀ p, W p (lawEn p) fun o => o = .rt (.bl true)) : FnOk P w K mg base CX0 (k + 1) a fd ["_law_script"] (spLaw ⟨P, w, K, M.cl, M.T⟩) := by
  refine h1.ok sc_law (fun vs H Q E hh => ?_) fun cdv A outer s H vs Q E hr hh => ?_
  · obtain ⟨b, ns, rfl, _⟩ := hh
    rfl
  · obtain ⟨b, ns, rfl, ht, hS, hl, q⟩ := hh
    have B := hb a cdv A outer s H E hr
    refine ⟨_, B.ps, ?_⟩
    refine ⟨b, ns, rfl, ht, hS, hl, fun Z p H1 o => ?_⟩
    refine ⟨Z, lawEn p, p, o, ⟨rfl, fun i d hi => ?_⟩, B.mn p _ _ _ (fun r hr' => ?_) (hW p)⟩
    · match i with
      | 0 => cases hi
      | 1 => cases hi; exact ⟨_, rfl, .raw _⟩
      | 2 | 3 | 4 | 5 | 6 | 7 | 8 | 9 | 10 | 11 => cases hi
      | n + 12 => cases hi
    · subst hr'
      intro v H' _ i
      cases i
      exact q H'
end Dx
/-! The sets of at most four marks, and their orders. -/
namespace Dx
open PySem PySem.Spec PyProof.Rows L2
/-- all sets of four marks, by size -/
def A4 : List Sx := [[], [0], [1], [2], [3], [0, 1], [0, 2], [0, 3], [1, 2], [1, 3], [2, 3], [0, 1, 2], [0, 1, 3], [0, 2, 3], [1, 2, 3], [0, 1, 2, 3]]
/-- in the order of tuples -/
def B4 : List Sx := [[], [0], [0, 1], [0, 1, 2], [0, 1, 2, 3], [0, 1, 3], [0, 2], [0, 2, 3], [0, 3], [1], [1, 2], [1, 2, 3], [1, 3], [2], [2, 3], [3]]
def kA (s : Sx) : Nat := A4.idxOf s
def kB (s : Sx) : Nat := B4.idxOf s
def kP (p : Sx × Int) : Nat := kB p.1 * 4 + p.2.toNat
def tP (p : Sx × Int) : D := .tup [tS p.1, .int p.2]
def M4 : List Int := [0, 1, 2, 3]
def P4 : List (Sx × Int) := A4.flatMap fun s => M4.map fun i => (s, i)
theorem leLen_A : (A4.all fun a => A4.all fun b => leLen (tS a) (tS b) == decide (kA a ≤ kA b)) = true := by kernel_rfl
theorem leD_A : (A4.all fun a => A4.all fun b => leD (tS a) (tS b) == decide (kB a ≤ kB b)) = true := by kernel_rfl
theorem leD_P : (P4.all fun a => P4.all fun b => leD (tP a) (tP b) == decide (kP a ≤ kP b)) = true := by kernel_rfl
end Dx
/-! The closure: plain facts. -/
namespace Dx
open PySem PySem.Spec PyProof.Rows L2
theorem nodup_len : ∀ (l t : List Int), l.Nodup → (∀ x ∈ l, x ∈ t) → l.length ≤ t.length
  | [], _, _, _ => Nat.zero_le _
  | x :: l, t, h, s => by
    rw [List.nodup_cons] at h
    have hx := s x (List.mem_cons_self ..)
    have ih := nodup_len l (t.erase x) h.2 fun y hy => (List.mem_erase_of_ne (fun e => h.1 (by rw [← e]; exact hy))).mpr (s y (List.mem_cons_of_mem _ hy))
    rw [List.length_erase_of_mem hx] at ih
    have : 0 < t.length := List.length_pos_of_mem hx
    rw [List.length_cons]
    omega
theorem ksAdd_ext : ∀ (xs h : Sx), ∃ e, ksAdd h xs = h ++ e
  | [], h => ⟨[], by simp [ksAdd]⟩
  | x :: xs, h => by
    obtain ⟨e, he⟩ := ksAdd_ext xs (if h.contains x = true then h else h ++ [x])
    have e1 : ksAdd h (x :: xs) = ksAdd (if h.contains x = true then h else h ++ [x]) xs := rfl
    rw [e1, he]
    split
    · exact ⟨e, rfl⟩
    · exact ⟨x :: e, by rw [List.append_assoc]; rfl⟩
theorem ksAdd_nodup : ∀ (xs h : Sx), h.Nodup → (ksAdd h xs).Nodup
  | [], h, n => by simpa [ksAdd] using n
  | x :: xs, h, n => by
    have e1 : ksAdd h (x :: xs) = ksAdd (if h.contains x = true then h else h ++ [x]) xs := rfl
    rw [e1]
    apply ksAdd_nodup xs
    split
    · exact n
    · rename_i hx
      rw [List.nodup_append]
      refine ⟨n, by simp, fun a ha b hb => ?_⟩
      have : b = x := by simpa using hb
      subst this
      intro e
      subst e
      exact hx (by simpa using ha)
theorem ksAdd_filter : ∀ (xs h : Sx), xs.Nodup → ksAdd h xs = h ++ xs.filter fun x => !h.contains x
  | [], h, _ => by simp [ksAdd]
  | x :: xs, h, n => by
    have e1 : ksAdd h (x :: xs) = ksAdd (if h.contains x = true then h else h ++ [x]) xs := rfl
    rw [List.nodup_cons] at n
    rw [e1, ksAdd_filter xs _ n.2]
    by_cases hx : h.contains x = true
    · rw [if_pos hx, List.filter_cons_of_neg (by rw [hx]; decide)]
    · rw [if_neg hx, List.filter_cons_of_pos (by simpa using hx), List.append_assoc]
      congr 1
      show x :: (xs.filter _) = _
      congr 1
      apply List.filter_congr
      intro y hy
      have : y ≠ x := fun e => n.1 (by rw [← e]; exact hy)
      simp [this]
section
variable {rs : List Rl} {m : Int}
theorem fire1_ext (r : Rl) (h : Sx) : ∃ e, fire1 h r = h ++ e := by
  unfold fire1
  split
  · exact ksAdd_ext _ _
  · exact ⟨[], by simp⟩
theorem fire_ext : ∀ (rs : List Rl) (h : Sx), ∃ e, fire rs h = h ++ e
  | [], h => ⟨[], by simp [fire]⟩
  | r :: rs, h => by
    obtain ⟨e, he⟩ := fire1_ext r h
    obtain ⟨e2, h2⟩ := fire_ext rs (fire1 h r)
    refine ⟨e ++ e2, ?_⟩
    show fire rs (fire1 h r) = _
    rw [h2, he, List.append_assoc]
theorem fire1_nodup (r : Rl) {h : Sx} (n : h.Nodup) : (fire1 h r).Nodup := by
  unfold fire1
  split
  · exact ksAdd_nodup _ _ n
  · exact n
theorem fire_nodup : ∀ (rs : List Rl) {h : Sx}, h.Nodup → (fire rs h).Nodup
  | [], _, n => n
  | r :: rs, _, n => fire_nodup rs (fire1_nodup r n)
def inM (m : Int) (h : Sx) : Prop := ∀ x ∈ h, 0 ≤ x ∧ x < m
theorem fire1_in {r : Rl} (v : Vr m r) {h : Sx} (n : inM m h) : inM m (fire1 h r) := by
  unfold fire1
  split
  · intro x hx
    rcases mem_ksAdd.mp hx with hx | hx
    · exact n x hx
    · exact v.2.2 x hx
  · exact n
theorem fire_in : ∀ (rs : List Rl) {h : Sx}, (∀ r ∈ rs, Vr m r) → inM m h → inM m (fire rs h)
  | [], _, _, n => n
  | r :: rs, _, v, n => fire_in rs (fun q hq => v q (List.mem_cons_of_mem _ hq)) (fire1_in (v r (List.mem_cons_self ..)) n)
def subL (h g : Sx) : Prop := ∀ x ∈ h, x ∈ g
theorem subI_iff {s t : Sx} : subI s t = true ↔ subL s t := by
  unfold subI subL
  rw [List.all_eq_true]
  exact ⟨fun h x hx => by simpa using h x hx, fun h x hx => by simpa using h x hx⟩
theorem fire1_mono {r : Rl} {h g : Sx} (s : subL h g) : subL (fire1 h r) (fire1 g r) := by
  by_cases e : subI r.1 h = true
  · have e2 : subI r.1 g = true := subI_iff.mpr fun x hx => s x (subI_iff.mp e x hx)
    unfold fire1
    rw [if_pos e, if_pos e2]
    intro x hx
    rcases mem_ksAdd.mp hx with hx | hx
    · exact mem_ksAdd.mpr (.inl (s x hx))
    · exact mem_ksAdd.mpr (.inr hx)
  · obtain ⟨q, hq⟩ := fire1_ext r g
    have e1 : fire1 h r = h := by unfold fire1; rw [if_neg e]
    rw [e1, hq]
    exact fun x hx => List.mem_append_left _ (s x hx)
theorem fire_mono : ∀ (rs : List Rl) {h g : Sx}, subL h g → subL (fire rs h) (fire rs g)
  | [], _, _, s => s
  | r :: rs, _, _, s => fire_mono rs (fire1_mono s)
def itF (rs : List Rl) : Nat → Sx → Sx
  | 0, h => h
  | k + 1, h => itF rs k (fire rs h)
theorem itF_ext (rs : List Rl) : ∀ (k : Nat) (h : Sx), ∃ e, itF rs k h = h ++ e
  | 0, h => ⟨[], by simp [itF]⟩
  | k + 1, h => by
    obtain ⟨e, he⟩ := fire_ext rs h
    obtain ⟨e2, h2⟩ := itF_ext rs k (fire rs h)
    exact ⟨e ++ e2, by show itF rs k (fire rs h) = _; rw [h2, he, List.append_assoc]⟩
theorem itF_nodup : ∀ (k : Nat) {h : Sx}, h.Nodup → (itF rs k h).Nodup
  | 0, _, n => n
  | k + 1, _, n => itF_nodup k (fire_nodup rs n)
theorem itF_in (v : ∀ r ∈ rs, Vr m r) : ∀ (k : Nat) {h : Sx}, inM m h → inM m (itF rs k h)
  | 0, _, n => n
  | k + 1, _, n => itF_in v k (fire_in rs v n)
theorem itF_mono : ∀ (k : Nat) {h g : Sx}, subL h g → subL (itF rs k h) (itF rs k g)
  | 0, _, _, s => s
  | k + 1, _, _, s => itF_mono k (fire_mono rs s)
theorem fire_fix {h : Sx} (e : (fire rs h).length = h.length) : fire rs h = h := by
  obtain ⟨x, hx⟩ := fire_ext rs h
  rw [hx, List.length_append] at e
  have : x = [] := List.length_eq_zero_iff.mp (by omega)
  rw [hx, this, List.append_nil]
theorem itF_fix {h : Sx} (e : fire rs h = h) : ∀ k, itF rs k h = h
  | 0 => rfl
  | k + 1 => by show itF rs k (fire rs h) = h; rw [e]; exact itF_fix e k
/-- k turns: still at a fixed point, or k marks more -/
theorem itF_grow : ∀ (k : Nat) (h : Sx), (∃ j, j ≤ k ∧ fire rs (itF rs j h) = itF rs j h ∧ itF rs k h = itF rs j h) ∨ h.length + k ≤ (itF rs k h).length
  | 0, h => .inr (Nat.le_refl _)
  | k + 1, h => by
    by_cases e : (fire rs h).length = h.length
    · have f := fire_fix e
      exact .inl ⟨0, Nat.zero_le _, f, itF_fix f (k + 1)⟩
    · rcases itF_grow k (fire rs h) with ⟨j, hj, h1, h2⟩ | h1
      · exact .inl ⟨j + 1, by omega, h1, h2⟩
      · refine .inr ?_
        obtain ⟨x, hx⟩ := fire_ext rs h
        have : (fire rs h).length = h.length + x.length := by rw [hx, List.length_append]
        show _ ≤ (itF rs k (fire rs h)).length
        omega
theorem rg_len (m : Int) : (rg m).length = m.toNat := by unfold rg; rw [List.length_map, List.length_range]
theorem in_len {h : Sx} (n : h.Nodup) (i : inM m h) : h.length ≤ m.toNat := by
  rw [← rg_len]
  exact nodup_len h (rg m) n fun x hx => rg_mem.mpr (i x hx)
theorem itF_stable (v : ∀ r ∈ rs, Vr m r) {h : Sx} (n : h.Nodup) (i : inM m h) {k : Nat} (hk : m.toNat < k) : fire rs (itF rs k h) = itF rs k h := by
  rcases itF_grow (rs := rs) k h with ⟨j, hj, h1, h2⟩ | h1
  · rw [h2]; exact h1
  · have := in_len (itF_nodup (rs := rs) k n) (itF_in v k i)
    omega
theorem itF_add (a : Nat) : ∀ (b : Nat) (h : Sx), itF rs (b + a) h = itF rs a (itF rs b h)
  | 0, h => by rw [Nat.zero_add]; rfl
  | b + 1, h => by
    rw [show b + 1 + a = (b + a) + 1 by omega]
    exact itF_add a b (fire rs h)
theorem itF_same (v : ∀ r ∈ rs, Vr m r) {h : Sx} (n : h.Nodup) (i : inM m h) {k l : Nat} (hk : m.toNat < k) (hl : k ≤ l) : itF rs l h = itF rs k h := by
  obtain ⟨a, rfl⟩ : ∃ a, l = k + a := ⟨l - k, by omega⟩
  rw [itF_add]
  exact itF_fix (itF_stable v n i hk) a
theorem lp_is (v : ∀ r ∈ rs, Vr m r) (hm : m.toNat ≤ 1000) : ∀ (N n : Nat) (h : Sx) (mm : Int), h.Nodup → inM m h → fire rs (itF rs N h) = itF rs N h → (mm = h.length → fire rs h = h) → N + 2 ≤ n → lp rs n h mm = some (itF rs N h)
  | N, 0, h, mm, nd, i, st, c, hn => by omega
  | N, n + 1, h, mm, nd, i, st, c, hn => by
    have hl := in_len nd i
    unfold lp
    rw [if_pos (by omega)]
    by_cases e : mm = (h.length : Int)
    · rw [if_pos e, itF_fix (c e)]
    · rw [if_neg e]
      cases N with
      | zero =>
        have st : fire rs h = h := st
        rw [st]
        cases n with
        | zero => omega
        | succ n =>
          unfold lp
          rw [if_pos (by omega), if_pos rfl]
          rfl
      | succ N =>
        exact lp_is v hm N n (fire rs h) h.length (fire_nodup rs nd) (fire_in rs v i) st (fun e => by
          have := fire_fix (rs := rs) (h := h) (by omega)
          rw [this, this]) (by omega)
end
/-! ### books -/
structure Ct (m : Int) (rs : List Rl) : Prop where
  m1 : 1 ≤ m
  m4 : m ≤ 4
  len : rs.length ≤ 4
  v : ∀ r ∈ rs, Vr m r
def cl (rs : List Rl) (s : Sx) : Sx := sortI (itF rs 5 s)
theorem sortI_mem {x : Int} {s : Sx} : x ∈ sortI s ↔ x ∈ s := (List.mergeSort_perm s leI).mem_iff
theorem sortI_sorted (s : Sx) : (sortI s).Pairwise (· ≤ ·) := by
  have h := List.pairwise_mergeSort (le := leI) (fun a b c h1 h2 => by unfold leI at *; simp at *; omega) (fun a b => by unfold leI; simp; omega) s
  exact h.imp fun h => by unfold leI at h; simpa using h
theorem Vs.nodup {m : Int} {s : Sx} (h : Vs m s) : s.Nodup := h.1.imp fun h e => by omega
theorem sort_vs {m : Int} {s : Sx} (n : s.Nodup) (i : inM m s) : Vs m (sortI s) := by
  refine ⟨?_, fun x hx => i x (sortI_mem.mp hx)⟩
  have h1 := sortI_sorted s
  have h2 : (sortI s).Nodup := (List.mergeSort_perm s leI).nodup_iff.mpr n
  exact (h1.and h2).imp fun ⟨a, b⟩ => by omega
section
variable {m : Int} {rs : List Rl} {s t : Sx}
theorem cl_vs (c : Ct m rs) (h : Vs m s) : Vs m (cl rs s) := sort_vs (itF_nodup 5 h.nodup) (itF_in c.v 5 h.2)
theorem cl_ext {x : Int} (h : x ∈ s) : x ∈ cl rs s := by
  obtain ⟨e, he⟩ := itF_ext rs 5 s
  unfold cl
  rw [sortI_mem, he]
  exact List.mem_append_left _ h
theorem cl_mono (h : subL s t) : subL (cl rs s) (cl rs t) := fun x hx => sortI_mem.mpr (itF_mono 5 h x (sortI_mem.mp hx))
theorem ksAdd_nil (n : s.Nodup) : ksAdd [] s = s := by
  rw [ksAdd_filter s [] n]
  simp
theorem clo_is (c : Ct m rs) (h : Vs m s) : clo rs s = some (cl rs s) := by
  have hm4 := c.m4
  have hl := in_len h.nodup h.2
  have hs : (smallRs rs && decide (s.length ≤ 1000)) = true := by
    unfold smallRs
    rw [Bool.and_eq_true, Bool.and_eq_true, decide_eq_true_eq, decide_eq_true_eq, List.all_eq_true]
    refine ⟨⟨by have := c.len; omega, fun r hr => decide_eq_true ?_⟩, by omega⟩
    have := in_len (c.v r hr).2.nodup (c.v r hr).2.2
    omega
  unfold clo
  rw [if_pos hs, ksAdd_nil h.nodup, lp_is c.v (by omega) 5 100 s (-1) h.nodup h.2 (itF_stable c.v h.nodup h.2 (by omega)) (fun e => by omega) (by omega)]
  have := in_len (itF_nodup (rs := rs) 5 h.nodup) (itF_in c.v 5 h.2)
  show (if (itF rs 5 s).length < 64 then _ else _) = _
  rw [if_pos (by omega)]
  rfl
theorem gcl (c : Ct m rs) (h : Vs m s) : g_closure [tRs rs, tS s] = some (tS (cl rs s)) := by
  show ((decRs (tRs rs)).bind fun rs => (decS (tS s)).bind fun s => (clo rs s).map tS) = _
  rw [decRs_t, decS_t]
  show (clo rs s).map tS = _
  rw [clo_is c h]
  rfl
end
end Dx
/-! Sorting by ranks; the sets below m; what needs no closure, by trying all. -/
namespace Dx
open PySem PySem.Spec PyProof.Rows L2
theorem map_inj_on {α β : Type} {f : α → β} : ∀ {xs ys : List α}, (∀ a ∈ xs, ∀ b ∈ ys, f a = f b → a = b) → xs.map f = ys.map f → xs = ys
  | [], [], _, _ => rfl
  | [], _ :: _, _, e => by cases e
  | _ :: _, [], _, e => by cases e
  | x :: xs, y :: ys, h, e => by
    rw [List.map_cons, List.map_cons] at e
    injection e with e1 e2
    rw [h x (List.mem_cons_self ..) y (List.mem_cons_self ..) e1, map_inj_on (fun a ha b hb => h a (List.mem_cons_of_mem _ ha) b (List.mem_cons_of_mem _ hb)) e2]
theorem sort_rank {α : Type} {le : α → α → Bool} {xs ys : List α} (rk : α → Int) (hle : ∀ a ∈ xs, ∀ b ∈ xs, le a b = decide (rk a ≤ rk b)) (inj : ∀ a ∈ xs, ∀ b ∈ xs, rk a = rk b → a = b) (perm : ys.Perm xs) (srt : ys.Pairwise fun a b => rk a ≤ rk b) : xs.mergeSort le = ys := by
  have h1 : (xs.mergeSort le).map rk = (xs.map rk).mergeSort fun a b => decide (a ≤ b) := List.map_mergeSort hle
  have h2 : ys.map rk = (xs.map rk).mergeSort fun a b => decide (a ≤ b) := sort_ints (perm.map rk) (by rw [List.pairwise_map]; exact srt)
  refine map_inj_on (fun a ha b hb e => inj a ?_ b ?_ e) (h1.trans h2.symm)
  · exact (List.mergeSort_perm xs le).mem_iff.mp ha
  · exact perm.mem_iff.mp hb
theorem idx_inj : ∀ {l : List Sx} {a b : Sx}, a ∈ l → l.idxOf a = l.idxOf b → a = b
  | x :: l, a, b, ha, e => by
    rw [List.idxOf_cons, List.idxOf_cons] at e
    by_cases h1 : x = a
    · by_cases h2 : x = b
      · rw [← h1, h2]
      · have q1 : (x == a) = true := by simpa using h1
        have q2 : (x == b) = false := by simpa using h2
        rw [q1, q2] at e
        simp at e
    · have q1 : (x == a) = false := by simpa using h1
      have ha' : a ∈ l := by
        rcases List.mem_cons.mp ha with rfl | ha
        · exact absurd rfl h1
        · exact ha
      by_cases h2 : x = b
      · have q2 : (x == b) = true := by simpa using h2
        rw [q1, q2] at e
        simp at e
      · have q2 : (x == b) = false := by simpa using h2
        rw [q1, q2] at e
        simp at e
        exact idx_inj ha' e
theorem ex2 {f : Sx → Sx → Bool} {g : Sx → Sx → Bool} (h : (A4.all fun a => A4.all fun b => f a b == g a b) = true) {a b : Sx} (ha : a ∈ A4) (hb : b ∈ A4) : f a b = g a b := by
  have := List.all_eq_true.mp (List.all_eq_true.mp h a ha) b hb
  simpa using this
theorem leLen_is {a b : Sx} (ha : a ∈ A4) (hb : b ∈ A4) : leLen (tS a) (tS b) = decide ((kA a : Int) ≤ kA b) := by
  rw [ex2 leLen_A ha hb]
  congr 1
  rw [Int.ofNat_le]
theorem leD_is {a b : Sx} (ha : a ∈ A4) (hb : b ∈ A4) : leD (tS a) (tS b) = decide ((kB a : Int) ≤ kB b) := by
  rw [ex2 leD_A ha hb]
  congr 1
  rw [Int.ofNat_le]
theorem mem_B4 {a : Sx} (h : a ∈ A4) : a ∈ B4 := by
  have : (A4.all fun a => B4.contains a) = true := by kernel_rfl
  simpa using List.all_eq_true.mp this a h
theorem tS_inj {a b : Sx} (h : tS a = tS b) : a = b := by
  have := congrArg decS h
  rw [decS_t, decS_t] at this
  exact Option.some.inj this
def rkA (d : D) : Int := match decS d with
  | some s => kA s
  | none => 0
def rkB (d : D) : Int := match decS d with
  | some s => kB s
  | none => 0
theorem rkA_t (s : Sx) : rkA (tS s) = kA s := by unfold rkA; rw [decS_t]
theorem rkB_t (s : Sx) : rkB (tS s) = kB s := by unfold rkB; rw [decS_t]
/-- sorted by length, then as tuples -/
theorem sortLen_is {xs ys : List Sx} (h : ∀ s ∈ xs, s ∈ A4) (perm : ys.Perm xs) (srt : ys.Pairwise fun a b => kA a ≤ kA b) : (xs.map tS).mergeSort leLen = ys.map tS := by
  refine sort_rank rkA (fun a ha b hb => ?_) (fun a ha b hb e => ?_) (perm.map tS) ?_
  · obtain ⟨x, hx, rfl⟩ := List.mem_map.mp ha
    obtain ⟨y, hy, rfl⟩ := List.mem_map.mp hb
    rw [rkA_t, rkA_t]
    exact leLen_is (h x hx) (h y hy)
  · obtain ⟨x, hx, rfl⟩ := List.mem_map.mp ha
    obtain ⟨y, hy, rfl⟩ := List.mem_map.mp hb
    rw [rkA_t, rkA_t] at e
    exact congrArg tS (idx_inj (h x hx) (by unfold kA at e; omega))
  · rw [List.pairwise_map]
    exact srt.imp fun h => by rw [rkA_t, rkA_t]; omega
theorem sortD_is {xs ys : List Sx} (h : ∀ s ∈ xs, s ∈ A4) (perm : ys.Perm xs) (srt : ys.Pairwise fun a b => kB a ≤ kB b) : (xs.map tS).mergeSort leD = ys.map tS := by
  refine sort_rank rkB (fun a ha b hb => ?_) (fun a ha b hb e => ?_) (perm.map tS) ?_
  · obtain ⟨x, hx, rfl⟩ := List.mem_map.mp ha
    obtain ⟨y, hy, rfl⟩ := List.mem_map.mp hb
    rw [rkB_t, rkB_t]
    exact leD_is (h x hx) (h y hy)
  · obtain ⟨x, hx, rfl⟩ := List.mem_map.mp ha
    obtain ⟨y, hy, rfl⟩ := List.mem_map.mp hb
    rw [rkB_t, rkB_t] at e
    exact congrArg tS (idx_inj (mem_B4 (h x hx)) (by unfold kB at e; omega))
  · rw [List.pairwise_map]
    exact srt.imp fun h => by rw [rkB_t, rkB_t]; omega
/-! ### the sets below m -/
def U (m : Int) : List Sx := A4.filter fun s => s.all fun i => decide (i < m)
def parts (s : Sx) : List Sx := A4.filter fun t => subI t s
theorem strict_filter {s t : Sx} (hs : s.Pairwise (· < ·)) (ht : t.Pairwise (· < ·)) (sub : subL s t) : s = t.filter fun x => s.contains x := by
  induction t generalizing s with
  | nil =>
    cases s with
    | nil => rfl
    | cons x s => exact absurd (sub x (List.mem_cons_self ..)) (by simp)
  | cons y t ih =>
    rw [List.pairwise_cons] at ht
    cases s with
    | nil => simp
    | cons x s =>
      rw [List.pairwise_cons] at hs
      by_cases e : x = y
      · subst e
        rw [List.filter_cons_of_pos (by simp)]
        congr 1
        have h2 : subL s t := fun z hz => by
          rcases List.mem_cons.mp (sub z (List.mem_cons_of_mem _ hz)) with rfl | h
          · exact absurd (hs.1 z hz) (by omega)
          · exact h
        rw [ih hs.2 ht.2 h2]
        apply List.filter_congr
        intro z hz
        have : z ≠ x := fun e => by have := ht.1 z hz; omega
        rw [← ih hs.2 ht.2 h2]
        simp [this]
      · have hx : x ∈ t := by
          rcases List.mem_cons.mp (sub x (List.mem_cons_self ..)) with h | h
          · exact absurd h e
          · exact h
        have hxy := ht.1 x hx
        have hn : ¬ y ∈ (x :: s) := fun h => by
          rcases List.mem_cons.mp h with h | h
          · exact e h.symm
          · have := hs.1 y h; omega
        rw [List.filter_cons_of_neg (by simpa using hn)]
        refine ih (List.pairwise_cons.mpr hs) ht.2 fun z hz => ?_
        rcases List.mem_cons.mp (sub z hz) with rfl | h
        · exact absurd hz hn
        · exact h
theorem vs_A4 {s : Sx} (h : Vs 4 s) : s ∈ A4 := by
  have e := strict_filter h.1 (t := M4) (by decide) fun x hx => by
    have := h.2 x hx
    have : x = 0 ∨ x = 1 ∨ x = 2 ∨ x = 3 := by omega
    rcases this with rfl | rfl | rfl | rfl <;> decide
  rw [e]
  generalize (fun x => s.contains x) = p
  cases h0 : p 0 <;> cases h1 : p 1 <;> cases h2 : p 2 <;> cases h3 : p 3 <;> simp [M4, A4, List.filter_cons, h0, h1, h2, h3]
theorem A4_vs {s : Sx} (h : s ∈ A4) : Vs 4 s := by
  have : (A4.all fun s => decide (s.Pairwise (· < ·)) && s.all fun i => decide (0 ≤ i ∧ i < 4)) = true := by kernel_rfl
  have q := List.all_eq_true.mp this s h
  rw [Bool.and_eq_true, decide_eq_true_eq, List.all_eq_true] at q
  exact ⟨q.1, fun i hi => by simpa using q.2 i hi⟩
theorem mem_U {m : Int} (h4 : m ≤ 4) {s : Sx} : s ∈ U m ↔ Vs m s := by
  unfold U
  rw [List.mem_filter, List.all_eq_true]
  constructor
  · rintro ⟨h1, h2⟩
    have v := A4_vs h1
    exact ⟨v.1, fun i hi => ⟨(v.2 i hi).1, by simpa using h2 i hi⟩⟩
  · intro v
    exact ⟨vs_A4 ⟨v.1, fun i hi => by have := v.2 i hi; omega⟩, fun i hi => by simpa using (v.2 i hi).2⟩
theorem mem_parts {s t : Sx} (hs : s ∈ A4) : t ∈ parts s ↔ Vs 4 t ∧ subL t s := by
  unfold parts
  rw [List.mem_filter, subI_iff]
  exact ⟨fun h => ⟨A4_vs h.1, h.2⟩, fun h => ⟨vs_A4 h.1, h.2⟩⟩
theorem A4_sorted : A4.Pairwise fun a b => kA a ≤ kA b := by
  have : decide (A4.Pairwise fun a b => kA a ≤ kA b) = true := by kernel_rfl
  exact of_decide_eq_true this
theorem A4_nodup : A4.Nodup := by
  have : decide A4.Nodup = true := by kernel_rfl
  exact of_decide_eq_true this
end Dx
/-! What the defs answer that need no closure. -/
namespace Dx
open PySem PySem.Spec PyProof.Rows L2
abbrev r_is_integer : List D → Option D := bodyG 3 F_is_integer
abbrev r_is_set : List D → Option D := bodyG 5 (F_is_set r_is_integer)
abbrev r_is_rule : List D → Option D := bodyG 3 (F_is_rule r_is_set)
abbrev r_is_within : List D → Option D := bodyG 3 F_is_within
abbrev r_meet : List D → Option D := bodyG 3 F_meet
abbrev r_in_order : List D → Option D := bodyG 1 F_in_order
abbrev r_sets_of : List D → Option D := bodyG 4 (F_sets_of r_in_order)
abbrev r_parts_within : List D → Option D := bodyG 4 F_parts_within
abbrev r_without : List D → Option D := bodyG 3 F_without
abbrev r_halves_of : List D → Option D := bodyG 2 (F_halves_of r_parts_within)
abbrev r_rest_of : List D → Option D := bodyG 3 F_rest_of
abbrev r_check_book : List D → Option D := bodyG 1 F_check_book
abbrev r_lsets : List D → Option D := bodyG 6 F__law_sets
abbrev r_lwithin : List D → Option D := bodyG 3 F__law_within
abbrev r_lmeet : List D → Option D := bodyG 3 F__law_meet
abbrev r_lless : List D → Option D := bodyG 3 F__law_less
abbrev r_lparts : List D → Option D := bodyG 2 (F__law_parts r_lsets r_lwithin)
def meetI (a b : Sx) : Sx := a.filter fun x => b.contains x
def wo (s : Sx) (x : Int) : Sx := s.filter fun y => y != x
def rest (s h : Sx) : Sx := s.filter fun x => !h.contains x
def N4 : List Int := [1, 2, 3, 4]
theorem of_decS {x : Option D} {s : Sx} (h : (x.bind decS == some s) = true) : x = some (tS s) := by
  cases x with
  | none => simp at h
  | some d =>
    have h : decS d = some s := by simpa using h
    rw [decS_of h]
theorem of_decL {x : Option D} {s : List Sx} (h : (x.bind decL == some s) = true) : x = some (tL s) := by
  cases x with
  | none => simp at h
  | some d =>
    have h : decL d = some s := by simpa using h
    rw [decL_of h]
def decB : D → Option Bool
  | .bl b => some b
  | _ => none
theorem of_decB {x : Option D} {b : Bool} (h : (x.bind decB == some b) = true) : x = some (.bl b) := by
  cases x with
  | none => simp at h
  | some d =>
    have h : decB d = some b := by simpa using h
    cases d <;> simp_all [decB]
theorem all2 {α β : Type} {l : List α} {k : List β} {f : α → β → Bool} (h : (l.all fun a => k.all fun b => f a b) = true) {a : α} {b : β} (ha : a ∈ l) (hb : b ∈ k) : f a b = true := List.all_eq_true.mp (List.all_eq_true.mp h a ha) b hb
theorem all1 {α : Type} {l : List α} {f : α → Bool} (h : l.all f = true) {a : α} (ha : a ∈ l) : f a = true := List.all_eq_true.mp h a ha
theorem k_meet : (A4.all fun a => A4.all fun b => ((r_meet [tS a, tS b]).bind decS) == some (meetI a b)) = true := by kernel_rfl
theorem k_lmeet : (A4.all fun a => A4.all fun b => ((r_lmeet [tS a, tS b]).bind decS) == some (meetI a b)) = true := by kernel_rfl
theorem k_rest : (A4.all fun a => A4.all fun b => ((r_rest_of [tS a, tS b]).bind decS) == some (rest a b)) = true := by kernel_rfl
theorem k_without : (A4.all fun a => M4.all fun b => ((r_without [tS a, .int b]).bind decS) == some (wo a b)) = true := by kernel_rfl
theorem k_lless : (A4.all fun a => M4.all fun b => ((r_lless [tS a, .int b]).bind decS) == some (wo a b)) = true := by kernel_rfl
theorem k_is_set : (N4.all fun m => A4.all fun s => ((r_is_set [.int m, tS s]).bind decB) == some ((U m).contains s)) = true := by kernel_rfl
theorem k_is_setN : (N4.all fun m => ((r_is_set [.int m, .non]).bind decB) == some false) = true := by kernel_rfl
theorem k_within : (A4.all fun a => A4.all fun b => ((r_is_within [tS a, tS b]).bind decB) == some (subI a b)) = true := by kernel_rfl
theorem k_lwithin : (A4.all fun a => A4.all fun b => ((r_lwithin [tS a, tS b]).bind decB) == some (subI a b)) = true := by kernel_rfl
theorem gSortLen_is {xs ys : List Sx} (h : ∀ s ∈ xs, s ∈ A4) (perm : ys.Perm xs) (srt : ys.Pairwise fun a b => kA a ≤ kA b) : gSortLen (tL xs) = some (tL ys) := by
  show (if (xs.map tS).all intTup = true then some (D.lst ((xs.map tS).mergeSort leLen)) else none) = _
  have hi : (xs.map tS).all intTup = true := by
    rw [List.all_eq_true]
    intro d hd
    obtain ⟨s, _, rfl⟩ := List.mem_map.mp hd
    show (s.map D.int).all isInt = true
    rw [List.all_map, List.all_eq_true]
    intro i _
    rfl
  rw [if_pos hi, sortLen_is h perm srt]
  rfl
theorem seq_split {F G K : En → Option Out} {δ δ' : En} (h : sSeq F G δ = some (.nx δ')) : sSeq F (sSeq G K) δ = K δ' := by
  obtain ⟨o, h1, h2⟩ := Option.bind_eq_some_iff.mp h
  cases o with
  | nx δ1 =>
    rw [s_sSeqN h1]
    exact s_sSeqN h2
  | rt d => cases h2
def outL (i : Nat) (o : Option Out) : Option (List Sx) := o.bind fun o => match o with
  | .nx δ => (fV i δ).bind decL
  | .rt _ => none
theorem outL_of {i : Nat} {o : Option Out} {xs : List Sx} (h : (outL i o == some xs) = true) : ∃ δ, o = some (.nx δ) ∧ fV i δ = some (tL xs) := by
  have h : outL i o = some xs := by simpa using h
  obtain ⟨o, rfl, h⟩ := Option.bind_eq_some_iff.mp h
  cases o with
  | nx δ =>
    have h : (fV i δ).bind decL = some xs := h
    obtain ⟨d, h1, h2⟩ := Option.bind_eq_some_iff.mp h
    exact ⟨δ, rfl, by rw [h1, decL_of h2]⟩
  | rt d => cases h
def fnd (s : Sx) : List Sx := s.foldl (fun f k => f ++ f.map fun t => t ++ [k]) [[]]
def F_pw1 : En → Option Out := sAsg (fLst (aCons (fTup aNil) aNil)) (t1 1)
def F_pw2 : En → Option Out := sFor (iSeq (fV 0)) (t1 2) (sAsg (fLst (aStar (fV 1) (aStar (fLc [3] (iSeq (fV 1)) (t1 3) bYes (fTup (aStar (fV 3) (aCons (fV 2) aNil)))) aNil))) (t1 1))
def F_so2 : En → Option Out := sFor (iRange (fV 0)) (t1 2) (sAsg (fLst (aStar (fV 1) (aStar (fLc [3] (iSeq (fV 1)) (t1 3) bYes (fTup (aStar (fV 3) (aCons (fV 2) aNil)))) aNil))) (t1 1))
theorem k_pw : (A4.all fun s => outL 1 (sSeq F_pw1 F_pw2 [some (tS s), none, none, none]) == some (fnd s)) = true := by kernel_rfl
theorem k_so : (N4.all fun m => outL 1 (sSeq F_pw1 F_so2 [some (.int m), none, none, none]) == some (fnd (rg m))) = true := by kernel_rfl
theorem k_fnd : (A4.all fun s => (fnd s).all (fun t => A4.contains t) && (parts s).isPerm (fnd s)) = true := by kernel_rfl
theorem k_fndm : (N4.all fun m => (fnd (rg m)).all (fun t => A4.contains t) && (U m).isPerm (fnd (rg m))) = true := by kernel_rfl
theorem g_parts {s : Sx} (hs : s ∈ A4) : r_parts_within [tS s] = some (tL (parts s)) := by
  obtain ⟨δ, h1, h2⟩ := outL_of (all1 k_pw hs)
  have h3 := all1 k_fnd hs
  rw [Bool.and_eq_true, List.all_eq_true] at h3
  refine s_body ((seq_split (F := F_pw1) (G := F_pw2) (K := sRet (fSortLen (fV 1))) h1).trans (s_sRet ?_))
  have q : fSortLen (fV 1) δ = gSortLen (tL (fnd s)) := by unfold fSortLen; rw [h2]; rfl
  rw [q]
  exact gSortLen_is (fun t ht => by simpa using h3.1 t ht) (List.isPerm_iff.mp h3.2) (A4_sorted.filter _)
theorem g_sets {m : Int} (hm : m ∈ N4) : r_sets_of [.int m] = some (tL (U m)) := by
  obtain ⟨δ, h1, h2⟩ := outL_of (all1 k_so hm)
  have h3 := all1 k_fndm hm
  rw [Bool.and_eq_true, List.all_eq_true] at h3
  refine s_body ((seq_split (F := F_pw1) (G := F_so2) (K := sRet (fCall (gN 1 r_in_order) (aCons (fV 1) aNil))) h1).trans (s_sRet ?_))
  rw [s_fCall (s_aCons h2 s_aNil)]
  show r_in_order [tL (fnd (rg m))] = _
  refine s_body (s_sRet ?_)
  show gSortLen (tL (fnd (rg m))) = _
  exact gSortLen_is (fun t ht => by simpa using h3.1 t ht) (List.isPerm_iff.mp h3.2) (A4_sorted.filter _)
end Dx
/-! Equality of encoded data; lists of sets sorted. -/
namespace Dx
open PySem PySem.Spec PyProof.Rows L2
theorem pyEq_all {α : Type} [BEq α] [LawfulBEq α] (enc : α → D) (h : ∀ a b, pyEq (enc a) (enc b) = (a == b)) : ∀ xs ys : List α, PyData.eqvAll (toPys (xs.map enc)) (toPys (ys.map enc)) = (xs == ys)
  | [], [] => by rw [BEq.rfl]; rfl
  | [], y :: ys => rfl
  | x :: xs, [] => rfl
  | x :: xs, y :: ys => by
    show (pyEq (enc x) (enc y) && PyData.eqvAll (toPys (xs.map enc)) (toPys (ys.map enc))) = (x :: xs == y :: ys)
    rw [h, pyEq_all enc h xs ys]
    rfl
theorem pyEq_int (a b : Int) : pyEq (.int a) (.int b) = (a == b) := by
  unfold pyEq
  simp only [toPy, PyData.eqv]
theorem pyEq_tS (a b : Sx) : pyEq (tS a) (tS b) = (a == b) := pyEq_all D.int pyEq_int a b
theorem pyEq_tL (a b : List Sx) : pyEq (tL a) (tL b) = (a == b) := pyEq_all tS pyEq_tS a b
theorem pyEq_tP (a b : Sx × Int) : pyEq (tP a) (tP b) = (a == b) := by
  show (pyEq (tS a.1) (tS b.1) && (pyEq (.int a.2) (.int b.2) && true)) = _
  rw [pyEq_tS, pyEq_int, Bool.and_true]
  rfl
def tPs (ps : List (Sx × Int)) : D := .lst (ps.map tP)
theorem pyEq_tPs (a b : List (Sx × Int)) : pyEq (tPs a) (tPs b) = (a == b) := pyEq_all tP pyEq_tP a b
theorem lv_tS (n : Nat) (s : Sx) : lv (n + 1) (tS s) = true := by
  show (s.map D.int).all (lv n) = true
  rw [List.all_map, List.all_eq_true]
  intro i _
  cases n <;> rfl
theorem lv_tL (n : Nat) (s : List Sx) : lv (n + 2) (tL s) = true := by
  show (s.map tS).all (lv (n + 1)) = true
  rw [List.all_map, List.all_eq_true]
  intro i _
  exact lv_tS n i
theorem lv_tP (n : Nat) (p : Sx × Int) : lv (n + 2) (tP p) = true := by
  show (lv (n + 1) (tS p.1) && (lv (n + 1) (.int p.2) && true)) = true
  rw [lv_tS]
  rfl
theorem lv_tPs (n : Nat) (s : List (Sx × Int)) : lv (n + 3) (tPs s) = true := by
  show (s.map tP).all (lv (n + 2)) = true
  rw [List.all_map, List.all_eq_true]
  intro i _
  exact lv_tP n i
theorem gEq_int (a b : Int) : gEq (.int a) (.int b) = some (.bl (a == b)) := by
  unfold gEq
  rw [pyEq_int]
  rfl
theorem gNe_int (a b : Int) : gNeX (.int a) (.int b) = some (.bl (!(a == b))) := by
  show gNe (.int a) (.int b) = _
  unfold gNe
  rw [pyEq_int]
  rfl
theorem gEq_set (a b : Sx) : gEq (tS a) (tS b) = some (.bl (a == b)) := by
  unfold gEq
  rw [pyEq_tS, lv_tS, lv_tS]
  rfl
theorem gNe_set (a b : Sx) : gNeX (tS a) (tS b) = some (.bl (!(a == b))) := by
  show gNe (tS a) (tS b) = _
  unfold gNe
  rw [pyEq_tS, lv_tS, lv_tS]
  rfl
theorem gNe_tL (a b : List Sx) : gNeX (tL a) (tL b) = some (.bl (!(a == b))) := by
  show gNe (tL a) (tL b) = _
  unfold gNe
  rw [pyEq_tL, lv_tL, lv_tL]
  rfl
theorem gNe_tPs (a b : List (Sx × Int)) : gNeX (tPs a) (tPs b) = some (.bl (!(a == b))) := by
  show gNe (tPs a) (tPs b) = _
  unfold gNe
  rw [pyEq_tPs, lv_tPs, lv_tPs]
  rfl
theorem tS_nil : D.tup [] = tS [] := rfl
theorem gIn_sets (s : Sx) (ss : List Sx) : gIn (tS s) (tL ss) = some (.bl (ss.contains s)) := by
  have h2 : (ss.map tS).all (lv 7) = true := by
    rw [List.all_map, List.all_eq_true]
    intro i _
    exact lv_tS 6 i
  show (if lv 8 (tS s) && (ss.map tS).all (lv 7) then some (D.bl (inD (tS s) (ss.map tS))) else none) = _
  rw [lv_tS, h2]
  show some (D.bl (inD (tS s) (ss.map tS))) = _
  unfold inD
  rw [List.any_map, ← List.any_beq]
  congr 3
  funext k
  show pyEq (tS k) (tS s) = (s == k)
  rw [pyEq_tS, Bool.eq_iff_iff, beq_iff_eq, beq_iff_eq]
  exact eq_comm
theorem gNotIn_sets (s : Sx) (ss : List Sx) : gNotIn (tS s) (tL ss) = some (.bl (!ss.contains s)) := by
  unfold gNotIn
  rw [gIn_sets]
theorem gNotIn_non (ss : List Sx) : gNotIn .non (tL ss) = some (.bl true) := by
  have h2 : (ss.map tS).all (lv 7) = true := by
    rw [List.all_map, List.all_eq_true]
    intro i _
    exact lv_tS 6 i
  have h : gIn .non (tL ss) = some (.bl false) := by
    show (if lv 8 .non && (ss.map tS).all (lv 7) then some (D.bl (inD .non (ss.map tS))) else none) = _
    rw [h2]
    show some (D.bl (inD .non (ss.map tS))) = _
    unfold inD
    rw [List.any_map]
    congr 2
    rw [List.any_eq_false]
    intro x _
    show ¬ pyEq (tS x) .non = true
    intro h
    cases h
  unfold gNotIn
  rw [h]
  rfl
theorem gLen_set (s : Sx) : gLenX [tS s] = some (.int s.length) := by
  show some (D.int ((s.map D.int).length : Nat)) = _
  rw [List.length_map]
theorem gLen_tL (s : List Sx) : gLenX [tL s] = some (.int s.length) := by
  show some (D.int ((s.map tS).length : Nat)) = _
  rw [List.length_map]
theorem gLen_tPs (s : List (Sx × Int)) : gLenX [tPs s] = some (.int s.length) := by
  show some (D.int ((s.map tP).length : Nat)) = _
  rw [List.length_map]
/-! ### sorted -/
def byB (xs : List Sx) : List Sx := B4.filter fun s => xs.contains s
theorem B4_sorted : B4.Pairwise fun a b => kB a ≤ kB b := by
  have : decide (B4.Pairwise fun a b => kB a ≤ kB b) = true := by kernel_rfl
  exact of_decide_eq_true this
theorem B4_nodup : B4.Nodup := by
  have : decide B4.Nodup = true := by kernel_rfl
  exact of_decide_eq_true this
theorem byB_perm {xs : List Sx} (n : xs.Nodup) (h : ∀ s ∈ xs, s ∈ A4) : (byB xs).Perm xs := by
  refine (List.perm_ext_iff_of_nodup (B4_nodup.filter _) n).mpr fun a => ?_
  rw [List.mem_filter]
  exact ⟨fun h => by simpa using h.2, fun q => ⟨mem_B4 (h a q), by simpa using q⟩⟩
theorem alike_A : (A4.all fun a => A4.all fun b => PySem.W.alike (toPy (tS a)) (toPy (tS b))) = true := by kernel_rfl
theorem alike_P : (P4.all fun a => P4.all fun b => PySem.W.alike (toPy (tP a)) (toPy (tP b))) = true := by kernel_rfl
theorem sortOk_sets {xs : List Sx} {k : Nat} (n : xs.Nodup) (h : ∀ s ∈ xs, s ∈ A4) (hk : ∀ s ∈ xs, s.length = k) : sortOk (xs.map tS) = true := by
  unfold sortOk
  rw [Bool.and_eq_true, Bool.or_eq_true, Bool.and_eq_true, Bool.or_eq_true]
  refine ⟨?_, ?_⟩
  · rw [List.all_map, List.all_eq_true]
    intro i _
    exact lv_tS 7 i
  · cases k with
    | zero =>
      left
      rw [List.length_map]
      apply decide_eq_true
      match xs, n, hk with
      | [], _, _ => exact Nat.zero_le _
      | [x], _, _ => exact Nat.le_refl _
      | x :: y :: xs, n, hk =>
        have h1 := List.length_eq_zero_iff.mp (hk x (by simp))
        have h2 := List.length_eq_zero_iff.mp (hk y (by simp))
        rw [h1, h2] at n
        simp at n
    | succ k =>
      right
      refine ⟨?_, .inl ?_⟩
      · unfold alikeAllD
        rw [List.all_map, List.all_eq_true]
        intro a ha
        show (!isNon (tS a) && (xs.map tS).all fun y => PySem.W.alike (toPy (tS a)) (toPy y)) = true
        rw [List.all_map, Bool.and_eq_true, List.all_eq_true]
        exact ⟨rfl, fun b hb => all2 alike_A (h a ha) (h b hb)⟩
      · rw [List.all_map, List.all_eq_true]
        intro a ha
        have := hk a ha
        cases a with
        | nil => simp at this
        | cons i s => rfl
theorem gSorted_sets {xs : List Sx} {k : Nat} (n : xs.Nodup) (h : ∀ s ∈ xs, s ∈ A4) (hk : ∀ s ∈ xs, s.length = k) : gSorted [tL xs] = some (tL (byB xs)) := by
  show (if sortOk (xs.map tS) = true then some (D.lst ((xs.map tS).mergeSort leD)) else none) = _
  rw [if_pos (sortOk_sets n h hk), sortD_is h (byB_perm n h) (B4_sorted.filter _)]
  rfl
/-- sorted alike: the same sets -/
theorem byB_eq {xs ys : List Sx} (h1 : ∀ s ∈ xs, s ∈ A4) (h2 : ∀ s ∈ ys, s ∈ A4) : byB xs = byB ys ↔ ∀ s, s ∈ xs ↔ s ∈ ys := by
  constructor
  · intro e s
    have q : s ∈ byB xs ↔ s ∈ byB ys := by rw [e]
    unfold byB at q
    rw [List.mem_filter, List.mem_filter] at q
    constructor
    · intro hs
      simpa using (q.mp ⟨mem_B4 (h1 s hs), by simpa using hs⟩).2
    · intro hs
      simpa using (q.mpr ⟨mem_B4 (h2 s hs), by simpa using hs⟩).2
  · intro e
    unfold byB
    apply List.filter_congr
    intro s _
    rw [Bool.eq_iff_iff]
    simpa using e s
end Dx
/-! _law_sets, _law_parts, halves_of; pairs sorted; books. -/
namespace Dx
open PySem PySem.Spec PyProof.Rows L2
theorem sSeq_assoc (F G K : En → Option Out) : sSeq F (sSeq G K) = sSeq (sSeq F G) K := by
  funext δ
  unfold sSeq
  cases F δ with
  | none => rfl
  | some o => cases o <;> rfl
def rowB (xs : List Sx) (k : Int) : List Sx := byB (xs.filter fun s => (s.length : Int) == k)
def F_ls1 : En → Option Out := sAsg (fLst (aCons (fTup aNil) aNil)) (t1 1)
def F_ls2 : En → Option Out := sFor (iRange (fV 0)) (t1 2) (sAsg (f2 gAdd (fV 1) (fLc [5] (iSeq (fV 1)) (t1 5) bYes (f2 gAdd (fV 5) (fTup (aCons (fV 2) aNil))))) (t1 1))
def F_ls3 : En → Option Out := sAsg (fLst aNil) (t1 3)
def F_lsb : En → Option Out := sAsg (f2 gAdd (fV 3) (fCall gSorted (aCons (fLc [5] (iSeq (fV 1)) (t1 5) (fB (f2 gEq (fCall gLenX (aCons (fV 5) aNil)) (fV 4))) (fV 5)) aNil))) (t1 3)
theorem ls_start {m : Int} (hm : m ∈ N4) : sSeq F_ls1 (sSeq F_ls2 F_ls3) [some (.int m), none, none, none, none, none] = some (.nx [some (.int m), some (tL (fnd (rg m))), some (.int (m - 1)), some (tL []), none, none]) := by
  have : m = 1 ∨ m = 2 ∨ m = 3 ∨ m = 4 := by simpa [N4] using hm
  rcases this with rfl | rfl | rfl | rfl <;> kernel_rfl
theorem ls_loop {F : List Sx} {d0 d2 : Option D} (nF : F.Nodup) (hF : ∀ s ∈ F, s ∈ A4) (hl : F.length ≤ 100) : ∀ (ks : List Int) (acc : List Sx) (y : Option D), acc.length + ks.length * 100 ≤ 100000 →
    ∃ y', forF (t1 4) F_lsb (ks.map D.int) [d0, some (tL F), d2, some (tL acc), y, none] = some (.nx [d0, some (tL F), d2, some (tL (acc ++ ks.flatMap (rowB F))), y', none])
  | [], acc, y, _ => ⟨y, by rw [List.flatMap_nil, List.append_nil]; rfl⟩
  | k :: ks, acc, y, hb => by
    have nr : (F.filter fun s => (s.length : Int) == k).Nodup := nF.filter _
    have hr : ∀ s ∈ F.filter fun s => (s.length : Int) == k, s ∈ A4 := fun s hs => hF s (List.mem_filter.mp hs).1
    have hrl : (rowB F k).length ≤ 100 := by
      unfold rowB
      rw [(byB_perm nr hr).length_eq]
      exact Nat.le_trans (List.length_filter_le _ _) hl
    rw [List.length_cons] at hb
    have e1 : fLc [5] (iSeq (fV 1)) (t1 5) (fB (f2 gEq (fCall gLenX (aCons (fV 5) aNil)) (fV 4))) (fV 5) [d0, some (tL F), d2, some (tL acc), some (.int k), none] = some (tL (F.filter fun s => (s.length : Int) == k)) := by
      refine (s_fLc (ds := F.map tS) rfl (lc_map tS (fun s => [d0, some (tL F), d2, some (tL acc), some (.int k), some (tS s)]) (fun s => (s.length : Int) == k) tS F (fun s _ => rfl) (fun s _ => ?_) (fun s _ _ => rfl)))
      refine s_fB ((s_f2 ((s_fCall (s_aCons rfl s_aNil)).trans (gLen_set s)) rfl).trans ?_)
      exact gEq_int _ _
    have e2 : F_lsb [d0, some (tL F), d2, some (tL acc), some (.int k), none] = some (.nx [d0, some (tL F), d2, some (tL (acc ++ rowB F k)), some (.int k), none]) := by
      refine s_sAsg (d := tL (acc ++ rowB F k)) ((s_f2 (x := tL acc) rfl ((s_fCall (s_aCons e1 s_aNil)).trans (gSorted_sets (k := k.toNat) nr hr fun s hs => ?_))).trans ?_) rfl
      · have := (List.mem_filter.mp hs).2
        have : (s.length : Int) = k := by simpa using this
        omega
      · show (if (acc.map tS).length + ((rowB F k).map tS).length ≤ 100000 then some (D.lst (acc.map tS ++ (rowB F k).map tS)) else none) = _
        rw [List.length_map, List.length_map, if_pos (by omega), ← List.map_append]
        rfl
    obtain ⟨y', h⟩ := ls_loop (d0 := d0) (d2 := d2) nF hF hl ks (acc ++ rowB F k) (some (.int k)) (by rw [List.length_append]; omega)
    refine ⟨y', ?_⟩
    rw [List.map_cons]
    unfold forF
    show ((F_lsb [d0, some (tL F), d2, some (tL acc), some (.int k), none]).bind _) = _
    rw [e2, List.flatMap_cons, ← List.append_assoc]
    exact h
theorem k_U : (N4.all fun m => ((rg (m + 1)).flatMap (rowB (fnd (rg m))) == U m) && decide (fnd (rg m)).Nodup && decide ((fnd (rg m)).length ≤ 100)) = true := by kernel_rfl
theorem g_lsets {m : Int} (hm : m ∈ N4) : r_lsets [.int m] = some (tL (U m)) := by
  have h3 := all1 k_fndm hm
  have h4 := all1 k_U hm
  rw [Bool.and_eq_true, List.all_eq_true] at h3
  rw [Bool.and_eq_true, Bool.and_eq_true, decide_eq_true_eq, decide_eq_true_eq] at h4
  have hU : (rg (m + 1)).flatMap (rowB (fnd (rg m))) = U m := by simpa using h4.1.1
  have hb : m + 1 ≤ 5 ∧ 0 ≤ m := by
    have : m = 1 ∨ m = 2 ∨ m = 3 ∨ m = 4 := by simpa [N4] using hm
    omega
  obtain ⟨y', hL⟩ := ls_loop (d0 := some (.int m)) (d2 := some (.int (m - 1))) h4.1.2 (fun s hs => by simpa using h3.1 s hs) h4.2 (rg (m + 1)) [] none (by rw [rg_len]; simp; omega)
  rw [List.nil_append, hU] at hL
  refine s_body ?_
  show sSeq F_ls1 (sSeq F_ls2 (sSeq F_ls3 (sSeq (sFor (iRange (f2 gAdd (fV 0) (fC (.int 1)))) (t1 4) F_lsb) (sRet (fV 3))))) [some (.int m), none, none, none, none, none] = _
  rw [sSeq_assoc F_ls2, sSeq_assoc F_ls1, s_sSeqN (ls_start hm)]
  have e5 : sFor (iRange (f2 gAdd (fV 0) (fC (.int 1)))) (t1 4) F_lsb [some (.int m), some (tL (fnd (rg m))), some (.int (m - 1)), some (tL []), none, none] = some (.nx [some (.int m), some (tL (fnd (rg m))), some (.int (m - 1)), some (tL (U m)), y', none]) := by
    unfold sFor
    rw [s_iRange (n := m + 1) rfl (by omega) (by omega), rangeD_rg]
    exact hL
  rw [s_sSeqN e5]
  exact s_sRet rfl
def mx (s : Sx) : Int := 1 + s.foldl max 0
theorem k_mx : (A4.all fun s => N4.contains (mx s) && ((U (mx s)).filter (fun t => subI t s) == parts s)) = true := by kernel_rfl
theorem k_mxe : (A4.all fun s => (f2 gAdd (fC (.int 1)) (fCall gMax (aCons (f2 gAdd (fTup (aCons (fC (.int 0)) aNil)) (fV 0)) aNil)) [some (tS s), none]).elim false fun d => match d with
  | .int i => i == mx s
  | _ => false) = true := by kernel_rfl
theorem g_lparts {s : Sx} (hs : s ∈ A4) : r_lparts [tS s] = some (tL (parts s)) := by
  have h1 := all1 k_mx hs
  rw [Bool.and_eq_true] at h1
  have hN : mx s ∈ N4 := by simpa using h1.1
  have hP : (U (mx s)).filter (fun t => subI t s) = parts s := by simpa using h1.2
  have h2 := all1 k_mxe hs
  have e : f2 gAdd (fC (.int 1)) (fCall gMax (aCons (f2 gAdd (fTup (aCons (fC (.int 0)) aNil)) (fV 0)) aNil)) [some (tS s), none] = some (.int (mx s)) := by
    generalize f2 gAdd (fC (.int 1)) (fCall gMax (aCons (f2 gAdd (fTup (aCons (fC (.int 0)) aNil)) (fV 0)) aNil)) [some (tS s), none] = x at h2
    cases x with
    | none => cases h2
    | some d =>
      cases d <;> first | (cases h2; done) | skip
      simp at h2
      rw [h2]
  refine s_body (s_sRet ?_)
  rw [← hP]
  refine s_fLc (ds := (U (mx s)).map tS) ?_ (lc_map tS (fun t => [some (tS s), some (tS t)]) (fun t => subI t s) tS (U (mx s)) (fun t _ => rfl) (fun t ht => ?_) (fun t _ _ => rfl))
  · exact (s_iSeq (x := tL (U (mx s))) ((s_fCall (s_aCons e s_aNil)).trans ((s_gN rfl).trans (g_lsets hN)))).trans rfl
  · exact s_fB ((s_fCall (s_aCons rfl (s_aCons rfl s_aNil))).trans ((s_gN rfl).trans (of_decB (all2 k_lwithin (List.mem_filter.mp ht).1 hs))))
def hv (s : Sx) : List Sx := (parts s).filter fun h => s == [] || h.contains (s.headD 0)
theorem g_halvesOf {s : Sx} (hs : s ∈ A4) : r_halves_of [tS s] = some (tL (hv s)) := by
  refine s_body (s_sRet ?_)
  refine s_fLc (ds := (parts s).map tS) ?_ (lc_map tS (fun t => [some (tS s), some (tS t)]) (fun h => s == [] || h.contains (s.headD 0)) tS (parts s) (fun t _ => rfl) (fun t _ => ?_) (fun t _ _ => rfl))
  · exact (s_iSeq (x := tL (parts s)) ((s_fCall (s_aCons (x := tS s) rfl s_aNil)).trans ((s_gN rfl).trans (g_parts hs)))).trans rfl
  · have e1 : fB (f2 gEq (fV 0) (fTup aNil)) [some (tS s), some (tS t)] = some (s == []) := s_fB ((s_f2 (x := tS s) (y := tS []) rfl rfl).trans (gEq_set s []))
    rw [s_bOr, e1]
    cases s with
    | nil => rfl
    | cons x s =>
      show fB (f2 gInX (f2 gIxX (fV 0) (fC (.int 0))) (fV 1)) [some (tS (x :: s)), some (tS t)] = _
      refine s_fB ((s_f2 (x := .int x) (y := tS t) ((s_f2 (x := tS (x :: s)) (y := .int 0) rfl rfl).trans ?_) rfl).trans ?_)
      · show atI ((x :: s).map D.int) ((0 : Nat) : Int) = _
        exact atI_nat rfl
      · rw [gIn_set]
        rfl
/-! ### pairs sorted -/
def BP : List (Sx × Int) := B4.flatMap fun s => M4.map fun i => (s, i)
def byP (xs : List (Sx × Int)) : List (Sx × Int) := BP.filter fun s => xs.contains s
theorem BP_sorted : BP.Pairwise fun a b => kP a ≤ kP b := by
  have : decide (BP.Pairwise fun a b => kP a ≤ kP b) = true := by kernel_rfl
  exact of_decide_eq_true this
theorem BP_nodup : BP.Nodup := by
  have : decide BP.Nodup = true := by kernel_rfl
  exact of_decide_eq_true this
theorem mem_BP {p : Sx × Int} (h : p ∈ P4) : p ∈ BP := by
  have : (P4.all fun a => BP.contains a) = true := by kernel_rfl
  simpa using List.all_eq_true.mp this p h
theorem kP_inj {a b : Sx × Int} (ha : a ∈ P4) (hb : b ∈ P4) (e : kP a = kP b) : a = b := by
  have : (P4.all fun a => P4.all fun b => decide (kP a = kP b → a = b)) = true := by kernel_rfl
  exact of_decide_eq_true (all2 this ha hb) e
theorem byP_perm {xs : List (Sx × Int)} (n : xs.Nodup) (h : ∀ s ∈ xs, s ∈ P4) : (byP xs).Perm xs := by
  refine (List.perm_ext_iff_of_nodup (BP_nodup.filter _) n).mpr fun a => ?_
  rw [List.mem_filter]
  exact ⟨fun h => by simpa using h.2, fun q => ⟨mem_BP (h a q), by simpa using q⟩⟩
def decP : D → Option (Sx × Int)
  | .tup [a, .int i] => (decS a).map fun s => (s, i)
  | _ => none
theorem decP_t (p : Sx × Int) : decP (tP p) = some p := by
  show (decS (tS p.1)).map _ = _
  rw [decS_t]
  rfl
def rkP (d : D) : Int := match decP d with
  | some s => kP s
  | none => 0
theorem rkP_t (s : Sx × Int) : rkP (tP s) = kP s := by unfold rkP; rw [decP_t]
theorem gSorted_pairs {xs : List (Sx × Int)} (n : xs.Nodup) (h : ∀ s ∈ xs, s ∈ P4) : gSorted [tPs xs] = some (tPs (byP xs)) := by
  have ok : sortOk (xs.map tP) = true := by
    unfold sortOk
    rw [Bool.and_eq_true, Bool.or_eq_true, Bool.and_eq_true, Bool.or_eq_true]
    refine ⟨?_, .inr ⟨?_, .inl ?_⟩⟩
    · rw [List.all_map, List.all_eq_true]
      intro i _
      exact lv_tP 6 i
    · unfold alikeAllD
      rw [List.all_map, List.all_eq_true]
      intro a ha
      show (!isNon (tP a) && (xs.map tP).all fun y => PySem.W.alike (toPy (tP a)) (toPy y)) = true
      rw [List.all_map, Bool.and_eq_true, List.all_eq_true]
      exact ⟨rfl, fun b hb => all2 alike_P (h a ha) (h b hb)⟩
    · rw [List.all_map, List.all_eq_true]
      intro a ha
      rfl
  show (if sortOk (xs.map tP) = true then some (D.lst ((xs.map tP).mergeSort leD)) else none) = _
  rw [if_pos ok]
  congr 2
  refine sort_rank rkP (fun a ha b hb => ?_) (fun a ha b hb e => ?_) ((byP_perm n h).map tP) ?_
  · obtain ⟨x, hx, rfl⟩ := List.mem_map.mp ha
    obtain ⟨y, hy, rfl⟩ := List.mem_map.mp hb
    rw [rkP_t, rkP_t]
    have := all2 leD_P (h x hx) (h y hy)
    rw [beq_iff_eq] at this
    rw [this]
    congr 1
    rw [Int.ofNat_le]
  · obtain ⟨x, hx, rfl⟩ := List.mem_map.mp ha
    obtain ⟨y, hy, rfl⟩ := List.mem_map.mp hb
    rw [rkP_t, rkP_t] at e
    exact congrArg tP (kP_inj (h x hx) (h y hy) (by omega))
  · rw [List.pairwise_map]
    exact (BP_sorted.filter _).imp fun h => by rw [rkP_t, rkP_t]; omega
theorem byP_eq {xs ys : List (Sx × Int)} (h1 : ∀ s ∈ xs, s ∈ P4) (h2 : ∀ s ∈ ys, s ∈ P4) : byP xs = byP ys ↔ ∀ s, s ∈ xs ↔ s ∈ ys := by
  constructor
  · intro e s
    have q : s ∈ byP xs ↔ s ∈ byP ys := by rw [e]
    unfold byP at q
    rw [List.mem_filter, List.mem_filter] at q
    constructor
    · intro hs
      simpa using (q.mp ⟨mem_BP (h1 s hs), by simpa using hs⟩).2
    · intro hs
      simpa using (q.mpr ⟨mem_BP (h2 s hs), by simpa using hs⟩).2
  · intro e
    unfold byP
    apply List.filter_congr
    intro s _
    rw [Bool.eq_iff_iff]
    simpa using e s
end Dx
/-! The law's closure; what is closed over parts. -/
namespace Dx
open PySem PySem.Spec PyProof.Rows L2
def tI (h : Sx) : D := .lst (h.map .int)
theorem lv_int (n : Nat) (i : Int) : lv n (.int i) = true := by cases n <;> rfl
theorem gIn_tI (i : Int) (h : Sx) : gInX (.int i) (tI h) = some (.bl (h.contains i)) := by
  have h2 : (h.map D.int).all (lv 7) = true := by
    rw [List.all_map, List.all_eq_true]
    intro k _
    exact lv_int 7 k
  show (if lv 8 (.int i) && (h.map D.int).all (lv 7) then some (D.bl (inD (.int i) (h.map D.int))) else none) = _
  rw [h2, lv_int, inD_ints]
  rfl
theorem gNotIn_tI (i : Int) (h : Sx) : gNotIn (.int i) (tI h) = some (.bl (!h.contains i)) := by
  have q : gIn (.int i) (tI h) = some (.bl (h.contains i)) := gIn_tI i h
  unfold gNotIn
  rw [q]
theorem ev_lwithinL (s h : Sx) : r_lwithin [tS s, tI h] = some (.bl (subI s h)) := by
  refine s_body (s_sRet ?_)
  rw [s_fCall (s_aCons (s_fLc rfl (lc_all D.int (fun i => [some (tS s), some (tI h), some (.int i)]) (fun i => .bl (h.contains i)) s (fun i _ => rfl) fun i _ => ?_)) s_aNil)]
  · exact gAll_map (fun i => h.contains i) s
  · rw [s_f2 (s_fV rfl) (s_fV rfl), gIn_tI]
theorem k_leI : (M4.all fun a => M4.all fun b => leD (.int a) (.int b) == decide (a ≤ b)) = true := by kernel_rfl
theorem k_alI : (M4.all fun a => M4.all fun b => PySem.W.alike (toPy (.int a)) (toPy (.int b))) = true := by kernel_rfl
theorem in_M4 {h : Sx} {m : Int} (m4 : m ≤ 4) (i : inM m h) : ∀ x ∈ h, x ∈ M4 := fun x hx => by
  have := i x hx
  have : x = 0 ∨ x = 1 ∨ x = 2 ∨ x = 3 := by omega
  rcases this with rfl | rfl | rfl | rfl <;> decide
theorem gSorted_ints {h : Sx} (i : ∀ x ∈ h, x ∈ M4) : gSorted [tI h] = some (tI (sortI h)) := by
  have ok : sortOk (h.map D.int) = true := by
    unfold sortOk
    rw [Bool.and_eq_true, Bool.or_eq_true, Bool.and_eq_true, Bool.or_eq_true]
    refine ⟨?_, .inr ⟨?_, .inr ?_⟩⟩
    · rw [List.all_map, List.all_eq_true]
      intro k _
      exact lv_int 8 k
    · unfold alikeAllD
      rw [List.all_map, List.all_eq_true]
      intro a ha
      show (!isNon (.int a) && (h.map D.int).all fun y => PySem.W.alike (toPy (.int a)) (toPy y)) = true
      rw [List.all_map, Bool.and_eq_true, List.all_eq_true]
      exact ⟨rfl, fun b hb => all2 k_alI (i a ha) (i b hb)⟩
    · rw [List.all_map, List.all_eq_true]
      intro k _
      rfl
  show (if sortOk (h.map D.int) = true then some (D.lst ((h.map D.int).mergeSort leD)) else none) = _
  rw [if_pos ok]
  congr 2
  refine (List.map_mergeSort (f := D.int) fun a ha b hb => ?_).symm
  have := all2 k_leI (i a ha) (i b hb)
  rw [beq_iff_eq] at this
  exact this.symm
abbrev r_lclosure : List D → Option D := bodyG 6 (F__law_closure r_lwithin)
def tPl (m : Int) (rs : List Rl) : D := .tup [.int m, tRs rs]
def tB (m : Int) (rs : List Rl) : D := .obj 0 [("marks", .int m), ("rules", tRs rs)]
def F_lcb : En → Option Out := sIf (fB (fCall (gN 2 r_lwithin) (aCons (f2 gIxX (fV 4) (fC (.int 0))) (aCons (fV 2) aNil)))) (sAsg (f2 gAdd (fV 2) (fLc [5] (iSeq (f2 gIxX (fV 4) (fC (.int 1)))) (t1 5) (fB (f2 gNotIn (fV 5) (fV 2))) (fV 5))) (t1 2)) sNil
theorem fire_len64 {rs : List Rl} {h : Sx} {m : Int} (v : ∀ r ∈ rs, Vr m r) (n : h.Nodup) (i : inM m h) (m4 : m ≤ 4) : h.length ≤ 4 := by
  have := in_len n i
  omega
theorem lc_inner {m : Int} (m4 : m ≤ 4) {d0 d1 d3 : Option D} : ∀ (rs : List Rl) (h : Sx) (y : Option D), (∀ r ∈ rs, Vr m r) → h.Nodup → inM m h →
    ∃ y', forF (t1 4) F_lcb (rs.map tR) [d0, d1, some (tI h), d3, y, none] = some (.nx [d0, d1, some (tI (fire rs h)), d3, y', none])
  | [], h, y, _, _, _ => ⟨y, rfl⟩
  | r :: rs, h, y, v, n, i => by
    have vr := v r (List.mem_cons_self ..)
    have e0 : fB (fCall (gN 2 r_lwithin) (aCons (f2 gIxX (fV 4) (fC (.int 0))) (aCons (fV 2) aNil))) [d0, d1, some (tI h), d3, some (tR r), none] = some (subI r.1 h) :=
      s_fB ((s_fCall (s_aCons (x := tS r.1) rfl (s_aCons (x := tI h) rfl s_aNil))).trans ((s_gN rfl).trans (ev_lwithinL r.1 h)))
    have e2 : F_lcb [d0, d1, some (tI h), d3, some (tR r), none] = some (.nx [d0, d1, some (tI (fire1 h r)), d3, some (tR r), none]) := by
      refine (s_sIf e0).trans ?_
      unfold fire1
      by_cases hs : subI r.1 h = true
      · rw [if_pos hs, if_pos hs, ksAdd_filter r.2 h vr.2.nodup]
        refine s_sAsg (d := tI (h ++ r.2.filter fun x => !h.contains x)) ((s_f2 (x := tI h) (y := tI (r.2.filter fun x => !h.contains x)) rfl ?_).trans ?_) rfl
        · exact s_fLc (ds := r.2.map D.int) rfl (lc_map D.int (fun x => [d0, d1, some (tI h), d3, some (tR r), some (.int x)]) (fun x => !h.contains x) D.int r.2 (fun x _ => rfl) (fun x _ => s_fB ((s_f2 (x := .int x) (y := tI h) rfl rfl).trans (gNotIn_tI x h))) (fun x _ _ => rfl))
        · have h1 := in_len n i
          have h2 := in_len (vr.2.nodup.filter fun x => !h.contains x) (fun x hx => vr.2.2 x (List.mem_filter.mp hx).1)
          show (if (h.map D.int).length + ((r.2.filter fun x => !h.contains x).map D.int).length ≤ 100000 then some (D.lst (h.map D.int ++ (r.2.filter fun x => !h.contains x).map D.int)) else none) = _
          rw [List.length_map, List.length_map, if_pos (by omega), ← List.map_append]
          rfl
      · rw [if_neg hs, if_neg hs]
        rfl
    obtain ⟨y', q⟩ := lc_inner m4 (d0 := d0) (d1 := d1) (d3 := d3) rs (fire1 h r) (some (tR r)) (fun q hq => v q (List.mem_cons_of_mem _ hq)) (fire1_nodup r n) (fire1_in vr i)
    refine ⟨y', ?_⟩
    rw [List.map_cons]
    unfold forF
    show ((F_lcb [d0, d1, some (tI h), d3, some (tR r), none]).bind _) = _
    rw [e2]
    exact q
theorem lc_outer {m : Int} {rs : List Rl} (c : Ct m rs) {d1 : Option D} : ∀ (ks : List D) (h : Sx) (x y : Option D), h.Nodup → inM m h →
    ∃ x' y', forF (t1 3) (sFor (iSeq (f2 gIxX (fV 0) (fC (.int 1)))) (t1 4) F_lcb) ks [some (tPl m rs), d1, some (tI h), x, y, none] = some (.nx [some (tPl m rs), d1, some (tI (itF rs ks.length h)), x', y', none])
  | [], h, x, y, _, _ => ⟨x, y, rfl⟩
  | k :: ks, h, x, y, n, i => by
    obtain ⟨y1, q1⟩ := lc_inner c.m4 (d0 := some (tPl m rs)) (d1 := d1) (d3 := some k) rs h y c.v n i
    obtain ⟨x', y', q⟩ := lc_outer c (d1 := d1) ks (fire rs h) (some k) y1 (fire_nodup rs n) (fire_in rs c.v i)
    refine ⟨x', y', ?_⟩
    have e2 : sFor (iSeq (f2 gIxX (fV 0) (fC (.int 1)))) (t1 4) F_lcb [some (tPl m rs), d1, some (tI h), some k, y, none] = some (.nx [some (tPl m rs), d1, some (tI (fire rs h)), some k, y1, none]) := q1
    unfold forF
    show ((sFor (iSeq (f2 gIxX (fV 0) (fC (.int 1)))) (t1 4) F_lcb [some (tPl m rs), d1, some (tI h), some k, y, none]).bind _) = _
    rw [e2]
    exact q
section
variable {m : Int} {rs : List Rl} {s : Sx}
theorem Ct.n4 (c : Ct m rs) : m ∈ N4 := by
  have h1 := c.m1
  have h4 := c.m4
  have : m = 1 ∨ m = 2 ∨ m = 3 ∨ m = 4 := by omega
  rcases this with rfl | rfl | rfl | rfl <;> decide
theorem g_lclosure (c : Ct m rs) (h : Vs m s) : r_lclosure [tPl m rs, tS s] = some (tS (cl rs s)) := by
  have hm1 := c.m1
  have hm4 := c.m4
  obtain ⟨x', y', q⟩ := lc_outer c (d1 := some (tS s)) (rangeD (m + 1)) s none none h.nodup h.2
  have hlen : (rangeD (m + 1)).length = (m + 1).toNat := by unfold rangeD; rw [List.length_map, List.length_range]
  have hit : itF rs (m + 1).toNat s = itF rs 5 s := (itF_same c.v h.nodup h.2 (by omega) (by omega)).symm
  rw [hlen, hit] at q
  refine s_body ((s_sSeqN (s_sAsg (d := tI s) rfl rfl)).trans ((s_sSeqN (δ' := [some (tPl m rs), some (tS s), some (tI (itF rs 5 s)), x', y', none]) ?_).trans (s_sRet ?_)))
  · show (iRange _ _).bind _ = _
    rw [s_iRange (n := m + 1) rfl (by omega) (by omega)]
    exact q
  · refine (s_fCall (s_aCons (x := tI (sortI (itF rs 5 s))) ((s_fCall (s_aCons (x := tI (itF rs 5 s)) rfl s_aNil)).trans ?_) s_aNil)).trans rfl
    exact gSorted_ints (in_M4 hm4 (itF_in c.v 5 h.2))
end
end Dx
/-! What the defs over a book answer. -/
namespace Dx
open PySem PySem.Spec PyProof.Rows L2
abbrev r_root : List D → Option D := bodyG 4 (F_root_for r_parts_within g_closure)
abbrev r_cw : List D → Option D := bodyG 4 (F_common_without r_without g_closure r_meet)
abbrev r_ch : List D → Option D := bodyG 3 (F_common_halves r_rest_of g_closure r_meet)
abbrev r_apart : List D → Option D := bodyG 3 (F_is_apart r_halves_of r_ch)
abbrev r_pairs : List D → Option D := bodyG 3 (F_pairs_of r_sets_of g_closure)
abbrev r_lpairs : List D → Option D := bodyG 4 (F__law_pairs r_lsets r_lclosure)
abbrev r_least : List D → Option D := bodyG 3 (F__law_least r_lparts r_lclosure)
abbrev r_shared : List D → Option D := bodyG 5 (F__law_shared r_lless r_lclosure)
abbrev r_lcommon : List D → Option D := bodyG 5 (F__law_common r_lclosure r_lmeet)
abbrev r_canH : List D → Option D := bodyG 3 (F__law_can_halve r_lparts r_lcommon)
theorem Vs.up {m : Int} {s : Sx} (h : Vs m s) (h4 : m ≤ 4) : Vs 4 s := ⟨h.1, fun i hi => by have := h.2 i hi; omega⟩
theorem Vs.a4 {m : Int} {s : Sx} (h : Vs m s) (h4 : m ≤ 4) : s ∈ A4 := vs_A4 (h.up h4)
theorem Vs.filter {m : Int} {s : Sx} (h : Vs m s) (p : Int → Bool) : Vs m (s.filter p) := ⟨h.1.filter p, fun i hi => h.2 i (List.mem_filter.mp hi).1⟩
theorem Vs.m4 {m : Int} {s : Sx} (h : Vs m s) (h4 : m ≤ 4) {x : Int} (hx : x ∈ s) : x ∈ M4 := in_M4 h4 h.2 x hx
theorem parts_vs {m : Int} {s t : Sx} (h : Vs m s) (h4 : m ≤ 4) (ht : t ∈ parts s) : Vs m t ∧ subL t s := by
  have q := (mem_parts (h.a4 h4)).mp ht
  exact ⟨⟨q.1.1, fun i hi => h.2 i (q.2 i hi)⟩, q.2⟩
theorem parts_self {m : Int} {s : Sx} (h : Vs m s) (h4 : m ≤ 4) : s ∈ parts s := (mem_parts (h.a4 h4)).mpr ⟨h.up h4, fun _ hx => hx⟩
theorem rg_vs {m : Int} : Vs m (rg m) := ⟨rg_lt m, fun i hi => rg_mem.mp hi⟩
section
variable {m : Int} {rs : List Rl} {s h : Sx}
theorem fld_r {f : En → Option D} {δ : En} (e : f δ = some (tB m rs)) : fFld 0 "rules" f δ = some (tRs rs) := (s_fFld e).trans rfl
theorem fld_m {f : En → Option D} {δ : En} (e : f δ = some (tB m rs)) : fFld 0 "marks" f δ = some (.int m) := (s_fFld e).trans rfl
theorem e_cl (c : Ct m rs) {f fb : En → Option D} {δ : En} (e : fb δ = some (tB m rs)) (h1 : f δ = some (tS s)) (v : Vs m s) : fCall (gN 2 g_closure) (aCons (fFld 0 "rules" fb) (aCons f aNil)) δ = some (tS (cl rs s)) :=
  (s_fCall (s_aCons (fld_r e) (s_aCons h1 s_aNil))).trans ((s_gN rfl).trans (gcl c v))
theorem e_lcl (c : Ct m rs) {f fb : En → Option D} {δ : En} (e : fb δ = some (tPl m rs)) (h1 : f δ = some (tS s)) (v : Vs m s) : fCall (gN 2 r_lclosure) (aCons fb (aCons f aNil)) δ = some (tS (cl rs s)) :=
  (s_fCall (s_aCons e (s_aCons h1 s_aNil))).trans ((s_gN rfl).trans (g_lclosure c v))
/-- the first least part whose closure has x -/
def roots (rs : List Rl) (s : Sx) (x : Int) : List Sx := (parts s).filter fun t => (cl rs t).contains x
def root (rs : List Rl) (s : Sx) (x : Int) : Sx := (roots rs s x).headD []
theorem roots_ne (c : Ct m rs) (v : Vs m s) {x : Int} (hx : x ∈ cl rs s) : ∃ t ts, roots rs s x = t :: ts ∧ root rs s x = t := by
  have : s ∈ roots rs s x := List.mem_filter.mpr ⟨parts_self v c.m4, by simpa using hx⟩
  cases e : roots rs s x with
  | nil => rw [e] at this; cases this
  | cons t ts => exact ⟨t, ts, rfl, by unfold root; rw [e]; rfl⟩
theorem at0 (t : Sx) (ts : List Sx) : gIxX (tL (t :: ts)) (.int 0) = some (tS t) := by
  show atI ((t :: ts).map tS) ((0 : Nat) : Int) = _
  exact atI_nat rfl
theorem at0_set (x : Int) (t : Sx) : gIxX (tS (x :: t)) (.int 0) = some (.int x) := by
  show atI ((x :: t).map D.int) ((0 : Nat) : Int) = _
  exact atI_nat rfl
theorem e_roots (c : Ct m rs) (v : Vs m s) {x : Int} : fLc [3] (iSeq (fCall (gN 1 r_parts_within) (aCons (fV 1) aNil))) (t1 3) (fB (f2 gInX (fV 2) (fCall (gN 2 g_closure) (aCons (fFld 0 "rules" (fV 0)) (aCons (fV 3) aNil))))) (fV 3) [some (tB m rs), some (tS s), some (.int x), none] = some (tL (roots rs s x)) := by
  refine s_fLc (ds := (parts s).map tS) ((s_iSeq (x := tL (parts s)) ((s_fCall (s_aCons (x := tS s) rfl s_aNil)).trans ((s_gN rfl).trans (g_parts (v.a4 c.m4))))).trans rfl)
    (lc_map tS (fun t => [some (tB m rs), some (tS s), some (.int x), some (tS t)]) (fun t => (cl rs t).contains x) tS (parts s) (fun t _ => rfl) (fun t ht => ?_) (fun t _ _ => rfl))
  exact s_fB ((s_f2 (x := .int x) rfl (e_cl c rfl rfl (parts_vs v c.m4 ht).1)).trans (gIn_set x _))
theorem g_root (c : Ct m rs) (v : Vs m s) {x : Int} (hx : x ∈ cl rs s) : r_root [tB m rs, tS s, .int x] = some (tS (root rs s x)) := by
  obtain ⟨t, ts, e1, e2⟩ := roots_ne c v hx
  refine s_body (s_sRet ((s_f2 (x := tL (roots rs s x)) (y := .int 0) (e_roots c v) rfl).trans ?_))
  rw [e1, e2]
  exact at0 t ts
/-! ### the common marks without one -/
def cw (m : Int) (rs : List Rl) (s : Sx) : Sx := (rg m).filter fun x => s.all fun k => (cl rs (wo s k)).contains x
theorem wo_vs (v : Vs m s) (x : Int) : Vs m (wo s x) := v.filter _
def F_cwb : En → Option Out := sAsg (fCall (gN 2 r_meet) (aCons (fV 2) (aCons (fCall (gN 2 g_closure) (aCons (fFld 0 "rules" (fV 0)) (aCons (fCall (gN 2 r_without) (aCons (fV 1) (aCons (fV 3) aNil))) aNil))) aNil))) (t1 2)
theorem cw_loop (c : Ct m rs) (v : Vs m s) : ∀ (ks : Sx) (f : Sx) (y : Option D), Vs m f → (∀ k ∈ ks, k ∈ s) →
    ∃ y', forF (t1 3) F_cwb (ks.map D.int) [some (tB m rs), some (tS s), some (tS f), y] = some (.nx [some (tB m rs), some (tS s), some (tS (f.filter fun x => ks.all fun k => (cl rs (wo s k)).contains x)), y'])
  | [], f, y, _, _ => ⟨y, by
    have : (f.filter fun x => ([] : Sx).all fun k => (cl rs (wo s k)).contains x) = f := by simp
    rw [this]
    rfl⟩
  | k :: ks, f, y, vf, hk => by
    have e1 : fCall (gN 2 r_without) (aCons (fV 1) (aCons (fV 3) aNil)) [some (tB m rs), some (tS s), some (tS f), some (.int k)] = some (tS (wo s k)) :=
      (s_fCall (s_aCons (x := tS s) rfl (s_aCons (x := .int k) rfl s_aNil))).trans ((s_gN rfl).trans (of_decS (all2 k_without (v.a4 c.m4) (v.m4 c.m4 (hk k (List.mem_cons_self ..))))))
    have vc := cl_vs c (wo_vs v k)
    have e2 : F_cwb [some (tB m rs), some (tS s), some (tS f), some (.int k)] = some (.nx [some (tB m rs), some (tS s), some (tS (meetI f (cl rs (wo s k)))), some (.int k)]) :=
      s_sAsg ((s_fCall (s_aCons (x := tS f) rfl (s_aCons (e_cl c rfl e1 (wo_vs v k)) s_aNil))).trans ((s_gN rfl).trans (of_decS (all2 k_meet (vf.a4 c.m4) (vc.a4 c.m4))))) rfl
    obtain ⟨y', q⟩ := cw_loop c v ks (meetI f (cl rs (wo s k))) (some (.int k)) (vf.filter _) (fun z hz => hk z (List.mem_cons_of_mem _ hz))
    refine ⟨y', ?_⟩
    rw [List.map_cons]
    unfold forF
    show ((F_cwb [some (tB m rs), some (tS s), some (tS f), some (.int k)]).bind _) = _
    rw [e2]
    have e3 : ((meetI f (cl rs (wo s k))).filter fun x => ks.all fun k => (cl rs (wo s k)).contains x) = f.filter fun x => (k :: ks).all fun k => (cl rs (wo s k)).contains x := by
      unfold meetI
      rw [List.filter_filter]
      apply List.filter_congr
      intro x _
      rw [List.all_cons, Bool.and_comm]
    rw [e3] at q
    exact q
theorem g_cw (c : Ct m rs) (v : Vs m s) : r_cw [tB m rs, tS s] = some (tS (cw m rs s)) := by
  obtain ⟨y', q⟩ := cw_loop c v s (rg m) none rg_vs fun _ h => h
  have h1 := c.m1
  have h4 := c.m4
  refine s_body ((s_sSeqN (δ' := [some (tB m rs), some (tS s), some (tS (rg m)), none]) (s_sAsg (d := tS (rg m)) ?_ rfl)).trans ((s_sSeqN (δ' := [some (tB m rs), some (tS s), some (tS (cw m rs s)), y']) q).trans (s_sRet rfl)))
  unfold fTupRange
  rw [s_iRange (fld_m (m := m) (rs := rs) rfl) (by omega) (by omega), rangeD_rg]
  rfl
theorem g_shared (c : Ct m rs) (v : Vs m s) : r_shared [tPl m rs, tS s] = some (tS (cw m rs s)) := by
  have h1 := c.m1
  have h4 := c.m4
  have e1 : fLc [3] (iSeq (fV 1)) (t1 3) bYes (fCall (gN 2 r_lclosure) (aCons (fV 0) (aCons (fCall (gN 2 r_lless) (aCons (fV 1) (aCons (fV 3) aNil))) aNil))) [some (tPl m rs), some (tS s), none, none, none] = some (tL (s.map fun k => cl rs (wo s k))) := by
    refine (s_fLc (ds := s.map D.int) rfl (lc_all D.int (fun k => [some (tPl m rs), some (tS s), none, some (.int k), none]) (fun k => tS (cl rs (wo s k))) s (fun k _ => rfl) (fun k hk => ?_))).trans ?_
    · exact e_lcl c rfl ((s_fCall (s_aCons (x := tS s) rfl (s_aCons (x := .int k) rfl s_aNil))).trans ((s_gN rfl).trans (of_decS (all2 k_lless (v.a4 c.m4) (v.m4 c.m4 hk))))) (wo_vs v k)
    · unfold tL
      rw [List.map_map]
      rfl
  refine s_body ((s_sSeqN (δ' := [some (tPl m rs), some (tS s), some (tL (s.map fun k => cl rs (wo s k))), none, none]) (s_sAsg e1 rfl)).trans (s_sRet ?_))
  refine (s_fCall (s_aCons (x := tI (cw m rs s)) (s_fLc (ds := (rg m).map D.int) ?_ (lc_map D.int (fun x => [some (tPl m rs), some (tS s), some (tL (s.map fun k => cl rs (wo s k))), some (.int x), none]) (fun x => s.all fun k => (cl rs (wo s k)).contains x) D.int (rg m) (fun x _ => rfl) (fun x _ => ?_) (fun x _ _ => rfl))) s_aNil)).trans rfl
  · exact (s_iRange (n := m) rfl (by omega) (by omega)).trans (by rw [rangeD_rg])
  · refine s_fB ((s_fCall (s_aCons (s_fLc (ds := (s.map fun k => cl rs (wo s k)).map tS) rfl (lc_all tS (fun r => [some (tPl m rs), some (tS s), some (tL (s.map fun k => cl rs (wo s k))), some (.int x), some (tS r)]) (fun r => .bl (r.contains x)) (s.map fun k => cl rs (wo s k)) (fun r _ => rfl) (fun r _ => (s_f2 (x := .int x) (y := tS r) rfl rfl).trans (gIn_set x r)))) s_aNil)).trans ?_)
    rw [gAll_map (fun r : Sx => r.contains x), List.all_map]
    rfl
/-! ### the common marks of two halves -/
def ch (rs : List Rl) (s h : Sx) : Sx := meetI (cl rs h) (cl rs (rest s h))
theorem rest_vs (v : Vs m s) : Vs m (rest s h) := v.filter _
theorem g_ch (c : Ct m rs) (v : Vs m s) (vh : Vs m h) : r_ch [tB m rs, tS s, tS h] = some (tS (ch rs s h)) := by
  have e1 : fCall (gN 2 r_rest_of) (aCons (fV 1) (aCons (fV 2) aNil)) [some (tB m rs), some (tS s), some (tS h)] = some (tS (rest s h)) :=
    (s_fCall (s_aCons (x := tS s) rfl (s_aCons (x := tS h) rfl s_aNil))).trans ((s_gN rfl).trans (of_decS (all2 k_rest (v.a4 c.m4) (vh.a4 c.m4))))
  exact s_body (s_sRet ((s_fCall (s_aCons (e_cl c rfl rfl vh) (s_aCons (e_cl c rfl e1 (rest_vs v)) s_aNil))).trans ((s_gN rfl).trans (of_decS (all2 k_meet ((cl_vs c vh).a4 c.m4) ((cl_vs c (rest_vs v)).a4 c.m4))))))
theorem g_lcommon (c : Ct m rs) (v : Vs m s) (vh : Vs m h) : r_lcommon [tPl m rs, tS s, tS h] = some (tS (ch rs s h)) := by
  have e1 : fCall gTuple (aCons (fLc [4] (iSeq (fV 1)) (t1 4) (fB (f2 gNotIn (fV 4) (fV 2))) (fV 4)) aNil) [some (tPl m rs), some (tS s), some (tS h), none, none] = some (tS (rest s h)) := by
    refine (s_fCall (s_aCons (x := tI (rest s h)) (s_fLc (ds := s.map D.int) rfl (lc_map D.int (fun x => [some (tPl m rs), some (tS s), some (tS h), none, some (.int x)]) (fun x => !h.contains x) D.int s (fun x _ => rfl) (fun x _ => s_fB ((s_f2 (x := .int x) (y := tS h) rfl rfl).trans (gNotIn_set x h))) (fun x _ _ => rfl))) s_aNil)).trans rfl
  refine s_body ((s_sSeqN (δ' := [some (tPl m rs), some (tS s), some (tS h), some (tS (rest s h)), none]) (s_sAsg e1 rfl)).trans (s_sRet ?_))
  exact (s_fCall (s_aCons (e_lcl c rfl rfl vh) (s_aCons (e_lcl c rfl rfl (rest_vs v)) s_aNil))).trans ((s_gN rfl).trans (of_decS (all2 k_lmeet ((cl_vs c vh).a4 c.m4) ((cl_vs c (rest_vs v)).a4 c.m4))))
def apart (rs : List Rl) (s : Sx) : Bool := (hv s).all fun h => ch rs s h == []
def canH (rs : List Rl) (s : Sx) : Bool := (parts s).any fun h => !(ch rs s h == [])
theorem hv_vs (v : Vs m s) (h4 : m ≤ 4) {t : Sx} (ht : t ∈ hv s) : Vs m t := (parts_vs v h4 (List.mem_filter.mp ht).1).1
theorem g_apart (c : Ct m rs) (v : Vs m s) : r_apart [tB m rs, tS s] = some (.bl (apart rs s)) := by
  refine s_body (s_sRet ((s_fCall (s_aCons (s_fLc (ds := (hv s).map tS) ((s_iSeq (x := tL (hv s)) ((s_fCall (s_aCons (x := tS s) rfl s_aNil)).trans ((s_gN rfl).trans (g_halvesOf (v.a4 c.m4))))).trans rfl)
    (lc_all tS (fun t => [some (tB m rs), some (tS s), some (tS t)]) (fun t => .bl (ch rs s t == [])) (hv s) (fun t _ => rfl) (fun t ht => ?_))) s_aNil)).trans (gAll_map _ _)))
  exact (s_f2 (y := tS []) ((s_fCall (s_aCons (x := tB m rs) rfl (s_aCons (x := tS s) rfl (s_aCons (x := tS t) rfl s_aNil)))).trans ((s_gN rfl).trans (g_ch c v (hv_vs v c.m4 ht)))) rfl).trans (gEq_set _ _)
theorem g_canH (c : Ct m rs) (v : Vs m s) : r_canH [tPl m rs, tS s] = some (.bl (canH rs s)) := by
  refine s_body (s_sRet ((s_fCall (s_aCons (s_fLc (ds := (parts s).map tS) ((s_iSeq (x := tL (parts s)) ((s_fCall (s_aCons (x := tS s) rfl s_aNil)).trans ((s_gN rfl).trans (g_lparts (v.a4 c.m4))))).trans rfl)
    (lc_all tS (fun t => [some (tPl m rs), some (tS s), some (tS t)]) (fun t => .bl (!(ch rs s t == []))) (parts s) (fun t _ => rfl) (fun t ht => ?_))) s_aNil)).trans (gAny_map _ _)))
  exact (s_f2 (y := tS []) ((s_fCall (s_aCons (x := tPl m rs) rfl (s_aCons (x := tS s) rfl (s_aCons (x := tS t) rfl s_aNil)))).trans ((s_gN rfl).trans (g_lcommon c v (parts_vs v c.m4 ht).1))) rfl).trans (gNe_set _ _)
end
end Dx
/-! Pairs, the least of a pair, max and min; tables. -/
namespace Dx
open PySem PySem.Spec PyProof.Rows L2
/-! ### max and min -/
def I9 : List Int := [0, 1, 2, 3, 4, 5, 6]
theorem k_ltI : (I9.all fun a => I9.all fun b => PySem.W.dataLt (toPy (.int a)) (toPy (.int b)) == decide (a < b)) = true := by kernel_rfl
theorem k_alI9 : (I9.all fun a => I9.all fun b => PySem.W.alike (toPy (.int a)) (toPy (.int b))) = true := by kernel_rfl
theorem exOk_ints {ns : List Int} (h : ∀ n ∈ ns, n ∈ I9) : exOk (ns.map D.int) = true := by
  unfold exOk alikeAllD
  rw [Bool.and_eq_true, List.all_map, List.all_map, List.all_eq_true, List.all_eq_true]
  refine ⟨fun i _ => lv_int 8 i, fun a ha => ?_⟩
  show (!isNon (.int a) && (ns.map D.int).all fun y => PySem.W.alike (toPy (.int a)) (toPy y)) = true
  rw [List.all_map, Bool.and_eq_true, List.all_eq_true]
  exact ⟨rfl, fun b hb => all2 k_alI9 (h a ha) (h b hb)⟩
theorem maxF_ints : ∀ (x : Int) (xs : List Int), x ∈ I9 → (∀ n ∈ xs, n ∈ I9) → maxF (.int x) (xs.map D.int) = .int (xs.foldl max x)
  | x, [], _, _ => rfl
  | x, y :: ys, hx, h => by
    have hy := h y (List.mem_cons_self ..)
    have e := all2 k_ltI hx hy
    rw [beq_iff_eq] at e
    show maxF (if PySem.W.dataLt (toPy (.int x)) (toPy (.int y)) then .int y else .int x) (ys.map D.int) = .int (ys.foldl max (max x y))
    rw [e]
    by_cases q : x < y
    · rw [decide_eq_true q, if_pos rfl, show max x y = y by omega]
      exact maxF_ints y ys hy fun n hn => h n (List.mem_cons_of_mem _ hn)
    · rw [decide_eq_false q, if_neg (by decide), show max x y = x by omega]
      exact maxF_ints x ys hx fun n hn => h n (List.mem_cons_of_mem _ hn)
theorem minF_ints : ∀ (x : Int) (xs : List Int), x ∈ I9 → (∀ n ∈ xs, n ∈ I9) → (∀ n ∈ xs, x ≤ n) → minF (.int x) (xs.map D.int) = .int x
  | x, [], _, _, _ => rfl
  | x, y :: ys, hx, h, hl => by
    have hy := h y (List.mem_cons_self ..)
    have e := all2 k_ltI hy hx
    rw [beq_iff_eq] at e
    show minF (if PySem.W.dataLt (toPy (.int y)) (toPy (.int x)) then .int y else .int x) (ys.map D.int) = .int x
    have := hl y (List.mem_cons_self ..)
    rw [e, decide_eq_false (by omega), if_neg (by decide)]
    exact minF_ints x ys hx (fun n hn => h n (List.mem_cons_of_mem _ hn)) fun n hn => hl n (List.mem_cons_of_mem _ hn)
theorem gMax_ints {x : Int} {xs : List Int} (h : ∀ n ∈ x :: xs, n ∈ I9) : gMax [tI (x :: xs)] = some (.int (xs.foldl max x)) := by
  show (if exOk ((x :: xs).map D.int) = true then some (maxF (.int x) (xs.map D.int)) else none) = _
  rw [if_pos (exOk_ints h), maxF_ints x xs (h x (List.mem_cons_self ..)) fun n hn => h n (List.mem_cons_of_mem _ hn)]
theorem gMin_ints {x : Int} {xs : List Int} (h : ∀ n ∈ x :: xs, n ∈ I9) (hl : ∀ n ∈ xs, x ≤ n) : gMin [tI (x :: xs)] = some (.int x) := by
  show (if exOk ((x :: xs).map D.int) = true then some (minF (.int x) (xs.map D.int)) else none) = _
  rw [if_pos (exOk_ints h), minF_ints x xs (h x (List.mem_cons_self ..)) (fun n hn => h n (List.mem_cons_of_mem _ hn)) hl]
theorem foldl_max {a : Int} : ∀ (xs : List Int) (x : Int), (x = a ∨ a ∈ xs) → x ≤ a → (∀ n ∈ xs, n ≤ a) → xs.foldl max x = a
  | [], x, h, _, _ => by
    rcases h with h | h
    · exact h
    · cases h
  | y :: ys, x, h, hx, hl => by
    have hy := hl y (List.mem_cons_self ..)
    refine foldl_max ys (max x y) ?_ (by omega) fun n hn => hl n (List.mem_cons_of_mem _ hn)
    rcases h with h | h
    · left; omega
    · rcases List.mem_cons.mp h with h | h
      · left; omega
      · exact .inr h
/-- max of a list of small ints: one of them that is at least each -/
theorem gMax_is {xs : List Int} {a : Int} (h : ∀ n ∈ xs, n ∈ I9) (ha : a ∈ xs) (hl : ∀ n ∈ xs, n ≤ a) : gMax [tI xs] = some (.int a) := by
  cases xs with
  | nil => cases ha
  | cons x xs =>
    rw [gMax_ints h]
    congr 2
    refine foldl_max xs x ?_ (hl x (List.mem_cons_self ..)) fun n hn => hl n (List.mem_cons_of_mem _ hn)
    rcases List.mem_cons.mp ha with h | h
    · exact .inl h.symm
    · exact .inr h
/-- length, set, mark -/
def tT (p : Sx × Int) : D := .tup [.int p.1.length, tS p.1, .int p.2]
def kT (p : Sx × Int) : Nat := p.1.length * 1000 + kP p
theorem k_ltT : (P4.all fun a => P4.all fun b => PySem.W.dataLt (toPy (tT a)) (toPy (tT b)) == decide (kT a < kT b)) = true := by kernel_rfl
theorem k_alT : (P4.all fun a => P4.all fun b => PySem.W.alike (toPy (tT a)) (toPy (tT b))) = true := by kernel_rfl
theorem k_T : (P4.all fun a => P4.all fun b => decide (kT a ≤ kT b → a.1.length ≤ b.1.length)) = true := by kernel_rfl
theorem maxF_T : ∀ (x : Sx × Int) (xs : List (Sx × Int)), x ∈ P4 → (∀ n ∈ xs, n ∈ P4) → ∃ b, maxF (tT x) (xs.map tT) = tT b ∧ (b = x ∨ b ∈ xs) ∧ kT x ≤ kT b ∧ ∀ n ∈ xs, kT n ≤ kT b
  | x, [], _, _ => ⟨x, rfl, .inl rfl, Nat.le_refl _, fun _ h => by cases h⟩
  | x, y :: ys, hx, h => by
    have hy := h y (List.mem_cons_self ..)
    have e := all2 k_ltT hx hy
    rw [beq_iff_eq] at e
    have e1 : maxF (tT x) ((y :: ys).map tT) = maxF (if PySem.W.dataLt (toPy (tT x)) (toPy (tT y)) then tT y else tT x) (ys.map tT) := rfl
    rw [e1, e]
    by_cases q : kT x < kT y
    · rw [decide_eq_true q, if_pos rfl]
      obtain ⟨b, h1, h2, h3, h4⟩ := maxF_T y ys hy fun n hn => h n (List.mem_cons_of_mem _ hn)
      refine ⟨b, h1, .inr ?_, by omega, fun n hn => ?_⟩
      · rcases h2 with h2 | h2
        · rw [h2]; exact List.mem_cons_self ..
        · exact List.mem_cons_of_mem _ h2
      · rcases List.mem_cons.mp hn with rfl | hn
        · exact h3
        · exact h4 n hn
    · rw [decide_eq_false q, if_neg (by decide)]
      obtain ⟨b, h1, h2, h3, h4⟩ := maxF_T x ys hx fun n hn => h n (List.mem_cons_of_mem _ hn)
      refine ⟨b, h1, ?_, h3, fun n hn => ?_⟩
      · rcases h2 with h2 | h2
        · exact .inl h2
        · exact .inr (List.mem_cons_of_mem _ h2)
      · rcases List.mem_cons.mp hn with rfl | hn
        · omega
        · exact h4 n hn
theorem gMax_T {xs : List (Sx × Int)} (h : ∀ n ∈ xs, n ∈ P4) (hne : xs ≠ []) : ∃ b ∈ xs, gMax [.lst (xs.map tT)] = some (tT b) ∧ ∀ n ∈ xs, n.1.length ≤ b.1.length := by
  cases xs with
  | nil => exact absurd rfl hne
  | cons x xs =>
    obtain ⟨b, h1, h2, h3, h4⟩ := maxF_T x xs (h x (List.mem_cons_self ..)) fun n hn => h n (List.mem_cons_of_mem _ hn)
    have hb : b ∈ x :: xs := by
      rcases h2 with h2 | h2
      · rw [h2]; exact List.mem_cons_self ..
      · exact List.mem_cons_of_mem _ h2
    refine ⟨b, hb, ?_, fun n hn => ?_⟩
    · have ok : exOk ((x :: xs).map tT) = true := by
        unfold exOk alikeAllD
        rw [Bool.and_eq_true, List.all_map, List.all_map, List.all_eq_true, List.all_eq_true]
        refine ⟨fun p _ => ?_, fun a ha => ?_⟩
        · show (lv 7 (.int p.1.length) && (lv 7 (tS p.1) && (lv 7 (.int p.2) && true))) = true
          rw [lv_tS]
          rfl
        · show (!isNon (tT a) && ((x :: xs).map tT).all fun y => PySem.W.alike (toPy (tT a)) (toPy y)) = true
          rw [List.all_map, Bool.and_eq_true, List.all_eq_true]
          exact ⟨rfl, fun b hb => all2 k_alT (h a ha) (h b hb)⟩
      show (if exOk ((x :: xs).map tT) = true then some (maxF (tT x) (xs.map tT)) else none) = _
      rw [if_pos ok, h1]
    · have : kT n ≤ kT b := by
        rcases List.mem_cons.mp hn with rfl | hn
        · exact h3
        · exact h4 n hn
      exact of_decide_eq_true (all2 k_T (h n hn) (h b hb)) this
/-! ### pairs -/
def prs (m : Int) (rs : List Rl) : List (Sx × Int) := (U m).flatMap fun s => (cl rs s).map fun x => (s, x)
section
variable {m : Int} {rs : List Rl} {s h : Sx}
theorem catRun_map {f : D → Option (List D)} {g : Sx → List (Sx × Int)} : ∀ (ss : List Sx), (∀ s ∈ ss, f (tS s) = some ((g s).map tP)) → catRun f (ss.map tS) = some ((ss.flatMap g).map tP)
  | [], _ => rfl
  | s :: ss, h => by
    rw [List.map_cons]
    unfold catRun
    rw [h s (List.mem_cons_self ..), catRun_map ss fun t ht => h t (List.mem_cons_of_mem _ ht)]
    show some ((g s).map tP ++ (ss.flatMap g).map tP) = _
    rw [List.flatMap_cons, List.map_append]
theorem flat_len {g : Sx → List (Sx × Int)} {k : Nat} : ∀ (ss : List Sx), (∀ s ∈ ss, (g s).length ≤ k) → (ss.flatMap g).length ≤ ss.length * k
  | [], _ => by simp
  | s :: ss, h => by
    rw [List.flatMap_cons, List.length_append, List.length_cons, Nat.succ_mul]
    have := h s (List.mem_cons_self ..)
    have := flat_len ss fun t ht => h t (List.mem_cons_of_mem _ ht)
    omega
theorem vs_len (v : Vs m s) (h4 : m ≤ 4) : s.length ≤ 4 := by
  have := in_len v.nodup v.2
  omega
theorem U_len : (U m).length ≤ 16 := Nat.le_trans (List.length_filter_le _ _) (by decide)
theorem prs_len (c : Ct m rs) : (prs m rs).length ≤ 64 := by
  refine Nat.le_trans (flat_len (k := 4) _ fun s hs => ?_) (by have := U_len (m := m); omega)
  rw [List.length_map]
  exact vs_len (cl_vs c ((mem_U c.m4).mp hs)) c.m4
theorem mem_prs (c : Ct m rs) {p : Sx × Int} : p ∈ prs m rs ↔ Vs m p.1 ∧ p.2 ∈ cl rs p.1 := by
  unfold prs
  rw [List.mem_flatMap]
  constructor
  · rintro ⟨s, hs, hp⟩
    obtain ⟨x, hx, rfl⟩ := List.mem_map.mp hp
    exact ⟨(mem_U c.m4).mp hs, hx⟩
  · rintro ⟨h1, h2⟩
    exact ⟨p.1, (mem_U c.m4).mpr h1, List.mem_map.mpr ⟨p.2, h2, rfl⟩⟩
theorem mem_P4 {p : Sx × Int} : p ∈ P4 ↔ p.1 ∈ A4 ∧ p.2 ∈ M4 := by
  unfold P4
  rw [List.mem_flatMap]
  constructor
  · rintro ⟨s, hs, hp⟩
    obtain ⟨x, hx, rfl⟩ := List.mem_map.mp hp
    exact ⟨hs, hx⟩
  · rintro ⟨h1, h2⟩
    exact ⟨p.1, h1, List.mem_map.mpr ⟨p.2, h2, rfl⟩⟩
theorem prs_P4 (c : Ct m rs) {p : Sx × Int} (hp : p ∈ prs m rs) : p ∈ P4 := by
  obtain ⟨h1, h2⟩ := (mem_prs c).mp hp
  exact mem_P4.mpr ⟨h1.a4 c.m4, (cl_vs c h1).m4 c.m4 h2⟩
theorem U_nodup : (U m).Nodup := A4_nodup.filter _
theorem flat_nodup {rs : List Rl} : ∀ (ss : List Sx), ss.Nodup → (∀ s ∈ ss, (cl rs s).Nodup) → (ss.flatMap fun s => (cl rs s).map fun x => (s, x)).Nodup
  | [], _, _ => List.nodup_nil
  | s :: ss, n, h => by
    rw [List.nodup_cons] at n
    rw [List.flatMap_cons, List.nodup_append]
    refine ⟨map_nodup (h s (List.mem_cons_self ..)) fun a _ b _ e => (Prod.mk.inj e).2, flat_nodup ss n.2 fun t ht => h t (List.mem_cons_of_mem _ ht), fun a ha b hb e => ?_⟩
    obtain ⟨x, _, rfl⟩ := List.mem_map.mp ha
    subst e
    obtain ⟨t, ht, hx⟩ := List.mem_flatMap.mp hb
    obtain ⟨y, _, e⟩ := List.mem_map.mp hx
    have := (Prod.mk.inj e).1
    subst this
    exact n.1 ht
theorem prs_nodup (c : Ct m rs) : (prs m rs).Nodup := flat_nodup _ U_nodup fun s hs => (cl_vs c ((mem_U c.m4).mp hs)).nodup
theorem e_sets (c : Ct m rs) {f : En → Option D} {δ : En} (e : f δ = some (tB m rs)) : iSeq (fCall (gN 1 r_sets_of) (aCons (fFld 0 "marks" f) aNil)) δ = some ((U m).map tS) :=
  (s_iSeq (x := tL (U m)) ((s_fCall (s_aCons (fld_m e) s_aNil)).trans ((s_gN rfl).trans (g_sets c.n4)))).trans rfl
theorem g_pairs (c : Ct m rs) : r_pairs [tB m rs] = some (tPs (prs m rs)) := by
  refine s_body (s_sRet ?_)
  unfold fLc2
  rw [e_sets c rfl]
  show (catRun _ ((U m).map tS)).bind _ = _
  rw [catRun_map (g := fun s => (cl rs s).map fun x => (s, x)) (U m) fun s hs => ?_]
  · have := prs_len c
    show (if ((prs m rs).map tP).length ≤ 100000 then some (D.lst ((prs m rs).map tP)) else none) = _
    rw [List.length_map, if_pos (by omega)]
    rfl
  · show lc2In [2] _ _ _ [some (tB m rs), some (tS s), none] = _
    unfold lc2In
    have e2 : iSeq (fCall (gN 2 g_closure) (aCons (fFld 0 "rules" (fV 0)) (aCons (fV 1) aNil))) [some (tB m rs), some (tS s), none] = some ((cl rs s).map D.int) := (s_iSeq (e_cl c rfl rfl ((mem_U c.m4).mp hs))).trans rfl
    rw [e2]
    refine (lc_all D.int (fun x => [some (tB m rs), some (tS s), some (.int x)]) (fun x => tP (s, x)) (cl rs s) (fun x _ => rfl) (fun x _ => ?_)).trans ?_
    · exact s_fTup (s_aCons (x := tS s) rfl (s_aCons (x := .int x) rfl s_aNil)) (show 2 ≤ 1000 by decide)
    · rw [List.map_map]
      rfl
def F_lpb : En → Option Out := sAsg (f2 gAdd (fV 1) (fLc [3] (iSeq (fCall (gN 2 r_lclosure) (aCons (fV 0) (aCons (fV 2) aNil)))) (t1 3) bYes (fTup (aCons (fV 2) (aCons (fV 3) aNil))))) (t1 1)
theorem lp_loop (c : Ct m rs) : ∀ (ss : List Sx) (acc : List (Sx × Int)) (y : Option D), (∀ s ∈ ss, Vs m s) → acc.length + ss.length * 4 ≤ 1000 →
    ∃ y', forF (t1 2) F_lpb (ss.map tS) [some (tPl m rs), some (tPs acc), y, none] = some (.nx [some (tPl m rs), some (tPs (acc ++ ss.flatMap fun s => (cl rs s).map fun x => (s, x))), y', none])
  | [], acc, y, _, _ => ⟨y, by rw [List.flatMap_nil, List.append_nil]; rfl⟩
  | s :: ss, acc, y, hv, hl => by
    have v := hv s (List.mem_cons_self ..)
    have vl := vs_len (cl_vs c v) c.m4
    rw [List.length_cons] at hl
    have e1 : fLc [3] (iSeq (fCall (gN 2 r_lclosure) (aCons (fV 0) (aCons (fV 2) aNil)))) (t1 3) bYes (fTup (aCons (fV 2) (aCons (fV 3) aNil))) [some (tPl m rs), some (tPs acc), some (tS s), none] = some (tPs ((cl rs s).map fun x => (s, x))) := by
      refine (s_fLc (ds := (cl rs s).map D.int) ((s_iSeq (e_lcl c rfl rfl v)).trans rfl) (lc_all D.int (fun x => [some (tPl m rs), some (tPs acc), some (tS s), some (.int x)]) (fun x => tP (s, x)) (cl rs s) (fun x _ => rfl) (fun x _ => ?_))).trans ?_
      · exact s_fTup (s_aCons (x := tS s) rfl (s_aCons (x := .int x) rfl s_aNil)) (show 2 ≤ 1000 by decide)
      · unfold tPs
        rw [List.map_map]
        rfl
    have e2 : F_lpb [some (tPl m rs), some (tPs acc), some (tS s), none] = some (.nx [some (tPl m rs), some (tPs (acc ++ (cl rs s).map fun x => (s, x))), some (tS s), none]) := by
      refine s_sAsg (d := tPs (acc ++ (cl rs s).map fun x => (s, x))) ((s_f2 (x := tPs acc) rfl e1).trans ?_) rfl
      show (if (acc.map tP).length + (((cl rs s).map fun x => (s, x)).map tP).length ≤ 100000 then some (D.lst (acc.map tP ++ ((cl rs s).map fun x => (s, x)).map tP)) else none) = _
      rw [List.length_map, List.length_map, List.length_map, if_pos (by omega), ← List.map_append]
      rfl
    obtain ⟨y', q⟩ := lp_loop c ss (acc ++ (cl rs s).map fun x => (s, x)) (some (tS s)) (fun t ht => hv t (List.mem_cons_of_mem _ ht)) (by rw [List.length_append, List.length_map]; omega)
    refine ⟨y', ?_⟩
    rw [List.map_cons]
    unfold forF
    show ((F_lpb [some (tPl m rs), some (tPs acc), some (tS s), none]).bind _) = _
    rw [e2, List.flatMap_cons, ← List.append_assoc]
    exact q
theorem e_lsets (c : Ct m rs) {f : En → Option D} {δ : En} (e : f δ = some (tPl m rs)) : fCall (gN 1 r_lsets) (aCons (f2 gIxX f (fC (.int 0))) aNil) δ = some (tL (U m)) :=
  (s_fCall (s_aCons (x := .int m) ((s_f2 e rfl).trans rfl) s_aNil)).trans ((s_gN rfl).trans (g_lsets c.n4))
theorem g_lpairs (c : Ct m rs) : r_lpairs [tPl m rs] = some (tPs (prs m rs)) := by
  have hU := U_len (m := m)
  obtain ⟨y', q⟩ := lp_loop c (U m) [] none (fun s hs => (mem_U c.m4).mp hs) (by simp; omega)
  refine s_body ((s_sSeqN (δ' := [some (tPl m rs), some (tPs []), none, none]) rfl).trans ((s_sSeqN (δ' := [some (tPl m rs), some (tPs (prs m rs)), y', none]) ?_).trans (s_sRet rfl)))
  show (iSeq _ _).bind _ = _
  rw [(s_iSeq (e_lsets c rfl)).trans rfl]
  exact q
theorem A4_len : A4.Pairwise fun a b => a.length ≤ b.length := by
  have : decide (A4.Pairwise fun a b => a.length ≤ b.length) = true := by kernel_rfl
  exact of_decide_eq_true this
theorem small_I9 {n : Nat} (h : n ≤ 4) : (n : Int) ∈ I9 := by
  have : n = 0 ∨ n = 1 ∨ n = 2 ∨ n = 3 ∨ n = 4 := by omega
  rcases this with rfl | rfl | rfl | rfl | rfl <;> decide
theorem g_least (c : Ct m rs) (v : Vs m s) {x : Int} (hx : x ∈ cl rs s) : r_least [tPl m rs, tP (s, x)] = some (.int (root rs s x).length) := by
  have e1 : f2 gIxX (fV 1) (fC (.int 0)) [some (tPl m rs), some (tP (s, x)), none] = some (tS s) := rfl
  refine s_body (s_sRet ((s_fCall (s_aCons (x := tI ((roots rs s x).map fun t => (t.length : Int))) ?_ s_aNil)).trans ?_))
  · refine (s_fLc (ds := (parts s).map tS) ((s_iSeq (x := tL (parts s)) ((s_fCall (s_aCons e1 s_aNil)).trans ((s_gN rfl).trans (g_lparts (v.a4 c.m4))))).trans rfl)
      (lc_map tS (fun t => [some (tPl m rs), some (tP (s, x)), some (tS t)]) (fun t => (cl rs t).contains x) (fun t => .int t.length) (parts s) (fun t _ => rfl) (fun t ht => ?_) (fun t _ _ => (s_fCall (s_aCons (x := tS t) rfl s_aNil)).trans (gLen_set t)))).trans ?_
    · exact s_fB ((s_f2 (x := .int x) rfl (e_lcl c rfl rfl (parts_vs v c.m4 ht).1)).trans (gIn_set x _))
    · unfold tI roots
      rw [List.map_map]
      rfl
  · obtain ⟨t, ts, h1, h2⟩ := roots_ne c v hx
    have hs : (roots rs s x).Pairwise fun a b => a.length ≤ b.length := (A4_len.filter _).filter _
    rw [h2]
    rw [h1] at hs ⊢
    rw [List.pairwise_cons] at hs
    rw [List.map_cons]
    refine gMin_ints (fun n hn => ?_) fun n hn => ?_
    · have hn : n ∈ (roots rs s x).map fun t => (t.length : Int) := by rw [h1]; exact hn
      obtain ⟨u, hu, rfl⟩ := List.mem_map.mp hn
      exact small_I9 (vs_len (parts_vs v c.m4 (List.mem_filter.mp hu).1).1 c.m4)
    · obtain ⟨u, hu, rfl⟩ := List.mem_map.mp hn
      have := hs.1 u hu
      omega
end
end Dx
/-! Tables. -/
namespace Dx
open PySem PySem.Spec PyProof.Rows L2
structure KE {α : Type} (enc : α → D) (ok : α → Prop) (key : α → NestedKey) : Prop where
  of : ∀ a, ok a → keyOf (enc a) = some (key a)
  inj : ∀ a b, key a = key b → a = b
  un : ∀ a, ok a → uni (enc a) = true
def kyS (s : Sx) : NestedKey := .tup (s.map .num)
def kyP (p : Sx × Int) : NestedKey := .tup [kyS p.1, .num p.2]
theorem num_inj : ∀ {a b : Sx}, a.map NestedKey.num = b.map NestedKey.num → a = b
  | [], [], _ => rfl
  | [], _ :: _, h => by cases h
  | _ :: _, [], h => by cases h
  | x :: a, y :: b, h => by
    rw [List.map_cons, List.map_cons] at h
    injection h with h1 h2
    injection h1 with h1
    rw [h1, num_inj h2]
theorem kyS_inj {a b : Sx} (h : kyS a = kyS b) : a = b := by
  unfold kyS at h
  injection h with h
  exact num_inj h
theorem k_kyS : (A4.all fun s => decide (keyOf (tS s) = some (kyS s)) && uni (tS s)) = true := by kernel_rfl
theorem k_kyP : (P4.all fun s => decide (keyOf (tP s) = some (kyP s)) && uni (tP s)) = true := by kernel_rfl
theorem keS : KE tS (· ∈ A4) kyS := ⟨fun a h => by
  have := all1 k_kyS h
  rw [Bool.and_eq_true, decide_eq_true_eq] at this
  exact this.1, fun a b h => kyS_inj h, fun a h => by
  have := all1 k_kyS h
  rw [Bool.and_eq_true] at this
  exact this.2⟩
theorem keP : KE tP (· ∈ P4) kyP := ⟨fun a h => by
  have := all1 k_kyP h
  rw [Bool.and_eq_true, decide_eq_true_eq] at this
  exact this.1, fun a b h => by
  unfold kyP at h
  injection h with h
  injection h with h1 h2
  injection h2 with h2 _
  injection h2 with h2
  exact Prod.ext (kyS_inj h1) h2, fun a h => by
  have := all1 k_kyP h
  rw [Bool.and_eq_true] at this
  exact this.2⟩
def kvsD {α β : Type} (ek : α → D) (ev : β → D) (kvs : List (α × β)) : List (D × D) := kvs.map fun p => (ek p.1, ev p.2)
def tab {α β : Type} (ek : α → D) (ev : β → D) (kvs : List (α × β)) : D := .dic (kvsD ek ev kvs)
section
variable {α β : Type} [DecidableEq α] {ek : α → D} {ev : β → D} {ok : α → Prop} {key : α → NestedKey} (E : KE ek ok key)
include E
theorem KE.eq {a b : α} (h : ok b) : keyOf (ek b) = some (key a) ↔ b = a := by
  rw [E.of b h]
  exact ⟨fun e => E.inj b a (Option.some.inj e), fun e => by rw [e]⟩
theorem dAt_tab : ∀ (kvs : List (α × β)) (a : α), (∀ p ∈ kvs, ok p.1) → dAt (kvsD ek ev kvs) (key a) = (kvs.find? fun p => decide (p.1 = a)).map fun p => ev p.2
  | [], a, _ => rfl
  | p :: kvs, a, h => by
    have ih := dAt_tab kvs a fun q hq => h q (List.mem_cons_of_mem _ hq)
    have hp := h p (List.mem_cons_self ..)
    show dAt ((ek p.1, ev p.2) :: kvsD ek ev kvs) (key a) = _
    rw [dAt_cons, ih, List.find?_cons]
    by_cases e : p.1 = a
    · have e' : keyOf (ek p.1) = some (key a) := (E.eq hp).mpr e
      rw [if_pos e', decide_eq_true e]
      rfl
    · have e' : ¬ keyOf (ek p.1) = some (key a) := fun z => e ((E.eq hp).mp z)
      rw [if_neg e', decide_eq_false e]
theorem gIn_tab {kvs : List (α × β)} {a : α} (h : ∀ p ∈ kvs, ok p.1) (ha : ok a) : gInX (ek a) (tab ek ev kvs) = some (.bl (decide (a ∈ kvs.map (·.1)))) := by
  show (keyOf (ek a)).map (fun k => D.bl (dAt (kvsD ek ev kvs) k).isSome) = _
  rw [E.of a ha]
  show some (D.bl (dAt (kvsD ek ev kvs) (key a)).isSome) = _
  rw [dAt_tab E kvs a h]
  congr 2
  rw [Bool.eq_iff_iff, decide_eq_true_eq, Option.isSome_map, List.find?_isSome]
  simp
theorem find_key : ∀ {kvs : List (α × β)} {a : α} {b : β}, (kvs.map (·.1)).Nodup → (a, b) ∈ kvs → (kvs.find? fun p => decide (p.1 = a)) = some (a, b)
  | p :: kvs, a, b, n, h => by
    rw [List.map_cons, List.nodup_cons] at n
    rw [List.find?_cons]
    rcases List.mem_cons.mp h with h | h
    · subst h
      simp
    · have : p.1 ≠ a := fun e => n.1 (by rw [e]; exact List.mem_map.mpr ⟨_, h, rfl⟩)
      rw [decide_eq_false this]
      exact find_key n.2 h
theorem gIx_tab {kvs : List (α × β)} {a : α} {b : β} (h : ∀ p ∈ kvs, ok p.1) (n : (kvs.map (·.1)).Nodup) (hm : (a, b) ∈ kvs) : gIxX (tab ek ev kvs) (ek a) = some (ev b) := by
  show (keyOf (ek a)).bind (fun k => dAt (kvsD ek ev kvs) k) = _
  rw [E.of a (h _ hm)]
  show dAt (kvsD ek ev kvs) (key a) = _
  rw [dAt_tab E kvs a h, find_key E n hm]
  rfl
theorem gDict_tab {kvs : List (α × β)} (h : ∀ p ∈ kvs, ok p.1) : gDict [tab ek ev kvs] = some (tab ek ev kvs) := by
  show (if (kvsD ek ev kvs).all (fun p => uni p.1) then some (D.dic (kvsD ek ev kvs)) else none) = _
  rw [if_pos]
  · rfl
  · unfold kvsD
    rw [List.all_map, List.all_eq_true]
    exact fun p hp => E.un p.1 (h p hp)
theorem uni_tab {kvs : List (α × β)} (h : ∀ p ∈ kvs, ok p.1) : (kvsD ek ev kvs).all (fun p => uni p.1) = true := by
  unfold kvsD
  rw [List.all_map, List.all_eq_true]
  exact fun p hp => E.un p.1 (h p hp)
theorem dPut_new {kvs : List (α × β)} {a : α} {b : β} (h : ∀ p ∈ kvs, ok p.1) (hn : a ∉ kvs.map (·.1)) : dPut (kvsD ek ev kvs) (ek a) (key a) (ev b) = kvsD ek ev (kvs ++ [(a, b)]) := by
  have e : dAt (kvsD ek ev kvs) (key a) = none := by
    rw [dAt_tab E kvs a h]
    have : (kvs.find? fun p => decide (p.1 = a)) = none := by
      rw [List.find?_eq_none]
      intro p hp
      simp only [decide_eq_true_eq]
      exact fun e => hn (by rw [← e]; exact List.mem_map.mpr ⟨p, hp, rfl⟩)
    rw [this]
    rfl
  unfold dPut
  rw [e]
  unfold kvsD
  rw [List.map_append]
  rfl
theorem dPut_old {kvs : List (α × β)} {a : α} {b : β} (h : ∀ p ∈ kvs, ok p.1) (hn : a ∈ kvs.map (·.1)) : dPut (kvsD ek ev kvs) (ek a) (key a) (ev b) = kvsD ek ev (kvs.map fun p => if p.1 = a then (p.1, b) else p) := by
  have e : (dAt (kvsD ek ev kvs) (key a)).isSome = true := by
    rw [dAt_tab E kvs a h, Option.isSome_map, List.find?_isSome]
    obtain ⟨p, hp, e⟩ := List.mem_map.mp hn
    exact ⟨p, hp, decide_eq_true e⟩
  unfold dPut
  rw [if_pos e]
  unfold kvsD
  rw [List.map_map, List.map_map]
  apply List.map_congr_left
  intro p hp
  show (if keyOf (ek p.1) = some (key a) then (ek p.1, ev b) else (ek p.1, ev p.2)) = _
  by_cases q : p.1 = a
  · rw [if_pos ((E.eq (h p hp)).mpr q)]
    simp [q]
  · rw [if_neg (fun z => q ((E.eq (h p hp)).mp z))]
    simp [q]
theorem dDel_tab {kvs : List (α × β)} {a : α} (h : ∀ p ∈ kvs, ok p.1) : dDel (kvsD ek ev kvs) (key a) = kvsD ek ev (kvs.filter fun p => decide (p.1 ≠ a)) := by
  unfold dDel kvsD
  rw [List.filter_map]
  congr 1
  apply List.filter_congr
  intro p hp
  show decide (keyOf (ek p.1) ≠ some (key a)) = decide (p.1 ≠ a)
  rw [Bool.eq_iff_iff, decide_eq_true_eq, decide_eq_true_eq]
  exact not_congr (E.eq (h p hp))
theorem dc_tab {en : D → Option En} {fk fv : En → Option D} {δ' : α → En} {g : α → β} : ∀ (xs : List α) (acc : List (α × β)), (∀ p ∈ acc, ok p.1) → (∀ a ∈ xs, ok a) → xs.Nodup → (∀ a ∈ xs, a ∉ acc.map (·.1)) → (∀ a ∈ xs, en (ek a) = some (δ' a) ∧ fk (δ' a) = some (ek a) ∧ fv (δ' a) = some (ev (g a))) →
    dcRun en fk fv (xs.map ek) (kvsD ek ev acc) = some (kvsD ek ev (acc ++ xs.map fun a => (a, g a)))
  | [], acc, _, _, _, _, _ => by rw [List.map_nil, List.map_nil, List.append_nil]; rfl
  | a :: xs, acc, ha, hx, n, hn, hf => by
    rw [List.nodup_cons] at n
    obtain ⟨h1, h2, h3⟩ := hf a (List.mem_cons_self ..)
    rw [List.map_cons]
    unfold dcRun
    rw [h1]
    show ((fk (δ' a)).bind _) = _
    rw [h2]
    show ((fv (δ' a)).bind _) = _
    rw [h3]
    show ((keyOf (ek a)).bind _) = _
    rw [E.of a (hx a (List.mem_cons_self ..))]
    show dcRun en fk fv (xs.map ek) (dPut (kvsD ek ev acc) (ek a) (key a) (ev (g a))) = _
    rw [dPut_new E ha (hn a (List.mem_cons_self ..))]
    rw [dc_tab xs (acc ++ [(a, g a)]) (fun p hp => by
      rcases List.mem_append.mp hp with hp | hp
      · exact ha p hp
      · rw [List.mem_singleton.mp hp]
        exact hx a (List.mem_cons_self ..)) (fun b hb => hx b (List.mem_cons_of_mem _ hb)) n.2 (fun b hb z => by
      rw [List.map_append] at z
      rcases List.mem_append.mp z with z | z
      · exact hn b (List.mem_cons_of_mem _ hb) z
      · have : b = a := by simpa using z
        subst this
        exact n.1 hb) (fun b hb => hf b (List.mem_cons_of_mem _ hb))]
    rw [List.append_assoc]
    rfl
theorem pairsOf_tab : ∀ (kvs : List (α × β)), (∀ p ∈ kvs, ok p.1) → pairsOf (kvD (kvsD ek ev kvs)) = some (kvsD ek ev kvs)
  | [], _ => rfl
  | p :: kvs, h => by
    show pairsOf (.tup [ek p.1, ev p.2] :: kvD (kvsD ek ev kvs)) = _
    unfold pairsOf
    rw [pairsOf_tab kvs fun q hq => h q (List.mem_cons_of_mem _ hq)]
    show ((keyOf (ek p.1)).bind _) = _
    rw [E.of p.1 (h p (List.mem_cons_self ..))]
    rfl
theorem dFold_tab : ∀ (kvs acc : List (α × β)), (∀ p ∈ kvs, ok p.1) → (∀ p ∈ acc, ok p.1) → ((acc ++ kvs).map (·.1)).Nodup → dFold (kvsD ek ev kvs) (kvsD ek ev acc) = kvsD ek ev (acc ++ kvs)
  | [], acc, _, _, _ => by rw [List.append_nil]; rfl
  | p :: kvs, acc, h, ha, n => by
    have n' := n
    rw [List.map_append, List.nodup_append] at n'
    have hp : p.1 ∉ acc.map (·.1) := fun z => n'.2.2 p.1 z p.1 (by simp) rfl
    have e : dFold (kvsD ek ev (p :: kvs)) (kvsD ek ev acc) = dFold (kvsD ek ev kvs) (kvsD ek ev (acc ++ [p])) := by
      show dFold ((ek p.1, ev p.2) :: kvsD ek ev kvs) (kvsD ek ev acc) = _
      unfold dFold
      rw [List.foldl_cons]
      congr 1
      show (match keyOf (ek p.1) with
        | some k => dPut (kvsD ek ev acc) (ek p.1) k (ev p.2)
        | none => kvsD ek ev acc) = _
      rw [E.of p.1 (h p (List.mem_cons_self ..))]
      exact dPut_new E ha hp
    rw [e, dFold_tab kvs (acc ++ [p]) (fun q hq => h q (List.mem_cons_of_mem _ hq)) (fun q hq => by
      rcases List.mem_append.mp hq with hq | hq
      · exact ha q hq
      · rw [List.mem_singleton.mp hq]
        exact h p (List.mem_cons_self ..)) (by rw [List.append_assoc]; exact n), List.append_assoc]
    rfl
theorem gDict_rev {kvs : List (α × β)} (h : ∀ p ∈ kvs, ok p.1) (n : (kvs.map (·.1)).Nodup) : gDict [.lst (kvD (kvsD ek ev kvs)).reverse] = some (tab ek ev kvs.reverse) := by
  have hr : ∀ p ∈ kvs.reverse, ok p.1 := fun p hp => h p (List.mem_reverse.mp hp)
  have e : (kvD (kvsD ek ev kvs)).reverse = kvD (kvsD ek ev kvs.reverse) := by
    unfold kvD kvsD
    rw [List.map_reverse, List.map_reverse]
  rw [e]
  show (pairsOf (kvD (kvsD ek ev kvs.reverse))).map (fun kvs => D.dic (dFold kvs [])) = _
  rw [pairsOf_tab E kvs.reverse hr]
  show some (D.dic (dFold (kvsD ek ev kvs.reverse) (kvsD ek ev []))) = _
  rw [dFold_tab E kvs.reverse [] hr (fun p hp => by cases hp) (by rw [List.nil_append, List.map_reverse]; exact (List.reverse_perm _).nodup_iff.mpr n)]
  rfl
end
end Dx
/-! few, meeting, halves: what they return. -/
namespace Dx
open PySem PySem.Spec PyProof.Rows L2
abbrev r_few : List D → Option D := bodyG 5 (F_few r_check_book r_pairs r_root g_Few)
abbrev r_meeting : List D → Option D := bodyG 4 (F_meeting r_check_book r_sets_of r_cw g_Meeting)
abbrev r_half_for : List D → Option D := bodyG 4 (F_half_for r_halves_of r_ch)
abbrev r_halves : List D → Option D := bodyG 5 (F_halves r_check_book r_sets_of r_apart r_half_for g_Halves)
def itD {α β : Type} (ek : α → D) (ev : β → D) (p : α × β) : D := .tup [ek p.1, ev p.2]
section
variable {α β : Type} {ek : α → D} {ev : β → D} {f : En → Option D} {δ : En}
theorem e_items {kvs : List (α × β)} (h : f δ = some (tab ek ev kvs)) : iItemsX f δ = some (kvs.map (itD ek ev)) := by
  unfold iItemsX
  rw [h]
  show some (kvD (kvsD ek ev kvs)) = _
  unfold kvD kvsD
  rw [List.map_map]
  rfl
theorem s_fDcX {vs : List Nat} {fi : En → Option (List D)} {tf : D → En → Option En} {fk fv : En → Option D} {ds : List D} {rs : List (D × D)} (h : fi δ = some ds) (hl : ds.length ≤ 100000) (h2 : dcRun (fun x => tf x (wipeE δ vs)) fk fv ds [] = some rs) : fDcX vs fi tf fk fv δ = some (.dic rs) := by
  unfold fDcX
  rw [h]
  show (if ds.length ≤ 100000 then _ else _) = _
  rw [if_pos hl, h2]
  rfl
theorem s_sDrop {d : D} (h : f δ = some d) : sDrop f δ = some (.nx δ) := by unfold sDrop; rw [h]; rfl
theorem s_fMake {c n : Nat} {gI : List D → Option (List (Str × D))} {fs : En → Option (List D)} {ds : List D} {fl : List (Str × D)} (h : fs δ = some ds) (hl : ds.length = n) (h2 : gI ds = some fl) : fMake c n gI fs δ = some (.obj c fl) := by
  unfold fMake
  rw [h]
  show (if ds.length = n then _ else _) = _
  rw [if_pos hl, h2]
  rfl
theorem s_gI3 {n1 n2 n3 : Str} {f1 f2 f3 : En → Option D} {a b c d1 d2 d3 : D} (h1 : f1 [none, some a, some b, some c] = some d1) (h2 : f2 [none, some a, some b, some c] = some d2) (h3 : f3 [none, some a, some b, some c] = some d3) : gI3 n1 n2 n3 f1 f2 f3 [a, b, c] = some [(n1, d1), (n2, d2), (n3, d3)] := by
  show (f1 [none, some a, some b, some c]).bind _ = _
  rw [h1]
  show (f2 [none, some a, some b, some c]).bind _ = _
  rw [h2]
  show (f3 [none, some a, some b, some c]).map _ = _
  rw [h3]
  rfl
end
section
variable {m : Int} {rs : List Rl} {s h : Sx}
theorem g_check (m : Int) (rs : List Rl) : r_check_book [tB m rs] = some .non := rfl
def tFew (n : Int) (p : Sx × Int) (kvs : List ((Sx × Int) × Sx)) : D := .obj 1 [("number", .int n), ("hard", tP p), ("table", tab tP tS kvs)]
def ftab (m : Int) (rs : List Rl) : List ((Sx × Int) × Sx) := (prs m rs).map fun p => (p, root rs p.1 p.2)
theorem root_vs (c : Ct m rs) (v : Vs m s) {x : Int} (hx : x ∈ cl rs s) : Vs m (root rs s x) ∧ subL (root rs s x) s ∧ x ∈ cl rs (root rs s x) := by
  obtain ⟨t, ts, e1, e2⟩ := roots_ne c v hx
  have ht : t ∈ roots rs s x := by rw [e1]; exact List.mem_cons_self ..
  obtain ⟨h1, h2⟩ := List.mem_filter.mp ht
  obtain ⟨h3, h4⟩ := parts_vs v c.m4 h1
  rw [e2]
  exact ⟨h3, h4, by simpa using h2⟩
theorem prs_ne (c : Ct m rs) : prs m rs ≠ [] := by
  have h1 := c.m1
  have v : Vs m [0] := ⟨List.pairwise_singleton .., fun i hi => by
    have : i = 0 := by simpa using hi
    omega⟩
  have : (([0], 0) : Sx × Int) ∈ prs m rs := (mem_prs c).mpr ⟨v, cl_ext (by simp)⟩
  intro e
  rw [e] at this
  cases this
theorem g_few (c : Ct m rs) : ∃ q ∈ ftab m rs, r_few [tB m rs] = some (tFew q.2.length (q.2, q.1.2) (ftab m rs)) ∧ ∀ r ∈ ftab m rs, r.2.length ≤ q.2.length := by
  have hP : ∀ p ∈ prs m rs, Vs m p.1 ∧ p.2 ∈ cl rs p.1 := fun p hp => (mem_prs c).mp hp
  have hT4 : ∀ n ∈ (ftab m rs).map fun q => (q.2, q.1.2), n ∈ P4 := fun n hn => by
    obtain ⟨q, hq, rfl⟩ := List.mem_map.mp hn
    obtain ⟨p, hp, rfl⟩ := List.mem_map.mp hq
    exact mem_P4.mpr ⟨(root_vs c (hP p hp).1 (hP p hp).2).1.a4 c.m4, (cl_vs c (hP p hp).1).m4 c.m4 (hP p hp).2⟩
  have hne : ((ftab m rs).map fun q => (q.2, q.1.2)) ≠ [] := fun e => prs_ne c (by
    have e1 := List.map_eq_nil_iff.mp e
    exact List.map_eq_nil_iff.mp e1)
  obtain ⟨b, hb, hmax, hle⟩ := gMax_T hT4 hne
  obtain ⟨q, hq, rfl⟩ := List.mem_map.mp hb
  refine ⟨q, hq, ?_, fun r hr => hle (r.2, r.1.2) (List.mem_map.mpr ⟨r, hr, rfl⟩)⟩
  have hl := prs_len c
  have hk : ∀ p ∈ ftab m rs, p.1 ∈ P4 := fun p hp => by
    obtain ⟨a, ha, rfl⟩ := List.mem_map.mp hp
    exact prs_P4 c ha
  have e1 : fDcX [3] (iSeq (fCall (gN 1 r_pairs) (aCons (fV 0) aNil))) (t1 3) (fV 3) (fCall (gN 3 r_root) (aCons (fV 0) (aCons (f2 gIxX (fV 3) (fC (.int 0))) (aCons (f2 gIxX (fV 3) (fC (.int 1))) aNil)))) [some (tB m rs), none, none, none, none] = some (tab tP tS (ftab m rs)) := by
    refine s_fDcX (ds := (prs m rs).map tP) ((s_iSeq (x := tPs (prs m rs)) ((s_fCall (s_aCons rfl s_aNil)).trans ((s_gN rfl).trans (g_pairs c)))).trans rfl) (by rw [List.length_map]; omega) ?_
    refine (dc_tab keP (δ' := fun p => [some (tB m rs), none, none, some (tP p), none]) (g := fun p => root rs p.1 p.2) (ev := tS) (prs m rs) [] (fun p hp => by cases hp) (fun p hp => prs_P4 c hp) (prs_nodup c) (fun p _ z => by cases z) (fun p hp => ⟨rfl, rfl, ?_⟩)).trans rfl
    exact (s_fCall (s_aCons (x := tB m rs) rfl (s_aCons (x := tS p.1) rfl (s_aCons (x := .int p.2) rfl s_aNil)))).trans ((s_gN rfl).trans (g_root c (hP p hp).1 (hP p hp).2))
  have e2 : fCall gMax (aCons (fLc [3, 4] (iItemsX (fV 1)) (t2 3 4) bYes (fTup (aCons (fCall gLenX (aCons (fV 4) aNil)) (aCons (fV 4) (aCons (f2 gIxX (fV 3) (fC (.int 1))) aNil))))) aNil) [some (tB m rs), some (tab tP tS (ftab m rs)), none, none, none] = some (tT (q.2, q.1.2)) := by
    refine (s_fCall (s_aCons (x := .lst (((ftab m rs).map fun q => (q.2, q.1.2)).map tT)) ((s_fLc (e_items rfl) (lc_all (itD tP tS) (fun r => [some (tB m rs), some (tab tP tS (ftab m rs)), none, some (tP r.1), some (tS r.2)]) (fun r => tT (r.2, r.1.2)) (ftab m rs) (fun r _ => rfl) (fun r _ => ?_))).trans ?_) s_aNil)).trans hmax
    · exact s_fTup (s_aCons ((s_fCall (s_aCons (x := tS r.2) rfl s_aNil)).trans (gLen_set r.2)) (s_aCons (x := tS r.2) rfl (s_aCons (x := .int r.1.2) rfl s_aNil))) (show 3 ≤ 1000 by decide)
    · rw [List.map_map]
      rfl
  refine s_body ((s_sSeqN (s_sDrop (d := .non) rfl)).trans ((s_sSeqN (s_sAsg e1 rfl)).trans ((s_sSeqN (s_sAsg e2 rfl)).trans (s_sRet ?_))))
  refine s_fMake (ds := [.int q.2.length, tP (q.2, q.1.2), tab tP tS (ftab m rs)]) ?_ rfl (s_gI3 rfl rfl ((s_fCall (s_aCons rfl s_aNil)).trans (gDict_tab keP hk)))
  exact s_aCons rfl (s_aCons (s_fTup (s_aCons (x := tS q.2) rfl (s_aCons (x := .int q.1.2) rfl s_aNil)) (show 2 ≤ 1000 by decide)) (s_aCons rfl s_aNil))
/-! ### meeting -/
def tMeet (n : Int) (s : Sx) (kvs : List (Sx × Int)) : D := .obj 2 [("number", .int n), ("thing", tS s), ("table", tab tS D.int kvs)]
def due (m k : Int) : List Sx := (U m).filter fun s => (s.length : Int) == k
def mtab (m : Int) (rs : List Rl) (k : Int) : List (Sx × Int) := (due m k).map fun s => (s, (cw m rs s).headD 0)
/-- the best so far -/
def mstep (m : Int) (rs : List Rl) (b s : Sx) : Sx := if (!(s == []) && (decide (b.length < s.length) && (cw m rs s == []))) = true then s else b
def best (m : Int) (rs : List Rl) : Sx := (U m).foldl (mstep m rs) []
end
end Dx
/-! meeting and halves. -/
namespace Dx
open PySem PySem.Spec PyProof.Rows L2
section
variable {δ : En} {ta tb : En → Option Bool} {a b : Bool}
theorem e_and (h1 : ta δ = some a) (h2 : tb δ = some b) : bAnd ta tb δ = some (a && b) := by rw [s_bAnd, h1]; cases a <;> simp [h2]
theorem e_or (h1 : ta δ = some a) (h2 : tb δ = some b) : bOr ta tb δ = some (a || b) := by rw [s_bOr, h1]; cases a <;> simp [h2]
theorem e_not (h1 : ta δ = some a) : bNot ta δ = some (!a) := by rw [s_bNot, h1]; rfl
end
section
variable {m : Int} {rs : List Rl} {s h : Sx}
theorem e_len {f : En → Option D} {δ : En} (e : f δ = some (tS s)) : fCall gLenX (aCons f aNil) δ = some (.int s.length) := (s_fCall (s_aCons e s_aNil)).trans (gLen_set s)
def mst (m : Int) (rs : List Rl) (b s : Sx) : Bool := !(s == []) && (decide ((b.length : Int) < s.length) && (cw m rs s == []))
def mstp (m : Int) (rs : List Rl) (b s : Sx) : Sx := if mst m rs b s = true then s else b
def bst (m : Int) (rs : List Rl) (b : Sx) (ss : List Sx) : Sx := ss.foldl (mstp m rs) b
def F_mb : En → Option Out := sIf (bAnd (fB (f2 gNeX (fV 2) (fTup aNil))) (bAnd (fB (f2 gGt (fCall gLenX (aCons (fV 2) aNil)) (fCall gLenX (aCons (fV 1) aNil)))) (fB (f2 gEq (fCall (gN 2 r_cw) (aCons (fV 0) (aCons (fV 2) aNil))) (fTup aNil))))) (sAsg (fV 2) (t1 1)) sNil
theorem e_cw (c : Ct m rs) (v : Vs m s) {f g : En → Option D} {δ : En} (e : f δ = some (tB m rs)) (e2 : g δ = some (tS s)) : fCall (gN 2 r_cw) (aCons f (aCons g aNil)) δ = some (tS (cw m rs s)) :=
  (s_fCall (s_aCons e (s_aCons e2 s_aNil))).trans ((s_gN rfl).trans (g_cw c v))
theorem m_loop (c : Ct m rs) : ∀ (ss : List Sx) (b : Sx) (y : Option D), (∀ s ∈ ss, Vs m s) → ∃ y', forF (t1 2) F_mb (ss.map tS) [some (tB m rs), some (tS b), y, none] = some (.nx [some (tB m rs), some (tS (bst m rs b ss)), y', none])
  | [], b, y, _ => ⟨y, rfl⟩
  | s :: ss, b, y, hv => by
    have v := hv s (List.mem_cons_self ..)
    have e2 : F_mb [some (tB m rs), some (tS b), some (tS s), none] = some (.nx [some (tB m rs), some (tS (mstp m rs b s)), some (tS s), none]) := by
      refine (s_sIf (e_and (s_fB ((s_f2 (x := tS s) (y := tS []) rfl rfl).trans (gNe_set s []))) (e_and (s_fB ((s_f2 (e_len (s := s) rfl) (e_len (s := b) rfl)).trans rfl)) (s_fB ((s_f2 (y := tS []) (e_cw c v rfl rfl) rfl).trans (gEq_set _ _)))))).trans ?_
      show (if mst m rs b s = true then _ else _) = _
      unfold mstp
      by_cases q : mst m rs b s = true
      · rw [if_pos q, if_pos q]
        rfl
      · rw [if_neg q, if_neg q]
        rfl
    obtain ⟨y', q⟩ := m_loop c ss (mstp m rs b s) (some (tS s)) fun t ht => hv t (List.mem_cons_of_mem _ ht)
    refine ⟨y', ?_⟩
    rw [List.map_cons]
    unfold forF
    show ((F_mb [some (tB m rs), some (tS b), some (tS s), none]).bind _) = _
    rw [e2]
    exact q
/-- the best: shown, and none is longer -/
theorem bst_is : ∀ (ss : List Sx) (b : Sx), (b = [] ∨ cw m rs b = []) →
    (bst m rs b ss = b ∨ bst m rs b ss ∈ ss) ∧ (bst m rs b ss = [] ∨ cw m rs (bst m rs b ss) = []) ∧ b.length ≤ (bst m rs b ss).length ∧ ∀ s ∈ ss, s ≠ [] → cw m rs s = [] → s.length ≤ (bst m rs b ss).length
  | [], b, hb => ⟨.inl rfl, hb, Nat.le_refl _, fun s h => by cases h⟩
  | s :: ss, b, hb => by
    have e : bst m rs b (s :: ss) = bst m rs (mstp m rs b s) ss := rfl
    rw [e]
    have key : (mstp m rs b s = b ∨ mstp m rs b s = s) ∧ (mstp m rs b s = [] ∨ cw m rs (mstp m rs b s) = []) ∧ b.length ≤ (mstp m rs b s).length ∧ (s ≠ [] → cw m rs s = [] → s.length ≤ (mstp m rs b s).length) := by
      unfold mstp
      by_cases q : mst m rs b s = true
      · rw [if_pos q]
        unfold mst at q
        rw [Bool.and_eq_true, Bool.and_eq_true, decide_eq_true_eq] at q
        exact ⟨.inr rfl, .inr (by simpa using q.2.2), by have := q.2.1; omega, fun _ _ => Nat.le_refl _⟩
      · rw [if_neg q]
        refine ⟨.inl rfl, hb, Nat.le_refl _, fun h1 h2 => ?_⟩
        by_cases hl : (b.length : Int) < s.length
        · exact absurd (by unfold mst; simp [h1, h2, hl]) q
        · omega
    obtain ⟨k1, k2, k3, k4⟩ := key
    obtain ⟨h1, h2, h3, h4⟩ := bst_is ss (mstp m rs b s) k2
    refine ⟨?_, h2, by omega, fun t ht a b => ?_⟩
    · rcases h1 with h1 | h1
      · rw [h1]
        rcases k1 with k1 | k1
        · exact .inl k1
        · exact .inr (by rw [k1]; exact List.mem_cons_self ..)
      · exact .inr (List.mem_cons_of_mem _ h1)
    · rcases List.mem_cons.mp ht with rfl | ht
      · have := k4 a b; omega
      · exact h4 t ht a b
def mb (m : Int) (rs : List Rl) : Sx := bst m rs [] (U m)
theorem nil_vs (h1 : 0 ≤ m) : Vs m [] := ⟨.nil, fun i h => by cases h⟩
theorem mb_vs (c : Ct m rs) : Vs m (mb m rs) := by
  have h1 := c.m1
  rcases (bst_is (m := m) (rs := rs) (U m) [] (.inl rfl)).1 with h | h
  · show Vs m (bst m rs [] (U m))
    rw [h]
    exact nil_vs (by omega)
  · exact (mem_U c.m4).mp h
theorem due_mem (h4 : m ≤ 4) {k : Int} : s ∈ due m k ↔ Vs m s ∧ (s.length : Int) = k := by
  unfold due
  rw [List.mem_filter, mem_U h4]
  simp
theorem due_len {k : Int} : (due m k).length ≤ 16 := Nat.le_trans (List.length_filter_le _ _) U_len
theorem due_nodup {k : Int} : (due m k).Nodup := U_nodup.filter _
theorem due_A4 (h4 : m ≤ 4) {k : Int} (hs : s ∈ due m k) : s ∈ A4 := ((due_mem h4).mp hs).1.a4 h4
theorem mtab_keys {k : Int} : (mtab m rs k).map (·.1) = due m k := by
  unfold mtab
  rw [List.map_map]
  exact List.map_id _
theorem big_cw (c : Ct m rs) (hs : s ∈ due m ((mb m rs).length + 1)) : cw m rs s ≠ [] := fun e => by
  obtain ⟨v, hl⟩ := (due_mem c.m4).mp hs
  have := (bst_is (m := m) (rs := rs) (U m) [] (.inl rfl)).2.2.2 s ((mem_U c.m4).mpr v) (fun z => by rw [z] at hl; simp at hl; omega) e
  have : s.length ≤ (mb m rs).length := this
  omega
theorem g_meeting (c : Ct m rs) : r_meeting [tB m rs] = some (tMeet (mb m rs).length (mb m rs) (mtab m rs ((mb m rs).length + 1))) := by
  have hm4 := c.m4
  obtain ⟨y', hL⟩ := m_loop c (U m) [] none fun s hs => (mem_U hm4).mp hs
  have e1 : fLc [2] (iSeq (fCall (gN 1 r_sets_of) (aCons (fFld 0 "marks" (fV 0)) aNil))) (t1 2) (fB (f2 gEq (fCall gLenX (aCons (fV 2) aNil)) (f2 gAdd (fCall gLenX (aCons (fV 1) aNil)) (fC (.int 1))))) (fV 2) [some (tB m rs), some (tS (mb m rs)), y', none] = some (tL (due m ((mb m rs).length + 1))) := by
    refine s_fLc (e_sets c rfl) (lc_map tS (fun t => [some (tB m rs), some (tS (mb m rs)), some (tS t), none]) (fun t => (t.length : Int) == ((mb m rs).length : Int) + 1) tS (U m) (fun t _ => rfl) (fun t _ => ?_) (fun t _ _ => rfl))
    exact s_fB ((s_f2 (e_len (s := t) rfl) ((s_f2 (e_len (s := mb m rs) rfl) rfl).trans rfl)).trans (gEq_int _ _))
  have e2 : fDcX [2] (iSeq (fV 3)) (t1 2) (fV 2) (f2 gIxX (fCall (gN 2 r_cw) (aCons (fV 0) (aCons (fV 2) aNil))) (fC (.int 0))) [some (tB m rs), some (tS (mb m rs)), y', some (tL (due m ((mb m rs).length + 1)))] = some (tab tS D.int (mtab m rs ((mb m rs).length + 1))) := by
    have hl := due_len (m := m) (k := ((mb m rs).length : Int) + 1)
    refine s_fDcX (ds := (due m ((mb m rs).length + 1)).map tS) rfl (by rw [List.length_map]; omega) ?_
    refine (dc_tab keS (δ' := fun t => [some (tB m rs), some (tS (mb m rs)), some (tS t), some (tL (due m ((mb m rs).length + 1)))]) (g := fun t => (cw m rs t).headD 0) (ev := D.int) (due m ((mb m rs).length + 1)) [] (fun p hp => by cases hp) (fun p hp => due_A4 hm4 hp) due_nodup (fun p _ z => by cases z) (fun t ht => ⟨rfl, rfl, ?_⟩)).trans rfl
    refine (s_f2 (y := .int 0) (e_cw c ((due_mem hm4).mp ht).1 rfl rfl) rfl).trans ?_
    have := big_cw c ht
    cases e : cw m rs t with
    | nil => exact absurd e this
    | cons x xs => exact at0_set x xs
  refine s_body ((s_sSeqN (s_sDrop (d := .non) rfl)).trans ((s_sSeqN (δ' := [some (tB m rs), some (tS []), none, none]) rfl).trans ((s_sSeqN (δ' := [some (tB m rs), some (tS (mb m rs)), y', none]) ?_).trans ((s_sSeqN (s_sAsg e1 rfl)).trans (s_sRet ?_)))))
  · show (iSeq _ _).bind _ = _
    rw [e_sets c rfl]
    exact hL
  · refine s_fMake (ds := [.int (mb m rs).length, tS (mb m rs), tab tS D.int (mtab m rs ((mb m rs).length + 1))]) (s_aCons (e_len (s := mb m rs) rfl) (s_aCons rfl (s_aCons e2 s_aNil))) rfl (s_gI3 rfl rfl ((s_fCall (s_aCons rfl s_aNil)).trans (gDict_tab keS fun p hp => ?_)))
    have : p.1 ∈ (mtab m rs ((mb m rs).length + 1)).map (·.1) := List.mem_map.mpr ⟨p, hp, rfl⟩
    rw [mtab_keys] at this
    exact due_A4 hm4 this
/-! ### halves -/
def hst (rs : List Rl) (o : Option Sx) (s : Sx) : Bool := apart rs s && (o.isNone || decide (((o.getD []).length : Int) < s.length))
def hstp (rs : List Rl) (o : Option Sx) (s : Sx) : Option Sx := if hst rs o s = true then some s else o
def hbs (rs : List Rl) (o : Option Sx) (ss : List Sx) : Option Sx := ss.foldl (hstp rs) o
def tO : Option Sx → D
  | none => .non
  | some s => tS s
def F_hb : En → Option Out := sIf (bAnd (fB (fCall (gN 2 r_apart) (aCons (fV 0) (aCons (fV 2) aNil)))) (bOr (fB (f2 gIsN (fV 1) (fC .non))) (fB (f2 gGt (fCall gLenX (aCons (fV 2) aNil)) (fCall gLenX (aCons (fV 1) aNil)))))) (sAsg (fV 2) (t1 1)) sNil
theorem e_isN {f : En → Option D} {δ : En} {o : Option Sx} (e : f δ = some (tO o)) : fB (f2 gIsN f (fC .non)) δ = some o.isNone := by
  refine s_fB ((s_f2 e rfl).trans ?_)
  cases o <;> rfl
theorem h_loop (c : Ct m rs) : ∀ (ss : List Sx) (o : Option Sx) (y : Option D), (∀ s ∈ ss, Vs m s) → ∃ y', forF (t1 2) F_hb (ss.map tS) [some (tB m rs), some (tO o), y, none, none] = some (.nx [some (tB m rs), some (tO (hbs rs o ss)), y', none, none])
  | [], b, y, _ => ⟨y, rfl⟩
  | s :: ss, o, y, hv => by
    have v := hv s (List.mem_cons_self ..)
    have e2 : F_hb [some (tB m rs), some (tO o), some (tS s), none, none] = some (.nx [some (tB m rs), some (tO (hstp rs o s)), some (tS s), none, none]) := by
      have e3 : bOr (fB (f2 gIsN (fV 1) (fC .non))) (fB (f2 gGt (fCall gLenX (aCons (fV 2) aNil)) (fCall gLenX (aCons (fV 1) aNil)))) [some (tB m rs), some (tO o), some (tS s), none, none] = some (o.isNone || decide (((o.getD []).length : Int) < s.length)) := by
        cases o with
        | none =>
          rw [s_bOr, e_isN (o := none) rfl]
          rfl
        | some b => exact e_or (e_isN (o := some b) rfl) (s_fB ((s_f2 (e_len (s := s) rfl) (e_len (s := b) rfl)).trans rfl))
      refine (s_sIf (e_and (s_fB ((s_fCall (s_aCons (x := tB m rs) rfl (s_aCons (x := tS s) rfl s_aNil))).trans ((s_gN rfl).trans (g_apart c v)))) e3)).trans ?_
      show (if hst rs o s = true then _ else _) = _
      unfold hstp
      by_cases q : hst rs o s = true
      · rw [if_pos q, if_pos q]
        rfl
      · rw [if_neg q, if_neg q]
        rfl
    obtain ⟨y', q⟩ := h_loop c ss (hstp rs o s) (some (tS s)) fun t ht => hv t (List.mem_cons_of_mem _ ht)
    refine ⟨y', ?_⟩
    rw [List.map_cons]
    unfold forF
    show ((F_hb [some (tB m rs), some (tO o), some (tS s), none, none]).bind _) = _
    rw [e2]
    exact q
def hnum : Option Sx → Int
  | none => 0
  | some s => s.length + 1
theorem hbs_is : ∀ (ss : List Sx) (o : Option Sx), (∀ b, o = some b → apart rs b = true) →
    (hbs rs o ss = o ∨ ∃ b ∈ ss, hbs rs o ss = some b) ∧ (∀ b, hbs rs o ss = some b → apart rs b = true) ∧ hnum o ≤ hnum (hbs rs o ss) ∧ ∀ s ∈ ss, apart rs s = true → (s.length : Int) + 1 ≤ hnum (hbs rs o ss)
  | [], o, ho => ⟨.inl rfl, ho, Int.le_refl _, fun s h => by cases h⟩
  | s :: ss, o, ho => by
    have e : hbs rs o (s :: ss) = hbs rs (hstp rs o s) ss := rfl
    rw [e]
    have key : (hstp rs o s = o ∨ hstp rs o s = some s) ∧ (∀ b, hstp rs o s = some b → apart rs b = true) ∧ hnum o ≤ hnum (hstp rs o s) ∧ (apart rs s = true → (s.length : Int) + 1 ≤ hnum (hstp rs o s)) := by
      unfold hstp
      by_cases q : hst rs o s = true
      · rw [if_pos q]
        unfold hst at q
        rw [Bool.and_eq_true, Bool.or_eq_true, decide_eq_true_eq] at q
        refine ⟨.inr rfl, fun b hb => by cases hb; exact q.1, ?_, fun _ => Int.le_refl _⟩
        cases o with
        | none => show (0 : Int) ≤ s.length + 1; omega
        | some b =>
          show (b.length : Int) + 1 ≤ s.length + 1
          rcases q.2 with h | h
          · cases h
          · have h : (b.length : Int) < s.length := h
            omega
      · rw [if_neg q]
        refine ⟨.inl rfl, ho, Int.le_refl _, fun ha => ?_⟩
        cases o with
        | none => exact absurd (by unfold hst; simp [ha]) q
        | some b =>
          show (s.length : Int) + 1 ≤ b.length + 1
          by_cases hl : (b.length : Int) < s.length
          · exact absurd (by unfold hst; simp [ha]; omega) q
          · omega
    obtain ⟨k1, k2, k3, k4⟩ := key
    obtain ⟨h1, h2, h3, h4⟩ := hbs_is ss (hstp rs o s) k2
    refine ⟨?_, h2, by omega, fun t ht a => ?_⟩
    · rcases h1 with h1 | ⟨b, hb, h1⟩
      · rw [h1]
        rcases k1 with k1 | k1
        · exact .inl k1
        · exact .inr ⟨s, List.mem_cons_self .., k1⟩
      · exact .inr ⟨b, List.mem_cons_of_mem _ hb, h1⟩
    · rcases List.mem_cons.mp ht with rfl | ht
      · have := k4 a; omega
      · exact h4 t ht a
end
end Dx
/-! half_for, halves; apart and halved. -/
namespace Dx
open PySem PySem.Spec PyProof.Rows L2
section
variable {m : Int} {rs : List Rl} {s h : Sx}
def hfor (rs : List Rl) (s : Sx) : Option Sx := (hv s).find? fun h => !(ch rs s h == [])
def F_hfb : En → Option Out := sSeq (sAsg (fCall (gN 3 r_ch) (aCons (fV 0) (aCons (fV 1) (aCons (fV 2) aNil)))) (t1 3)) (sIf (fB (f2 gNeX (fV 3) (fTup aNil))) (sRet (fTup (aCons (fV 2) (aCons (f2 gIxX (fV 3) (fC (.int 0))) aNil)))) sNil)
theorem hf_loop (c : Ct m rs) (v : Vs m s) {h : Sx} : ∀ (hs : List Sx) (y z : Option D), (∀ h ∈ hs, Vs m h) → hs.find? (fun h => !(ch rs s h == [])) = some h →
    forF (t1 2) F_hfb (hs.map tS) [some (tB m rs), some (tS s), y, z] = some (.rt (tP (h, (ch rs s h).headD 0)))
  | [], y, z, _, e => by cases e
  | g :: hs, y, z, hv, e => by
    have vg := hv g (List.mem_cons_self ..)
    have e1 : sAsg (fCall (gN 3 r_ch) (aCons (fV 0) (aCons (fV 1) (aCons (fV 2) aNil)))) (t1 3) [some (tB m rs), some (tS s), some (tS g), z] = some (.nx [some (tB m rs), some (tS s), some (tS g), some (tS (ch rs s g))]) :=
      s_sAsg ((s_fCall (s_aCons (x := tB m rs) rfl (s_aCons (x := tS s) rfl (s_aCons (x := tS g) rfl s_aNil)))).trans ((s_gN rfl).trans (g_ch c v vg))) rfl
    have e2 : fB (f2 gNeX (fV 3) (fTup aNil)) [some (tB m rs), some (tS s), some (tS g), some (tS (ch rs s g))] = some (!(ch rs s g == [])) := s_fB ((s_f2 (x := tS (ch rs s g)) (y := tS []) rfl rfl).trans (gNe_set _ []))
    rw [List.map_cons]
    unfold forF
    show ((F_hfb [some (tB m rs), some (tS s), some (tS g), z]).bind _) = _
    rw [List.find?_cons] at e
    cases q : (!(ch rs s g == [])) with
    | true =>
      rw [q] at e
      have e := Option.some.inj e
      subst e
      have e3 : F_hfb [some (tB m rs), some (tS s), some (tS g), z] = some (.rt (tP (g, (ch rs s g).headD 0))) := by
        refine (s_sSeqN e1).trans ((s_sIf e2).trans ?_)
        rw [q, if_pos rfl]
        refine s_sRet (s_fTup (s_aCons (x := tS g) rfl (s_aCons (x := .int ((ch rs s g).headD 0)) ((s_f2 (x := tS (ch rs s g)) (y := .int 0) rfl rfl).trans ?_) s_aNil)) (show 2 ≤ 1000 by decide))
        cases e4 : ch rs s g with
        | nil => rw [e4] at q; cases q
        | cons x xs => exact at0_set x xs
      rw [e3]
      rfl
    | false =>
      rw [q] at e
      have e3 : F_hfb [some (tB m rs), some (tS s), some (tS g), z] = some (.nx [some (tB m rs), some (tS s), some (tS g), some (tS (ch rs s g))]) := by
        refine (s_sSeqN e1).trans ((s_sIf e2).trans ?_)
        rw [q]
        rfl
      rw [e3]
      exact hf_loop c v hs (some (tS g)) (some (tS (ch rs s g))) (fun t ht => hv t (List.mem_cons_of_mem _ ht)) e
theorem e_hv (c : Ct m rs) (v : Vs m s) {f : En → Option D} {δ : En} (e : f δ = some (tS s)) : iSeq (fCall (gN 1 r_halves_of) (aCons f aNil)) δ = some ((hv s).map tS) :=
  (s_iSeq (x := tL (hv s)) ((s_fCall (s_aCons e s_aNil)).trans ((s_gN rfl).trans (g_halvesOf (v.a4 c.m4))))).trans rfl
theorem g_hfor (c : Ct m rs) (v : Vs m s) {h : Sx} (e : hfor rs s = some h) : r_half_for [tB m rs, tS s] = some (tP (h, (ch rs s h).headD 0)) := by
  refine s_body (s_sSeqR ?_)
  show (iSeq _ _).bind _ = _
  rw [e_hv c v rfl]
  exact hf_loop c v (hv s) none none (fun t ht => hv_vs v c.m4 ht) e
theorem hfor_of (ha : apart rs s = false) : ∃ h, hfor rs s = some h ∧ h ∈ hv s ∧ ch rs s h ≠ [] := by
  unfold hfor
  cases e : (hv s).find? fun h => !(ch rs s h == []) with
  | none =>
    exfalso
    have h1 := List.find?_eq_none.mp e
    have : apart rs s = true := by
      unfold apart
      rw [List.all_eq_true]
      intro x hx
      have := h1 x hx
      simpa using this
    rw [this] at ha
    cases ha
  | some h =>
    have := List.find?_some e
    exact ⟨h, rfl, List.mem_of_find?_eq_some e, by simpa using this⟩
/-! ### apart: not to be halved -/
theorem rest_rest (hs : subL h s) (vs : Vs m s) (vh : Vs m h) : rest s (rest s h) = h := by
  have e := strict_filter vh.1 vs.1 hs
  unfold rest
  conv => rhs; rw [e]
  apply List.filter_congr
  intro x hx
  rw [Bool.eq_iff_iff]
  simp only [Bool.not_eq_true', List.contains_eq_mem, decide_eq_false_iff_not, List.mem_filter, decide_eq_true_eq]
  constructor
  · intro q
    by_cases hh : x ∈ h
    · exact hh
    · exact absurd ⟨hx, by simpa using hh⟩ q
  · rintro hh ⟨_, q⟩
    exact (by simpa using q : x ∉ h) hh
theorem ch_nil_iff : ch rs s h = [] ↔ ∀ x ∈ cl rs h, x ∉ cl rs (rest s h) := by
  unfold ch meetI
  rw [List.filter_eq_nil_iff]
  simp
theorem ch_sym (hs : subL h s) (vs : Vs m s) (vh : Vs m h) (e : ch rs s (rest s h) = []) : ch rs s h = [] := by
  rw [ch_nil_iff] at e ⊢
  rw [rest_rest hs vs vh] at e
  exact fun x h1 h2 => e x h2 h1
theorem rest_sub : subL (rest s h) s := fun x hx => (List.mem_filter.mp hx).1
theorem apart_iff (v : Vs m s) (h4 : m ≤ 4) : apart rs s = true ↔ ∀ h, h ∈ parts s → ch rs s h = [] := by
  unfold apart
  rw [List.all_eq_true]
  constructor
  · intro q h hh
    obtain ⟨vh, hs⟩ := parts_vs v h4 hh
    by_cases e : h ∈ hv s
    · simpa using q h e
    · -- the rest holds the first mark
      have hr : rest s h ∈ hv s := by
        cases s with
        | nil =>
          exact absurd (List.mem_filter.mpr ⟨hh, by simp⟩) e
        | cons x t =>
          have hx : x ∉ h := fun z => e (List.mem_filter.mpr ⟨hh, by simp [z]⟩)
          refine List.mem_filter.mpr ⟨(mem_parts (v.a4 h4)).mpr ⟨(rest_vs v).up h4, rest_sub⟩, ?_⟩
          have : x ∈ rest (x :: t) h := List.mem_filter.mpr ⟨List.mem_cons_self .., by simpa using hx⟩
          simp [this]
      have q2 : ch rs s (rest s h) = [] := by simpa using q _ hr
      exact ch_sym hs v vh q2
  · intro q h hh
    have := q h (List.mem_filter.mp hh).1
    simp [this]
theorem canH_iff : canH rs s = true ↔ ∃ h, h ∈ parts s ∧ ch rs s h ≠ [] := by
  unfold canH
  rw [List.any_eq_true]
  simp
theorem canH_apart (v : Vs m s) (h4 : m ≤ 4) : canH rs s = !apart rs s := by
  rw [Bool.eq_iff_iff, canH_iff, Bool.not_eq_true', ← Bool.not_eq_true, apart_iff v h4]
  constructor
  · rintro ⟨h, h1, h2⟩ q
    exact h2 (q h h1)
  · intro q
    apply Classical.byContradiction
    intro z
    exact q fun h hh => Classical.byContradiction fun y => z ⟨h, hh, y⟩
/-- a part of an apart set is apart -/
theorem apart_sub {t : Sx} (v : Vs m s) (h4 : m ≤ 4) (ht : t ∈ parts s) (ha : apart rs s = true) : apart rs t = true := by
  obtain ⟨vt, ts⟩ := parts_vs v h4 ht
  rw [apart_iff vt h4]
  rw [apart_iff v h4] at ha
  intro h hh
  obtain ⟨vh, hs⟩ := parts_vs vt h4 hh
  have q := ha h ((mem_parts (v.a4 h4)).mpr ⟨vh.up h4, fun x hx => ts x (hs x hx)⟩)
  rw [ch_nil_iff] at q ⊢
  intro x h1 h2
  refine q x h1 (cl_mono ?_ x h2)
  intro y hy
  obtain ⟨y1, y2⟩ := List.mem_filter.mp hy
  exact List.mem_filter.mpr ⟨ts y y1, y2⟩
/-- a smaller apart set of each length -/
theorem apart_take (v : Vs m s) (h4 : m ≤ 4) (ha : apart rs s = true) {k : Nat} (hk : k ≤ s.length) : ∃ t, Vs m t ∧ t.length = k ∧ apart rs t = true := by
  have vt : Vs m (s.take k) := ⟨v.1.sublist (List.take_sublist k s), fun i hi => v.2 i (List.mem_of_mem_take hi)⟩
  refine ⟨s.take k, vt, by rw [List.length_take]; omega, apart_sub v h4 ((mem_parts (v.a4 h4)).mpr ⟨vt.up h4, fun x hx => List.mem_of_mem_take hx⟩) ha⟩
/-! ### halves -/
def hb (m : Int) (rs : List Rl) : Option Sx := hbs rs none (U m)
def htab (m : Int) (rs : List Rl) (k : Int) : List (Sx × (Sx × Int)) := (due m k).map fun s => (s, ((hfor rs s).getD [], (ch rs s ((hfor rs s).getD [])).headD 0))
def tHalf (n : Int) (o : Option Sx) (kvs : List (Sx × (Sx × Int))) : D := .obj 3 [("number", .int n), ("thing", tO o), ("table", tab tS tP kvs)]
theorem htab_keys {k : Int} : (htab m rs k).map (·.1) = due m k := by
  unfold htab
  rw [List.map_map]
  exact List.map_id _
theorem hb_is (c : Ct m rs) : (∀ b, hb m rs = some b → Vs m b ∧ apart rs b = true) ∧ ∀ s, Vs m s → apart rs s = true → (s.length : Int) + 1 ≤ hnum (hb m rs) := by
  obtain ⟨h1, h2, h3, h4⟩ := hbs_is (rs := rs) (U m) none fun b h => by cases h
  refine ⟨fun b hb => ⟨?_, h2 b hb⟩, fun s v a => h4 s ((mem_U c.m4).mpr v) a⟩
  rcases h1 with h1 | ⟨b', hb', h1⟩
  · have : hb = hb := rfl
    rw [show hbs rs none (U m) = some b from hb] at h1
    cases h1
  · rw [show hbs rs none (U m) = some b from hb] at h1
    cases h1
    exact (mem_U c.m4).mp hb'
theorem due_halved (c : Ct m rs) (hs : s ∈ due m (hnum (hb m rs))) : apart rs s = false := by
  obtain ⟨v, hl⟩ := (due_mem c.m4).mp hs
  cases e : apart rs s with
  | false => rfl
  | true =>
    have := (hb_is c).2 s v e
    omega
theorem g_halves (c : Ct m rs) : r_halves [tB m rs] = some (tHalf (hnum (hb m rs)) (hb m rs) (htab m rs (hnum (hb m rs)))) := by
  have hm4 := c.m4
  obtain ⟨y', hL⟩ := h_loop c (U m) none none fun s hs => (mem_U hm4).mp hs
  have e0 : fIf (fB (f2 gIsN (fV 1) (fC .non))) (fC (.int 0)) (f2 gAdd (fCall gLenX (aCons (fV 1) aNil)) (fC (.int 1))) [some (tB m rs), some (tO (hb m rs)), y', none, none] = some (.int (hnum (hb m rs))) := by
    rw [s_fIf, e_isN (o := hb m rs) rfl]
    cases e : hb m rs with
    | none => rfl
    | some b =>
      show f2 gAdd (fCall gLenX (aCons (fV 1) aNil)) (fC (.int 1)) [some (tB m rs), some (tO (some b)), y', none, none] = _
      exact (s_f2 (y := .int 1) (e_len (s := b) rfl) rfl).trans rfl
  have e1 : fLc [2] (iSeq (fCall (gN 1 r_sets_of) (aCons (fFld 0 "marks" (fV 0)) aNil))) (t1 2) (fB (f2 gEq (fCall gLenX (aCons (fV 2) aNil)) (fV 3))) (fV 2) [some (tB m rs), some (tO (hb m rs)), y', some (.int (hnum (hb m rs))), none] = some (tL (due m (hnum (hb m rs)))) := by
    refine s_fLc (e_sets c rfl) (lc_map tS (fun t => [some (tB m rs), some (tO (hb m rs)), some (tS t), some (.int (hnum (hb m rs))), none]) (fun t => (t.length : Int) == hnum (hb m rs)) tS (U m) (fun t _ => rfl) (fun t _ => ?_) (fun t _ _ => rfl))
    exact s_fB ((s_f2 (e_len (s := t) rfl) rfl).trans (gEq_int _ _))
  have e2 : fDcX [2] (iSeq (fV 4)) (t1 2) (fV 2) (fCall (gN 2 r_half_for) (aCons (fV 0) (aCons (fV 2) aNil))) [some (tB m rs), some (tO (hb m rs)), y', some (.int (hnum (hb m rs))), some (tL (due m (hnum (hb m rs))))] = some (tab tS tP (htab m rs (hnum (hb m rs)))) := by
    have hl := due_len (m := m) (k := hnum (hb m rs))
    refine s_fDcX (ds := (due m (hnum (hb m rs))).map tS) rfl (by rw [List.length_map]; omega) ?_
    refine (dc_tab keS (δ' := fun t => [some (tB m rs), some (tO (hb m rs)), some (tS t), some (.int (hnum (hb m rs))), some (tL (due m (hnum (hb m rs))))]) (g := fun t => ((hfor rs t).getD [], (ch rs t ((hfor rs t).getD [])).headD 0)) (ev := tP) (due m (hnum (hb m rs))) [] (fun p hp => by cases hp) (fun p hp => due_A4 hm4 hp) due_nodup (fun p _ z => by cases z) (fun t ht => ⟨rfl, rfl, ?_⟩)).trans rfl
    obtain ⟨h, h1, _, _⟩ := hfor_of (due_halved c ht)
    refine (s_fCall (s_aCons (x := tB m rs) rfl (s_aCons (x := tS t) rfl s_aNil))).trans ((s_gN rfl).trans ((g_hfor c ((due_mem hm4).mp ht).1 h1).trans ?_))
    rw [h1]
    rfl
  refine s_body ((s_sSeqN (s_sDrop (d := .non) rfl)).trans ((s_sSeqN (δ' := [some (tB m rs), some (tO none), none, none, none]) rfl).trans ((s_sSeqN (δ' := [some (tB m rs), some (tO (hb m rs)), y', none, none]) ?_).trans ((s_sSeqN (s_sAsg e0 rfl)).trans ((s_sSeqN (s_sAsg e1 rfl)).trans (s_sRet ?_))))))
  · show (iSeq _ _).bind _ = _
    rw [e_sets c rfl]
    exact hL
  · refine s_fMake (ds := [.int (hnum (hb m rs)), tO (hb m rs), tab tS tP (htab m rs (hnum (hb m rs)))]) (s_aCons rfl (s_aCons rfl (s_aCons e2 s_aNil))) rfl (s_gI3 rfl rfl ((s_fCall (s_aCons rfl s_aNil)).trans (gDict_tab keS fun p hp => ?_)))
    have : p.1 ∈ (htab m rs (hnum (hb m rs))).map (·.1) := List.mem_map.mpr ⟨p, hp, rfl⟩
    rw [htab_keys] at this
    exact due_A4 hm4 this
end
end Dx
/-! _law_is_few and Few.shows. -/
namespace Dx
open PySem PySem.Spec PyProof.Rows L2
theorem seq_chk {t : En → Option Bool} {G : En → Option Out} {δ : En} {b r : Bool} (h : t δ = some b) (hr : b = false → G δ = some (.rt (.bl r))) : sSeq (sIf t (sRet (fC (.bl false))) sNil) G δ = some (.rt (.bl (!b && r))) := by
  cases b with
  | true => exact s_sSeqR ((s_sIf h).trans rfl)
  | false => exact (s_sSeqN (δ' := δ) ((s_sIf h).trans rfl)).trans (hr rfl)
theorem for_chk {α : Type} {tf : D → En → Option En} {F : En → Option Out} (enc : α → D) (ok : α → Bool) (I : En → Prop) : ∀ (xs : List α) (δ : En), I δ →
    (∀ x ∈ xs, ∀ δ, I δ → ∃ δ1, tf (enc x) δ = some δ1 ∧ (ok x = true → ∃ δ2, F δ1 = some (.nx δ2) ∧ I δ2) ∧ (ok x = false → F δ1 = some (.rt (.bl false)))) →
    (xs.all ok = true ∧ ∃ δ', forF tf F (xs.map enc) δ = some (.nx δ') ∧ I δ') ∨ (xs.all ok = false ∧ forF tf F (xs.map enc) δ = some (.rt (.bl false)))
  | [], δ, hI, _ => .inl ⟨rfl, δ, rfl, hI⟩
  | x :: xs, δ, hI, h => by
    obtain ⟨δ1, h1, h2, h3⟩ := h x (List.mem_cons_self ..) δ hI
    rw [List.map_cons, List.all_cons]
    unfold forF
    rw [h1]
    cases e : ok x with
    | true =>
      obtain ⟨δ2, h4, h5⟩ := h2 e
      have ih := for_chk enc ok I xs δ2 h5 fun y hy => h y (List.mem_cons_of_mem _ hy)
      show (_ ∧ ∃ δ', ((F δ1).bind _) = _ ∧ _) ∨ (_ ∧ ((F δ1).bind _) = _)
      rw [h4, Bool.true_and]
      exact ih
    | false =>
      right
      refine ⟨rfl, ?_⟩
      show ((F δ1).bind _) = _
      rw [h3 e]
      rfl
theorem seq_for {α : Type} {fi : En → Option (List D)} {tf : D → En → Option En} {F : En → Option Out} (enc : α → D) (ok : α → Bool) (I : En → Prop) {xs : List α} {δ : En} (hi : fi δ = some (xs.map enc)) (hI : I δ)
    (h : ∀ x ∈ xs, ∀ δ, I δ → ∃ δ1, tf (enc x) δ = some δ1 ∧ (ok x = true → ∃ δ2, F δ1 = some (.nx δ2) ∧ I δ2) ∧ (ok x = false → F δ1 = some (.rt (.bl false)))) : sSeq (sFor fi tf F) (sRet (fC (.bl true))) δ = some (.rt (.bl (xs.all ok))) := by
  have e : sFor fi tf F δ = forF tf F (xs.map enc) δ := by unfold sFor; rw [hi]; rfl
  rcases for_chk enc ok I xs δ hI h with ⟨h1, δ', h2, _⟩ | ⟨h1, h2⟩
  · rw [s_sSeqN (e.trans h2), h1]
    rfl
  · rw [s_sSeqR (e.trans h2), h1]
/-- two checks of a loop's body -/
theorem two_chk {t u : En → Option Bool} {δ : En} {a b : Bool} (h1 : t δ = some a) (h2 : u δ = some b) :
    (!a && !b) = true ∧ sSeq (sIf t (sRet (fC (.bl false))) sNil) (sIf u (sRet (fC (.bl false))) sNil) δ = some (.nx δ) ∨ (!a && !b) = false ∧ sSeq (sIf t (sRet (fC (.bl false))) sNil) (sIf u (sRet (fC (.bl false))) sNil) δ = some (.rt (.bl false)) := by
  cases a with
  | true => exact .inr ⟨rfl, s_sSeqR ((s_sIf h1).trans rfl)⟩
  | false =>
    have e : sSeq (sIf t (sRet (fC (.bl false))) sNil) (sIf u (sRet (fC (.bl false))) sNil) δ = sIf u (sRet (fC (.bl false))) sNil δ := s_sSeqN ((s_sIf h1).trans rfl)
    rw [e, s_sIf h2]
    cases b with
    | true => exact .inr ⟨rfl, rfl⟩
    | false => exact .inl ⟨rfl, rfl⟩
abbrev r_lfew : List D → Option D := bodyG 9 (F__law_is_few r_lsets r_lclosure r_lless r_lpairs r_lparts)
abbrev r_sfew : List D → Option D := bodyG 8 (F_Few_shows r_check_book r_is_set g_closure r_without r_pairs r_is_within)
/-- what stands of a table for few -/
structure FT (m : Int) (kvs : List ((Sx × Int) × Sx)) : Prop where
  key : ∀ q ∈ kvs, Vs m q.1.1 ∧ q.1.2 ∈ M4
  val : ∀ q ∈ kvs, Vs m q.2
  nd : (kvs.map (·.1)).Nodup
section
variable {m : Int} {rs : List Rl}
theorem FT.p4 {kvs : List ((Sx × Int) × Sx)} (t : FT m kvs) (h4 : m ≤ 4) : ∀ q ∈ kvs, q.1 ∈ P4 := fun q hq => mem_P4.mpr ⟨(t.key q hq).1.a4 h4, (t.key q hq).2⟩
def rowOk (rs : List Rl) (n : Int) (q : (Sx × Int) × Sx) : Bool := (subI q.2 q.1.1 && decide ((q.2.length : Int) ≤ n)) && (cl rs q.2).contains q.1.2
def fewOk (m : Int) (rs : List Rl) (n : Int) (p : Sx × Int) (kvs : List ((Sx × Int) × Sx)) : Bool :=
  !(!((p.1.length : Int) == n)) && (!(!(cl rs p.1).contains p.2) && (!(p.1.any fun k => (cl rs (wo p.1 k)).contains p.2) && (!(!(byP (kvs.map (·.1)) == byP (prs m rs))) && kvs.all (rowOk rs n))))
theorem U_con (h4 : m ≤ 4) {s : Sx} (v : Vs m s) : (U m).contains s = true := by simpa using (mem_U h4).mpr v
theorem g_lfew (c : Ct m rs) {n : Int} {p : Sx × Int} {kvs : List ((Sx × Int) × Sx)} (vp : Vs m p.1) (t : FT m kvs) : r_lfew [tPl m rs, .int n, tP p, tab tP tS kvs] = some (.bl (fewOk m rs n p kvs)) := by
  have h4 := c.m4
  have hp := t.p4 h4
  let δ : En := [some (tPl m rs), some (.int n), some (tP p), some (tab tP tS kvs), some (tS p.1), some (.int p.2), none, none, none]
  have e2 : bOr (fB (f2 gNotIn (fV 4) (fCall (gN 1 r_lsets) (aCons (f2 gIxX (fV 0) (fC (.int 0))) aNil)))) (fB (f2 gNeX (fCall gLenX (aCons (fV 4) aNil)) (fV 1))) δ = some (!((p.1.length : Int) == n)) := by
    refine (e_or (s_fB ((s_f2 (x := tS p.1) rfl (e_lsets c rfl)).trans (gNotIn_sets _ _))) (s_fB ((s_f2 (e_len (s := p.1) rfl) rfl).trans (gNe_int _ _)))).trans ?_
    rw [U_con h4 vp]
    rfl
  have e3 : fB (f2 gNotIn (fV 5) (fCall (gN 2 r_lclosure) (aCons (fV 0) (aCons (fV 4) aNil)))) δ = some (!(cl rs p.1).contains p.2) := s_fB ((s_f2 (x := .int p.2) rfl (e_lcl c rfl rfl vp)).trans (gNotIn_set _ _))
  have e4 : fB (fCall gAny (aCons (fLc [8] (iSeq (fV 4)) (t1 8) bYes (f2 gInX (fV 5) (fCall (gN 2 r_lclosure) (aCons (fV 0) (aCons (fCall (gN 2 r_lless) (aCons (fV 4) (aCons (fV 8) aNil))) aNil))))) aNil)) δ = some (p.1.any fun k => (cl rs (wo p.1 k)).contains p.2) := by
    refine s_fB ((s_fCall (s_aCons (s_fLc (ds := p.1.map D.int) rfl (lc_all D.int (fun k => [some (tPl m rs), some (.int n), some (tP p), some (tab tP tS kvs), some (tS p.1), some (.int p.2), none, none, some (.int k)]) (fun k => .bl ((cl rs (wo p.1 k)).contains p.2)) p.1 (fun k _ => rfl) (fun k hk => ?_))) s_aNil)).trans (gAny_map _ _))
    exact (s_f2 (x := .int p.2) rfl (e_lcl c rfl ((s_fCall (s_aCons (x := tS p.1) rfl (s_aCons (x := .int k) rfl s_aNil))).trans ((s_gN rfl).trans (of_decS (all2 k_lless (vp.a4 h4) (vp.m4 h4 hk))))) (wo_vs vp k))).trans (gIn_set _ _)
  have e5 : fB (f2 gNeX (fCall gSorted (aCons (fCall gListX (aCons (fV 3) aNil)) aNil)) (fCall gSorted (aCons (fCall (gN 1 r_lpairs) (aCons (fV 0) aNil)) aNil))) δ = some (!(byP (kvs.map (·.1)) == byP (prs m rs))) := by
    have k1 : fCall gListX (aCons (fV 3) aNil) δ = some (tPs (kvs.map (·.1))) := by
      refine (s_fCall (s_aCons (x := tab tP tS kvs) rfl s_aNil)).trans ?_
      show some (D.lst ((kvsD tP tS kvs).map (·.1))) = _
      unfold kvsD tPs
      rw [List.map_map, List.map_map]
      rfl
    have k2 : ∀ a ∈ kvs.map (·.1), a ∈ P4 := fun a ha => by
      obtain ⟨q, hq, rfl⟩ := List.mem_map.mp ha
      exact hp q hq
    exact s_fB ((s_f2 ((s_fCall (s_aCons k1 s_aNil)).trans (gSorted_pairs t.nd k2)) ((s_fCall (s_aCons ((s_fCall (s_aCons (x := tPl m rs) rfl s_aNil)).trans ((s_gN rfl).trans (g_lpairs c))) s_aNil)).trans (gSorted_pairs (prs_nodup c) fun a ha => prs_P4 c ha))).trans (gNe_tPs _ _))
  refine s_body ((s_sSeqN (δ' := δ) rfl).trans (seq_chk e2 fun _ => seq_chk e3 fun _ => seq_chk e4 fun _ => seq_chk e5 fun _ => ?_))
  refine seq_for (itD tP tS) (rowOk rs n) (fun δ => ∃ a b, δ = [some (tPl m rs), some (.int n), some (tP p), some (tab tP tS kvs), some (tS p.1), some (.int p.2), a, b, none]) (e_items rfl) ⟨none, none, rfl⟩ fun q hq δ1 ⟨a, b, e⟩ => ?_
  subst e
  have vq := t.val q hq
  have vk := (t.key q hq).1
  refine ⟨_, rfl, ?_⟩
  have c1 : bOr (fB (f2 gNotIn (fV 7) (fCall (gN 1 r_lparts) (aCons (f2 gIxX (fV 6) (fC (.int 0))) aNil)))) (fB (f2 gGt (fCall gLenX (aCons (fV 7) aNil)) (fV 1))) [some (tPl m rs), some (.int n), some (tP p), some (tab tP tS kvs), some (tS p.1), some (.int p.2), some (tP q.1), some (tS q.2), none] = some (!(subI q.2 q.1.1 && decide ((q.2.length : Int) ≤ n))) := by
    refine (e_or (s_fB ((s_f2 (x := tS q.2) rfl ((s_fCall (s_aCons (x := tS q.1.1) rfl s_aNil)).trans ((s_gN rfl).trans (g_lparts (vk.a4 h4))))).trans (gNotIn_sets _ _))) (s_fB ((s_f2 (e_len (s := q.2) rfl) rfl).trans rfl))).trans ?_
    congr 1
    have : (parts q.1.1).contains q.2 = subI q.2 q.1.1 := by
      rw [Bool.eq_iff_iff, subI_iff]
      simp only [List.contains_eq_mem, decide_eq_true_eq]
      rw [mem_parts (vk.a4 h4)]
      exact ⟨fun h => h.2, fun h => ⟨vq.up h4, h⟩⟩
    rw [this, Bool.not_and, Bool.eq_iff_iff]
    simp
  have c2 : fB (f2 gNotIn (f2 gIxX (fV 6) (fC (.int 1))) (fCall (gN 2 r_lclosure) (aCons (fV 0) (aCons (fV 7) aNil)))) [some (tPl m rs), some (.int n), some (tP p), some (tab tP tS kvs), some (tS p.1), some (.int p.2), some (tP q.1), some (tS q.2), none] = some (!(cl rs q.2).contains q.1.2) :=
    s_fB ((s_f2 (x := .int q.1.2) rfl (e_lcl c rfl rfl vq)).trans (gNotIn_set _ _))
  have e : rowOk rs n q = (!(!(subI q.2 q.1.1 && decide ((q.2.length : Int) ≤ n))) && !(!(cl rs q.2).contains q.1.2)) := by unfold rowOk; simp
  rw [e]
  rcases two_chk c1 c2 with ⟨h1, h2⟩ | ⟨h1, h2⟩
  · exact ⟨fun _ => ⟨_, h2, _, _, rfl⟩, fun z => by rw [h1] at z; cases z⟩
  · exact ⟨fun z => (by rw [h1] at z; cases z), fun _ => h2⟩
end
end Dx
/-! Few.shows says what _law_is_few says. -/
namespace Dx
open PySem PySem.Spec PyProof.Rows L2
theorem nodup_lenG {α : Type} [DecidableEq α] : ∀ (l t : List α), l.Nodup → (∀ x ∈ l, x ∈ t) → l.length ≤ t.length
  | [], _, _, _ => Nat.zero_le _
  | x :: l, t, h, s => by
    rw [List.nodup_cons] at h
    have hx := s x (List.mem_cons_self ..)
    have ih := nodup_lenG l (t.erase x) h.2 fun y hy => (List.mem_erase_of_ne (fun e => h.1 (by rw [← e]; exact hy))).mpr (s y (List.mem_cons_of_mem _ hy))
    rw [List.length_erase_of_mem hx] at ih
    have : 0 < t.length := List.length_pos_of_mem hx
    rw [List.length_cons]
    omega
/-- the same members: as many, and each there -/
theorem same_iff {α : Type} [DecidableEq α] {xs ys : List α} (nx : xs.Nodup) (ny : ys.Nodup) : (∀ s, s ∈ xs ↔ s ∈ ys) ↔ ys.length = xs.length ∧ ∀ y ∈ ys, y ∈ xs := by
  constructor
  · intro h
    exact ⟨((List.perm_ext_iff_of_nodup ny nx).mpr fun a => (h a).symm).length_eq, fun y hy => (h y).mpr hy⟩
  · rintro ⟨h1, h2⟩ s
    refine ⟨fun hs => ?_, h2 s⟩
    apply Classical.byContradiction
    intro z
    have := nodup_lenG (s :: ys) xs (List.nodup_cons.mpr ⟨z, ny⟩) fun x hx => by
      rcases List.mem_cons.mp hx with rfl | hx
      · exact hs
      · exact h2 x hx
    rw [List.length_cons] at this
    omega
section
variable {m : Int} {rs : List Rl}
theorem e_inTab {α β : Type} [DecidableEq α] {ek : α → D} {ev : β → D} {ok : α → Prop} {key : α → NestedKey} (E : KE ek ok key) {kvs : List (α × β)} {xs : List α} (hk : ∀ p ∈ kvs, ok p.1) (hx : ∀ a ∈ xs, ok a) :
    gAll [.lst (xs.map fun a => .bl (decide (a ∈ kvs.map (·.1))))] = some (.bl (xs.all fun a => decide (a ∈ kvs.map (·.1)))) := gAll_map _ xs
theorem g_sfew (c : Ct m rs) {n : Int} {p : Sx × Int} {kvs : List ((Sx × Int) × Sx)} (vp : Vs m p.1) (t : FT m kvs) : r_sfew [tFew n p kvs, tB m rs] = some (.bl (fewOk m rs n p kvs)) := by
  have h4 := c.m4
  have hp := t.p4 h4
  have is_set : ∀ s, Vs m s → r_is_set [.int m, tS s] = some (.bl true) := fun s v => by
    rw [of_decB (all2 k_is_set c.n4 (v.a4 h4)), U_con h4 v]
  have fN : ∀ {f : En → Option D} {δ : En}, f δ = some (tFew n p kvs) → fFld 1 "number" f δ = some (.int n) := fun e => (s_fFld e).trans rfl
  have fT : ∀ {f : En → Option D} {δ : En}, f δ = some (tFew n p kvs) → fFld 1 "table" f δ = some (tab tP tS kvs) := fun e => (s_fFld e).trans rfl
  let δ : En := [some (tFew n p kvs), some (tB m rs), none, some (tS p.1), some (.int p.2), none, none, none]
  have e2 : bOr (bNot (fB (fCall (gN 2 r_is_set) (aCons (fFld 0 "marks" (fV 1)) (aCons (fV 3) aNil))))) (bOr (fB (f2 gNeX (fCall gLenX (aCons (fV 3) aNil)) (fFld 1 "number" (fV 0)))) (fB (f2 gNotIn (fV 4) (fCall (gN 2 g_closure) (aCons (fFld 0 "rules" (fV 1)) (aCons (fV 3) aNil)))))) δ = some (!((p.1.length : Int) == n) || !(cl rs p.1).contains p.2) := by
    refine (e_or (e_not (s_fB ((s_fCall (s_aCons (fld_m (m := m) (rs := rs) rfl) (s_aCons (x := tS p.1) rfl s_aNil))).trans ((s_gN rfl).trans (is_set p.1 vp))))) (e_or (s_fB ((s_f2 (e_len (s := p.1) rfl) (fN rfl)).trans (gNe_int _ _))) (s_fB ((s_f2 (x := .int p.2) rfl (e_cl c rfl rfl vp)).trans (gNotIn_set _ _))))).trans rfl
  have e4 : fB (fCall gAny (aCons (fLc [7] (iSeq (fV 3)) (t1 7) bYes (f2 gInX (fV 4) (fCall (gN 2 g_closure) (aCons (fFld 0 "rules" (fV 1)) (aCons (fCall (gN 2 r_without) (aCons (fV 3) (aCons (fV 7) aNil))) aNil))))) aNil)) δ = some (p.1.any fun k => (cl rs (wo p.1 k)).contains p.2) := by
    refine s_fB ((s_fCall (s_aCons (s_fLc (ds := p.1.map D.int) rfl (lc_all D.int (fun k => [some (tFew n p kvs), some (tB m rs), none, some (tS p.1), some (.int p.2), none, none, some (.int k)]) (fun k => .bl ((cl rs (wo p.1 k)).contains p.2)) p.1 (fun k _ => rfl) (fun k hk => ?_))) s_aNil)).trans (gAny_map _ _))
    exact (s_f2 (x := .int p.2) rfl (e_cl c rfl ((s_fCall (s_aCons (x := tS p.1) rfl (s_aCons (x := .int k) rfl s_aNil))).trans ((s_gN rfl).trans (of_decS (all2 k_without (vp.a4 h4) (vp.m4 h4 hk))))) (wo_vs vp k))).trans (gIn_set _ _)
  let δ2 : En := [some (tFew n p kvs), some (tB m rs), some (tPs (prs m rs)), some (tS p.1), some (.int p.2), none, none, none]
  have e5 : sAsg (fCall (gN 1 r_pairs) (aCons (fV 1) aNil)) (t1 2) δ = some (.nx δ2) := s_sAsg ((s_fCall (s_aCons (x := tB m rs) rfl s_aNil)).trans ((s_gN rfl).trans (g_pairs c))) rfl
  have e6 : bOr (fB (f2 gNeX (fCall gLenX (aCons (fV 2) aNil)) (fCall gLenX (aCons (fFld 1 "table" (fV 0)) aNil)))) (bNot (fB (fCall gAll (aCons (fLc [5] (iSeq (fV 2)) (t1 5) bYes (f2 gInX (fV 5) (fFld 1 "table" (fV 0)))) aNil)))) δ2 = some (!((prs m rs).length : Int) == (kvs.length : Int) || !(prs m rs).all fun a => decide (a ∈ kvs.map (·.1))) := by
    refine e_or (s_fB ((s_f2 ((s_fCall (s_aCons (x := tPs (prs m rs)) rfl s_aNil)).trans (gLen_tPs _)) ((s_fCall (s_aCons (fT rfl) s_aNil)).trans (show gLenX [tab tP tS kvs] = some (.int kvs.length) from ?_))).trans (gNe_int _ _))) (e_not (s_fB ((s_fCall (s_aCons (s_fLc (ds := (prs m rs).map tP) rfl (lc_all tP (fun a => [some (tFew n p kvs), some (tB m rs), some (tPs (prs m rs)), some (tS p.1), some (.int p.2), some (tP a), none, none]) (fun a => .bl (decide (a ∈ kvs.map (·.1)))) (prs m rs) (fun a _ => rfl) (fun a ha => ?_))) s_aNil)).trans (gAll_map _ _))))
    · show some (D.int ((kvsD tP tS kvs).length : Nat)) = _
      unfold kvsD
      rw [List.length_map]
    · exact (s_f2 (x := tP a) rfl (fT rfl)).trans ((gIn_tab keP hp (prs_P4 c ha)).trans (congrArg (fun b => some (D.bl b)) (decide_eq_decide.mpr Iff.rfl)))
  have key : (!((prs m rs).length : Int) == (kvs.length : Int) || !(prs m rs).all fun a => decide (a ∈ kvs.map (·.1))) = !(byP (kvs.map (·.1)) == byP (prs m rs)) := by
    rw [← Bool.not_and]
    congr 1
    rw [Bool.eq_iff_iff, Bool.and_eq_true, beq_iff_eq, beq_iff_eq, List.all_eq_true]
    have k2 : ∀ a ∈ kvs.map (·.1), a ∈ P4 := fun a ha => by
      obtain ⟨q, hq, rfl⟩ := List.mem_map.mp ha
      exact hp q hq
    rw [byP_eq k2 fun a ha => prs_P4 c ha, same_iff t.nd (prs_nodup c), List.length_map]
    simp only [decide_eq_true_eq]
    constructor
    · rintro ⟨a, b⟩; exact ⟨by omega, b⟩
    · rintro ⟨a, b⟩; exact ⟨by omega, b⟩
  rw [key] at e6
  refine s_body ((s_sSeqN (s_sDrop (d := .non) rfl)).trans ((s_sSeqN (δ' := δ) rfl).trans ?_))
  have fin := seq_chk e2 (r := !(p.1.any fun k => (cl rs (wo p.1 k)).contains p.2) && (!(!(byP (kvs.map (·.1)) == byP (prs m rs))) && kvs.all (rowOk rs n))) (G := _) fun _ => seq_chk e4 fun _ => (s_sSeqN e5).trans (seq_chk e6 fun _ => seq_for (itD tP tS) (rowOk rs n) (fun δ => ∃ a b, δ = [some (tFew n p kvs), some (tB m rs), some (tPs (prs m rs)), some (tS p.1), some (.int p.2), a, b, none]) (F := sSeq (sIf (bOr (bNot (fB (fCall (gN 2 r_is_within) (aCons (fV 6) (aCons (f2 gIxX (fV 5) (fC (.int 0))) aNil))))) (bOr (fB (f2 gGt (fCall gLenX (aCons (fV 6) aNil)) (fFld 1 "number" (fV 0)))) (bNot (fB (fCall (gN 2 r_is_set) (aCons (fFld 0 "marks" (fV 1)) (aCons (fV 6) aNil))))))) (sRet (fC (.bl false))) sNil) (sIf (fB (f2 gNotIn (f2 gIxX (fV 5) (fC (.int 1))) (fCall (gN 2 g_closure) (aCons (fFld 0 "rules" (fV 1)) (aCons (fV 6) aNil))))) (sRet (fC (.bl false))) sNil)) (tf := t2 5 6) (fi := iItemsX (fFld 1 "table" (fV 0))) (e_items (fT rfl)) ⟨none, none, rfl⟩ fun q hq δ1 ⟨a, b, e⟩ => ?_)
  · refine fin.trans ?_
    congr 3
    unfold fewOk
    cases ((p.1.length : Int) == n) <;> cases (cl rs p.1).contains p.2 <;> rfl
  · subst e
    have vq := t.val q hq
    have vk := (t.key q hq).1
    refine ⟨_, rfl, ?_⟩
    have c1 : bOr (bNot (fB (fCall (gN 2 r_is_within) (aCons (fV 6) (aCons (f2 gIxX (fV 5) (fC (.int 0))) aNil))))) (bOr (fB (f2 gGt (fCall gLenX (aCons (fV 6) aNil)) (fFld 1 "number" (fV 0)))) (bNot (fB (fCall (gN 2 r_is_set) (aCons (fFld 0 "marks" (fV 1)) (aCons (fV 6) aNil)))))) [some (tFew n p kvs), some (tB m rs), some (tPs (prs m rs)), some (tS p.1), some (.int p.2), some (tP q.1), some (tS q.2), none] = some (!(subI q.2 q.1.1 && decide ((q.2.length : Int) ≤ n))) := by
      refine (e_or (e_not (s_fB ((s_fCall (s_aCons (x := tS q.2) rfl (s_aCons (x := tS q.1.1) rfl s_aNil))).trans ((s_gN rfl).trans (of_decB (all2 k_within (vq.a4 h4) (vk.a4 h4))))))) (e_or (s_fB ((s_f2 (e_len (s := q.2) rfl) (fN rfl)).trans rfl)) (e_not (s_fB ((s_fCall (s_aCons (fld_m (m := m) (rs := rs) rfl) (s_aCons (x := tS q.2) rfl s_aNil))).trans ((s_gN rfl).trans (is_set q.2 vq))))))).trans ?_
      congr 1
      rw [Bool.not_and, Bool.eq_iff_iff]
      simp
    have c2 : fB (f2 gNotIn (f2 gIxX (fV 5) (fC (.int 1))) (fCall (gN 2 g_closure) (aCons (fFld 0 "rules" (fV 1)) (aCons (fV 6) aNil)))) [some (tFew n p kvs), some (tB m rs), some (tPs (prs m rs)), some (tS p.1), some (.int p.2), some (tP q.1), some (tS q.2), none] = some (!(cl rs q.2).contains q.1.2) :=
      s_fB ((s_f2 (x := .int q.1.2) rfl (e_cl c rfl rfl vq)).trans (gNotIn_set _ _))
    have e : rowOk rs n q = (!(!(subI q.2 q.1.1 && decide ((q.2.length : Int) ≤ n))) && !(!(cl rs q.2).contains q.1.2)) := by unfold rowOk; simp
    rw [e]
    rcases two_chk c1 c2 with ⟨h1, h2⟩ | ⟨h1, h2⟩
    · exact ⟨fun _ => ⟨_, h2, _, _, rfl⟩, fun z => (by rw [h1] at z; cases z)⟩
    · exact ⟨fun z => (by rw [h1] at z; cases z), fun _ => h2⟩
end
end Dx
/-! _law_is_meeting and Meeting.shows. -/
namespace Dx
open PySem PySem.Spec PyProof.Rows L2
abbrev r_lmeeting : List D → Option D := bodyG 6 (F__law_is_meeting r_lsets r_shared)
abbrev r_smeeting : List D → Option D := bodyG 5 (F_Meeting_shows r_check_book r_is_set r_cw r_sets_of)
/-- what stands of a table whose keys are sets of one length -/
structure KT {β : Type} (m : Int) (kvs : List (Sx × β)) : Prop where
  key : ∀ q ∈ kvs, Vs m q.1
  one : ∃ k, ∀ q ∈ kvs, q.1.length = k
  nd : (kvs.map (·.1)).Nodup
section
variable {m : Int} {rs : List Rl} {β : Type} {ev : β → D}
theorem KT.a4 {kvs : List (Sx × β)} (t : KT m kvs) (h4 : m ≤ 4) : ∀ q ∈ kvs, q.1 ∈ A4 := fun q hq => (t.key q hq).a4 h4
theorem KT.k4 {kvs : List (Sx × β)} (t : KT m kvs) (h4 : m ≤ 4) : ∀ a ∈ kvs.map (·.1), a ∈ A4 := fun a ha => by
  obtain ⟨q, hq, rfl⟩ := List.mem_map.mp ha
  exact t.a4 h4 q hq
theorem e_sortedT {kvs : List (Sx × β)} (t : KT m kvs) (h4 : m ≤ 4) {f : En → Option D} {δ : En} (e : f δ = some (tab tS ev kvs)) : fCall gSorted (aCons (fCall gListX (aCons f aNil)) aNil) δ = some (tL (byB (kvs.map (·.1)))) := by
  have k1 : fCall gListX (aCons f aNil) δ = some (tL (kvs.map (·.1))) := by
    refine (s_fCall (s_aCons e s_aNil)).trans ?_
    show some (D.lst ((kvsD tS ev kvs).map (·.1))) = _
    unfold kvsD tL
    rw [List.map_map, List.map_map]
    rfl
  obtain ⟨k, hk⟩ := t.one
  exact (s_fCall (s_aCons k1 s_aNil)).trans (gSorted_sets (k := k) t.nd (t.k4 h4) fun a ha => by
    obtain ⟨q, hq, rfl⟩ := List.mem_map.mp ha
    exact hk q hq)
theorem gSorted_due (h4 : m ≤ 4) (k : Int) : gSorted [tL (due m k)] = some (tL (byB (due m k))) := gSorted_sets (k := k.toNat) due_nodup (fun s hs => due_A4 h4 hs) fun s hs => by
  have := ((due_mem h4).mp hs).2
  omega
def keysOk (m : Int) (ks : List Sx) (k : Int) : Bool := byB ks == byB (due m k)
theorem e_dueT (h4 : m ≤ 4) {kvs : List (Sx × β)} (t : KT m kvs) {k : Int} : (!((due m k).length : Int) == (kvs.length : Int) || !(due m k).all fun a => decide (a ∈ kvs.map (·.1))) = !keysOk m (kvs.map (·.1)) k := by
  rw [← Bool.not_and]
  congr 1
  unfold keysOk
  rw [Bool.eq_iff_iff, Bool.and_eq_true, beq_iff_eq, beq_iff_eq, List.all_eq_true]
  rw [byB_eq (t.k4 h4) fun a ha => due_A4 h4 ha, same_iff t.nd due_nodup, List.length_map]
  simp only [decide_eq_true_eq]
  constructor
  · rintro ⟨a, b⟩; exact ⟨by omega, b⟩
  · rintro ⟨a, b⟩; exact ⟨by omega, b⟩
theorem gLen_tab {α : Type} {ek : α → D} {kvs : List (α × β)} : gLenX [tab ek ev kvs] = some (.int kvs.length) := by
  show some (D.int ((kvsD ek ev kvs).length : Nat)) = _
  unfold kvsD
  rw [List.length_map]
def meetOk (m : Int) (rs : List Rl) (n : Int) (s : Sx) (kvs : List (Sx × Int)) : Bool :=
  !(!((s.length : Int) == n)) && (!(!(s == []) && !(cw m rs s == [])) && (!(!keysOk m (kvs.map (·.1)) (n + 1)) && kvs.all fun q => (cw m rs q.1).contains q.2))
theorem e_sh (c : Ct m rs) {s : Sx} (v : Vs m s) {f g : En → Option D} {δ : En} (e : f δ = some (tPl m rs)) (e2 : g δ = some (tS s)) : fCall (gN 2 r_shared) (aCons f (aCons g aNil)) δ = some (tS (cw m rs s)) :=
  (s_fCall (s_aCons e (s_aCons e2 s_aNil))).trans ((s_gN rfl).trans (g_shared c v))
theorem g_lmeeting (c : Ct m rs) {n : Int} {s : Sx} {kvs : List (Sx × Int)} (v : Vs m s) (t : KT m kvs) : r_lmeeting [tPl m rs, .int n, tS s, tab tS D.int kvs] = some (.bl (meetOk m rs n s kvs)) := by
  have h4 := c.m4
  let δ : En := [some (tPl m rs), some (.int n), some (tS s), some (tab tS D.int kvs), none, none]
  have e1 : bOr (fB (f2 gNotIn (fV 2) (fCall (gN 1 r_lsets) (aCons (f2 gIxX (fV 0) (fC (.int 0))) aNil)))) (fB (f2 gNeX (fCall gLenX (aCons (fV 2) aNil)) (fV 1))) δ = some (!((s.length : Int) == n)) := by
    refine (e_or (s_fB ((s_f2 (x := tS s) rfl (e_lsets c rfl)).trans (gNotIn_sets _ _))) (s_fB ((s_f2 (e_len (s := s) rfl) rfl).trans (gNe_int _ _)))).trans ?_
    rw [U_con h4 v]
    rfl
  have e2 : bAnd (fB (f2 gNeX (fV 2) (fTup aNil))) (fB (f2 gNeX (fCall (gN 2 r_shared) (aCons (fV 0) (aCons (fV 2) aNil))) (fTup aNil))) δ = some (!(s == []) && !(cw m rs s == [])) :=
    e_and (s_fB ((s_f2 (x := tS s) (y := tS []) rfl rfl).trans (gNe_set _ _))) (s_fB ((s_f2 (y := tS []) (e_sh c v rfl rfl) rfl).trans (gNe_set _ _)))
  have e3 : fB (f2 gNeX (fCall gSorted (aCons (fCall gListX (aCons (fV 3) aNil)) aNil)) (fCall gSorted (aCons (fLc [4] (iSeq (fCall (gN 1 r_lsets) (aCons (f2 gIxX (fV 0) (fC (.int 0))) aNil))) (t1 4) (fB (f2 gEq (fCall gLenX (aCons (fV 4) aNil)) (f2 gAdd (fV 1) (fC (.int 1))))) (fV 4)) aNil))) δ = some (!keysOk m (kvs.map (·.1)) (n + 1)) := by
    refine s_fB ((s_f2 (e_sortedT t h4 rfl) ((s_fCall (s_aCons (x := tL (due m (n + 1))) ?_ s_aNil)).trans (gSorted_due h4 _))).trans (gNe_tL _ _))
    refine s_fLc (ds := (U m).map tS) ((s_iSeq (e_lsets c rfl)).trans rfl) (lc_map tS (fun t => [some (tPl m rs), some (.int n), some (tS s), some (tab tS D.int kvs), some (tS t), none]) (fun t => (t.length : Int) == n + 1) tS (U m) (fun t _ => rfl) (fun t _ => ?_) (fun t _ _ => rfl))
    exact s_fB ((s_f2 (e_len (s := t) rfl) ((s_f2 (x := .int n) (y := .int 1) rfl rfl).trans rfl)).trans (gEq_int _ _))
  refine s_body (seq_chk e1 fun _ => seq_chk e2 fun _ => seq_chk e3 fun _ => s_sRet ?_)
  refine (s_fCall (s_aCons (s_fLc (e_items rfl) (lc_all (itD tS D.int) (fun q => [some (tPl m rs), some (.int n), some (tS s), some (tab tS D.int kvs), some (tS q.1), some (.int q.2)]) (fun q => .bl ((cw m rs q.1).contains q.2)) kvs (fun q _ => rfl) (fun q hq => ?_))) s_aNil)).trans (gAll_map _ _)
  exact (s_f2 (x := .int q.2) rfl (e_sh c (t.key q hq) rfl rfl)).trans (gIn_set _ _)
theorem g_smeeting (c : Ct m rs) {n : Int} {s : Sx} {kvs : List (Sx × Int)} (v : Vs m s) (t : KT m kvs) : r_smeeting [tMeet n s kvs, tB m rs] = some (.bl (meetOk m rs n s kvs)) := by
  have h4 := c.m4
  have is_set : ∀ s, Vs m s → r_is_set [.int m, tS s] = some (.bl true) := fun s v => by
    rw [of_decB (all2 k_is_set c.n4 (v.a4 h4)), U_con h4 v]
  have fN : ∀ {f : En → Option D} {δ : En}, f δ = some (tMeet n s kvs) → fFld 2 "number" f δ = some (.int n) := fun e => (s_fFld e).trans rfl
  have fS : ∀ {f : En → Option D} {δ : En}, f δ = some (tMeet n s kvs) → fFld 2 "thing" f δ = some (tS s) := fun e => (s_fFld e).trans rfl
  have fT : ∀ {f : En → Option D} {δ : En}, f δ = some (tMeet n s kvs) → fFld 2 "table" f δ = some (tab tS D.int kvs) := fun e => (s_fFld e).trans rfl
  let δ : En := [some (tMeet n s kvs), some (tB m rs), none, none, none]
  let δ2 : En := [some (tMeet n s kvs), some (tB m rs), some (tL (due m (n + 1))), none, none]
  have e1 : bOr (bNot (fB (fCall (gN 2 r_is_set) (aCons (fFld 0 "marks" (fV 1)) (aCons (fFld 2 "thing" (fV 0)) aNil))))) (fB (f2 gNeX (fCall gLenX (aCons (fFld 2 "thing" (fV 0)) aNil)) (fFld 2 "number" (fV 0)))) δ = some (!((s.length : Int) == n)) :=
    (e_or (e_not (s_fB ((s_fCall (s_aCons (fld_m (m := m) (rs := rs) rfl) (s_aCons (fS rfl) s_aNil))).trans ((s_gN rfl).trans (is_set s v))))) (s_fB ((s_f2 (e_len (fS rfl)) (fN rfl)).trans (gNe_int _ _)))).trans rfl
  have e2 : bAnd (fB (f2 gGt (fFld 2 "number" (fV 0)) (fC (.int 0)))) (fB (f2 gNeX (fCall (gN 2 r_cw) (aCons (fV 1) (aCons (fFld 2 "thing" (fV 0)) aNil))) (fTup aNil))) δ = some (decide (0 < n) && !(cw m rs s == [])) :=
    e_and (s_fB ((s_f2 (fN rfl) rfl).trans rfl)) (s_fB ((s_f2 (y := tS []) (e_cw c v rfl (fS rfl)) rfl).trans (gNe_set _ _)))
  have e3 : sAsg (fLc [3] (iSeq (fCall (gN 1 r_sets_of) (aCons (fFld 0 "marks" (fV 1)) aNil))) (t1 3) (fB (f2 gEq (fCall gLenX (aCons (fV 3) aNil)) (f2 gAdd (fFld 2 "number" (fV 0)) (fC (.int 1))))) (fV 3)) (t1 2) δ = some (.nx δ2) := by
    refine s_sAsg (d := tL (due m (n + 1))) (s_fLc (e_sets c rfl) (lc_map tS (fun t => [some (tMeet n s kvs), some (tB m rs), none, some (tS t), none]) (fun t => (t.length : Int) == n + 1) tS (U m) (fun t _ => rfl) (fun t _ => ?_) (fun t _ _ => rfl))) rfl
    exact s_fB ((s_f2 (e_len (s := t) rfl) ((s_f2 (fN rfl) rfl).trans rfl)).trans (gEq_int _ _))
  have e4 : bOr (fB (f2 gNeX (fCall gLenX (aCons (fV 2) aNil)) (fCall gLenX (aCons (fFld 2 "table" (fV 0)) aNil)))) (bNot (fB (fCall gAll (aCons (fLc [3] (iSeq (fV 2)) (t1 3) bYes (f2 gInX (fV 3) (fFld 2 "table" (fV 0)))) aNil)))) δ2 = some (!keysOk m (kvs.map (·.1)) (n + 1)) := by
    rw [← e_dueT h4 t]
    refine e_or (s_fB ((s_f2 ((s_fCall (s_aCons (x := tL (due m (n + 1))) rfl s_aNil)).trans (gLen_tL _)) ((s_fCall (s_aCons (fT rfl) s_aNil)).trans gLen_tab)).trans (gNe_int _ _))) (e_not (s_fB ((s_fCall (s_aCons (s_fLc (ds := (due m (n + 1)).map tS) rfl (lc_all tS (fun a => [some (tMeet n s kvs), some (tB m rs), some (tL (due m (n + 1))), some (tS a), none]) (fun a => .bl (decide (a ∈ kvs.map (·.1)))) (due m (n + 1)) (fun a _ => rfl) (fun a ha => ?_))) s_aNil)).trans (gAll_map _ _))))
    exact (s_f2 (x := tS a) rfl (fT rfl)).trans ((gIn_tab keS (t.a4 h4) (due_A4 h4 ha)).trans (congrArg (fun b => some (D.bl b)) (decide_eq_decide.mpr Iff.rfl)))
  refine s_body ((s_sSeqN (s_sDrop (d := .non) rfl)).trans ?_)
  refine seq_chk e1 fun hn => ?_
  have e2' : (decide (0 < n) && !(cw m rs s == [])) = (!(s == []) && !(cw m rs s == [])) := by
    congr 1
    have hn : (s.length : Int) = n := by simpa using hn
    rw [Bool.eq_iff_iff, decide_eq_true_eq]
    cases s with
    | nil => simp at hn; simp; omega
    | cons x s => simp at hn ⊢; omega
  rw [e2'] at e2
  refine seq_chk e2 fun _ => (s_sSeqN e3).trans (seq_chk e4 fun _ => s_sRet ?_)
  refine (s_fCall (s_aCons (s_fLc (e_items (fT rfl)) (lc_all (itD tS D.int) (fun q => [some (tMeet n s kvs), some (tB m rs), some (tL (due m (n + 1))), some (tS q.1), some (.int q.2)]) (fun q => .bl ((cw m rs q.1).contains q.2)) kvs (fun q _ => rfl) (fun q hq => ?_))) s_aNil)).trans (gAll_map _ _)
  exact (s_f2 (x := .int q.2) rfl (e_cw c (t.key q hq) rfl rfl)).trans (gIn_set _ _)
end
end Dx
/-! _law_is_halves and Halves.shows. -/
namespace Dx
open PySem PySem.Spec PyProof.Rows L2
abbrev r_lhalves : List D → Option D := bodyG 6 (F__law_is_halves r_lsets r_canH r_lparts r_lcommon)
abbrev r_does : List D → Option D := bodyG 5 (F_Halves_does_halve r_is_set r_is_within r_ch)
abbrev r_shalves : List D → Option D := bodyG 4 (F_Halves_shows r_check_book r_is_set r_apart r_sets_of r_does)
section
variable {m : Int} {rs : List Rl}
def rowH (rs : List Rl) (q : Sx × (Sx × Int)) : Bool := subI q.2.1 q.1 && (ch rs q.1 q.2.1).contains q.2.2
/-- the thing said to be apart -/
def thOk (rs : List Rl) (n : Int) : Option Sx → Bool
  | none => n == 0
  | some s => !(n == 0) && ((s.length : Int) == n - 1 && apart rs s)
def halfOk (m : Int) (rs : List Rl) (n : Int) (o : Option Sx) (kvs : List (Sx × (Sx × Int))) : Bool := thOk rs n o && (!(!keysOk m (kvs.map (·.1)) n) && kvs.all (rowH rs))
theorem seq_two {t u : En → Option Bool} {G : En → Option Out} {δ : En} {a b r : Bool} (h1 : t δ = some a) (h2 : a = false → u δ = some b) (hr : a = false → b = false → G δ = some (.rt (.bl r))) :
    sSeq (sIf t (sRet (fC (.bl false))) sNil) (sSeq (sIf u (sRet (fC (.bl false))) sNil) G) δ = some (.rt (.bl ((!a && !b) && r))) := by
  rw [Bool.and_assoc]
  exact seq_chk h1 fun e => seq_chk (h2 e) fun e2 => hr e e2
theorem e_notN {f : En → Option D} {δ : En} {o : Option Sx} (e : f δ = some (tO o)) : fB (f2 gNotN f (fC .non)) δ = some o.isSome := by
  refine s_fB ((s_f2 e rfl).trans ?_)
  cases o <;> rfl
theorem e_andF {δ : En} {ta tb : En → Option Bool} (h1 : ta δ = some false) : bAnd ta tb δ = some false := by rw [s_bAnd, h1]; rfl
theorem e_orT {δ : En} {ta tb : En → Option Bool} (h1 : ta δ = some true) : bOr ta tb δ = some true := by rw [s_bOr, h1]; rfl
theorem parts_con {s h : Sx} (vs : Vs m s) (vh : Vs m h) (h4 : m ≤ 4) : (parts s).contains h = subI h s := by
  rw [Bool.eq_iff_iff, subI_iff]
  simp only [List.contains_eq_mem, decide_eq_true_eq]
  rw [mem_parts (vs.a4 h4)]
  exact ⟨fun h => h.2, fun h => ⟨vh.up h4, h⟩⟩
theorem g_lhalves (c : Ct m rs) {n : Int} {o : Option Sx} {kvs : List (Sx × (Sx × Int))} (n0 : 0 ≤ n) (v : ∀ s, o = some s → Vs m s) (t : KT m kvs) (tv : ∀ q ∈ kvs, Vs m q.2.1) : r_lhalves [tPl m rs, .int n, tO o, tab tS tP kvs] = some (.bl (halfOk m rs n o kvs)) := by
  have h4 := c.m4
  let δ : En := [some (tPl m rs), some (.int n), some (tO o), some (tab tS tP kvs), none, none]
  have e1 : bAnd (fB (f2 gEq (fV 1) (fC (.int 0)))) (fB (f2 gNotN (fV 2) (fC .non))) δ = some ((n == 0) && o.isSome) := e_and (s_fB ((s_f2 (x := .int n) (y := .int 0) rfl rfl).trans (gEq_int _ _))) (e_notN (o := o) rfl)
  have eg : fB (f2 gGt (fV 1) (fC (.int 0))) δ = some (decide (0 < n)) := s_fB ((s_f2 (x := .int n) (y := .int 0) rfl rfl).trans rfl)
  have e2 : ∃ b, bAnd (fB (f2 gGt (fV 1) (fC (.int 0)))) (bOr (fB (f2 gNotIn (fV 2) (fCall (gN 1 r_lsets) (aCons (f2 gIxX (fV 0) (fC (.int 0))) aNil)))) (bOr (fB (f2 gNeX (fCall gLenX (aCons (fV 2) aNil)) (f2 gSub (fV 1) (fC (.int 1))))) (fB (fCall (gN 2 r_canH) (aCons (fV 0) (aCons (fV 2) aNil)))))) δ = some b ∧ (!((n == 0) && o.isSome) && !b) = thOk rs n o := by
    by_cases hn : 0 < n
    · have hn0 : (n == 0) = false := by
        rw [beq_eq_false_iff_ne]
        omega
      cases o with
      | none =>
        refine ⟨true, ?_, ?_⟩
        · rw [s_bAnd, eg, decide_eq_true hn]
          exact e_orT (s_fB ((s_f2 (x := .non) rfl (e_lsets c rfl)).trans (gNotIn_non _)))
        · unfold thOk
          rw [hn0]
          rfl
      | some s =>
        have vs := v s rfl
        refine ⟨!((s.length : Int) == n - 1) || canH rs s, ?_, ?_⟩
        · rw [s_bAnd, eg, decide_eq_true hn]
          refine (e_or (s_fB ((s_f2 (x := tS s) rfl (e_lsets c rfl)).trans (gNotIn_sets _ _))) (e_or (s_fB ((s_f2 (e_len (s := s) rfl) ((s_f2 (x := .int n) (y := .int 1) rfl rfl).trans rfl)).trans (gNe_int _ _))) (s_fB ((s_fCall (s_aCons (x := tPl m rs) rfl (s_aCons (x := tS s) rfl s_aNil))).trans ((s_gN rfl).trans (g_canH c vs)))))).trans ?_
          rw [U_con h4 vs]
          rfl
        · show _ = (!(n == 0) && ((s.length : Int) == n - 1 && apart rs s))
          rw [hn0, canH_apart vs h4]
          cases ((s.length : Int) == n - 1) <;> cases apart rs s <;> rfl
    · refine ⟨false, e_andF (eg.trans (by rw [decide_eq_false hn])), ?_⟩
      have : n = 0 := by omega
      subst this
      cases o <;> rfl
  obtain ⟨b, e2, eth⟩ := e2
  have e3 : fB (f2 gNeX (fCall gSorted (aCons (fCall gListX (aCons (fV 3) aNil)) aNil)) (fCall gSorted (aCons (fLc [4] (iSeq (fCall (gN 1 r_lsets) (aCons (f2 gIxX (fV 0) (fC (.int 0))) aNil))) (t1 4) (fB (f2 gEq (fCall gLenX (aCons (fV 4) aNil)) (fV 1))) (fV 4)) aNil))) δ = some (!keysOk m (kvs.map (·.1)) n) := by
    refine s_fB ((s_f2 (e_sortedT t h4 rfl) ((s_fCall (s_aCons (x := tL (due m n)) ?_ s_aNil)).trans (gSorted_due h4 _))).trans (gNe_tL _ _))
    refine s_fLc (ds := (U m).map tS) ((s_iSeq (e_lsets c rfl)).trans rfl) (lc_map tS (fun t => [some (tPl m rs), some (.int n), some (tO o), some (tab tS tP kvs), some (tS t), none]) (fun t => (t.length : Int) == n) tS (U m) (fun t _ => rfl) (fun t _ => ?_) (fun t _ _ => rfl))
    exact s_fB ((s_f2 (e_len (s := t) rfl) rfl).trans (gEq_int _ _))
  unfold halfOk
  rw [← eth]
  refine s_body (seq_two e1 (fun _ => e2) fun _ _ => seq_chk e3 fun _ => ?_)
  refine seq_for (itD tS tP) (rowH rs) (fun δ => ∃ a b, δ = [some (tPl m rs), some (.int n), some (tO o), some (tab tS tP kvs), a, b]) (e_items rfl) ⟨none, none, rfl⟩ fun q hq δ1 ⟨a, b, e⟩ => ?_
  subst e
  have vk := t.key q hq
  have vq := tv q hq
  refine ⟨_, rfl, ?_⟩
  have c1 : bOr (fB (f2 gNotIn (f2 gIxX (fV 5) (fC (.int 0))) (fCall (gN 1 r_lparts) (aCons (fV 4) aNil)))) (fB (f2 gNotIn (f2 gIxX (fV 5) (fC (.int 1))) (fCall (gN 3 r_lcommon) (aCons (fV 0) (aCons (fV 4) (aCons (f2 gIxX (fV 5) (fC (.int 0))) aNil)))))) [some (tPl m rs), some (.int n), some (tO o), some (tab tS tP kvs), some (tS q.1), some (tP q.2)] = some (!rowH rs q) := by
    refine (e_or (s_fB ((s_f2 (x := tS q.2.1) rfl ((s_fCall (s_aCons (x := tS q.1) rfl s_aNil)).trans ((s_gN rfl).trans (g_lparts (vk.a4 h4))))).trans (gNotIn_sets _ _))) (s_fB ((s_f2 (x := .int q.2.2) rfl ((s_fCall (s_aCons (x := tPl m rs) rfl (s_aCons (x := tS q.1) rfl (s_aCons (x := tS q.2.1) rfl s_aNil)))).trans ((s_gN rfl).trans (g_lcommon c vk vq)))).trans (gNotIn_set _ _)))).trans ?_
    rw [parts_con vk vq h4, ← Bool.not_and]
    rfl
  cases e : rowH rs q with
  | true =>
    rw [e] at c1
    exact ⟨fun _ => ⟨_, (s_sIf c1).trans rfl, _, _, rfl⟩, fun z => (by cases z)⟩
  | false =>
    rw [e] at c1
    exact ⟨fun z => (by cases z), fun _ => (s_sIf c1).trans rfl⟩
end
end Dx
/-! Halves.shows says what _law_is_halves says. -/
namespace Dx
open PySem PySem.Spec PyProof.Rows L2
section
variable {m : Int} {rs : List Rl}
theorem s_fMeth {c n : Nat} {nm : Str} {g : List D → Option D} {fa : En → Option D} {fs : En → Option (List D)} {δ : En} {fl : List (Str × D)} {ds : List D} (h : fa δ = some (.obj c fl)) (hl : fl.lookup nm = none) (h2 : fs δ = some ds) (h3 : ds.length = n) : fMeth c n nm g fa fs δ = g (.obj c fl :: ds) := by
  unfold fMeth
  rw [h]
  show (if c = c ∧ fl.lookup nm = none then (fs δ).bind fun ds => if ds.length = n then g (.obj c fl :: ds) else none else none) = _
  rw [if_pos ⟨rfl, hl⟩, h2]
  show (if ds.length = n then _ else _) = _
  rw [if_pos h3]
theorem set_ok (c : Ct m rs) {s : Sx} (v : Vs m s) : r_is_set [.int m, tS s] = some (.bl true) := by
  rw [of_decB (all2 k_is_set c.n4 (v.a4 c.m4)), U_con c.m4 v]
theorem g_does (c : Ct m rs) {n : Int} {o : Option Sx} {kvs : List (Sx × (Sx × Int))} (t : KT m kvs) (tv : ∀ q ∈ kvs, Vs m q.2.1) {q : Sx × (Sx × Int)} (hq : q ∈ kvs) : r_does [tHalf n o kvs, tB m rs, tS q.1] = some (.bl (rowH rs q)) := by
  have h4 := c.m4
  have vk := t.key q hq
  have vq := tv q hq
  have e0 : sAsg (f2 gIxX (fFld 3 "table" (fV 0)) (fV 2)) (t2 3 4) [some (tHalf n o kvs), some (tB m rs), some (tS q.1), none, none] = some (.nx [some (tHalf n o kvs), some (tB m rs), some (tS q.1), some (tS q.2.1), some (.int q.2.2)]) := by
    refine s_sAsg (d := tP q.2) ((s_f2 (x := tab tS tP kvs) (y := tS q.1) ((s_fFld (c := 3) (fl := [("number", .int n), ("thing", tO o), ("table", tab tS tP kvs)]) rfl).trans rfl) rfl).trans ?_) rfl
    exact gIx_tab keS (t.a4 h4) t.nd (show (q.1, q.2) ∈ kvs from hq)
  have e1 : bOr (bNot (fB (fCall (gN 2 r_is_set) (aCons (fFld 0 "marks" (fV 1)) (aCons (fV 3) aNil))))) (bNot (fB (fCall (gN 2 r_is_within) (aCons (fV 3) (aCons (fV 2) aNil))))) [some (tHalf n o kvs), some (tB m rs), some (tS q.1), some (tS q.2.1), some (.int q.2.2)] = some (!subI q.2.1 q.1) :=
    (e_or (e_not (s_fB ((s_fCall (s_aCons (fld_m (m := m) (rs := rs) rfl) (s_aCons (x := tS q.2.1) rfl s_aNil))).trans ((s_gN rfl).trans (set_ok c vq))))) (e_not (s_fB ((s_fCall (s_aCons (x := tS q.2.1) rfl (s_aCons (x := tS q.1) rfl s_aNil))).trans ((s_gN rfl).trans (of_decB (all2 k_within (vq.a4 h4) (vk.a4 h4)))))))).trans rfl
  have e2 := seq_chk (G := sRet (f2 gInX (fV 4) (fCall (gN 3 r_ch) (aCons (fV 1) (aCons (fV 2) (aCons (fV 3) aNil)))))) e1 fun _ => s_sRet ((s_f2 (x := .int q.2.2) rfl ((s_fCall (s_aCons (x := tB m rs) rfl (s_aCons (x := tS q.1) rfl (s_aCons (x := tS q.2.1) rfl s_aNil)))).trans ((s_gN rfl).trans (g_ch c vk vq)))).trans (gIn_set _ _))
  refine s_body ((s_sSeqN e0).trans (e2.trans ?_))
  rw [Bool.not_not]
  rfl
def valOf (kvs : List (Sx × (Sx × Int))) (a : Sx) : Sx × Int := ((kvs.find? fun p => decide (p.1 = a)).map (·.2)).getD ([], 0)
theorem valOf_in {kvs : List (Sx × (Sx × Int))} {a : Sx} (h : a ∈ kvs.map (·.1)) : (a, valOf kvs a) ∈ kvs := by
  unfold valOf
  cases e : kvs.find? fun p => decide (p.1 = a) with
  | none =>
    obtain ⟨p, hp, rfl⟩ := List.mem_map.mp h
    have := List.find?_eq_none.mp e p hp
    simp at this
  | some p =>
    have h1 := List.find?_some e
    have h2 := List.mem_of_find?_eq_some e
    have h1 : p.1 = a := by simpa using h1
    subst h1
    exact h2
theorem valOf_eq {kvs : List (Sx × (Sx × Int))} (n : (kvs.map (·.1)).Nodup) {q : Sx × (Sx × Int)} (h : q ∈ kvs) : valOf kvs q.1 = q.2 := by
  unfold valOf
  rw [find_key keS n (show (q.1, q.2) ∈ kvs from h)]
  rfl
theorem g_shalves (c : Ct m rs) {n : Int} {o : Option Sx} {kvs : List (Sx × (Sx × Int))} (v : ∀ s, o = some s → Vs m s) (t : KT m kvs) (tv : ∀ q ∈ kvs, Vs m q.2.1) : r_shalves [tHalf n o kvs, tB m rs] = some (.bl (halfOk m rs n o kvs)) := by
  have h4 := c.m4
  have fN : ∀ {f : En → Option D} {δ : En}, f δ = some (tHalf n o kvs) → fFld 3 "number" f δ = some (.int n) := fun e => (s_fFld e).trans rfl
  have fS : ∀ {f : En → Option D} {δ : En}, f δ = some (tHalf n o kvs) → fFld 3 "thing" f δ = some (tO o) := fun e => (s_fFld e).trans rfl
  have fT : ∀ {f : En → Option D} {δ : En}, f δ = some (tHalf n o kvs) → fFld 3 "table" f δ = some (tab tS tP kvs) := fun e => (s_fFld e).trans rfl
  let δ : En := [some (tHalf n o kvs), some (tB m rs), none, none]
  let δ2 : En := [some (tHalf n o kvs), some (tB m rs), some (tL (due m n)), none]
  let F_th : En → Option Out := sIf (fB (f2 gEq (fFld 3 "number" (fV 0)) (fC (.int 0)))) (sIf (fB (f2 gNotN (fFld 3 "thing" (fV 0)) (fC .non))) (sRet (fC (.bl false))) sNil) (sIf (bOr (bNot (fB (fCall (gN 2 r_is_set) (aCons (fFld 0 "marks" (fV 1)) (aCons (fFld 3 "thing" (fV 0)) aNil))))) (bOr (fB (f2 gNeX (fCall gLenX (aCons (fFld 3 "thing" (fV 0)) aNil)) (f2 gSub (fFld 3 "number" (fV 0)) (fC (.int 1))))) (bNot (fB (fCall (gN 2 r_apart) (aCons (fV 1) (aCons (fFld 3 "thing" (fV 0)) aNil))))))) (sRet (fC (.bl false))) sNil)
  have e1 : F_th δ = if thOk rs n o = true then some (.nx δ) else some (.rt (.bl false)) := by
    have eg : fB (f2 gEq (fFld 3 "number" (fV 0)) (fC (.int 0))) δ = some (n == 0) := s_fB ((s_f2 (fN rfl) rfl).trans (gEq_int _ _))
    refine (s_sIf eg).trans ?_
    cases e : (n == 0) with
    | true =>
      rw [if_pos rfl]
      refine (s_sIf (e_notN (fS rfl))).trans ?_
      cases o with
      | none =>
        have : thOk rs n none = true := e
        rw [if_pos this]
        rfl
      | some s =>
        have : ¬ thOk rs n (some s) = true := by
          show ¬ (!(n == 0) && _) = true
          rw [e]
          exact Bool.false_ne_true
        rw [if_neg this]
        rfl
    | false =>
      rw [if_neg (by decide)]
      cases o with
      | none =>
        have : ¬ thOk rs n none = true := by
          show ¬ (n == 0) = true
          rw [e]
          decide
        rw [if_neg this]
        refine (s_sIf (e_orT (e_not (s_fB ((s_fCall (s_aCons (fld_m (m := m) (rs := rs) rfl) (s_aCons (fS rfl) s_aNil))).trans ((s_gN rfl).trans (of_decB (all1 k_is_setN c.n4)))))))).trans rfl
      | some s =>
        have vs := v s rfl
        have e2 : bOr (bNot (fB (fCall (gN 2 r_is_set) (aCons (fFld 0 "marks" (fV 1)) (aCons (fFld 3 "thing" (fV 0)) aNil))))) (bOr (fB (f2 gNeX (fCall gLenX (aCons (fFld 3 "thing" (fV 0)) aNil)) (f2 gSub (fFld 3 "number" (fV 0)) (fC (.int 1))))) (bNot (fB (fCall (gN 2 r_apart) (aCons (fV 1) (aCons (fFld 3 "thing" (fV 0)) aNil)))))) δ = some (!((s.length : Int) == n - 1) || !apart rs s) :=
          (e_or (e_not (s_fB ((s_fCall (s_aCons (fld_m (m := m) (rs := rs) rfl) (s_aCons (fS rfl) s_aNil))).trans ((s_gN rfl).trans (set_ok c vs))))) (e_or (s_fB ((s_f2 (e_len (s := s) (fS rfl)) ((s_f2 (fN rfl) rfl).trans rfl)).trans (gNe_int _ _))) (e_not (s_fB ((s_fCall (s_aCons (x := tB m rs) rfl (s_aCons (fS rfl) s_aNil))).trans ((s_gN rfl).trans (g_apart c vs))))))).trans rfl
        refine (s_sIf e2).trans ?_
        have : thOk rs n (some s) = ((s.length : Int) == n - 1 && apart rs s) := by
          show (!(n == 0) && ((s.length : Int) == n - 1 && apart rs s)) = _
          rw [e]
          rfl
        rw [this]
        cases ((s.length : Int) == n - 1) <;> cases apart rs s <;> rfl
  have e3 : sAsg (fLc [3] (iSeq (fCall (gN 1 r_sets_of) (aCons (fFld 0 "marks" (fV 1)) aNil))) (t1 3) (fB (f2 gEq (fCall gLenX (aCons (fV 3) aNil)) (fFld 3 "number" (fV 0)))) (fV 3)) (t1 2) δ = some (.nx δ2) := by
    refine s_sAsg (d := tL (due m n)) (s_fLc (e_sets c rfl) (lc_map tS (fun t => [some (tHalf n o kvs), some (tB m rs), none, some (tS t)]) (fun t => (t.length : Int) == n) tS (U m) (fun t _ => rfl) (fun t _ => ?_) (fun t _ _ => rfl))) rfl
    exact s_fB ((s_f2 (e_len (s := t) rfl) (fN rfl)).trans (gEq_int _ _))
  have e4 : bOr (fB (f2 gNeX (fCall gLenX (aCons (fV 2) aNil)) (fCall gLenX (aCons (fFld 3 "table" (fV 0)) aNil)))) (bNot (fB (fCall gAll (aCons (fLc [3] (iSeq (fV 2)) (t1 3) bYes (f2 gInX (fV 3) (fFld 3 "table" (fV 0)))) aNil)))) δ2 = some (!keysOk m (kvs.map (·.1)) n) := by
    rw [← e_dueT h4 t]
    refine e_or (s_fB ((s_f2 ((s_fCall (s_aCons (x := tL (due m n)) rfl s_aNil)).trans (gLen_tL _)) ((s_fCall (s_aCons (fT rfl) s_aNil)).trans gLen_tab)).trans (gNe_int _ _))) (e_not (s_fB ((s_fCall (s_aCons (s_fLc (ds := (due m n).map tS) rfl (lc_all tS (fun a => [some (tHalf n o kvs), some (tB m rs), some (tL (due m n)), some (tS a)]) (fun a => .bl (decide (a ∈ kvs.map (·.1)))) (due m n) (fun a _ => rfl) (fun a ha => ?_))) s_aNil)).trans (gAll_map _ _))))
    exact (s_f2 (x := tS a) rfl (fT rfl)).trans ((gIn_tab keS (t.a4 h4) (due_A4 h4 ha)).trans (congrArg (fun b => some (D.bl b)) (decide_eq_decide.mpr Iff.rfl)))
  refine s_body ((s_sSeqN (s_sDrop (d := .non) rfl)).trans ?_)
  show sSeq F_th _ δ = _
  unfold halfOk
  cases eth : thOk rs n o with
  | false =>
    rw [eth, if_neg (by decide)] at e1
    exact s_sSeqR e1
  | true =>
    rw [eth, if_pos rfl] at e1
    refine (s_sSeqN e1).trans ((s_sSeqN e3).trans ?_)
    rw [Bool.true_and]
    refine seq_chk e4 fun hk => s_sRet ?_
    have hk : keysOk m (kvs.map (·.1)) n = true := by simpa using hk
    have same : ∀ s, s ∈ kvs.map (·.1) ↔ s ∈ due m n := (byB_eq (t.k4 h4) fun a ha => due_A4 h4 ha).mp (by unfold keysOk at hk; simpa using hk)
    refine (s_fCall (s_aCons (s_fLc (ds := (due m n).map tS) rfl (lc_all tS (fun a => [some (tHalf n o kvs), some (tB m rs), some (tL (due m n)), some (tS a)]) (fun a => .bl (rowH rs (a, valOf kvs a))) (due m n) (fun a _ => rfl) (fun a ha => ?_))) s_aNil)).trans ((gAll_map (fun a => rowH rs (a, valOf kvs a)) (due m n)).trans ?_)
    · exact (s_fMeth (c := 3) (fl := [("number", .int n), ("thing", tO o), ("table", tab tS tP kvs)]) rfl rfl (s_aCons (x := tB m rs) rfl (s_aCons (x := tS a) rfl s_aNil)) rfl).trans (g_does c t tv (q := (a, valOf kvs a)) (valOf_in ((same a).mpr ha)))
    · congr 2
      rw [Bool.eq_iff_iff, List.all_eq_true, List.all_eq_true]
      constructor
      · intro h q hq
        have := h q.1 ((same q.1).mp (List.mem_map.mpr ⟨q, hq, rfl⟩))
        rw [valOf_eq t.nd hq] at this
        exact this
      · intro h a ha
        exact h _ (valOf_in ((same a).mpr ha))
end
end Dx
/-! The returned papers are right. -/
namespace Dx
open PySem PySem.Spec PyProof.Rows L2
section
variable {m : Int} {rs : List Rl}
theorem ftab_keys : (ftab m rs).map (·.1) = prs m rs := by
  unfold ftab
  rw [List.map_map]
  exact List.map_id _
theorem ftab_ft (c : Ct m rs) : FT m (ftab m rs) := by
  refine ⟨fun q hq => ?_, fun q hq => ?_, by rw [ftab_keys]; exact prs_nodup c⟩
  · obtain ⟨p, hp, rfl⟩ := List.mem_map.mp hq
    obtain ⟨h1, h2⟩ := (mem_prs c).mp hp
    exact ⟨h1, (cl_vs c h1).m4 c.m4 h2⟩
  · obtain ⟨p, hp, rfl⟩ := List.mem_map.mp hq
    obtain ⟨h1, h2⟩ := (mem_prs c).mp hp
    exact (root_vs c h1 h2).1
theorem wo_len {s : Sx} {k : Int} (hk : k ∈ s) : (wo s k).length < s.length := by
  unfold wo
  have h := List.length_filter_lt_length_iff_exists (p := fun y => y != k) (l := s)
  exact h.mpr ⟨k, hk, by simp⟩
theorem root_least (c : Ct m rs) {s : Sx} (v : Vs m s) {x : Int} (hx : x ∈ cl rs s) {t : Sx} (ht : t ∈ parts s) (h : x ∈ cl rs t) : (root rs s x).length ≤ t.length := by
  obtain ⟨u, us, e1, e2⟩ := roots_ne c v hx
  have hs : (roots rs s x).Pairwise fun a b => a.length ≤ b.length := (A4_len.filter _).filter _
  have hm : t ∈ roots rs s x := List.mem_filter.mpr ⟨ht, by simpa using h⟩
  rw [e1] at hs hm
  rw [e2]
  rcases List.mem_cons.mp hm with rfl | hm
  · exact Nat.le_refl _
  · exact (List.pairwise_cons.mp hs).1 t hm
theorem few_right (c : Ct m rs) {q : (Sx × Int) × Sx} (hq : q ∈ ftab m rs) (hl : ∀ r ∈ ftab m rs, r.2.length ≤ q.2.length) : fewOk m rs q.2.length (q.2, q.1.2) (ftab m rs) = true := by
  have h4 := c.m4
  obtain ⟨p, hp, rfl⟩ := List.mem_map.mp hq
  obtain ⟨v, hx⟩ := (mem_prs c).mp hp
  obtain ⟨r1, r2, r3⟩ := root_vs c v hx
  unfold fewOk
  have a1 : ((root rs p.1 p.2).length : Int) == ((root rs p.1 p.2).length : Int) := by simp
  have a2 : (cl rs (root rs p.1 p.2)).contains p.2 = true := by simpa using r3
  have a3 : ((root rs p.1 p.2).any fun k => (cl rs (wo (root rs p.1 p.2) k)).contains p.2) = false := by
    rw [List.any_eq_false]
    intro k hk h
    have h : p.2 ∈ cl rs (wo (root rs p.1 p.2) k) := by simpa using h
    have hpart : wo (root rs p.1 p.2) k ∈ parts p.1 := (mem_parts (v.a4 h4)).mpr ⟨(wo_vs r1 k).up h4, fun y hy => r2 y (List.mem_filter.mp hy).1⟩
    have := root_least c v hx hpart h
    have := wo_len hk
    omega
  have a4 : (ftab m rs).all (rowOk rs (root rs p.1 p.2).length) = true := by
    rw [List.all_eq_true]
    intro r hr
    have hlr := hl r hr
    obtain ⟨z, hz, rfl⟩ := List.mem_map.mp hr
    obtain ⟨vz, hxz⟩ := (mem_prs c).mp hz
    obtain ⟨s1, s2, s3⟩ := root_vs c vz hxz
    unfold rowOk
    rw [Bool.and_eq_true, Bool.and_eq_true, subI_iff, decide_eq_true_eq]
    exact ⟨⟨s2, Int.ofNat_le.mpr hlr⟩, by simpa using s3⟩
  rw [ftab_keys]
  simp only [a1, a2, a3, a4, beq_self_eq_true, Bool.not_true, Bool.not_false, Bool.and_self]
theorem mtab_kt (c : Ct m rs) (k : Int) : KT m (mtab m rs k) := by
  refine ⟨fun q hq => ?_, ⟨k.toNat, fun q hq => ?_⟩, by rw [mtab_keys]; exact due_nodup⟩
  · obtain ⟨s, hs, rfl⟩ := List.mem_map.mp hq
    exact ((due_mem c.m4).mp hs).1
  · obtain ⟨s, hs, rfl⟩ := List.mem_map.mp hq
    have := ((due_mem c.m4).mp hs).2
    show s.length = _
    omega
theorem meet_right (c : Ct m rs) : meetOk m rs (mb m rs).length (mb m rs) (mtab m rs ((mb m rs).length + 1)) = true := by
  have h := (bst_is (m := m) (rs := rs) (U m) [] (.inl rfl)).2.1
  have a2 : (!(mb m rs == []) && !(cw m rs (mb m rs) == [])) = false := by
    rcases h with h | h
    · have : mb m rs = [] := h
      rw [this]
      rfl
    · have : cw m rs (mb m rs) = [] := h
      rw [this]
      simp
  have a3 : keysOk m ((mtab m rs ((mb m rs).length + 1)).map (·.1)) ((mb m rs).length + 1) = true := by
    rw [mtab_keys]
    unfold keysOk
    simp
  have a4 : ((mtab m rs ((mb m rs).length + 1)).all fun q => (cw m rs q.1).contains q.2) = true := by
    rw [List.all_eq_true]
    intro q hq
    obtain ⟨s, hs, rfl⟩ := List.mem_map.mp hq
    have := big_cw c hs
    show (cw m rs s).contains ((cw m rs s).headD 0) = true
    cases e : cw m rs s with
    | nil => exact absurd e this
    | cons x xs => simp
  unfold meetOk
  rw [a2, a3, a4]
  simp
theorem htab_kt (c : Ct m rs) (k : Int) : KT m (htab m rs k) := by
  refine ⟨fun q hq => ?_, ⟨k.toNat, fun q hq => ?_⟩, by rw [htab_keys]; exact due_nodup⟩
  · obtain ⟨s, hs, rfl⟩ := List.mem_map.mp hq
    exact ((due_mem c.m4).mp hs).1
  · obtain ⟨s, hs, rfl⟩ := List.mem_map.mp hq
    have := ((due_mem c.m4).mp hs).2
    show s.length = _
    omega
theorem htab_v (c : Ct m rs) : ∀ q ∈ htab m rs (hnum (hb m rs)), Vs m q.2.1 ∧ rowH rs q = true := fun q hq => by
  obtain ⟨s, hs, rfl⟩ := List.mem_map.mp hq
  have v := ((due_mem c.m4).mp hs).1
  obtain ⟨h, e, h1, h2⟩ := hfor_of (due_halved c hs)
  have hp := parts_vs v c.m4 (List.mem_filter.mp h1).1
  have e' : (hfor rs s).getD [] = h := by rw [e]; rfl
  refine ⟨by show Vs m ((hfor rs s).getD []); rw [e']; exact hp.1, ?_⟩
  show (subI ((hfor rs s).getD []) s && (ch rs s ((hfor rs s).getD [])).contains ((ch rs s ((hfor rs s).getD [])).headD 0)) = true
  rw [e', Bool.and_eq_true, subI_iff]
  refine ⟨hp.2, ?_⟩
  cases e3 : ch rs s h with
  | nil => exact absurd e3 h2
  | cons x xs => simp
theorem half_right (c : Ct m rs) : halfOk m rs (hnum (hb m rs)) (hb m rs) (htab m rs (hnum (hb m rs))) = true := by
  have a1 : thOk rs (hnum (hb m rs)) (hb m rs) = true := by
    cases e : hb m rs with
    | none => rfl
    | some s =>
      have := (hb_is c).1 s e
      show (!((s.length : Int) + 1 == 0) && ((s.length : Int) == (s.length : Int) + 1 - 1 && apart rs s)) = true
      rw [this.2]
      have h1 : ((s.length : Int) + 1 == 0) = false := by rw [beq_eq_false_iff_ne]; omega
      have h2 : ((s.length : Int) == (s.length : Int) + 1 - 1) = true := by rw [beq_iff_eq]; omega
      rw [h1, h2]
      rfl
  have a3 : keysOk m ((htab m rs (hnum (hb m rs))).map (·.1)) (hnum (hb m rs)) = true := by
    rw [htab_keys]
    unfold keysOk
    simp
  have a4 : (htab m rs (hnum (hb m rs))).all (rowH rs) = true := List.all_eq_true.mpr fun q hq => (htab_v c q hq).2
  unfold halfOk
  rw [a1, a3, a4]
  rfl
end
end Dx
/-! The three numbers are the law's. -/
namespace Dx
open PySem PySem.Spec PyProof.Rows L2
abbrev r_car : List D → Option D := bodyG 1 (F_caratheodory r_few)
abbrev r_helly : List D → Option D := bodyG 1 (F_helly r_meeting)
abbrev r_radon : List D → Option D := bodyG 1 (F_radon r_halves)
section
variable {m : Int} {rs : List Rl}
theorem num_few (c : Ct m rs) {a0 a1 a2 a4 a6 a7 a8 a9 a10 a11 : Option D} :
    F_law1 r_car r_lpairs r_least [a0, a1, a2, some (tPl m rs), a4, some (tB m rs), a6, a7, a8, a9, a10, a11] = some (.nx [a0, a1, a2, some (tPl m rs), a4, some (tB m rs), a6, a7, a8, a9, a10, a11]) := by
  obtain ⟨q, hq, h1, h2⟩ := g_few c
  have e1 : r_car [tB m rs] = some (.int q.2.length) := s_body (s_sRet ((s_fFld (c := 1) (fl := [("number", .int q.2.length), ("hard", tP (q.2, q.1.2)), ("table", tab tP tS (ftab m rs))]) ((s_fCall (s_aCons (x := tB m rs) rfl s_aNil)).trans ((s_gN rfl).trans h1))).trans rfl))
  have e2 : fCall gMax (aCons (fLc [11] (iSeq (fCall (gN 1 r_lpairs) (aCons (fV 3) aNil))) (t1 11) bYes (fCall (gN 2 r_least) (aCons (fV 3) (aCons (fV 11) aNil)))) aNil) [a0, a1, a2, some (tPl m rs), a4, some (tB m rs), a6, a7, a8, a9, a10, a11] = some (.int q.2.length) := by
    refine (s_fCall (s_aCons (x := tI ((prs m rs).map fun p => ((root rs p.1 p.2).length : Int))) ((s_fLc (ds := (prs m rs).map tP) ((s_iSeq (x := tPs (prs m rs)) ((s_fCall (s_aCons (x := tPl m rs) rfl s_aNil)).trans ((s_gN rfl).trans (g_lpairs c)))).trans rfl)
      (lc_all tP (fun p => [a0, a1, a2, some (tPl m rs), a4, some (tB m rs), a6, a7, a8, a9, a10, some (tP p)]) (fun p => .int (root rs p.1 p.2).length) (prs m rs) (fun p _ => rfl) (fun p hp => ?_))).trans ?_) s_aNil)).trans (gMax_is (fun n hn => ?_) ?_ fun n hn => ?_)
    · obtain ⟨v, hx⟩ := (mem_prs c).mp hp
      exact (s_fCall (s_aCons (x := tPl m rs) rfl (s_aCons (x := tP p) rfl s_aNil))).trans ((s_gN rfl).trans (g_least c v hx))
    · unfold tI
      rw [List.map_map]
      rfl
    · obtain ⟨p, hp, rfl⟩ := List.mem_map.mp hn
      obtain ⟨v, hx⟩ := (mem_prs c).mp hp
      exact small_I9 (vs_len (root_vs c v hx).1 c.m4)
    · obtain ⟨p, hp, rfl⟩ := List.mem_map.mp hq
      exact List.mem_map.mpr ⟨p, hp, rfl⟩
    · obtain ⟨p, hp, rfl⟩ := List.mem_map.mp hn
      exact Int.ofNat_le.mpr (h2 _ (List.mem_map.mpr ⟨p, hp, rfl⟩))
  refine (s_sIf (b := false) (s_fB ((s_f2 ((s_fCall (s_aCons (x := tB m rs) rfl s_aNil)).trans ((s_gN rfl).trans e1)) e2).trans ((gNe_int _ _).trans ?_)))).trans rfl
  simp
theorem num_helly (c : Ct m rs) {a0 a1 a2 a4 a7 a8 a9 a10 a11 : Option D} :
    F_law2 r_helly r_shared [a0, a1, a2, some (tPl m rs), a4, some (tB m rs), some (tL (U m)), a7, a8, a9, a10, a11] = some (.nx [a0, a1, a2, some (tPl m rs), a4, some (tB m rs), some (tL (U m)), a7, a8, a9, a10, a11]) := by
  have h1 := c.m1
  obtain ⟨b1, b2, b3, b4⟩ := bst_is (m := m) (rs := rs) (U m) [] (.inl rfl)
  have e1 : r_helly [tB m rs] = some (.int (mb m rs).length) := s_body (s_sRet ((s_fFld (c := 2) (fl := [("number", .int (mb m rs).length), ("thing", tS (mb m rs)), ("table", tab tS D.int (mtab m rs ((mb m rs).length + 1)))]) ((s_fCall (s_aCons (x := tB m rs) rfl s_aNil)).trans ((s_gN rfl).trans (g_meeting c)))).trans rfl))
  have e2 : fCall gMax (aCons (fLc [7] (iSeq (fV 6)) (t1 7) (bOr (fB (f2 gEq (fV 7) (fTup aNil))) (fB (f2 gEq (fCall (gN 2 r_shared) (aCons (fV 3) (aCons (fV 7) aNil))) (fTup aNil)))) (fCall gLenX (aCons (fV 7) aNil))) aNil) [a0, a1, a2, some (tPl m rs), a4, some (tB m rs), some (tL (U m)), a7, a8, a9, a10, a11] = some (.int (mb m rs).length) := by
    refine (s_fCall (s_aCons (x := tI (((U m).filter fun s => s == [] || cw m rs s == []).map fun s => (s.length : Int))) ((s_fLc (ds := (U m).map tS) rfl
      (lc_map tS (fun s => [a0, a1, a2, some (tPl m rs), a4, some (tB m rs), some (tL (U m)), some (tS s), a8, a9, a10, a11]) (fun s => s == [] || cw m rs s == []) (fun s => .int s.length) (U m) (fun s _ => rfl) (fun s hs => ?_) (fun s _ _ => e_len (s := s) rfl))).trans ?_) s_aNil)).trans (gMax_is (fun n hn => ?_) ?_ fun n hn => ?_)
    · exact e_or (s_fB ((s_f2 (x := tS s) (y := tS []) rfl rfl).trans (gEq_set _ _))) (s_fB ((s_f2 (y := tS []) (e_sh c ((mem_U c.m4).mp hs) rfl rfl) rfl).trans (gEq_set _ _)))
    · unfold tI
      rw [List.map_map]
      rfl
    · obtain ⟨s, hs, rfl⟩ := List.mem_map.mp hn
      exact small_I9 (vs_len ((mem_U c.m4).mp (List.mem_filter.mp hs).1) c.m4)
    · refine List.mem_map.mpr ⟨mb m rs, List.mem_filter.mpr ⟨(mem_U c.m4).mpr (mb_vs c), ?_⟩, rfl⟩
      rcases b2 with h | h
      · have h : mb m rs = [] := h
        rw [h]
        rfl
      · have h : cw m rs (mb m rs) = [] := h
        rw [h]
        simp
    · obtain ⟨s, hs, rfl⟩ := List.mem_map.mp hn
      obtain ⟨hU, hp⟩ := List.mem_filter.mp hs
      apply Int.ofNat_le.mpr
      cases s with
      | nil => exact Nat.zero_le _
      | cons x s =>
        refine b4 (x :: s) hU (by simp) ?_
        simpa using hp
  refine (s_sIf (b := false) (s_fB ((s_f2 ((s_fCall (s_aCons (x := tB m rs) rfl s_aNil)).trans ((s_gN rfl).trans e1)) e2).trans ((gNe_int _ _).trans ?_)))).trans rfl
  simp
end
end Dx
/-! radon is the law's. -/
namespace Dx
open PySem PySem.Spec PyProof.Rows L2
section
variable {m : Int} {rs : List Rl}
def firmOk (m : Int) (rs : List Rl) (k : Int) : Bool := (due m k).all fun s => canH rs s
def firm (m : Int) (rs : List Rl) : Sx := (rg (m + 2)).filter (firmOk m rs)
theorem hnum_le (c : Ct m rs) : 0 ≤ hnum (hb m rs) ∧ hnum (hb m rs) ≤ m + 1 := by
  have h1 := c.m1
  cases e : hb m rs with
  | none => exact ⟨Int.le_refl _, by show (0 : Int) ≤ m + 1; omega⟩
  | some s =>
    have v := ((hb_is c).1 s e).1
    have := in_len v.nodup v.2
    exact ⟨by show (0 : Int) ≤ s.length + 1; omega, by show (s.length : Int) + 1 ≤ m + 1; omega⟩
theorem firm_at (c : Ct m rs) : firmOk m rs (hnum (hb m rs)) = true := by
  unfold firmOk
  rw [List.all_eq_true]
  intro s hs
  rw [canH_apart ((due_mem c.m4).mp hs).1 c.m4, due_halved c hs]
  rfl
theorem firm_below (c : Ct m rs) {k : Int} (k0 : 0 ≤ k) (hk : k < hnum (hb m rs)) : firmOk m rs k = false := by
  cases e : hb m rs with
  | none =>
    rw [e] at hk
    have : hnum none = 0 := rfl
    omega
  | some s =>
    rw [e] at hk
    have hk : k < (s.length : Int) + 1 := hk
    obtain ⟨v, ha⟩ := (hb_is c).1 s e
    obtain ⟨t, vt, hl, ht⟩ := apart_take v c.m4 ha (k := k.toNat) (by omega)
    unfold firmOk
    rw [List.all_eq_false]
    refine ⟨t, (due_mem c.m4).mpr ⟨vt, by omega⟩, ?_⟩
    rw [canH_apart vt c.m4, ht]
    decide
theorem first_of : ∀ (xs : Sx) (p : Int → Bool) (a : Int), xs.Pairwise (· < ·) → a ∈ xs → p a = true → (∀ x ∈ xs, x < a → p x = false) → ∃ ys, xs.filter p = a :: ys
  | x :: xs, p, a, hs, ha, hp, hb => by
    rw [List.pairwise_cons] at hs
    rcases List.mem_cons.mp ha with rfl | ha
    · exact ⟨xs.filter p, by rw [List.filter_cons_of_pos hp]⟩
    · have hx := hb x (List.mem_cons_self ..) (hs.1 a ha)
      rw [List.filter_cons_of_neg (by rw [hx]; decide)]
      exact first_of xs p a hs.2 ha hp fun y hy => hb y (List.mem_cons_of_mem _ hy)
theorem firm_is (c : Ct m rs) : ∃ ys, firm m rs = hnum (hb m rs) :: ys := by
  obtain ⟨h1, h2⟩ := hnum_le c
  exact first_of _ _ _ (rg_lt _) (rg_mem.mpr ⟨h1, by omega⟩) (firm_at c) fun x hx hlt => firm_below c (rg_mem.mp hx).1 hlt
theorem num_firm (c : Ct m rs) {a0 a1 a2 a4 a5 a7 a8 a9 a10 a11 : Option D} :
    F_law3 r_canH [a0, a1, a2, some (tPl m rs), a4, a5, some (tL (U m)), a7, a8, a9, a10, a11] = some (.nx [a0, a1, a2, some (tPl m rs), some (tI (firm m rs)), a5, some (tL (U m)), a7, a8, a9, a10, a11]) := by
  have h1 := c.m1
  have h4 := c.m4
  refine s_sAsg (d := tI (firm m rs)) (s_fLc (ds := (rg (m + 2)).map D.int) ((s_iRange (n := m + 2) rfl (by omega) (by omega)).trans (by rw [rangeD_rg])) (lc_map D.int (fun k => [a0, a1, a2, some (tPl m rs), a4, a5, some (tL (U m)), a7, a8, a9, some (.int k), a11]) (firmOk m rs) D.int (rg (m + 2)) (fun k _ => rfl) (fun k _ => ?_) (fun k _ _ => rfl))) rfl
  refine s_fB ((s_fCall (s_aCons (x := .lst ((due m k).map fun s => .bl (canH rs s))) (s_fLc (ds := (U m).map tS) rfl (lc_map tS (fun s => [a0, a1, a2, some (tPl m rs), a4, a5, some (tL (U m)), some (tS s), a8, a9, some (.int k), a11]) (fun s => (s.length : Int) == k) (fun s => .bl (canH rs s)) (U m) (fun s _ => rfl) (fun s _ => ?_) (fun s hs _ => ?_))) s_aNil)).trans (gAll_map _ _))
  · exact s_fB ((s_f2 (e_len (s := s) rfl) rfl).trans (gEq_int _ _))
  · exact (s_fCall (s_aCons (x := tPl m rs) rfl (s_aCons (x := tS s) rfl s_aNil))).trans ((s_gN rfl).trans (g_canH c ((mem_U h4).mp hs)))
theorem num_radon (c : Ct m rs) {a0 a1 a2 a6 a7 a8 a9 a10 a11 : Option D} :
    F_law4 r_radon [a0, a1, a2, some (tPl m rs), some (tI (firm m rs)), some (tB m rs), a6, a7, a8, a9, a10, a11] = some (.nx [a0, a1, a2, some (tPl m rs), some (tI (firm m rs)), some (tB m rs), a6, a7, a8, a9, a10, a11]) := by
  obtain ⟨ys, hy⟩ := firm_is c
  have e1 : r_radon [tB m rs] = some (.int (hnum (hb m rs))) := s_body (s_sRet ((s_fFld (c := 3) (fl := [("number", .int (hnum (hb m rs))), ("thing", tO (hb m rs)), ("table", tab tS tP (htab m rs (hnum (hb m rs))))]) ((s_fCall (s_aCons (x := tB m rs) rfl s_aNil)).trans ((s_gN rfl).trans (g_halves c)))).trans rfl))
  have e2 : f2 gIxX (fV 4) (fC (.int 0)) [a0, a1, a2, some (tPl m rs), some (tI (firm m rs)), some (tB m rs), a6, a7, a8, a9, a10, a11] = some (.int (hnum (hb m rs))) := by
    refine (s_f2 (x := tI (firm m rs)) (y := .int 0) rfl rfl).trans ?_
    rw [hy]
    show atI ((hnum (hb m rs) :: ys).map D.int) ((0 : Nat) : Int) = _
    exact atI_nat rfl
  refine (s_sIf (b := false) (s_fB ((s_f2 ((s_fCall (s_aCons (x := tB m rs) rfl s_aNil)).trans ((s_gN rfl).trans e1)) e2).trans ((gNe_int _ _).trans ?_)))).trans rfl
  simp
end
end Dx
/-! The law's statements after the numbers. -/
namespace Dx
open PySem PySem.Spec PyProof.Rows L2
section
variable {m : Int} {rs : List Rl}
theorem num_few_r (c : Ct m rs) {n : Int} {p : Sx × Int} {kvs : List ((Sx × Int) × Sx)} (vp : Vs m p.1) (t : FT m kvs) (h : fewOk m rs n p kvs = true) {a0 a1 a2 a4 a6 a8 a9 a10 a11 : Option D} :
    F_law6 r_sfew r_lfew [a0, a1, a2, some (tPl m rs), a4, some (tB m rs), a6, some (tFew n p kvs), a8, a9, a10, a11] = some (.nx [a0, a1, a2, some (tPl m rs), a4, some (tB m rs), a6, some (tFew n p kvs), a8, a9, a10, a11]) := by
  have fl : ∀ (f : En → Option D) (δ : En), f δ = some (tFew n p kvs) → fFld 1 "number" f δ = some (.int n) ∧ fFld 1 "hard" f δ = some (tP p) ∧ fFld 1 "table" f δ = some (tab tP tS kvs) := fun f δ e => ⟨(s_fFld e).trans rfl, (s_fFld e).trans rfl, (s_fFld e).trans rfl⟩
  let δ : En := [a0, a1, a2, some (tPl m rs), a4, some (tB m rs), a6, some (tFew n p kvs), a8, a9, a10, a11]
  have q := fl (fV 7) δ rfl
  have e1 : fMeth 1 1 "shows" r_sfew (fV 7) (aCons (fV 5) aNil) δ = some (.bl true) := (s_fMeth (c := 1) (fl := [("number", .int n), ("hard", tP p), ("table", tab tP tS kvs)]) rfl rfl (s_aCons (x := tB m rs) rfl s_aNil) rfl).trans ((g_sfew c vp t).trans (by rw [h]))
  have e2 : fCall (gN 4 r_lfew) (aCons (fV 3) (aCons (fFld 1 "number" (fV 7)) (aCons (fFld 1 "hard" (fV 7)) (aCons (fFld 1 "table" (fV 7)) aNil)))) δ = some (.bl true) := (s_fCall (s_aCons (x := tPl m rs) rfl (s_aCons q.1 (s_aCons q.2.1 (s_aCons q.2.2 s_aNil))))).trans ((s_gN rfl).trans ((g_lfew c vp t).trans (by rw [h])))
  exact (s_sIf (e_or (e_not (s_fB e1)) (e_not (s_fB e2)))).trans rfl
theorem num_meet_r (c : Ct m rs) {n : Int} {s : Sx} {kvs : List (Sx × Int)} (v : Vs m s) (t : KT m kvs) (h : meetOk m rs n s kvs = true) {a0 a1 a2 a4 a6 a7 a9 a10 a11 : Option D} :
    F_law7 r_smeeting r_lmeeting [a0, a1, a2, some (tPl m rs), a4, some (tB m rs), a6, a7, some (tMeet n s kvs), a9, a10, a11] = some (.nx [a0, a1, a2, some (tPl m rs), a4, some (tB m rs), a6, a7, some (tMeet n s kvs), a9, a10, a11]) := by
  have fl : ∀ (f : En → Option D) (δ : En), f δ = some (tMeet n s kvs) → fFld 2 "number" f δ = some (.int n) ∧ fFld 2 "thing" f δ = some (tS s) ∧ fFld 2 "table" f δ = some (tab tS D.int kvs) := fun f δ e => ⟨(s_fFld e).trans rfl, (s_fFld e).trans rfl, (s_fFld e).trans rfl⟩
  let δ : En := [a0, a1, a2, some (tPl m rs), a4, some (tB m rs), a6, a7, some (tMeet n s kvs), a9, a10, a11]
  have q := fl (fV 8) δ rfl
  have e1 : fMeth 2 1 "shows" r_smeeting (fV 8) (aCons (fV 5) aNil) δ = some (.bl true) := (s_fMeth (c := 2) (fl := [("number", .int n), ("thing", tS s), ("table", tab tS D.int kvs)]) rfl rfl (s_aCons (x := tB m rs) rfl s_aNil) rfl).trans ((g_smeeting c v t).trans (by rw [h]))
  have e2 : fCall (gN 4 r_lmeeting) (aCons (fV 3) (aCons (fFld 2 "number" (fV 8)) (aCons (fFld 2 "thing" (fV 8)) (aCons (fFld 2 "table" (fV 8)) aNil)))) δ = some (.bl true) := (s_fCall (s_aCons (x := tPl m rs) rfl (s_aCons q.1 (s_aCons q.2.1 (s_aCons q.2.2 s_aNil))))).trans ((s_gN rfl).trans ((g_lmeeting c v t).trans (by rw [h])))
  exact (s_sIf (e_or (e_not (s_fB e1)) (e_not (s_fB e2)))).trans rfl
theorem num_half_r (c : Ct m rs) {n : Int} {o : Option Sx} {kvs : List (Sx × (Sx × Int))} (n0 : 0 ≤ n) (v : ∀ s, o = some s → Vs m s) (t : KT m kvs) (tv : ∀ q ∈ kvs, Vs m q.2.1) (h : halfOk m rs n o kvs = true) {a0 a1 a2 a4 a6 a7 a8 a10 a11 : Option D} :
    F_law8 r_shalves r_lhalves [a0, a1, a2, some (tPl m rs), a4, some (tB m rs), a6, a7, a8, some (tHalf n o kvs), a10, a11] = some (.nx [a0, a1, a2, some (tPl m rs), a4, some (tB m rs), a6, a7, a8, some (tHalf n o kvs), a10, a11]) := by
  have fl : ∀ (f : En → Option D) (δ : En), f δ = some (tHalf n o kvs) → fFld 3 "number" f δ = some (.int n) ∧ fFld 3 "thing" f δ = some (tO o) ∧ fFld 3 "table" f δ = some (tab tS tP kvs) := fun f δ e => ⟨(s_fFld e).trans rfl, (s_fFld e).trans rfl, (s_fFld e).trans rfl⟩
  let δ : En := [a0, a1, a2, some (tPl m rs), a4, some (tB m rs), a6, a7, a8, some (tHalf n o kvs), a10, a11]
  have q := fl (fV 9) δ rfl
  have e1 : fMeth 3 1 "shows" r_shalves (fV 9) (aCons (fV 5) aNil) δ = some (.bl true) := (s_fMeth (c := 3) (fl := [("number", .int n), ("thing", tO o), ("table", tab tS tP kvs)]) rfl rfl (s_aCons (x := tB m rs) rfl s_aNil) rfl).trans ((g_shalves c v t tv).trans (by rw [h]))
  have e2 : fCall (gN 4 r_lhalves) (aCons (fV 3) (aCons (fFld 3 "number" (fV 9)) (aCons (fFld 3 "thing" (fV 9)) (aCons (fFld 3 "table" (fV 9)) aNil)))) δ = some (.bl true) := (s_fCall (s_aCons (x := tPl m rs) rfl (s_aCons q.1 (s_aCons q.2.1 (s_aCons q.2.2 s_aNil))))).trans ((s_gN rfl).trans ((g_lhalves c n0 v t tv).trans (by rw [h])))
  exact (s_sIf (e_or (e_not (s_fB e1)) (e_not (s_fB e2)))).trans rfl
end
end Dx
/-! One paper of each kind, tried with any table: the two answers agree. -/
namespace Dx
open PySem PySem.Spec PyProof.Rows L2
theorem gNe_bl (a : Bool) : gNeX (.bl a) (.bl a) = some (.bl false) := by cases a <;> rfl
section
variable {m : Int} {rs : List Rl}
def F_p1 : En → Option Out := sIf (fB (f2 gNeX (fMeth 1 1 "shows" r_sfew (fMake 1 3 g_Few (aCons (fV 9) (aCons (fV 10) (aCons (fV 3) aNil)))) (aCons (fV 2) aNil)) (fCall (gN 4 r_lfew) (aCons (fV 1) (aCons (fV 9) (aCons (fV 10) (aCons (fV 3) aNil))))))) (sRet (fC (.bl false))) sNil
theorem p1_ok (c : Ct m rs) {n : Int} {p : Sx × Int} {kvs : List ((Sx × Int) × Sx)} (vp : Vs m p.1) (t : FT m kvs) {a0 a4 a5 a6 a7 a8 a11 : Option D} :
    F_p1 [a0, some (tPl m rs), some (tB m rs), some (tab tP tS kvs), a4, a5, a6, a7, a8, some (.int n), some (tP p), a11] = some (.nx [a0, some (tPl m rs), some (tB m rs), some (tab tP tS kvs), a4, a5, a6, a7, a8, some (.int n), some (tP p), a11]) := by
  have e0 : fMake 1 3 g_Few (aCons (fV 9) (aCons (fV 10) (aCons (fV 3) aNil))) [a0, some (tPl m rs), some (tB m rs), some (tab tP tS kvs), a4, a5, a6, a7, a8, some (.int n), some (tP p), a11] = some (tFew n p kvs) :=
    s_fMake (ds := [.int n, tP p, tab tP tS kvs]) rfl rfl (s_gI3 rfl rfl ((s_fCall (s_aCons rfl s_aNil)).trans (gDict_tab keP (t.p4 c.m4))))
  refine (s_sIf (s_fB ((s_f2 ((s_fMeth (c := 1) (fl := [("number", .int n), ("hard", tP p), ("table", tab tP tS kvs)]) e0 rfl (s_aCons (x := tB m rs) rfl s_aNil) rfl).trans (g_sfew c vp t)) ((s_fCall (s_aCons (x := tPl m rs) rfl (s_aCons (x := .int n) rfl (s_aCons (x := tP p) rfl (s_aCons (x := tab tP tS kvs) rfl s_aNil))))).trans ((s_gN rfl).trans (g_lfew c vp t)))).trans (gNe_bl _)))).trans rfl
def F_p2 : En → Option Out := sIf (fB (f2 gNeX (fMeth 2 1 "shows" r_smeeting (fMake 2 3 g_Meeting (aCons (fV 9) (aCons (fV 11) (aCons (fV 3) aNil)))) (aCons (fV 2) aNil)) (fCall (gN 4 r_lmeeting) (aCons (fV 1) (aCons (fV 9) (aCons (fV 11) (aCons (fV 3) aNil))))))) (sRet (fC (.bl false))) sNil
theorem p2_ok (c : Ct m rs) {n : Int} {s : Sx} {kvs : List (Sx × Int)} (v : Vs m s) (t : KT m kvs) {a0 a4 a5 a6 a7 a8 a10 : Option D} :
    F_p2 [a0, some (tPl m rs), some (tB m rs), some (tab tS D.int kvs), a4, a5, a6, a7, a8, some (.int n), a10, some (tS s)] = some (.nx [a0, some (tPl m rs), some (tB m rs), some (tab tS D.int kvs), a4, a5, a6, a7, a8, some (.int n), a10, some (tS s)]) := by
  have e0 : fMake 2 3 g_Meeting (aCons (fV 9) (aCons (fV 11) (aCons (fV 3) aNil))) [a0, some (tPl m rs), some (tB m rs), some (tab tS D.int kvs), a4, a5, a6, a7, a8, some (.int n), a10, some (tS s)] = some (tMeet n s kvs) :=
    s_fMake (ds := [.int n, tS s, tab tS D.int kvs]) rfl rfl (s_gI3 rfl rfl ((s_fCall (s_aCons rfl s_aNil)).trans (gDict_tab keS (t.a4 c.m4))))
  refine (s_sIf (s_fB ((s_f2 ((s_fMeth (c := 2) (fl := [("number", .int n), ("thing", tS s), ("table", tab tS D.int kvs)]) e0 rfl (s_aCons (x := tB m rs) rfl s_aNil) rfl).trans (g_smeeting c v t)) ((s_fCall (s_aCons (x := tPl m rs) rfl (s_aCons (x := .int n) rfl (s_aCons (x := tS s) rfl (s_aCons (x := tab tS D.int kvs) rfl s_aNil))))).trans ((s_gN rfl).trans (g_lmeeting c v t)))).trans (gNe_bl _)))).trans rfl
def F_p3 : En → Option Out := sIf (fB (f2 gNeX (fMeth 3 1 "shows" r_shalves (fMake 3 3 g_Halves (aCons (fV 9) (aCons (fV 11) (aCons (fV 3) aNil)))) (aCons (fV 2) aNil)) (fCall (gN 4 r_lhalves) (aCons (fV 1) (aCons (fV 9) (aCons (fV 11) (aCons (fV 3) aNil))))))) (sRet (fC (.bl false))) sNil
theorem p3_ok (c : Ct m rs) {n : Int} {o : Option Sx} {kvs : List (Sx × (Sx × Int))} (n0 : 0 ≤ n) (v : ∀ s, o = some s → Vs m s) (t : KT m kvs) (tv : ∀ q ∈ kvs, Vs m q.2.1) {a0 a4 a5 a6 a7 a8 a10 : Option D} :
    F_p3 [a0, some (tPl m rs), some (tB m rs), some (tab tS tP kvs), a4, a5, a6, a7, a8, some (.int n), a10, some (tO o)] = some (.nx [a0, some (tPl m rs), some (tB m rs), some (tab tS tP kvs), a4, a5, a6, a7, a8, some (.int n), a10, some (tO o)]) := by
  have e0 : fMake 3 3 g_Halves (aCons (fV 9) (aCons (fV 11) (aCons (fV 3) aNil))) [a0, some (tPl m rs), some (tB m rs), some (tab tS tP kvs), a4, a5, a6, a7, a8, some (.int n), a10, some (tO o)] = some (tHalf n o kvs) :=
    s_fMake (ds := [.int n, tO o, tab tS tP kvs]) rfl rfl (s_gI3 rfl rfl ((s_fCall (s_aCons rfl s_aNil)).trans (gDict_tab keS (t.a4 c.m4))))
  refine (s_sIf (s_fB ((s_f2 ((s_fMeth (c := 3) (fl := [("number", .int n), ("thing", tO o), ("table", tab tS tP kvs)]) e0 rfl (s_aCons (x := tB m rs) rfl s_aNil) rfl).trans (g_shalves c v t tv)) ((s_fCall (s_aCons (x := tPl m rs) rfl (s_aCons (x := .int n) rfl (s_aCons (x := tO o) rfl (s_aCons (x := tab tS tP kvs) rfl s_aNil))))).trans ((s_gN rfl).trans (g_lhalves c n0 v t tv)))).trans (gNe_bl _)))).trans rfl
end
end Dx
/-! The tries of one table. -/
namespace Dx
open PySem PySem.Spec PyProof.Rows L2
section
variable {m : Int} {rs : List Rl}
theorem forF_step {tf : D → En → Option En} {F : En → Option Out} {x : D} {xs : List D} {δ δ1 δ2 : En} (h1 : tf x δ = some δ1) (h2 : F δ1 = some (.nx δ2)) : forF tf F (x :: xs) δ = forF tf F xs δ2 := by
  conv => lhs; unfold forF
  rw [h1]
  show ((F δ1).bind _) = _
  rw [h2]
  rfl
theorem pap1_ok (c : Ct m rs) {n : Int} {p : Sx × Int} {kv0 kvs : List ((Sx × Int) × Sx)} {s : Sx} {x : Int} (vp : Vs m p.1) (vs : Vs m s) (t : FT m kvs) {a0 a7 a8 a9 a10 a11 : Option D} :
    ∃ b9 b10, F_pap1 g_Few r_sfew r_lfew [a0, some (tPl m rs), some (tB m rs), some (tab tP tS kvs), some (tS s), some (.int x), some (tFew n p kv0), a7, a8, a9, a10, a11] = some (.nx [a0, some (tPl m rs), some (tB m rs), some (tab tP tS kvs), some (tS s), some (.int x), some (tFew n p kv0), a7, a8, b9, b10, a11]) := by
  refine ⟨some (.int s.length), some (tP (s, x)), ?_⟩
  have e1 : iSeq (fTup (aCons (fTup (aCons (fFld 1 "number" (fV 6)) (aCons (fFld 1 "hard" (fV 6)) aNil))) (aCons (fTup (aCons (f2 gAdd (fFld 1 "number" (fV 6)) (fC (.int 1))) (aCons (fFld 1 "hard" (fV 6)) aNil))) (aCons (fTup (aCons (fCall gLenX (aCons (fV 4) aNil)) (aCons (fTup (aCons (fV 4) (aCons (fV 5) aNil))) aNil))) aNil)))) [a0, some (tPl m rs), some (tB m rs), some (tab tP tS kvs), some (tS s), some (.int x), some (tFew n p kv0), a7, a8, a9, a10, a11] = some [.tup [.int n, tP p], .tup [.int (n + 1), tP p], .tup [.int s.length, tP (s, x)]] := by
    have h : fCall gLenX (aCons (fV 4) aNil) [a0, some (tPl m rs), some (tB m rs), some (tab tP tS kvs), some (tS s), some (.int x), some (tFew n p kv0), a7, a8, a9, a10, a11] = some (.int s.length) := e_len (s := s) rfl
    refine (s_iSeq (s_fTup (s_aCons (x := .tup [.int n, tP p]) rfl (s_aCons (x := .tup [.int (n + 1), tP p]) rfl (s_aCons (s_fTup (s_aCons h (s_aCons (x := tP (s, x)) rfl s_aNil)) (show 2 ≤ 1000 by decide)) s_aNil))) (show 3 ≤ 1000 by decide))).trans rfl
  have e2 : F_pap1 g_Few r_sfew r_lfew [a0, some (tPl m rs), some (tB m rs), some (tab tP tS kvs), some (tS s), some (.int x), some (tFew n p kv0), a7, a8, a9, a10, a11] = forF (t2 9 10) F_p1 [.tup [.int n, tP p], .tup [.int (n + 1), tP p], .tup [.int s.length, tP (s, x)]] [a0, some (tPl m rs), some (tB m rs), some (tab tP tS kvs), some (tS s), some (.int x), some (tFew n p kv0), a7, a8, a9, a10, a11] := by
    unfold F_pap1 sFor
    rw [e1]
    rfl
  rw [e2]
  refine Eq.trans (forF_step (F := F_p1) (by rfl) (p1_ok c (n := n) (p := p) vp t)) ?_
  refine Eq.trans (forF_step (F := F_p1) (by rfl) (p1_ok c (n := n + 1) (p := p) vp t)) ?_
  exact Eq.trans (forF_step (F := F_p1) (by rfl) (p1_ok c (n := s.length) (p := (s, x)) vs t)) rfl
end
end Dx
/-! The tries of one table, the second and the third paper. -/
namespace Dx
open PySem PySem.Spec PyProof.Rows L2
section
variable {m : Int} {rs : List Rl}
theorem pap2_ok (c : Ct m rs) {n : Int} {b s : Sx} {x : D} {kv0 kvs : List (Sx × Int)} (vb : Vs m b) (vs : Vs m s) (t : KT m kvs) {a0 a6 a8 a9 a10 a11 : Option D} :
    ∃ b9 b11, F_pap2 g_Meeting r_smeeting r_lmeeting [a0, some (tPl m rs), some (tB m rs), some (tab tS D.int kvs), some (tS s), some x, a6, some (tMeet n b kv0), a8, a9, a10, a11] = some (.nx [a0, some (tPl m rs), some (tB m rs), some (tab tS D.int kvs), some (tS s), some x, a6, some (tMeet n b kv0), a8, b9, a10, b11]) := by
  refine ⟨some (.int s.length), some (tS s), ?_⟩
  have e1 : iSeq (fTup (aCons (fTup (aCons (fFld 2 "number" (fV 7)) (aCons (fFld 2 "thing" (fV 7)) aNil))) (aCons (fTup (aCons (f2 gAdd (fFld 2 "number" (fV 7)) (fC (.int 1))) (aCons (fFld 2 "thing" (fV 7)) aNil))) (aCons (fTup (aCons (fCall gLenX (aCons (fV 4) aNil)) (aCons (fV 4) aNil))) aNil)))) [a0, some (tPl m rs), some (tB m rs), some (tab tS D.int kvs), some (tS s), some x, a6, some (tMeet n b kv0), a8, a9, a10, a11] = some [.tup [.int n, tS b], .tup [.int (n + 1), tS b], .tup [.int s.length, tS s]] := by
    have h : fCall gLenX (aCons (fV 4) aNil) [a0, some (tPl m rs), some (tB m rs), some (tab tS D.int kvs), some (tS s), some x, a6, some (tMeet n b kv0), a8, a9, a10, a11] = some (.int s.length) := e_len (s := s) rfl
    refine (s_iSeq (s_fTup (s_aCons (x := .tup [.int n, tS b]) rfl (s_aCons (x := .tup [.int (n + 1), tS b]) rfl (s_aCons (s_fTup (s_aCons h (s_aCons (x := tS s) rfl s_aNil)) (show 2 ≤ 1000 by decide)) s_aNil))) (show 3 ≤ 1000 by decide))).trans rfl
  have e2 : F_pap2 g_Meeting r_smeeting r_lmeeting [a0, some (tPl m rs), some (tB m rs), some (tab tS D.int kvs), some (tS s), some x, a6, some (tMeet n b kv0), a8, a9, a10, a11] = forF (t2 9 11) F_p2 [.tup [.int n, tS b], .tup [.int (n + 1), tS b], .tup [.int s.length, tS s]] [a0, some (tPl m rs), some (tB m rs), some (tab tS D.int kvs), some (tS s), some x, a6, some (tMeet n b kv0), a8, a9, a10, a11] := by
    unfold F_pap2 sFor
    rw [e1]
    rfl
  rw [e2]
  refine Eq.trans (forF_step (F := F_p2) (by rfl) (p2_ok c (n := n) (s := b) vb t)) ?_
  refine Eq.trans (forF_step (F := F_p2) (by rfl) (p2_ok c (n := n + 1) (s := b) vb t)) ?_
  exact Eq.trans (forF_step (F := F_p2) (by rfl) (p2_ok c (n := s.length) (s := s) vs t)) rfl
theorem pap3_ok (c : Ct m rs) {n : Int} {o : Option Sx} {s : Sx} {x : D} {kv0 kvs : List (Sx × (Sx × Int))} (n0 : 0 ≤ n) (vo : ∀ s, o = some s → Vs m s) (vs : Vs m s) (t : KT m kvs) (tv : ∀ q ∈ kvs, Vs m q.2.1) {a0 a6 a7 a9 a10 a11 : Option D} :
    ∃ b9 b11, F_pap3 g_Halves r_shalves r_lhalves [a0, some (tPl m rs), some (tB m rs), some (tab tS tP kvs), some (tS s), some x, a6, a7, some (tHalf n o kv0), a9, a10, a11] = some (.nx [a0, some (tPl m rs), some (tB m rs), some (tab tS tP kvs), some (tS s), some x, a6, a7, some (tHalf n o kv0), b9, a10, b11]) := by
  refine ⟨some (.int (s.length + 1)), some (tS s), ?_⟩
  have e1 : iSeq (fTup (aCons (fTup (aCons (fFld 3 "number" (fV 8)) (aCons (fFld 3 "thing" (fV 8)) aNil))) (aCons (fTup (aCons (f2 gAdd (fFld 3 "number" (fV 8)) (fC (.int 1))) (aCons (fFld 3 "thing" (fV 8)) aNil))) (aCons (fTup (aCons (f2 gAdd (fCall gLenX (aCons (fV 4) aNil)) (fC (.int 1))) (aCons (fV 4) aNil))) aNil)))) [a0, some (tPl m rs), some (tB m rs), some (tab tS tP kvs), some (tS s), some x, a6, a7, some (tHalf n o kv0), a9, a10, a11] = some [.tup [.int n, tO o], .tup [.int (n + 1), tO o], .tup [.int (s.length + 1), tS s]] := by
    have h : fCall gLenX (aCons (fV 4) aNil) [a0, some (tPl m rs), some (tB m rs), some (tab tS tP kvs), some (tS s), some x, a6, a7, some (tHalf n o kv0), a9, a10, a11] = some (.int s.length) := e_len (s := s) rfl
    refine (s_iSeq (s_fTup (s_aCons (x := .tup [.int n, tO o]) rfl (s_aCons (x := .tup [.int (n + 1), tO o]) rfl (s_aCons (s_fTup (s_aCons ((s_f2 (h.trans rfl) rfl).trans rfl) (s_aCons (x := tS s) rfl s_aNil)) (show 2 ≤ 1000 by decide)) s_aNil))) (show 3 ≤ 1000 by decide))).trans rfl
  have e2 : F_pap3 g_Halves r_shalves r_lhalves [a0, some (tPl m rs), some (tB m rs), some (tab tS tP kvs), some (tS s), some x, a6, a7, some (tHalf n o kv0), a9, a10, a11] = forF (t2 9 11) F_p3 [.tup [.int n, tO o], .tup [.int (n + 1), tO o], .tup [.int (s.length + 1), tS s]] [a0, some (tPl m rs), some (tB m rs), some (tab tS tP kvs), some (tS s), some x, a6, a7, some (tHalf n o kv0), a9, a10, a11] := by
    unfold F_pap3 sFor
    rw [e1]
    rfl
  rw [e2]
  refine Eq.trans (forF_step (F := F_p3) (by rfl) (p3_ok c (n := n) (o := o) n0 vo t tv)) ?_
  refine Eq.trans (forF_step (F := F_p3) (by rfl) (p3_ok c (n := n + 1) (o := o) (by omega) vo t tv)) ?_
  exact Eq.trans (forF_step (F := F_p3) (by rfl) (p3_ok c (n := s.length + 1) (o := some s) (by omega) (fun _ e => by cases e; exact vs) t tv)) rfl
end
end Dx
/-! The bent tables, and what one plain book's papers answer. -/
namespace Dx
open PySem PySem.Spec PyProof.Rows L2
/-- a table got from kvs by bending -/
structure Good {α β : Type} (kvs : List (α × β)) (v : β) (t : List (α × β)) : Prop where
  nd : (t.map (·.1)).Nodup
  key : ∀ q ∈ t, ∃ r ∈ kvs, r.1 = q.1
  val : ∀ q ∈ t, (∃ r ∈ kvs, r.2 = q.2) ∨ q.2 = v
section
variable {α β : Type} [DecidableEq α] {ek : α → D} {ev : β → D} {ok : α → Prop} {key : α → NestedKey} (E : KE ek ok key)
include E
theorem bent_tab {kvs : List (α × β)} (h : ∀ q ∈ kvs, ok q.1) (n : (kvs.map (·.1)).Nodup) (hl : kvs.length < 1000) {pl : D} {P : D → Prop} (v : β)
    (hP : ∀ ts : List (List (α × β)), (∀ t ∈ ts, Good kvs v t) → P (.lst (ts.map (tab ek ev)))) : wBentP [pl, tab ek ev kvs, ev v] P := by
  have g1 : Good kvs v kvs := ⟨n, fun q hq => ⟨q, hq, rfl⟩, fun q hq => .inl ⟨q, hq, rfl⟩⟩
  have g2 : Good kvs v kvs.reverse := ⟨by rw [List.map_reverse]; exact (List.reverse_perm _).nodup_iff.mpr n, fun q hq => ⟨q, List.mem_reverse.mp hq, rfl⟩, fun q hq => .inl ⟨q, List.mem_reverse.mp hq, rfl⟩⟩
  have g3 : Good kvs v ([] : List (α × β)) := ⟨.nil, fun q hq => (List.not_mem_nil hq).elim, fun q hq => (List.not_mem_nil hq).elim⟩
  refine ⟨pl, kvsD ek ev kvs, ev v, kvsD ek ev kvs.reverse, rfl, uni_tab E h, by unfold kvsD; rw [List.length_map]; exact hl, gDict_rev E h n, fun _ => ?_, fun _ q1 m1 q2 m2 k1 k2 e1 e2 => ?_⟩
  · exact hP [kvs, kvs.reverse, []] fun t ht => by
      rcases List.mem_cons.mp ht with rfl | ht
      · exact g1
      rcases List.mem_cons.mp ht with rfl | ht
      · exact g2
      rcases List.mem_cons.mp ht with rfl | ht
      · exact g3
      · cases ht
  · obtain ⟨p1, h1, rfl⟩ := List.mem_map.mp m1
    obtain ⟨p2, h2, rfl⟩ := List.mem_map.mp m2
    have e1' : k1 = key p1.1 := by
      have : keyOf (ek p1.1) = some k1 := e1
      rw [E.of _ (h p1 h1)] at this
      exact (Option.some.inj this).symm
    have e2' : k2 = key p2.1 := by
      have : keyOf (ek p2.1) = some k2 := e2
      rw [E.of _ (h p2 h2)] at this
      exact (Option.some.inj this).symm
    rw [e1', e2', dDel_tab E h, dPut_old E h (List.mem_map.mpr ⟨p2, h2, rfl⟩)]
    refine hP [kvs, kvs.reverse, [], kvs.filter fun p => decide (p.1 ≠ p1.1), kvs.map fun p => if p.1 = p2.1 then (p.1, v) else p] fun t ht => ?_
    rcases List.mem_cons.mp ht with rfl | ht
    · exact g1
    rcases List.mem_cons.mp ht with rfl | ht
    · exact g2
    rcases List.mem_cons.mp ht with rfl | ht
    · exact g3
    rcases List.mem_cons.mp ht with rfl | ht
    · exact ⟨n.sublist (List.filter_sublist.map _), fun q hq => ⟨q, (List.mem_filter.mp hq).1, rfl⟩, fun q hq => .inl ⟨q, (List.mem_filter.mp hq).1, rfl⟩⟩
    rcases List.mem_cons.mp ht with rfl | ht
    · refine ⟨?_, fun q hq => ?_, fun q hq => ?_⟩
      · have : (kvs.map fun p => if p.1 = p2.1 then (p.1, v) else p).map (·.1) = kvs.map (·.1) := by
          rw [List.map_map]
          refine List.map_congr_left fun p _ => ?_
          show (if p.1 = p2.1 then (p.1, v) else p).1 = p.1
          split <;> rfl
        rw [this]
        exact n
      · obtain ⟨p, hp, rfl⟩ := List.mem_map.mp hq
        refine ⟨p, hp, ?_⟩
        split <;> rfl
      · obtain ⟨p, hp, rfl⟩ := List.mem_map.mp hq
        by_cases e : p.1 = p2.1
        · right
          rw [if_pos e]
        · left
          refine ⟨p, hp, ?_⟩
          rw [if_neg e]
    · cases ht
end
theorem forW_all {tf : D → En → Option En} {F : En → Option Out} {p : Addr} (I : En → Prop) : ∀ (ds : List D) (δ : En) (P : Out → Prop), I δ → (∀ d ∈ ds, ∀ δ, I δ → ∃ δ1 δ2, tf d δ = some δ1 ∧ F δ1 = some (.nx δ2) ∧ I δ2) → (∀ δ, I δ → P (.nx δ)) → forW tf (wP F) p ds δ P
  | [], δ, P, hI, _, hP => hP δ hI
  | d :: ds, δ, P, hI, h, hP => by
    obtain ⟨δ1, δ2, h1, h2, h3⟩ := h d (List.mem_cons_self ..) δ hI
    exact ⟨δ1, h1, _, h2, forW_all I ds δ2 P h3 (fun d hd => h d (List.mem_cons_of_mem _ hd)) hP⟩
section
variable {m : Int} {rs : List Rl}
theorem Good.ft {kvs t : List ((Sx × Int) × Sx)} {v : Sx} (g : Good kvs v t) (k : FT m kvs) (vv : Vs m v) : FT m t := by
  refine ⟨fun q hq => ?_, fun q hq => ?_, g.nd⟩
  · obtain ⟨r, hr, e⟩ := g.key q hq
    rw [← e]
    exact k.key r hr
  · rcases g.val q hq with ⟨r, hr, e⟩ | e
    · rw [← e]
      exact k.val r hr
    · rw [e]
      exact vv
theorem Good.kt {β : Type} {kvs t : List (Sx × β)} {v : β} (g : Good kvs v t) (k : KT m kvs) : KT m t := by
  refine ⟨fun q hq => ?_, ?_, g.nd⟩
  · obtain ⟨r, hr, e⟩ := g.key q hq
    rw [← e]
    exact k.key r hr
  · obtain ⟨n, h⟩ := k.one
    refine ⟨n, fun q hq => ?_⟩
    obtain ⟨r, hr, e⟩ := g.key q hq
    rw [← e]
    exact h r hr
theorem mtab_len {k : Int} : (mtab m rs k).length < 1000 := by
  unfold mtab
  rw [List.length_map]
  exact Nat.lt_of_le_of_lt due_len (by decide)
theorem htab_len {k : Int} : (htab m rs k).length < 1000 := by
  unfold htab
  rw [List.length_map]
  exact Nat.lt_of_le_of_lt due_len (by decide)
theorem ftab_len (c : Ct m rs) : (ftab m rs).length < 1000 := by
  unfold ftab
  rw [List.length_map]
  exact Nat.lt_of_le_of_lt (prs_len c) (by decide)
theorem hnum_pos : ∀ o : Option Sx, 0 ≤ hnum o
  | none => by decide
  | some s => by
    show (0 : Int) ≤ (s.length : Int) + 1
    omega
end
end Dx
/-! _law_papers_right answers True. -/
namespace Dx
open PySem PySem.Spec PyProof.Rows L2
def PE (p : Addr) (m : Int) (rs : List Rl) (s : Sx) (x : Int) (o1 o2 o3 : D) : En → Prop := fun δ => ∃ b3 b9 b10 b11, δ = [some (.raw (.ref p)), some (tPl m rs), some (tB m rs), b3, some (tS s), some (.int x), some o1, some o2, some o3, b9, b10, b11]
section
variable {m : Int} {rs : List Rl} {p : Addr} {s : Sx} {x : Int} {o1 o2 o3 : D} {δ : En} {P : Out → Prop}
theorem loop1 (c : Ct m rs) {q : (Sx × Int) × Sx} (hq : q ∈ ftab m rs) (vs : Vs m s) (h1 : o1 = tFew q.2.length (q.2, q.1.2) (ftab m rs)) (hI : PE p m rs s x o1 o2 o3 δ) (hP : ∀ δ, PE p m rs s x o1 o2 o3 δ → P (.nx δ)) :
    wFor (wList (wDraw 0 4 wBentP (wCons (wP (fV 1)) (wCons (wP (fCall gDict (aCons (fFld 1 "table" (fV 6)) aNil))) (wCons (wP (fV 4)) wNil))))) (t1 3) (wP (F_pap1 g_Few r_sfew r_lfew)) p δ P := by
  obtain ⟨b3, b9, b10, b11, rfl⟩ := hI
  subst h1
  have t := ftab_ft c
  have p4 := t.p4 c.m4
  refine ⟨rfl, tPl m rs, rfl, tab tP tS (ftab m rs), ?_, tS s, rfl, rfl, bent_tab keP p4 t.nd (ftab_len c) s fun ts hts => ⟨_, rfl, forW_all (PE p m rs s x (tFew q.2.length (q.2, q.1.2) (ftab m rs)) o2 o3) _ _ _ ⟨b3, b9, b10, b11, rfl⟩ (fun d hd δ hI => ?_) hP⟩⟩
  · exact (s_fCall (s_aCons ((s_fFld (c := 1) (fl := [("number", .int q.2.length), ("hard", tP (q.2, q.1.2)), ("table", tab tP tS (ftab m rs))]) rfl).trans rfl) s_aNil)).trans (gDict_tab keP p4)
  · obtain ⟨tt, htt, rfl⟩ := List.mem_map.mp hd
    obtain ⟨b3, b9, b10, b11, rfl⟩ := hI
    obtain ⟨c9, c10, e⟩ := pap1_ok c (n := q.2.length) (p := (q.2, q.1.2)) (kv0 := ftab m rs) (kvs := tt) (s := s) (x := x) (t.val q hq) vs ((hts tt htt).ft t vs) (a0 := some (.raw (.ref p))) (a7 := some o2) (a8 := some o3) (a9 := b9) (a10 := b10) (a11 := b11)
    exact ⟨_, _, rfl, e, some (tab tP tS tt), c9, c10, b11, rfl⟩
theorem loop2 (c : Ct m rs) (vs : Vs m s) (h1 : o2 = tMeet (mb m rs).length (mb m rs) (mtab m rs ((mb m rs).length + 1))) (hI : PE p m rs s x o1 o2 o3 δ) (hP : ∀ δ, PE p m rs s x o1 o2 o3 δ → P (.nx δ)) :
    wFor (wList (wDraw 0 4 wBentP (wCons (wP (fV 1)) (wCons (wP (fCall gDict (aCons (fFld 2 "table" (fV 7)) aNil))) (wCons (wP (fV 5)) wNil))))) (t1 3) (wP (F_pap2 g_Meeting r_smeeting r_lmeeting)) p δ P := by
  obtain ⟨b3, b9, b10, b11, rfl⟩ := hI
  subst h1
  have t := mtab_kt c ((mb m rs).length + 1)
  have a4 := t.a4 c.m4
  refine ⟨rfl, tPl m rs, rfl, tab tS D.int (mtab m rs ((mb m rs).length + 1)), ?_, .int x, rfl, rfl, bent_tab keS a4 t.nd mtab_len x fun ts hts => ⟨_, rfl, forW_all (PE p m rs s x o1 (tMeet (mb m rs).length (mb m rs) (mtab m rs ((mb m rs).length + 1))) o3) _ _ _ ⟨b3, b9, b10, b11, rfl⟩ (fun d hd δ hI => ?_) hP⟩⟩
  · exact (s_fCall (s_aCons ((s_fFld (c := 2) (fl := [("number", .int (mb m rs).length), ("thing", tS (mb m rs)), ("table", tab tS D.int (mtab m rs ((mb m rs).length + 1)))]) rfl).trans rfl) s_aNil)).trans (gDict_tab keS a4)
  · obtain ⟨tt, htt, rfl⟩ := List.mem_map.mp hd
    obtain ⟨b3, b9, b10, b11, rfl⟩ := hI
    obtain ⟨c9, c11, e⟩ := pap2_ok c (n := (mb m rs).length) (b := mb m rs) (kv0 := mtab m rs ((mb m rs).length + 1)) (kvs := tt) (s := s) (x := .int x) (mb_vs c) vs ((hts tt htt).kt t) (a0 := some (.raw (.ref p))) (a6 := some o1) (a8 := some o3) (a9 := b9) (a10 := b10) (a11 := b11)
    exact ⟨_, _, rfl, e, some (tab tS D.int tt), c9, b10, c11, rfl⟩
theorem loop3 (c : Ct m rs) (vs : Vs m s) (h1 : o3 = tHalf (hnum (hb m rs)) (hb m rs) (htab m rs (hnum (hb m rs)))) (hI : PE p m rs s x o1 o2 o3 δ) (hP : ∀ δ, PE p m rs s x o1 o2 o3 δ → P (.nx δ)) :
    wFor (wList (wDraw 0 4 wBentP (wCons (wP (fV 1)) (wCons (wP (fCall gDict (aCons (fFld 3 "table" (fV 8)) aNil))) (wCons (wP (fTup (aCons (fV 4) (aCons (fV 5) aNil)))) wNil))))) (t1 3) (wP (F_pap3 g_Halves r_shalves r_lhalves)) p δ P := by
  obtain ⟨b3, b9, b10, b11, rfl⟩ := hI
  subst h1
  have t := htab_kt c (hnum (hb m rs))
  have a4 := t.a4 c.m4
  refine ⟨rfl, tPl m rs, rfl, tab tS tP (htab m rs (hnum (hb m rs))), ?_, tP (s, x), rfl, rfl, bent_tab keS a4 t.nd htab_len (s, x) fun ts hts => ⟨_, rfl, forW_all (PE p m rs s x o1 o2 (tHalf (hnum (hb m rs)) (hb m rs) (htab m rs (hnum (hb m rs))))) _ _ _ ⟨b3, b9, b10, b11, rfl⟩ (fun d hd δ hI => ?_) hP⟩⟩
  · exact (s_fCall (s_aCons ((s_fFld (c := 3) (fl := [("number", .int (hnum (hb m rs))), ("thing", tO (hb m rs)), ("table", tab tS tP (htab m rs (hnum (hb m rs))))]) rfl).trans rfl) s_aNil)).trans (gDict_tab keS a4)
  · obtain ⟨tt, htt, rfl⟩ := List.mem_map.mp hd
    obtain ⟨b3, b9, b10, b11, rfl⟩ := hI
    have tv : ∀ q ∈ tt, Vs m q.2.1 := fun q hq => by
      rcases (hts tt htt).val q hq with ⟨r, hr, e⟩ | e
      · rw [← e]
        exact (htab_v c r hr).1
      · rw [e]
        exact vs
    obtain ⟨c9, c11, e⟩ := pap3_ok c (n := hnum (hb m rs)) (o := hb m rs) (kv0 := htab m rs (hnum (hb m rs))) (kvs := tt) (s := s) (x := .int x) (hnum_pos _) (fun s e => ((hb_is c).1 s e).1) vs ((hts tt htt).kt t) tv (a0 := some (.raw (.ref p))) (a6 := some o1) (a7 := some o2) (a9 := b9) (a10 := b10) (a11 := b11)
    exact ⟨_, _, rfl, e, some (tab tS tP tt), c9, b10, c11, rfl⟩
theorem par_papers {f : En → Option D} {δ : En} (c : Ct m rs) (e : f δ = some (tB m rs)) : ∃ q ∈ ftab m rs, (∀ r ∈ ftab m rs, r.2.length ≤ q.2.length) ∧ (aCons (fCall (gN 1 r_few) (aCons f aNil)) (aCons (fCall (gN 1 r_meeting) (aCons f aNil)) (aCons (fCall (gN 1 r_halves) (aCons f aNil)) aNil))) δ =
    some [tFew q.2.length (q.2, q.1.2) (ftab m rs), tMeet (mb m rs).length (mb m rs) (mtab m rs ((mb m rs).length + 1)), tHalf (hnum (hb m rs)) (hb m rs) (htab m rs (hnum (hb m rs)))] := by
  obtain ⟨q, hq, e1, hmax⟩ := g_few c
  have k : ∀ {g : List D → Option D} {d : D}, g [tB m rs] = some d → fCall (gN 1 g) (aCons f aNil) δ = some d := fun h => (s_fCall (s_aCons e s_aNil)).trans ((s_gN rfl).trans h)
  exact ⟨q, hq, hmax, s_aCons (k e1) (s_aCons (k (g_meeting c)) (s_aCons (k (g_halves c)) s_aNil))⟩
theorem s_par3 {i j l : Nat} {fs : En → Option (List D)} {δ : En} {x y z : D} (h : fs δ = some [x, y, z]) : sPar3 i j l fs δ = some (.nx (((δ.set i (some x)).set j (some y)).set l (some z))) := by
  unfold sPar3
  rw [h]
  rfl
end
abbrev W_papR : WE Out := W_papers r_halves r_meeting r_few g_Few r_sfew r_lfew g_Meeting r_smeeting r_lmeeting g_Halves r_shalves r_lhalves
def WPap : List D → (D → Prop) → Prop := fun ds P => ∃ m rs, ds = [tPl m rs, tB m rs] ∧ Ct m rs ∧ P (.bl true)
theorem WPap_mn : ∀ ds (P P' : D → Prop), (∀ d, P d → P' d) → WPap ds P → WPap ds P' := fun ds P P' h ⟨m, rs, h1, h2, h3⟩ => ⟨m, rs, h1, h2, h _ h3⟩
theorem papers_hi : ∀ ds P, ds.length + 1 = 3 → WPap ds P → bodyN 12 W_papR ds P := by
  intro ds P hl ⟨m, rs, hds, c, hP⟩ p
  subst hds
  have m1 := c.m1
  have m4 := c.m4
  refine ⟨rfl, .int m, rfl, rfl, m, rfl, by omega, by omega, fun s vs => ⟨rfl, .int m, rfl, rfl, m, rfl, by omega, fun x x0 xm => ⟨tS s, .int x, rfl, ?_⟩⟩⟩
  obtain ⟨q, hq, hmax, e0⟩ := par_papers (f := fV 2) (δ := [some (.raw (.ref p)), some (tPl m rs), some (tB m rs), none, some (tS s), some (.int x), none, none, none, none, none, none]) c rfl
  refine ⟨_, s_par3 (i := 6) (j := 7) (l := 8) e0, ?_⟩
  refine loop1 (o2 := tMeet (mb m rs).length (mb m rs) (mtab m rs ((mb m rs).length + 1))) (o3 := tHalf (hnum (hb m rs)) (hb m rs) (htab m rs (hnum (hb m rs)))) c hq vs rfl ⟨none, none, none, none, rfl⟩ fun δ1 h1 => ?_
  refine loop2 c vs rfl h1 fun δ2 h2 => ?_
  refine loop3 c vs rfl h2 fun δ3 h3 => ?_
  exact ⟨.rt (.bl true), rfl, hP⟩
end Dx
/-! The law answers True. -/
namespace Dx
open PySem PySem.Spec PyProof.Rows L2
def IL (p : Addr) : En → Prop := fun δ => ∃ b2 b3 b4 b5 b6 b7 b8 b9 b10 b11, δ = [none, some (.raw (.ref p)), b2, b3, b4, b5, b6, b7, b8, b9, b10, b11]
section
variable {gm : List D → Option D} (hm : ∀ m rs, Ct m rs → gm [tPl m rs] = some (tB m rs))
include hm
theorem law0_ok {m : Int} {rs : List Rl} (c : Ct m rs) {a0 a1 a2 a4 a5 a6 a7 a8 a9 a10 a11 : Option D} :
    F_law0 r_lsets gm [a0, a1, a2, some (tPl m rs), a4, a5, a6, a7, a8, a9, a10, a11] = some (.nx [a0, a1, a2, some (tPl m rs), a4, some (tB m rs), some (tL (U m)), a7, a8, a9, a10, a11]) := by
  have e1 : fCall (gN 1 gm) (aCons (fV 3) aNil) [a0, a1, a2, some (tPl m rs), a4, a5, a6, a7, a8, a9, a10, a11] = some (tB m rs) := (s_fCall (s_aCons (x := tPl m rs) rfl s_aNil)).trans ((s_gN rfl).trans (hm m rs c))
  have e2 : fCall (gN 1 r_lsets) (aCons (f2 gIxX (fV 3) (fC (.int 0))) aNil) [a0, a1, a2, some (tPl m rs), a4, a5, a6, a7, a8, a9, a10, a11] = some (tL (U m)) := (s_fCall (s_aCons (x := .int m) rfl s_aNil)).trans ((s_gN rfl).trans (g_lsets c.n4))
  have e3 := s_fTup (s_aCons e1 (s_aCons e2 s_aNil)) (show 2 ≤ 1000 by decide)
  unfold F_law0 sAsg
  rw [e3]
  rfl
theorem body_hi {p : Addr} {b2 b3 b4 b5 b6 b7 b8 b9 b10 b11 : Option D} {P : Out → Prop} (hP : ∀ δ, IL p δ → P (.nx δ)) :
    (wSeq (wAsg (wDraw 1 3 wPlain (wCons (wP (fC (.int 4))) (wCons (wP (fC (.int 4))) wNil))) (t1 3)) (wSeq (wP (F_law0 r_lsets gm)) (wSeq (wP (F_law1 r_car r_lpairs r_least)) (wSeq (wP (F_law2 r_helly r_shared)) (wSeq (wP (F_law3 r_canH)) (wSeq (wP (F_law4 r_radon)) (wSeq (wP (F_law5 r_halves r_meeting r_few)) (wSeq (wP (F_law6 r_sfew r_lfew)) (wSeq (wP (F_law7 r_smeeting r_lmeeting)) (wSeq (wP (F_law8 r_shalves r_lhalves)) (wIf (wNot (wB (wDraw 1 3 WPap (wCons (wP (fV 3)) (wCons (wP (fV 5)) wNil))))) (wP (sRet (fC (.bl false)))) (wP sNil)))))))))))) p [none, some (.raw (.ref p)), b2, b3, b4, b5, b6, b7, b8, b9, b10, b11] P := by
  refine ⟨rfl, .int 4, rfl, .int 4, rfl, rfl, rfl, fun m rs m1 m4 hl hv => ?_⟩
  have c : Ct m rs := ⟨m1, m4, hl, hv⟩
  refine ⟨[none, some (.raw (.ref p)), b2, some (tPl m rs), b4, b5, b6, b7, b8, b9, b10, b11], rfl, _, law0_ok hm c, ?_⟩
  refine ⟨_, num_few c, _, num_helly c, _, num_firm c, _, num_radon c, ?_⟩
  obtain ⟨q, hq, hmax, e0⟩ := par_papers (f := fV 5) (δ := [none, some (.raw (.ref p)), b2, some (tPl m rs), some (tI (firm m rs)), some (tB m rs), some (tL (U m)), b7, b8, b9, b10, b11]) c rfl
  refine ⟨_, s_par3 (i := 7) (j := 8) (l := 9) e0, ?_⟩
  have vq : Vs m q.2 := (ftab_ft c).val q hq
  refine ⟨_, num_few_r (n := q.2.length) (p := (q.2, q.1.2)) c vq (ftab_ft c) (few_right c hq hmax), ?_⟩
  refine ⟨_, num_meet_r (n := (mb m rs).length) c (mb_vs c) (mtab_kt c _) (meet_right c), ?_⟩
  refine ⟨_, num_half_r (n := hnum (hb m rs)) (o := hb m rs) c (hnum_pos _) (fun s e => ((hb_is c).1 s e).1) (htab_kt c _) (fun q hq => (htab_v c q hq).1) (half_right c), ?_⟩
  refine ⟨rfl, tPl m rs, rfl, tB m rs, rfl, rfl, m, rs, rfl, c, true, rfl, ?_⟩
  show (if (!true) = true then _ else _)
  rw [if_neg (by decide)]
  exact ⟨_, rfl, hP _ ⟨_, _, _, _, _, _, _, _, _, _, rfl⟩⟩
abbrev W_lawR (gm : List D → Option D) : WE Out := W_law r_lsets gm r_car r_lpairs r_least r_helly r_shared r_canH r_radon r_halves r_meeting r_few r_sfew r_lfew r_smeeting r_lmeeting r_shalves r_lhalves WPap
theorem law_hi (p : Addr) : W_lawR gm p (lawEn p) fun o => o = .rt (.bl true) := by
  refine ⟨[.int 0, .int 1], rfl, ?_⟩
  refine ⟨_, rfl, body_hi hm fun δ1 h1 => ?_⟩
  obtain ⟨b2, b3, b4, b5, b6, b7, b8, b9, b10, b11, rfl⟩ := h1
  refine ⟨_, rfl, body_hi hm fun δ2 h2 => ?_⟩
  exact ⟨_, rfl, rfl⟩
end
end Dx
/-! Book(marks, rules) of a valid book, and _law_made. -/
namespace Dx
open PySem PySem.Spec PyProof.Rows L2
def okB (m : Int) (rs : List Rl) : Bool := (N4.contains m && decide (rs.length ≤ 4)) && rs.all fun r => (U m).contains r.1 && (U m).contains r.2
theorem k_is_rule : (N4.all fun m => (U m).all fun a => (U m).all fun b => ((r_is_rule [.int m, tR (a, b)]).bind decB) == some true) = true := by kernel_rfl
theorem book1_ok (m : Int) (rs : List Rl) (x : V) (h : okB m rs = true) : F_book1 r_is_integer (bkEn (.int m) (tRs rs) x) = some (.nx (bkEn (.int m) (tRs rs) x)) := by
  unfold okB at h
  rw [Bool.and_eq_true, Bool.and_eq_true] at h
  have hm : m = 1 ∨ m = 2 ∨ m = 3 ∨ m = 4 := by simpa [N4] using h.1.1
  rcases hm with rfl | rfl | rfl | rfl <;> rfl
theorem book2_ok (m : Int) (rs : List Rl) (x : V) (h : okB m rs = true) : F_book2 r_is_rule (bkEn (.int m) (tRs rs) x) = some (.nx (bkEn (.int m) (tRs rs) x)) := by
  unfold okB at h
  rw [Bool.and_eq_true, Bool.and_eq_true, List.all_eq_true, decide_eq_true_eq] at h
  have hN : m ∈ N4 := by simpa using h.1.1
  have hlen : (rs.map tR).length = rs.length := List.length_map ..
  have e1 : fB (fIsi .tuple (fV 2)) (bkEn (.int m) (tRs rs) x) = some true := rfl
  have e2 : fB (f2 gGt (fCall gLenX (aCons (fV 2) aNil)) (fC (.int 16))) (bkEn (.int m) (tRs rs) x) = some false := by
    refine s_fB (b := false) ((s_f2 (x := .int rs.length) (y := .int 16) ((s_fCall (s_aCons (x := tRs rs) rfl s_aNil)).trans ?_) rfl).trans ?_)
    · show some (D.int ((rs.map tR).length : Int)) = _
      rw [hlen]
    · show some (D.bl (decide ((16 : Int) < (rs.length : Int)))) = _
      rw [decide_eq_false (by omega)]
  have e3 : fB (fCall gAll (aCons (fLc [3] (iSeq (fV 2)) (t1 3) bYes (fCall (gN 2 r_is_rule) (aCons (fV 1) (aCons (fV 3) aNil)))) aNil)) (bkEn (.int m) (tRs rs) x) = some true := by
    refine s_fB (b := true) ((s_fCall (s_aCons (x := .lst (rs.map fun _ => .bl true)) (s_fLc (ds := rs.map tR) rfl (lc_all tR (fun r => [some (.raw x), some (.int m), some (tRs rs), some (tR r)]) (fun _ => .bl true) rs (fun r _ => rfl) (fun r hr => ?_))) s_aNil)).trans ((gAll_map (fun _ => true) rs).trans (by simp)))
    have hr2 := h.2 r hr
    rw [Bool.and_eq_true] at hr2
    have := all1 (all1 (all1 k_is_rule hN) (a := r.1) (by simpa using hr2.1)) (a := r.2) (by simpa using hr2.2)
    exact (s_fCall (s_aCons (x := .int m) rfl (s_aCons (x := tR r) rfl s_aNil))).trans ((s_gN rfl).trans (of_decB this))
  exact (s_sIf (e_or (e_not e1) (e_or e2 (e_not e3)))).trans rfl
abbrev r_made : List D → Option D := bodyG 1 (F__law_made (g_Book okB))
theorem okB_ct {m : Int} {rs : List Rl} (c : Ct m rs) : okB m rs = true := by
  unfold okB
  rw [Bool.and_eq_true, Bool.and_eq_true, List.all_eq_true, decide_eq_true_eq]
  refine ⟨⟨by simpa using c.n4, c.len⟩, fun r hr => ?_⟩
  rw [Bool.and_eq_true]
  exact ⟨U_con c.m4 (c.v r hr).1, U_con c.m4 (c.v r hr).2⟩
theorem g_made (m : Int) (rs : List Rl) (c : Ct m rs) : r_made [tPl m rs] = some (tB m rs) := by
  refine s_body (s_sRet (s_fMake (ds := [.int m, tRs rs]) (fl := [("marks", .int m), ("rules", tRs rs)]) rfl rfl ?_))
  have e0 : g_Book okB [.int m, tRs rs] = (decRs (tRs rs)).bind fun rs' => if okB m rs' = true then some [(("marks" : Str), D.int m), (("rules" : Str), tRs rs)] else none := rfl
  have e1 : decRs (tRs rs) = some rs := decRs1_t rs
  rw [e0, e1]
  exact if_pos (okB_ct c)
theorem law_at (p : Addr) : W_lawR r_made p (lawEn p) fun o => o = .rt (.bl true) := law_hi g_made p
end Dx
/-! Printed by gen3.py: all defs at their places, and the law's promise kept. -/
namespace Dx
open PySem PySem.Spec PyProof.Rows L2
structure AllAt (K : PySem.W.Frag) (mg : Str → Option Value) (M : Mm) : Prop where
  is_integer : At K mg "is_integer" (top 8) ["thing", "low", "high"]
  is_set : At K mg "is_set" (top 9) ["marks", "thing"]
  is_rule : At K mg "is_rule" (top 10) ["marks", "thing"]
  is_within : At K mg "is_within" (top 11) ["one", "other"]
  meet : At K mg "meet" (top 12) ["one", "other"]
  sets_of : At K mg "sets_of" (top 14) ["marks"]
  root_for : At K mg "root_for" (top 20) ["book", "thing", "mark"]
  without : At K mg "without" (top 21) ["thing", "mark"]
  common_without : At K mg "common_without" (top 22) ["book", "thing"]
  halves_of : At K mg "halves_of" (top 23) ["thing"]
  rest_of : At K mg "rest_of" (top 24) ["thing", "half"]
  common_halves : At K mg "common_halves" (top 25) ["book", "thing", "half"]
  is_apart : At K mg "is_apart" (top 26) ["book", "thing"]
  pairs_of : At K mg "pairs_of" (top 28) ["book"]
  M2_shows : AtM K (M.cl 2) "shows" "Meeting.shows" (inClass (top 29) 3) ["self", "book"]
  M3_does_halve : AtM K (M.cl 3) "does_halve" "Halves.does_halve" (inClass (top 30) 4) ["self", "book", "thing"]
  few : At K mg "few" (top 31) ["book"]
  meeting : At K mg "meeting" (top 32) ["book"]
  half_for : At K mg "half_for" (top 33) ["book", "thing"]
  halves : At K mg "halves" (top 34) ["book"]
  caratheodory : At K mg "caratheodory" (top 35) ["book"]
  helly : At K mg "helly" (top 36) ["book"]
  radon : At K mg "radon" (top 37) ["book"]
  _law_cell_at : At K mg "_law_cell_at" (top 39) ["_law_script", "_law_k"]
  _law_draw : At K mg "_law_draw" (top 40) ["_law_cell", "_law_k", "_law_bound"]
  _law_number : At K mg "_law_number" (top 41) ["_law_cell", "_law_k", "_law_bound"]
  _law_sets : At K mg "_law_sets" (top 44) ["_law_marks"]
  _law_within : At K mg "_law_within" (top 45) ["_law_one", "_law_other"]
  _law_closure : At K mg "_law_closure" (top 46) ["_law_plain_here", "_law_thing"]
  _law_made : At K mg "_law_made" (top 50) ["_law_plain_here"]
  _law_meet : At K mg "_law_meet" (top 51) ["_law_one", "_law_other"]
  _law_less : At K mg "_law_less" (top 52) ["_law_thing", "_law_mark"]
  _law_parts : At K mg "_law_parts" (top 53) ["_law_thing"]
  _law_pairs : At K mg "_law_pairs" (top 54) ["_law_plain_here"]
  _law_least : At K mg "_law_least" (top 55) ["_law_plain_here", "_law_pair"]
  _law_shared : At K mg "_law_shared" (top 56) ["_law_plain_here", "_law_thing"]
  _law_common : At K mg "_law_common" (top 57) ["_law_plain_here", "_law_thing", "_law_half"]
  _law_can_halve : At K mg "_law_can_halve" (top 58) ["_law_plain_here", "_law_thing"]
  _law_is_few : At K mg "_law_is_few" (top 59) ["_law_plain_here", "_law_number_here", "_law_hard", "_law_table"]
  _law_is_meeting : At K mg "_law_is_meeting" (top 60) ["_law_plain_here", "_law_number_here", "_law_thing", "_law_table"]
  _law_is_halves : At K mg "_law_is_halves" (top 61) ["_law_plain_here", "_law_number_here", "_law_thing", "_law_table"]
  M1_shows : AtM K (M.cl 1) "shows" "Few.shows" (inClass (top 27) 3) ["self", "book"]
  M3_shows : AtM K (M.cl 3) "shows" "Halves.shows" (inClass (top 30) 3) ["self", "book"]
  closure : At K mg "closure" (top 15) ["rules", "thing"]
  check_book : At K mg "check_book" (top 17) ["thing"]
  I_Few : AtI K mg (M.cl 1) "Few" "Few.__init__" (inClass (top 27) 0) ["self", "number", "hard", "table"]
  I_Meeting : AtI K mg (M.cl 2) "Meeting" "Meeting.__init__" (inClass (top 29) 0) ["self", "number", "thing", "table"]
  I_Halves : AtI K mg (M.cl 3) "Halves" "Halves.__init__" (inClass (top 30) 0) ["self", "number", "thing", "table"]
  I_Book : AtI K mg (M.cl 0) "Book" "Book.__init__" (inClass (top 16) 1) ["self", "marks", "rules"]
  N__law_next : At K mg "_law_next" (top 42) ["_law_draw_here", "_law_bound"]
  N__law_pick : At K mg "_law_pick" (top 43) ["_law_draw_here", "_law_things"]
  N__law_set : At K mg "_law_set" (top 47) ["_law_draw_here", "_law_marks"]
  N__law_rule : At K mg "_law_rule" (top 48) ["_law_draw_here", "_law_marks"]
  N__law_plain : At K mg "_law_plain" (top 49) ["_law_draw_here", "_law_most", "_law_many"]
  N__law_bent : At K mg "_law_bent" (top 62) ["_law_draw_here", "_law_plain_here", "_law_table", "_law_odd"]
  N__law_papers_right : At K mg "_law_papers_right" (top 63) ["_law_draw_here", "_law_plain_here", "_law_book"]
theorem law_all {P : Program} {w : World} {K : PySem.W.Frag} {mg : Str → Option Value} {base : Heap} {M : Mm} (T : Tx K mg M) (B : Tb K M) (A : AllAt K mg M) (D_in_order : AtC K mg base M "in_order" (top 13) ["sets"]) (D_parts_within : AtC K mg base M "parts_within" (top 19) ["thing"]) {a : Addr} {fd : FuncData} (F : Fun K "law" "law" (top 64) a fd) : FnOk P w K mg base CX0 7 a fd ["_law_script"] (spLaw ⟨P, w, K, M.cl, M.T⟩) := by
  have C__law_sets := raw__law_sets (P := P) (w := w) (base := base) T A._law_sets
  have C_is_integer := raw_is_integer (P := P) (w := w) (base := base) T A.is_integer
  have C_is_set := raw_is_set (P := P) (w := w) (base := base) T A.is_set C_is_integer
  have C_is_rule := raw_is_rule (P := P) (w := w) (base := base) T A.is_rule C_is_set
  have C_I_Book := raw_Book (P := P) (w := w) (base := base) T A.I_Book C_is_integer C_is_rule book1_ok book2_ok
  have C__law_made := raw__law_made (P := P) (w := w) (base := base) T A._law_made C_I_Book
  have C_check_book := raw_check_book (P := P) (w := w) (base := base) T B A.check_book
  have C_in_order := raw_in_order (P := P) (w := w) (base := base) T D_in_order
  have C_sets_of := raw_sets_of (P := P) (w := w) (base := base) T A.sets_of C_in_order
  have C_is_within := raw_is_within (P := P) (w := w) (base := base) T A.is_within
  have C_closure := raw_closure (P := P) (w := w) (base := base) ev_is_withinK T A.closure C_is_within
  have C_pairs_of := raw_pairs_of (P := P) (w := w) (base := base) T A.pairs_of C_sets_of C_closure
  have C_parts_within := raw_parts_within (P := P) (w := w) (base := base) T D_parts_within
  have C_root_for := raw_root_for (P := P) (w := w) (base := base) T A.root_for C_parts_within C_closure
  have C_I_Few := raw_Few (P := P) (w := w) (base := base) T A.I_Few
  have C_few := raw_few (P := P) (w := w) (base := base) T A.few C_check_book C_pairs_of C_root_for C_I_Few
  have C_caratheodory := raw_caratheodory (P := P) (w := w) (base := base) T A.caratheodory C_few
  have C__law_within := raw__law_within (P := P) (w := w) (base := base) T A._law_within
  have C__law_closure := raw__law_closure (P := P) (w := w) (base := base) T A._law_closure C__law_within
  have C__law_pairs := raw__law_pairs (P := P) (w := w) (base := base) T A._law_pairs C__law_sets C__law_closure
  have C__law_parts := raw__law_parts (P := P) (w := w) (base := base) T A._law_parts C__law_sets C__law_within
  have C__law_least := raw__law_least (P := P) (w := w) (base := base) T A._law_least C__law_parts C__law_closure
  have C_without := raw_without (P := P) (w := w) (base := base) T A.without
  have C_meet := raw_meet (P := P) (w := w) (base := base) T A.meet
  have C_common_without := raw_common_without (P := P) (w := w) (base := base) T A.common_without C_without C_closure C_meet
  have C_I_Meeting := raw_Meeting (P := P) (w := w) (base := base) T A.I_Meeting
  have C_meeting := raw_meeting (P := P) (w := w) (base := base) T A.meeting C_check_book C_sets_of C_common_without C_I_Meeting
  have C_helly := raw_helly (P := P) (w := w) (base := base) T A.helly C_meeting
  have C__law_less := raw__law_less (P := P) (w := w) (base := base) T A._law_less
  have C__law_shared := raw__law_shared (P := P) (w := w) (base := base) T A._law_shared C__law_less C__law_closure
  have C__law_meet := raw__law_meet (P := P) (w := w) (base := base) T A._law_meet
  have C__law_common := raw__law_common (P := P) (w := w) (base := base) T A._law_common C__law_closure C__law_meet
  have C__law_can_halve := raw__law_can_halve (P := P) (w := w) (base := base) T A._law_can_halve C__law_parts C__law_common
  have C_halves_of := raw_halves_of (P := P) (w := w) (base := base) T A.halves_of C_parts_within
  have C_rest_of := raw_rest_of (P := P) (w := w) (base := base) T A.rest_of
  have C_common_halves := raw_common_halves (P := P) (w := w) (base := base) T A.common_halves C_rest_of C_closure C_meet
  have C_is_apart := raw_is_apart (P := P) (w := w) (base := base) T A.is_apart C_halves_of C_common_halves
  have C_half_for := raw_half_for (P := P) (w := w) (base := base) T A.half_for C_halves_of C_common_halves
  have C_I_Halves := raw_Halves (P := P) (w := w) (base := base) T A.I_Halves
  have C_halves := raw_halves (P := P) (w := w) (base := base) T A.halves C_check_book C_sets_of C_is_apart C_half_for C_I_Halves
  have C_radon := raw_radon (P := P) (w := w) (base := base) T A.radon C_halves
  have C_M1_shows := raw_Few_shows (P := P) (w := w) (base := base) T A.M1_shows C_check_book C_is_set C_closure C_without C_pairs_of C_is_within
  have C__law_is_few := raw__law_is_few (P := P) (w := w) (base := base) T A._law_is_few C__law_sets C__law_closure C__law_less C__law_pairs C__law_parts
  have C_M2_shows := raw_Meeting_shows (P := P) (w := w) (base := base) T A.M2_shows C_check_book C_is_set C_common_without C_sets_of
  have C__law_is_meeting := raw__law_is_meeting (P := P) (w := w) (base := base) T A._law_is_meeting C__law_sets C__law_shared
  have C_M3_does_halve := raw_Halves_does_halve (P := P) (w := w) (base := base) T A.M3_does_halve C_is_set C_is_within C_common_halves
  have C_M3_shows := raw_Halves_shows (P := P) (w := w) (base := base) T A.M3_shows C_check_book C_is_set C_is_apart C_sets_of C_M3_does_halve
  have C__law_is_halves := raw__law_is_halves (P := P) (w := w) (base := base) T A._law_is_halves C__law_sets C__law_can_halve C__law_parts C__law_common
  have C__law_cell_at := raw__law_cell_at (P := P) (w := w) (base := base) T A._law_cell_at
  have C__law_draw := raw__law_draw (P := P) (w := w) (base := base) T A._law_draw
  have C__law_number := raw__law_number (P := P) (w := w) (base := base) T A._law_number C__law_draw
  have C_N__law_next := raw_next (P := P) (w := w) (base := base) T A.N__law_next C__law_cell_at C__law_number ev_cell_at (fun c k b h1 h2 hb => ev_number (fun x k hx h1 h2 => ev_draw x k hx h1 h2) c k b h1 h2 hb)
  have C_N__law_set := raw_set (P := P) (w := w) (base := base) T A.N__law_set C_N__law_next
  have C_N__law_rule := raw_rule (P := P) (w := w) (base := base) T A.N__law_rule C_N__law_set
  have C_N__law_plain := raw_plain (P := P) (w := w) (base := base) T A.N__law_plain C_N__law_next C_N__law_rule
  have C_N__law_pick := raw_pick (P := P) (w := w) (base := base) T A.N__law_pick C_N__law_next
  have C_N__law_bent := raw_bent (P := P) (w := w) (base := base) T A.N__law_bent C_N__law_pick
  have C_N__law_papers_right := raw_papers (P := P) (w := w) (base := base) T A.N__law_papers_right C_halves C_meeting C_few C_I_Few C_M1_shows C__law_is_few C_I_Meeting C_M2_shows C__law_is_meeting C_I_Halves C_M3_shows C__law_is_halves C_N__law_set C_N__law_next C_N__law_bent WPap_mn papers_hi
  exact law_ok (M := M) F (fun f cdv A1 outer s H E hr => raw_lawBody (P := P) (w := w) (base := base) T C__law_sets C__law_made C_caratheodory C__law_pairs C__law_least C_helly C__law_shared C__law_can_halve C_radon C_halves C_meeting C_few C_M1_shows C__law_is_few C_M2_shows C__law_is_meeting C_M3_shows C__law_is_halves C_N__law_plain C_N__law_papers_right f cdv A1 outer s H E hr) law_at
end Dx
/-! The end: what the top has written, and the law's row. -/
namespace Dx
open PySem PySem.Spec PyProof.Rows L2
theorem use {p q : Prop} (h : p) (k : p → q) : q := k h
section
variable {K : PySem.W.Frag} {h : Heap} {mg : Str → Option Value}
theorem at_mk {x : Str} {st : Stmt} {ps : List Str} {f : Addr} {oc : Value} {od an : Option Addr} {osl : Array (Option Value)} {kV doc pm cdv ct : Value} (X : K.In h) (G : h.Ns mainGlobals mg) (a : PySem.W.nsIn K mainGlobals x = some (some (.ref f)))
    (l : K.lookup f = some ⟨oc, od, .func (PySem.W.fnOf x x (defArgs st) (defBody st) (defScope st) .none kV doc pm an cdv ct), osl⟩) (c : PySem.W.codeIn K cdv x = true) (k : PySem.W.keepIn K (.ref f) = true)
    (b : ∀ (kV doc pm : Value) (an : Option Addr) (cdv ct : Value) (us : List Value), us.length = ps.length → bindArgs (PySem.W.fnOf x x (defArgs st) (defBody st) (defScope st) .none kV doc pm an cdv ct) ⟨us, []⟩ = pure (ps.zip us)) : At K mg x st ps :=
  ⟨_, _, fun_mk l c k, PySem.W.mg_of X G a, (fun_mk l c k).binds b⟩
theorem atI_mk {x qual : Str} {st : Stmt} {ps : List Str} {f C : Addr} {oc : Value} {od an : Option Addr} {osl : Array (Option Value)} {kV doc pm cdv ct : Value} (X : K.In h) (G : h.Ns mainGlobals mg) (a : PySem.W.nsIn K mainGlobals x = some (some (.ref C)))
    (a1 : PySem.W.findIn K (.ref C) "__init__" = some (some (.ref f))) (i : PySem.W.isFn K (.ref f) = true)
    (l : K.lookup f = some ⟨oc, od, .func (PySem.W.fnOf "__init__" qual (defArgs st) (defBody st) (defScope st) .none kV doc pm an cdv ct), osl⟩) (c : PySem.W.codeIn K cdv qual = true) (k : PySem.W.keepIn K (.ref f) = true)
    (mk : PySem.W.makesIn K C = true) (kc : PySem.W.keepIn K (.ref C) = true)
    (b : ∀ (kV doc pm : Value) (an : Option Addr) (cdv ct : Value) (us : List Value), us.length = ps.length → bindArgs (PySem.W.fnOf "__init__" qual (defArgs st) (defBody st) (defScope st) .none kV doc pm an cdv ct) ⟨us, []⟩ = pure (ps.zip us)) : AtI K mg C x qual st ps :=
  ⟨_, _, fun_mk l c k, PySem.W.mg_of X G a, ⟨mk, a1, i, kc⟩, (fun_mk l c k).binds b⟩
theorem atM_of {m x q0 qual : Str} {s0 st : Stmt} {p0 ps : List Str} {f C : Addr} {oc : Value} {od an : Option Addr} {osl : Array (Option Value)} {kV doc pm cdv ct : Value} (_ : AtI K mg C x q0 s0 p0) (X : K.In h)
    (a1 : PySem.W.findIn K (.ref C) m = some (some (.ref f))) (i : PySem.W.isFn K (.ref f) = true)
    (l : K.lookup f = some ⟨oc, od, .func (PySem.W.fnOf m qual (defArgs st) (defBody st) (defScope st) .none kV doc pm an cdv ct), osl⟩) (c : PySem.W.codeIn K cdv qual = true) (k : PySem.W.keepIn K (.ref f) = true)
    (b : ∀ (kV doc pm : Value) (an : Option Addr) (cdv ct : Value) (us : List Value), us.length = ps.length → bindArgs (PySem.W.fnOf m qual (defArgs st) (defBody st) (defScope st) .none kV doc pm an cdv ct) ⟨us, []⟩ = pure (ps.zip us)) : AtM K C m qual st ps :=
  ⟨_, _, fun_mk l c k, ⟨a1, i, k⟩, (fun_mk l c k).binds b⟩
/-- a def whose code object is at c -/
structure AtD (K : PySem.W.Frag) (mg : Str → Option Value) (c : Addr) (x : Str) (st : Stmt) (ps : List Str) : Prop where
  ex : ∃ (a : Addr) (oc kV doc pm ct : Value) (od an : Option Addr) (osl : Array (Option Value)), K.lookup a = some ⟨oc, od, .func (PySem.W.fnOf x x (defArgs st) (defBody st) (defScope st) .none kV doc pm an (.ref c) ct), osl⟩ ∧ PySem.W.codeIn K (.ref c) x = true ∧ PySem.W.keepIn K (.ref a) = true ∧
    mg x = some (.ref a) ∧ L2.Binds K (PySem.W.fnOf x x (defArgs st) (defBody st) (defScope st) .none kV doc pm an (.ref c) ct) ps []
theorem atD_mk {x : Str} {st : Stmt} {ps : List Str} {f cd : Addr} {oc : Value} {od an : Option Addr} {osl : Array (Option Value)} {kV doc pm ct : Value} (X : K.In h) (G : h.Ns mainGlobals mg) (a : PySem.W.nsIn K mainGlobals x = some (some (.ref f)))
    (l : K.lookup f = some ⟨oc, od, .func (PySem.W.fnOf x x (defArgs st) (defBody st) (defScope st) .none kV doc pm an (.ref cd) ct), osl⟩) (c : PySem.W.codeIn K (.ref cd) x = true) (k : PySem.W.keepIn K (.ref f) = true)
    (b : ∀ (kV doc pm : Value) (an : Option Addr) (cdv ct : Value) (us : List Value), us.length = ps.length → bindArgs (PySem.W.fnOf x x (defArgs st) (defBody st) (defScope st) .none kV doc pm an cdv ct) ⟨us, []⟩ = pure (ps.zip us)) : AtD K mg cd x st ps :=
  ⟨f, oc, kV, doc, pm, ct, od, an, osl, l, c, k, PySem.W.mg_of X G a, (fun_mk l c k).binds b⟩
theorem int_mk {n : Str} {i : Int} {t : Tok} (X : K.In h) (G : h.Ns mainGlobals mg) (a : PySem.W.nsIn K mainGlobals n = some (some (.int i t))) : ∃ t, mg n = some (.int i t) := ⟨t, PySem.W.mg_of X G a⟩
section
variable {x qual : Str} {st : Stmt} {ps : List Str} {C : Addr}
theorem scls_of (_ : AtI K mg C x qual st ps) (pg : PySem.W.plainGet K C Str.empty = true) (ic : PySem.W.isClsIn K C = true) (po : PySem.W.plainOver K C = true) (sa : PySem.W.findIn K (.ref C) "__setattr__" = some (some (.builtin "object.__setattr__"))) : SlX.SCls K C := ⟨pg, ic, po, sa⟩
theorem slot_of (_ : AtI K mg C x qual st ps) {f : Str} {p : Addr} {i : Nat} (a : PySem.W.findIn K (.ref C) f = some (some (.ref p))) (b : PySem.W.specialIn K (.ref p) "__get__" = some (some (.builtin "member_descriptor.__get__"))) (c : PySem.W.takesIn K (.ref p) = some true) (d : PySem.W.typeIn K (.ref p) = some (.type "member_descriptor")) (e : PySem.W.slotIn K p C = some i) (l : i < 1000) : ∃ p, SlX.Slot1 K C f p i := ⟨p, a, b, c, d, e, l⟩
theorem sisi_of (_ : AtI K mg C x qual st ps) (a : PySem.W.findIn K (.ref C) "__class__" = some (some (.builtin "object.__class__"))) (b : PySem.W.specialIn K (.builtin "object.__class__") "__get__" = some (some (.builtin "getset_descriptor.__get__"))) (c : PySem.W.takesIn K (.builtin "object.__class__") = some true) (d : PySem.W.mroIn K C (.type "object") = some true) : SlX.SIsi K C := ⟨a, b, c, d⟩
theorem cls_of (_ : AtI K mg C x qual st ps) (pg : PySem.W.plainGet K C Str.empty = true) (hd : PySem.W.hasDictIn K C = true) (po : PySem.W.plainOver K C = true) (sa : PySem.W.findIn K (.ref C) "__setattr__" = some (some (.builtin "object.__setattr__"))) : Cls K C := ⟨pg, hd, po, sa⟩
theorem bookN_of (A : AtI K mg C x qual st ps) : mg x = some (.ref C) := by
  obtain ⟨_, _, _, e, _⟩ := A.ex
  exact e
theorem no_of (_ : AtI K mg C x qual st ps) {f : Str} (a : PySem.W.findIn K (.ref C) f = some none) : NoAttr K C f := a
end
theorem fun_of {x : Str} {st : Stmt} {f : Addr} {oc : Value} {od an : Option Addr} {osl : Array (Option Value)} {kV doc pm cdv ct : Value} (X : K.In h) (G : h.Ns mainGlobals mg) (a : PySem.W.nsIn K mainGlobals x = some (some (.ref f)))
    (l : K.lookup f = some ⟨oc, od, .func (PySem.W.fnOf x x (defArgs st) (defBody st) (defScope st) .none kV doc pm an cdv ct), osl⟩) (c : PySem.W.codeIn K cdv x = true) (k : PySem.W.keepIn K (.ref f) = true) :
    mg x = some (.ref f) ∧ Fun K x x st f (PySem.W.fnOf x x (defArgs st) (defBody st) (defScope st) .none kV doc pm an cdv ct) := ⟨PySem.W.mg_of X G a, fun_mk l c k⟩
end
def mm (C0 C1 C2 C3 : Addr) (T : List (Addr × Str)) : Mm := ⟨fun n => match n with | 0 => C0 | 1 => C1 | 2 => C2 | _ => C3, T⟩
def lamQ (x : Str) (st : Stmt) (c : Addr) : Str := (envOfC x (defScope st) 0 0 (.ref c)).qual ++ ("<lambda>" : Str)
theorem atC_of {K : PySem.W.Frag} {mg : Str → Option Value} {base : Heap} {M : Mm} {x : Str} {st : Stmt} {ps : List Str} {c Pt : Addr} (A : AtD K mg c x st ps) (TB : LamX.TabB base mg c Pt) (m : (Pt, lamQ x st c) ∈ M.T) (u : ∀ q ∈ M.T, q.1 = Pt → q.2 = lamQ x st c) : AtC K mg base M x st ps := by
  obtain ⟨a, oc, kV, doc, pm, ct, od, an, osl, h1, h2, h3, h4, h5⟩ := A.ex
  exact ⟨a, c, Pt, oc, kV, doc, pm, ct, od, an, osl, h1, h2, h3, h4, h5, TB, m, u⟩
theorem ends {l : PySem.W.OpenLaw} {w : World} {K : PySem.W.Frag} {h : Heap} {mg : Str → Option Value} {fa f C0 C1 C2 C3 c1 c2 P1 P2 : Addr} {kV doc pm cdv ct : Value} {an : Option Addr} (X : K.In h) (hfa : mg "law" = some (.ref fa))
    (T : Tx K mg (mm C0 C1 C2 C3 [(P1, lamQ "in_order" (top 13) c1), (P2, lamQ "parts_within" (top 19) c2)])) (B : Tb K (mm C0 C1 C2 C3 [(P1, lamQ "in_order" (top 13) c1), (P2, lamQ "parts_within" (top 19) c2)]))
    (A : AllAt K mg (mm C0 C1 C2 C3 [(P1, lamQ "in_order" (top 13) c1), (P2, lamQ "parts_within" (top 19) c2)]))
    (D1 : AtD K mg c1 "in_order" (top 13) ["sets"]) (D2 : AtD K mg c2 "parts_within" (top 19) ["thing"]) (hP : P1 ≠ P2) (t1 : h.get? P1 = some { cls := .none, data := .fields #[] }) (t2 : h.get? P2 = some { cls := .none, data := .fields #[] })
    (n1 : K.lookup P1 = none) (n2 : K.lookup P2 = none) (k1 : PySem.W.codeHdIn K c1 P1 = true) (k2 : PySem.W.codeHdIn K c2 P2 = true)
    (L : mg "law" = some (.ref f) ∧ Fun K "law" "law" (top 64) f (PySem.W.fnOf "law" "law" (defArgs (top 64)) (defBody (top 64)) (defScope (top 64)) .none kV doc pm an cdv ct)) : LamX.LawAtS l w K CX0 7 63 "_law_script" mg fa h := by
  obtain ⟨Lm, LF⟩ := L
  have e : fa = f := by
    rw [Lm] at hfa
    cases hfa
    rfl
  subst e
  have two : ∀ {p : Addr × Addr} {Q : Addr × Addr → Prop}, p ∈ [(c1, P1), (c2, P2)] → Q (c1, P1) → Q (c2, P2) → Q p := fun hp h1 h2 => by
    rcases List.mem_cons.mp hp with rfl | hp
    · exact h1
    rcases List.mem_cons.mp hp with rfl | hp
    · exact h2
    · cases hp
  refine ⟨PySem.W.fnOf "law" "law" (defArgs (top 64)) (defBody (top 64)) (defScope (top 64)) .none kV doc pm an cdv ct, [(c1, P1), (c2, P2)], spLaw ⟨l.prog, w, K, (mm C0 C1 C2 C3 [(P1, lamQ "in_order" (top 13) c1), (P2, lamQ "parts_within" (top 19) c2)]).cl, (mm C0 C1 C2 C3 [(P1, lamQ "in_order" (top 13) c1), (P2, lamQ "parts_within" (top 19) c2)]).T⟩,
    fun p hp => two (Q := fun p => h.get? p.2 = _) hp t1 t2, fun p hp => two (Q := fun p => K.lookup p.2 = none) hp n1 n2, fun p hp => two (Q := fun p => PySem.W.CodeHd h p.1 p.2) hp (PySem.W.codeHd_of_K X k1) (PySem.W.codeHd_of_K X k2),
    fun s u => .of_eq rfl, fun H a ns hl _ hT hS => ⟨a, ns, rfl, fun p hp => ?_, hS, by omega, fun _ => rfl⟩, fun base hK hN hTB => law_all T B A (atC_of (Pt := P1) D1 (hTB (c1, P1) (List.mem_cons_self ..)) (List.mem_cons_self ..) fun q hq e => ?_) (atC_of (Pt := P2) D2 (hTB (c2, P2) (List.mem_cons_of_mem _ (List.mem_cons_self ..))) (List.mem_cons_of_mem _ (List.mem_cons_self ..)) fun q hq e => ?_) LF⟩
  · rcases List.mem_cons.mp hp with rfl | hp
    · exact LamX.TabS.nil (hT (c1, P1) (List.mem_cons_self ..))
    rcases List.mem_cons.mp hp with rfl | hp
    · exact LamX.TabS.nil (hT (c2, P2) (List.mem_cons_of_mem _ (List.mem_cons_self ..)))
    · cases hp
  · rcases List.mem_cons.mp hq with rfl | hq
    · rfl
    rcases List.mem_cons.mp hq with rfl | hq
    · exact absurd e.symm hP
    · cases hq
  · rcases List.mem_cons.mp hq with rfl | hq
    · exact absurd e hP
    rcases List.mem_cons.mp hq with rfl | hq
    · rfl
    · cases hq
end Dx
section
open PySem PySem.W PyProof.Rows
set_option maxHeartbeats 0
open_top head for PySem.Challenge.rw_ifthenbooks_k63_whole_convexity
end
/-! Printed by gen3.py: the end. -/
open PySem PySem.W PyProof.Rows in
set_option maxRecDepth 100000 in
set_option maxHeartbeats 0 in
theorem PySem.Challenge.cw_ifthenbooks_k63_whole_convexity_holds : PySem.Challenge.rw_ifthenbooks_k63_whole_convexity.Holds := by
  refine head ?walk
  k_fill
  refine LamX.walk_ofTs (l := PySem.Challenge.rw_ifthenbooks_k63_whole_convexity) (n := 63) (k := 7) (x := "_law_script") (CX := fun _ => L2.CX0) rfl (by decide) rfl ⟨rfl, by decide, by decide⟩ (fun w h Y => PySem.W.km_in_of Y) ?F (fun _ _ _ _ _ z => z)
  case F =>
    intro w mg fa h Y KX G hmg
    refine' Dx.use (Dx.atI_mk (x := "Few") (qual := "Few.__init__") (st := L2.inClass (Dx.top 27) 0) (ps := ["self", "number", "hard", "table"]) KX G ?a1 ?b1 ?i1 ?l1 ?c1 ?k1 ?m1 ?kc1 ?bd1) ?z1
    (case a1 => k_is)
    (case b1 => k_is)
    (case i1 => k_is)
    (case l1 => k_is)
    (case c1 => k_is)
    (case k1 => k_is)
    (case m1 => k_is)
    (case kc1 => k_is)
    (case bd1 => exact fun _ _ _ _ _ _ us hl => match us, hl with | [_, _, _, _], _ => rfl)
    intro A_I_Few
    refine' Dx.use (Dx.atI_mk (x := "Meeting") (qual := "Meeting.__init__") (st := L2.inClass (Dx.top 29) 0) (ps := ["self", "number", "thing", "table"]) KX G ?a2 ?b2 ?i2 ?l2 ?c2 ?k2 ?m2 ?kc2 ?bd2) ?z2
    (case a2 => k_is)
    (case b2 => k_is)
    (case i2 => k_is)
    (case l2 => k_is)
    (case c2 => k_is)
    (case k2 => k_is)
    (case m2 => k_is)
    (case kc2 => k_is)
    (case bd2 => exact fun _ _ _ _ _ _ us hl => match us, hl with | [_, _, _, _], _ => rfl)
    intro A_I_Meeting
    refine' Dx.use (Dx.atI_mk (x := "Halves") (qual := "Halves.__init__") (st := L2.inClass (Dx.top 30) 0) (ps := ["self", "number", "thing", "table"]) KX G ?a3 ?b3 ?i3 ?l3 ?c3 ?k3 ?m3 ?kc3 ?bd3) ?z3
    (case a3 => k_is)
    (case b3 => k_is)
    (case i3 => k_is)
    (case l3 => k_is)
    (case c3 => k_is)
    (case k3 => k_is)
    (case m3 => k_is)
    (case kc3 => k_is)
    (case bd3 => exact fun _ _ _ _ _ _ us hl => match us, hl with | [_, _, _, _], _ => rfl)
    intro A_I_Halves
    refine' Dx.use (Dx.atI_mk (x := "Book") (qual := "Book.__init__") (st := L2.inClass (Dx.top 16) 1) (ps := ["self", "marks", "rules"]) KX G ?a4 ?b4 ?i4 ?l4 ?c4 ?k4 ?m4 ?kc4 ?bd4) ?z4
    (case a4 => k_is)
    (case b4 => k_is)
    (case i4 => k_is)
    (case l4 => k_is)
    (case c4 => k_is)
    (case k4 => k_is)
    (case m4 => k_is)
    (case kc4 => k_is)
    (case bd4 => exact fun _ _ _ _ _ _ us hl => match us, hl with | [_, _, _], _ => rfl)
    intro A_I_Book
    refine' Dx.use (Dx.atM_of (qual := "Meeting.shows") (st := L2.inClass (Dx.top 29) 3) (ps := ["self", "book"]) A_I_Meeting (m := "shows") KX ?a5 ?i5 ?l5 ?c5 ?k5 ?bd5) ?z5
    (case a5 => k_is)
    (case i5 => k_is)
    (case l5 => k_is)
    (case c5 => k_is)
    (case k5 => k_is)
    (case bd5 => exact fun _ _ _ _ _ _ us hl => match us, hl with | [_, _], _ => rfl)
    intro A_M2_shows
    refine' Dx.use (Dx.atM_of (qual := "Halves.does_halve") (st := L2.inClass (Dx.top 30) 4) (ps := ["self", "book", "thing"]) A_I_Halves (m := "does_halve") KX ?a6 ?i6 ?l6 ?c6 ?k6 ?bd6) ?z6
    (case a6 => k_is)
    (case i6 => k_is)
    (case l6 => k_is)
    (case c6 => k_is)
    (case k6 => k_is)
    (case bd6 => exact fun _ _ _ _ _ _ us hl => match us, hl with | [_, _, _], _ => rfl)
    intro A_M3_does_halve
    refine' Dx.use (Dx.atM_of (qual := "Few.shows") (st := L2.inClass (Dx.top 27) 3) (ps := ["self", "book"]) A_I_Few (m := "shows") KX ?a7 ?i7 ?l7 ?c7 ?k7 ?bd7) ?z7
    (case a7 => k_is)
    (case i7 => k_is)
    (case l7 => k_is)
    (case c7 => k_is)
    (case k7 => k_is)
    (case bd7 => exact fun _ _ _ _ _ _ us hl => match us, hl with | [_, _], _ => rfl)
    intro A_M1_shows
    refine' Dx.use (Dx.atM_of (qual := "Halves.shows") (st := L2.inClass (Dx.top 30) 3) (ps := ["self", "book"]) A_I_Halves (m := "shows") KX ?a8 ?i8 ?l8 ?c8 ?k8 ?bd8) ?z8
    (case a8 => k_is)
    (case i8 => k_is)
    (case l8 => k_is)
    (case c8 => k_is)
    (case k8 => k_is)
    (case bd8 => exact fun _ _ _ _ _ _ us hl => match us, hl with | [_, _], _ => rfl)
    intro A_M3_shows
    refine' Dx.use (Dx.at_mk (x := "is_integer") (st := Dx.top 8) (ps := ["thing", "low", "high"]) KX G ?a9 ?l9 ?c9 ?k9 ?bd9) ?z9
    (case a9 => k_is)
    (case l9 => k_is)
    (case c9 => k_is)
    (case k9 => k_is)
    (case bd9 => exact fun _ _ _ _ _ _ us hl => match us, hl with | [_, _, _], _ => rfl)
    intro A_is_integer
    refine' Dx.use (Dx.at_mk (x := "is_set") (st := Dx.top 9) (ps := ["marks", "thing"]) KX G ?a10 ?l10 ?c10 ?k10 ?bd10) ?z10
    (case a10 => k_is)
    (case l10 => k_is)
    (case c10 => k_is)
    (case k10 => k_is)
    (case bd10 => exact fun _ _ _ _ _ _ us hl => match us, hl with | [_, _], _ => rfl)
    intro A_is_set
    refine' Dx.use (Dx.at_mk (x := "is_rule") (st := Dx.top 10) (ps := ["marks", "thing"]) KX G ?a11 ?l11 ?c11 ?k11 ?bd11) ?z11
    (case a11 => k_is)
    (case l11 => k_is)
    (case c11 => k_is)
    (case k11 => k_is)
    (case bd11 => exact fun _ _ _ _ _ _ us hl => match us, hl with | [_, _], _ => rfl)
    intro A_is_rule
    refine' Dx.use (Dx.at_mk (x := "is_within") (st := Dx.top 11) (ps := ["one", "other"]) KX G ?a12 ?l12 ?c12 ?k12 ?bd12) ?z12
    (case a12 => k_is)
    (case l12 => k_is)
    (case c12 => k_is)
    (case k12 => k_is)
    (case bd12 => exact fun _ _ _ _ _ _ us hl => match us, hl with | [_, _], _ => rfl)
    intro A_is_within
    refine' Dx.use (Dx.at_mk (x := "meet") (st := Dx.top 12) (ps := ["one", "other"]) KX G ?a13 ?l13 ?c13 ?k13 ?bd13) ?z13
    (case a13 => k_is)
    (case l13 => k_is)
    (case c13 => k_is)
    (case k13 => k_is)
    (case bd13 => exact fun _ _ _ _ _ _ us hl => match us, hl with | [_, _], _ => rfl)
    intro A_meet
    refine' Dx.use (Dx.at_mk (x := "sets_of") (st := Dx.top 14) (ps := ["marks"]) KX G ?a14 ?l14 ?c14 ?k14 ?bd14) ?z14
    (case a14 => k_is)
    (case l14 => k_is)
    (case c14 => k_is)
    (case k14 => k_is)
    (case bd14 => exact fun _ _ _ _ _ _ us hl => match us, hl with | [_], _ => rfl)
    intro A_sets_of
    refine' Dx.use (Dx.at_mk (x := "root_for") (st := Dx.top 20) (ps := ["book", "thing", "mark"]) KX G ?a15 ?l15 ?c15 ?k15 ?bd15) ?z15
    (case a15 => k_is)
    (case l15 => k_is)
    (case c15 => k_is)
    (case k15 => k_is)
    (case bd15 => exact fun _ _ _ _ _ _ us hl => match us, hl with | [_, _, _], _ => rfl)
    intro A_root_for
    refine' Dx.use (Dx.at_mk (x := "without") (st := Dx.top 21) (ps := ["thing", "mark"]) KX G ?a16 ?l16 ?c16 ?k16 ?bd16) ?z16
    (case a16 => k_is)
    (case l16 => k_is)
    (case c16 => k_is)
    (case k16 => k_is)
    (case bd16 => exact fun _ _ _ _ _ _ us hl => match us, hl with | [_, _], _ => rfl)
    intro A_without
    refine' Dx.use (Dx.at_mk (x := "common_without") (st := Dx.top 22) (ps := ["book", "thing"]) KX G ?a17 ?l17 ?c17 ?k17 ?bd17) ?z17
    (case a17 => k_is)
    (case l17 => k_is)
    (case c17 => k_is)
    (case k17 => k_is)
    (case bd17 => exact fun _ _ _ _ _ _ us hl => match us, hl with | [_, _], _ => rfl)
    intro A_common_without
    refine' Dx.use (Dx.at_mk (x := "halves_of") (st := Dx.top 23) (ps := ["thing"]) KX G ?a18 ?l18 ?c18 ?k18 ?bd18) ?z18
    (case a18 => k_is)
    (case l18 => k_is)
    (case c18 => k_is)
    (case k18 => k_is)
    (case bd18 => exact fun _ _ _ _ _ _ us hl => match us, hl with | [_], _ => rfl)
    intro A_halves_of
    refine' Dx.use (Dx.at_mk (x := "rest_of") (st := Dx.top 24) (ps := ["thing", "half"]) KX G ?a19 ?l19 ?c19 ?k19 ?bd19) ?z19
    (case a19 => k_is)
    (case l19 => k_is)
    (case c19 => k_is)
    (case k19 => k_is)
    (case bd19 => exact fun _ _ _ _ _ _ us hl => match us, hl with | [_, _], _ => rfl)
    intro A_rest_of
    refine' Dx.use (Dx.at_mk (x := "common_halves") (st := Dx.top 25) (ps := ["book", "thing", "half"]) KX G ?a20 ?l20 ?c20 ?k20 ?bd20) ?z20
    (case a20 => k_is)
    (case l20 => k_is)
    (case c20 => k_is)
    (case k20 => k_is)
    (case bd20 => exact fun _ _ _ _ _ _ us hl => match us, hl with | [_, _, _], _ => rfl)
    intro A_common_halves
    refine' Dx.use (Dx.at_mk (x := "is_apart") (st := Dx.top 26) (ps := ["book", "thing"]) KX G ?a21 ?l21 ?c21 ?k21 ?bd21) ?z21
    (case a21 => k_is)
    (case l21 => k_is)
    (case c21 => k_is)
    (case k21 => k_is)
    (case bd21 => exact fun _ _ _ _ _ _ us hl => match us, hl with | [_, _], _ => rfl)
    intro A_is_apart
    refine' Dx.use (Dx.at_mk (x := "pairs_of") (st := Dx.top 28) (ps := ["book"]) KX G ?a22 ?l22 ?c22 ?k22 ?bd22) ?z22
    (case a22 => k_is)
    (case l22 => k_is)
    (case c22 => k_is)
    (case k22 => k_is)
    (case bd22 => exact fun _ _ _ _ _ _ us hl => match us, hl with | [_], _ => rfl)
    intro A_pairs_of
    refine' Dx.use (Dx.at_mk (x := "few") (st := Dx.top 31) (ps := ["book"]) KX G ?a23 ?l23 ?c23 ?k23 ?bd23) ?z23
    (case a23 => k_is)
    (case l23 => k_is)
    (case c23 => k_is)
    (case k23 => k_is)
    (case bd23 => exact fun _ _ _ _ _ _ us hl => match us, hl with | [_], _ => rfl)
    intro A_few
    refine' Dx.use (Dx.at_mk (x := "meeting") (st := Dx.top 32) (ps := ["book"]) KX G ?a24 ?l24 ?c24 ?k24 ?bd24) ?z24
    (case a24 => k_is)
    (case l24 => k_is)
    (case c24 => k_is)
    (case k24 => k_is)
    (case bd24 => exact fun _ _ _ _ _ _ us hl => match us, hl with | [_], _ => rfl)
    intro A_meeting
    refine' Dx.use (Dx.at_mk (x := "half_for") (st := Dx.top 33) (ps := ["book", "thing"]) KX G ?a25 ?l25 ?c25 ?k25 ?bd25) ?z25
    (case a25 => k_is)
    (case l25 => k_is)
    (case c25 => k_is)
    (case k25 => k_is)
    (case bd25 => exact fun _ _ _ _ _ _ us hl => match us, hl with | [_, _], _ => rfl)
    intro A_half_for
    refine' Dx.use (Dx.at_mk (x := "halves") (st := Dx.top 34) (ps := ["book"]) KX G ?a26 ?l26 ?c26 ?k26 ?bd26) ?z26
    (case a26 => k_is)
    (case l26 => k_is)
    (case c26 => k_is)
    (case k26 => k_is)
    (case bd26 => exact fun _ _ _ _ _ _ us hl => match us, hl with | [_], _ => rfl)
    intro A_halves
    refine' Dx.use (Dx.at_mk (x := "caratheodory") (st := Dx.top 35) (ps := ["book"]) KX G ?a27 ?l27 ?c27 ?k27 ?bd27) ?z27
    (case a27 => k_is)
    (case l27 => k_is)
    (case c27 => k_is)
    (case k27 => k_is)
    (case bd27 => exact fun _ _ _ _ _ _ us hl => match us, hl with | [_], _ => rfl)
    intro A_caratheodory
    refine' Dx.use (Dx.at_mk (x := "helly") (st := Dx.top 36) (ps := ["book"]) KX G ?a28 ?l28 ?c28 ?k28 ?bd28) ?z28
    (case a28 => k_is)
    (case l28 => k_is)
    (case c28 => k_is)
    (case k28 => k_is)
    (case bd28 => exact fun _ _ _ _ _ _ us hl => match us, hl with | [_], _ => rfl)
    intro A_helly
    refine' Dx.use (Dx.at_mk (x := "radon") (st := Dx.top 37) (ps := ["book"]) KX G ?a29 ?l29 ?c29 ?k29 ?bd29) ?z29
    (case a29 => k_is)
    (case l29 => k_is)
    (case c29 => k_is)
    (case k29 => k_is)
    (case bd29 => exact fun _ _ _ _ _ _ us hl => match us, hl with | [_], _ => rfl)
    intro A_radon
    refine' Dx.use (Dx.at_mk (x := "_law_cell_at") (st := Dx.top 39) (ps := ["_law_script", "_law_k"]) KX G ?a30 ?l30 ?c30 ?k30 ?bd30) ?z30
    (case a30 => k_is)
    (case l30 => k_is)
    (case c30 => k_is)
    (case k30 => k_is)
    (case bd30 => exact fun _ _ _ _ _ _ us hl => match us, hl with | [_, _], _ => rfl)
    intro A__law_cell_at
    refine' Dx.use (Dx.at_mk (x := "_law_draw") (st := Dx.top 40) (ps := ["_law_cell", "_law_k", "_law_bound"]) KX G ?a31 ?l31 ?c31 ?k31 ?bd31) ?z31
    (case a31 => k_is)
    (case l31 => k_is)
    (case c31 => k_is)
    (case k31 => k_is)
    (case bd31 => exact fun _ _ _ _ _ _ us hl => match us, hl with | [_, _, _], _ => rfl)
    intro A__law_draw
    refine' Dx.use (Dx.at_mk (x := "_law_number") (st := Dx.top 41) (ps := ["_law_cell", "_law_k", "_law_bound"]) KX G ?a32 ?l32 ?c32 ?k32 ?bd32) ?z32
    (case a32 => k_is)
    (case l32 => k_is)
    (case c32 => k_is)
    (case k32 => k_is)
    (case bd32 => exact fun _ _ _ _ _ _ us hl => match us, hl with | [_, _, _], _ => rfl)
    intro A__law_number
    refine' Dx.use (Dx.at_mk (x := "_law_sets") (st := Dx.top 44) (ps := ["_law_marks"]) KX G ?a33 ?l33 ?c33 ?k33 ?bd33) ?z33
    (case a33 => k_is)
    (case l33 => k_is)
    (case c33 => k_is)
    (case k33 => k_is)
    (case bd33 => exact fun _ _ _ _ _ _ us hl => match us, hl with | [_], _ => rfl)
    intro A__law_sets
    refine' Dx.use (Dx.at_mk (x := "_law_within") (st := Dx.top 45) (ps := ["_law_one", "_law_other"]) KX G ?a34 ?l34 ?c34 ?k34 ?bd34) ?z34
    (case a34 => k_is)
    (case l34 => k_is)
    (case c34 => k_is)
    (case k34 => k_is)
    (case bd34 => exact fun _ _ _ _ _ _ us hl => match us, hl with | [_, _], _ => rfl)
    intro A__law_within
    refine' Dx.use (Dx.at_mk (x := "_law_closure") (st := Dx.top 46) (ps := ["_law_plain_here", "_law_thing"]) KX G ?a35 ?l35 ?c35 ?k35 ?bd35) ?z35
    (case a35 => k_is)
    (case l35 => k_is)
    (case c35 => k_is)
    (case k35 => k_is)
    (case bd35 => exact fun _ _ _ _ _ _ us hl => match us, hl with | [_, _], _ => rfl)
    intro A__law_closure
    refine' Dx.use (Dx.at_mk (x := "_law_made") (st := Dx.top 50) (ps := ["_law_plain_here"]) KX G ?a36 ?l36 ?c36 ?k36 ?bd36) ?z36
    (case a36 => k_is)
    (case l36 => k_is)
    (case c36 => k_is)
    (case k36 => k_is)
    (case bd36 => exact fun _ _ _ _ _ _ us hl => match us, hl with | [_], _ => rfl)
    intro A__law_made
    refine' Dx.use (Dx.at_mk (x := "_law_meet") (st := Dx.top 51) (ps := ["_law_one", "_law_other"]) KX G ?a37 ?l37 ?c37 ?k37 ?bd37) ?z37
    (case a37 => k_is)
    (case l37 => k_is)
    (case c37 => k_is)
    (case k37 => k_is)
    (case bd37 => exact fun _ _ _ _ _ _ us hl => match us, hl with | [_, _], _ => rfl)
    intro A__law_meet
    refine' Dx.use (Dx.at_mk (x := "_law_less") (st := Dx.top 52) (ps := ["_law_thing", "_law_mark"]) KX G ?a38 ?l38 ?c38 ?k38 ?bd38) ?z38
    (case a38 => k_is)
    (case l38 => k_is)
    (case c38 => k_is)
    (case k38 => k_is)
    (case bd38 => exact fun _ _ _ _ _ _ us hl => match us, hl with | [_, _], _ => rfl)
    intro A__law_less
    refine' Dx.use (Dx.at_mk (x := "_law_parts") (st := Dx.top 53) (ps := ["_law_thing"]) KX G ?a39 ?l39 ?c39 ?k39 ?bd39) ?z39
    (case a39 => k_is)
    (case l39 => k_is)
    (case c39 => k_is)
    (case k39 => k_is)
    (case bd39 => exact fun _ _ _ _ _ _ us hl => match us, hl with | [_], _ => rfl)
    intro A__law_parts
    refine' Dx.use (Dx.at_mk (x := "_law_pairs") (st := Dx.top 54) (ps := ["_law_plain_here"]) KX G ?a40 ?l40 ?c40 ?k40 ?bd40) ?z40
    (case a40 => k_is)
    (case l40 => k_is)
    (case c40 => k_is)
    (case k40 => k_is)
    (case bd40 => exact fun _ _ _ _ _ _ us hl => match us, hl with | [_], _ => rfl)
    intro A__law_pairs
    refine' Dx.use (Dx.at_mk (x := "_law_least") (st := Dx.top 55) (ps := ["_law_plain_here", "_law_pair"]) KX G ?a41 ?l41 ?c41 ?k41 ?bd41) ?z41
    (case a41 => k_is)
    (case l41 => k_is)
    (case c41 => k_is)
    (case k41 => k_is)
    (case bd41 => exact fun _ _ _ _ _ _ us hl => match us, hl with | [_, _], _ => rfl)
    intro A__law_least
    refine' Dx.use (Dx.at_mk (x := "_law_shared") (st := Dx.top 56) (ps := ["_law_plain_here", "_law_thing"]) KX G ?a42 ?l42 ?c42 ?k42 ?bd42) ?z42
    (case a42 => k_is)
    (case l42 => k_is)
    (case c42 => k_is)
    (case k42 => k_is)
    (case bd42 => exact fun _ _ _ _ _ _ us hl => match us, hl with | [_, _], _ => rfl)
    intro A__law_shared
    refine' Dx.use (Dx.at_mk (x := "_law_common") (st := Dx.top 57) (ps := ["_law_plain_here", "_law_thing", "_law_half"]) KX G ?a43 ?l43 ?c43 ?k43 ?bd43) ?z43
    (case a43 => k_is)
    (case l43 => k_is)
    (case c43 => k_is)
    (case k43 => k_is)
    (case bd43 => exact fun _ _ _ _ _ _ us hl => match us, hl with | [_, _, _], _ => rfl)
    intro A__law_common
    refine' Dx.use (Dx.at_mk (x := "_law_can_halve") (st := Dx.top 58) (ps := ["_law_plain_here", "_law_thing"]) KX G ?a44 ?l44 ?c44 ?k44 ?bd44) ?z44
    (case a44 => k_is)
    (case l44 => k_is)
    (case c44 => k_is)
    (case k44 => k_is)
    (case bd44 => exact fun _ _ _ _ _ _ us hl => match us, hl with | [_, _], _ => rfl)
    intro A__law_can_halve
    refine' Dx.use (Dx.at_mk (x := "_law_is_few") (st := Dx.top 59) (ps := ["_law_plain_here", "_law_number_here", "_law_hard", "_law_table"]) KX G ?a45 ?l45 ?c45 ?k45 ?bd45) ?z45
    (case a45 => k_is)
    (case l45 => k_is)
    (case c45 => k_is)
    (case k45 => k_is)
    (case bd45 => exact fun _ _ _ _ _ _ us hl => match us, hl with | [_, _, _, _], _ => rfl)
    intro A__law_is_few
    refine' Dx.use (Dx.at_mk (x := "_law_is_meeting") (st := Dx.top 60) (ps := ["_law_plain_here", "_law_number_here", "_law_thing", "_law_table"]) KX G ?a46 ?l46 ?c46 ?k46 ?bd46) ?z46
    (case a46 => k_is)
    (case l46 => k_is)
    (case c46 => k_is)
    (case k46 => k_is)
    (case bd46 => exact fun _ _ _ _ _ _ us hl => match us, hl with | [_, _, _, _], _ => rfl)
    intro A__law_is_meeting
    refine' Dx.use (Dx.at_mk (x := "_law_is_halves") (st := Dx.top 61) (ps := ["_law_plain_here", "_law_number_here", "_law_thing", "_law_table"]) KX G ?a47 ?l47 ?c47 ?k47 ?bd47) ?z47
    (case a47 => k_is)
    (case l47 => k_is)
    (case c47 => k_is)
    (case k47 => k_is)
    (case bd47 => exact fun _ _ _ _ _ _ us hl => match us, hl with | [_, _, _, _], _ => rfl)
    intro A__law_is_halves
    refine' Dx.use (Dx.at_mk (x := "closure") (st := Dx.top 15) (ps := ["rules", "thing"]) KX G ?a48 ?l48 ?c48 ?k48 ?bd48) ?z48
    (case a48 => k_is)
    (case l48 => k_is)
    (case c48 => k_is)
    (case k48 => k_is)
    (case bd48 => exact fun _ _ _ _ _ _ us hl => match us, hl with | [_, _], _ => rfl)
    intro A_closure
    refine' Dx.use (Dx.at_mk (x := "check_book") (st := Dx.top 17) (ps := ["thing"]) KX G ?a49 ?l49 ?c49 ?k49 ?bd49) ?z49
    (case a49 => k_is)
    (case l49 => k_is)
    (case c49 => k_is)
    (case k49 => k_is)
    (case bd49 => exact fun _ _ _ _ _ _ us hl => match us, hl with | [_], _ => rfl)
    intro A_check_book
    refine' Dx.use (Dx.at_mk (x := "_law_next") (st := Dx.top 42) (ps := ["_law_draw_here", "_law_bound"]) KX G ?a50 ?l50 ?c50 ?k50 ?bd50) ?z50
    (case a50 => k_is)
    (case l50 => k_is)
    (case c50 => k_is)
    (case k50 => k_is)
    (case bd50 => exact fun _ _ _ _ _ _ us hl => match us, hl with | [_, _], _ => rfl)
    intro A_N__law_next
    refine' Dx.use (Dx.at_mk (x := "_law_pick") (st := Dx.top 43) (ps := ["_law_draw_here", "_law_things"]) KX G ?a51 ?l51 ?c51 ?k51 ?bd51) ?z51
    (case a51 => k_is)
    (case l51 => k_is)
    (case c51 => k_is)
    (case k51 => k_is)
    (case bd51 => exact fun _ _ _ _ _ _ us hl => match us, hl with | [_, _], _ => rfl)
    intro A_N__law_pick
    refine' Dx.use (Dx.at_mk (x := "_law_set") (st := Dx.top 47) (ps := ["_law_draw_here", "_law_marks"]) KX G ?a52 ?l52 ?c52 ?k52 ?bd52) ?z52
    (case a52 => k_is)
    (case l52 => k_is)
    (case c52 => k_is)
    (case k52 => k_is)
    (case bd52 => exact fun _ _ _ _ _ _ us hl => match us, hl with | [_, _], _ => rfl)
    intro A_N__law_set
    refine' Dx.use (Dx.at_mk (x := "_law_rule") (st := Dx.top 48) (ps := ["_law_draw_here", "_law_marks"]) KX G ?a53 ?l53 ?c53 ?k53 ?bd53) ?z53
    (case a53 => k_is)
    (case l53 => k_is)
    (case c53 => k_is)
    (case k53 => k_is)
    (case bd53 => exact fun _ _ _ _ _ _ us hl => match us, hl with | [_, _], _ => rfl)
    intro A_N__law_rule
    refine' Dx.use (Dx.at_mk (x := "_law_plain") (st := Dx.top 49) (ps := ["_law_draw_here", "_law_most", "_law_many"]) KX G ?a54 ?l54 ?c54 ?k54 ?bd54) ?z54
    (case a54 => k_is)
    (case l54 => k_is)
    (case c54 => k_is)
    (case k54 => k_is)
    (case bd54 => exact fun _ _ _ _ _ _ us hl => match us, hl with | [_, _, _], _ => rfl)
    intro A_N__law_plain
    refine' Dx.use (Dx.at_mk (x := "_law_bent") (st := Dx.top 62) (ps := ["_law_draw_here", "_law_plain_here", "_law_table", "_law_odd"]) KX G ?a55 ?l55 ?c55 ?k55 ?bd55) ?z55
    (case a55 => k_is)
    (case l55 => k_is)
    (case c55 => k_is)
    (case k55 => k_is)
    (case bd55 => exact fun _ _ _ _ _ _ us hl => match us, hl with | [_, _, _, _], _ => rfl)
    intro A_N__law_bent
    refine' Dx.use (Dx.at_mk (x := "_law_papers_right") (st := Dx.top 63) (ps := ["_law_draw_here", "_law_plain_here", "_law_book"]) KX G ?a56 ?l56 ?c56 ?k56 ?bd56) ?z56
    (case a56 => k_is)
    (case l56 => k_is)
    (case c56 => k_is)
    (case k56 => k_is)
    (case bd56 => exact fun _ _ _ _ _ _ us hl => match us, hl with | [_, _, _], _ => rfl)
    intro A_N__law_papers_right
    refine' Dx.use (Dx.atD_mk (x := "in_order") (st := Dx.top 13) (ps := ["sets"]) KX G ?a57 ?l57 ?c57 ?k57 ?bd57) ?z57
    (case a57 => k_is)
    (case l57 => k_is)
    (case c57 => k_is)
    (case k57 => k_is)
    (case bd57 => exact fun _ _ _ _ _ _ us hl => match us, hl with | [_], _ => rfl)
    intro D_in_order
    refine' Dx.use (Dx.atD_mk (x := "parts_within") (st := Dx.top 19) (ps := ["thing"]) KX G ?a58 ?l58 ?c58 ?k58 ?bd58) ?z58
    (case a58 => k_is)
    (case l58 => k_is)
    (case c58 => k_is)
    (case k58 => k_is)
    (case bd58 => exact fun _ _ _ _ _ _ us hl => match us, hl with | [_], _ => rfl)
    intro D_parts_within
    refine' Dx.use (PySem.W.mg_none_of (n := "len") KX G ?a59) ?z59
    (case a59 => k_is)
    intro z_len
    refine' Dx.use (PySem.W.mg_none_of (n := "all") KX G ?a60) ?z60
    (case a60 => k_is)
    intro z_all
    refine' Dx.use (PySem.W.mg_none_of (n := "any") KX G ?a61) ?z61
    (case a61 => k_is)
    intro z_any
    refine' Dx.use (PySem.W.mg_none_of (n := "tuple") KX G ?a62) ?z62
    (case a62 => k_is)
    intro z_tuple
    refine' Dx.use (PySem.W.mg_none_of (n := "list") KX G ?a63) ?z63
    (case a63 => k_is)
    intro z_list
    refine' Dx.use (PySem.W.mg_none_of (n := "dict") KX G ?a64) ?z64
    (case a64 => k_is)
    intro z_dict
    refine' Dx.use (PySem.W.mg_none_of (n := "max") KX G ?a65) ?z65
    (case a65 => k_is)
    intro z_max
    refine' Dx.use (PySem.W.mg_none_of (n := "min") KX G ?a66) ?z66
    (case a66 => k_is)
    intro z_min
    refine' Dx.use (PySem.W.mg_none_of (n := "sorted") KX G ?a67) ?z67
    (case a67 => k_is)
    intro z_sorted
    refine' Dx.use (PySem.W.mg_none_of (n := "isinstance") KX G ?a68) ?z68
    (case a68 => k_is)
    intro z_isinstance
    refine' Dx.use (PySem.W.mg_none_of (n := "range") KX G ?a69) ?z69
    (case a69 => k_is)
    intro z_range
    refine' Dx.use (PySem.W.mg_none_of (n := "zip") KX G ?a70) ?z70
    (case a70 => k_is)
    intro z_zip
    refine' Dx.use (PySem.W.mg_none_of (n := "int") KX G ?a71) ?z71
    (case a71 => k_is)
    intro z_int
    refine' Dx.use (PySem.W.mg_none_of (n := "bool") KX G ?a72) ?z72
    (case a72 => k_is)
    intro z_bool
    refine' Dx.use (Dx.int_mk (n := "MOST_MARKS") (i := 5) KX G ?a73) ?z73
    (case a73 => k_is)
    intro z_marks
    refine' Dx.use (Dx.int_mk (n := "MOST_RULES") (i := 16) KX G ?a74) ?z74
    (case a74 => k_is)
    intro z_rules
    refine' Dx.use (Dx.scls_of A_I_Book ?a75 ?b75 ?c75 ?d75) ?z75
    (case a75 => k_is)
    (case b75 => k_is)
    (case c75 => k_is)
    (case d75 => k_is)
    intro s_book
    refine' Dx.use (Dx.slot_of A_I_Book (f := "marks") (i := 0) ?a76 ?b76 ?c76 ?d76 ?e76 (by decide)) ?z76
    (case a76 => k_is)
    (case b76 => k_is)
    (case c76 => k_is)
    (case d76 => k_is)
    (case e76 => k_is)
    intro s_marks
    refine' Dx.use (Dx.slot_of A_I_Book (f := "rules") (i := 1) ?a77 ?b77 ?c77 ?d77 ?e77 (by decide)) ?z77
    (case a77 => k_is)
    (case b77 => k_is)
    (case c77 => k_is)
    (case d77 => k_is)
    (case e77 => k_is)
    intro s_rules
    refine' Dx.use (Dx.sisi_of A_I_Book ?a78 ?b78 ?c78 ?d78) ?z78
    (case a78 => k_is)
    (case b78 => k_is)
    (case c78 => k_is)
    (case d78 => k_is)
    intro s_isi
    refine' Dx.use (Dx.cls_of A_I_Few ?a79 ?b79 ?c79 ?d79) ?z79
    (case a79 => k_is)
    (case b79 => k_is)
    (case c79 => k_is)
    (case d79 => k_is)
    intro c_1
    refine' Dx.use (Dx.cls_of A_I_Meeting ?a80 ?b80 ?c80 ?d80) ?z80
    (case a80 => k_is)
    (case b80 => k_is)
    (case c80 => k_is)
    (case d80 => k_is)
    intro c_2
    refine' Dx.use (Dx.cls_of A_I_Halves ?a81 ?b81 ?c81 ?d81) ?z81
    (case a81 => k_is)
    (case b81 => k_is)
    (case c81 => k_is)
    (case d81 => k_is)
    intro c_3
    refine' Dx.use (Dx.no_of A_I_Few (f := "number") ?a82) ?z82
    (case a82 => k_is)
    intro n_1_number
    refine' Dx.use (Dx.no_of A_I_Few (f := "hard") ?a83) ?z83
    (case a83 => k_is)
    intro n_1_hard
    refine' Dx.use (Dx.no_of A_I_Few (f := "table") ?a84) ?z84
    (case a84 => k_is)
    intro n_1_table
    refine' Dx.use (Dx.no_of A_I_Meeting (f := "number") ?a85) ?z85
    (case a85 => k_is)
    intro n_2_number
    refine' Dx.use (Dx.no_of A_I_Meeting (f := "thing") ?a86) ?z86
    (case a86 => k_is)
    intro n_2_thing
    refine' Dx.use (Dx.no_of A_I_Meeting (f := "table") ?a87) ?z87
    (case a87 => k_is)
    intro n_2_table
    refine' Dx.use (Dx.no_of A_I_Halves (f := "number") ?a88) ?z88
    (case a88 => k_is)
    intro n_3_number
    refine' Dx.use (Dx.no_of A_I_Halves (f := "thing") ?a89) ?z89
    (case a89 => k_is)
    intro n_3_thing
    refine' Dx.use (Dx.no_of A_I_Halves (f := "table") ?a90) ?z90
    (case a90 => k_is)
    intro n_3_table
    refine' Dx.use (Dx.fun_of (x := "law") (st := Dx.top 64) KX G ?a91 ?l91 ?c91 ?k91) ?z91
    (case a91 => k_is)
    (case l91 => k_is)
    (case c91 => k_is)
    (case k91 => k_is)
    intro F_law
    refine' Dx.ends (P1 := 96) (P2 := 202) KX hmg ?T ?B ?A D_in_order D_parts_within (by decide) (PySem.W.km_tabs_of Y 96 (by decide)) (PySem.W.km_tabs_of Y 202 (by decide)) (by kernel_rfl) (by kernel_rfl) (by kernel_rfl) (by kernel_rfl) F_law
    (case T => exact ⟨z_len, z_all, z_any, z_tuple, z_list, z_dict, z_max, z_min, z_sorted, z_isinstance, z_range, z_zip, z_int, z_bool, z_marks, z_rules, s_book, Dx.bookN_of A_I_Book, s_marks, s_rules, c_1, c_2, c_3, n_1_number, n_1_hard, n_1_table, n_2_number, n_2_thing, n_2_table, n_3_number, n_3_thing, n_3_table⟩)
    (case B => exact ⟨s_isi, by kernel_rfl⟩)
    (case A => exact ⟨A_is_integer, A_is_set, A_is_rule, A_is_within, A_meet, A_sets_of, A_root_for, A_without, A_common_without, A_halves_of, A_rest_of, A_common_halves, A_is_apart, A_pairs_of, A_M2_shows, A_M3_does_halve, A_few, A_meeting, A_half_for, A_halves, A_caratheodory, A_helly, A_radon, A__law_cell_at, A__law_draw, A__law_number, A__law_sets, A__law_within, A__law_closure, A__law_made, A__law_meet, A__law_less, A__law_parts, A__law_pairs, A__law_least, A__law_shared, A__law_common, A__law_can_halve, A__law_is_few, A__law_is_meeting, A__law_is_halves, A_M1_shows, A_M3_shows, A_closure, A_check_book, A_I_Few, A_I_Meeting, A_I_Halves, A_I_Book, A_N__law_next, A_N__law_pick, A_N__law_set, A_N__law_rule, A_N__law_plain, A_N__law_bent, A_N__law_papers_right⟩)
