import PyProof.Rows.All
import Wide.All
import OpenK.AllK
import Wide.FinOn
import KE.KStateDown
import Lean
import HandS.ForMost
import HandS.Exc
import HandS.TryOnly
import HandS.ExcOwn
import HandS.WordsExc
import HandS.TupAny
import HandS.TupMul
import HandS.Zip
import HandS.Walk
import HandS.IsInst
import HandS.CallSlots
import KE.KDictKeyed
import HandS.Lambda
import HandS.Wide
import KE.GoesNew
import HandS.SortRule
import HandS.SortInts
import HandS.NamedTupSort
import HandS.Deep
import HandS.TupLen
import HandS.Style
import HandS.Star
import KE.KTupSum
import HandS.ReCall
import KE.DataMinMax
import KE.DatumIndex
import HandS.Small
import HandS.ExcIs
import HandS.ExcField
import HandS.TryMany
import KE.KDflt
import HandS.EndTab
import KE.KNest
import KE.DataAny
import HandS.Flow
import KE.KRevSl
import PySem.Challenge.RW_wardlamps_k51_held_refused
set_option Elab.async false
set_option linter.all false
set_option maxRecDepth 100000
/-! The D layer: Python values as pure data over the hand layer. -/
namespace L2.Lmp
open PySem PySem.Spec PyProof.Rows

/-- pure data: tuples and lists that never change again by value -/
inductive D where
  | non | bl (b : Bool) | int (i : Int) | str (x : Str) | tup (xs : List D) | lst (xs : List D) | ref (a : Addr) | fn (x : Str) | scr (ns : List Int) | ty (n : String)
/-- a thing that may change -/
inductive O where
  | lst (xs : List D) | ins (c : Str) (fs : List (Str × D)) | dic (kvs : List (D × D)) | dik (kvs : List (D × D)) | tbl (q : Str)
abbrev DH := Addr → Option O
abbrev En := List (Option D)
/-- an exception: its class, its one field -/
structure DX where
  c : Str
  f : Option (Str × D)
abbrev EK := DX → DH → Prop
abbrev DK := D → DH → Prop
abbrev DM := En → DH → EK → DK → Prop
abbrev DT := En → DH → EK → (Bool → DH → Prop) → Prop
abbrev DA := En → DH → EK → (List D → DH → Prop) → Prop
structure Fl where
  nx : En → DH → Prop
  rt : DK
  bk : En → DH → Prop := fun _ _ => False
  ct : En → DH → Prop := fun _ _ => False
abbrev DS := En → DH → EK → Fl → Prop
abbrev Fn := List D → DH → EK → DK → Prop

def upO (h : DH) (a : Addr) (o : O) : DH := fun b => if b = a then some o else h b
theorem upO_same {h : DH} {a : Addr} {o : O} : upO h a o a = some o := if_pos rfl
theorem upO_ne {h : DH} {a b : Addr} {o : O} (e : b ≠ a) : upO h a o b = h b := if_neg e
theorem upO_upO {h : DH} {a : Addr} {o u : O} : upO (upO h a o) a u = upO h a u := by
  funext b; unfold upO; split <;> rfl
/-- less is known -/
def Le (h' h : DH) : Prop := ∀ a o, h' a = some o → h a = some o
theorem Le.refl (h : DH) : Le h h := fun _ _ e => e
theorem Le.trans {a b c : DH} (x : Le a b) (y : Le b c) : Le a c := fun _ _ e => y _ _ (x _ _ e)
theorem Le.no {h' h : DH} (l : Le h' h) {a : Addr} (e : h a = none) : h' a = none := by
  cases q : h' a with
  | none => rfl
  | some o => rw [l _ _ q] at e; cases e
theorem Le.up {h : DH} {a : Addr} {o : O} (e : h a = none) : Le h (upO h a o) := fun b u q => by
  rw [upO_ne (by rintro rfl; rw [e] at q; cases q)]; exact q
theorem Le.upUp {h h' : DH} {a : Addr} {o : O} (l : Le h' h) : Le (upO h' a o) (upO h a o) := fun b u q => by
  by_cases e : b = a
  · subst e; rw [upO_same] at q ⊢; exact q
  · rw [upO_ne e] at q ⊢; exact l _ _ q
/-- what stays the same in a law: the program, the world, the written part, the module's names -/
structure Cc where
  P : Program
  w : World
  K : PySem.W.Frag
  mg : Str → Option Value
abbrev _root_.L2.Cx.c (X : Cx) : Cc := ⟨X.prog, X.w, X.K, X.mg⟩
/-- the D-heap does not hold p, and nobody has reserved it -/
def Free (R : Addr → Prop) (h : DH) (p : Addr) : Prop := h p = none ∧ ¬ R p
section
variable (c : Cc) (R : Addr → Prop)
mutual
inductive RV (h : DH) (H : Hp) : V → D → Prop
  | non : RV h H .non .non
  | bl (b : Bool) : RV h H (.bl b) (.bl b)
  | int (i : Int) : RV h H (.int i) (.int i)
  | str (x : Str) : RV h H (.str x) (.str x)
  | ty (n : String) : RV h H (.ty n) (.ty n)
  | tup {p : Addr} {vs : List V} {ds : List D} : Free R h p → H p = some (.tup vs) → RVs h H vs ds → RV h H (.ref p) (.tup ds)
  | lst {p : Addr} {vs : List V} {ds : List D} : Free R h p → H p = some (.lst vs) → RVs h H vs ds → RV h H (.ref p) (.lst ds)
  | ref (a : Addr) : RV h H (.ref a) (.ref a)
  | fn {x : Str} {f : Addr} : c.mg x = some (.ref f) → RV h H (.ref f) (.fn x)
  | scrR {a : Addr} {ns : List Int} : Free R h a → Rd H a (.lst (ns.map V.int)) → RV h H (.ref a) (.scr ns)
  | scrK {a : Addr} {ns : List Int} {o : Obj} {its : Array Value} {n : Nat} : c.K.lookup a = some o → o.cls = .type "list" → o.dict = none → o.data = .seq its n → its.size ≤ sizeLine → Vals (ns.map V.int) its.toList → RV h H (.ref a) (.scr ns)
inductive RVs (h : DH) (H : Hp) : List V → List D → Prop
  | nil : RVs h H [] []
  | cons {v : V} {vs : List V} {d : D} {ds : List D} : RV h H v d → RVs h H vs ds → RVs h H (v :: vs) (d :: ds)
end
def stays : HO → Bool
  | .tup _ => true
  | .lst _ => true
  | .frz _ _ => true
  | .ext _ => true
  | _ => false
/-- what a step leaves: all that is not of the D-heap -/
structure Kp (h : DH) (H : Hp) (h' : DH) (H' : Hp) : Prop where
  keep : ∀ p o, Free R h p → H p = some o → stays o = true → H' p = some o ∧ Free R h' p
/-- .. and what is reserved stands -/
structure Ext (h : DH) (H : Hp) (h' : DH) (H' : Hp) : Prop extends Kp R h H h' H' where
  res : ∀ p, R p → H' p = H p
end
variable {R : Addr → Prop} {c : Cc} {h h' h1 h2 : DH} {H H' H1 H2 : Hp}
theorem Ext.mk' (a : ∀ p o, Free R h p → H p = some o → stays o = true → H' p = some o ∧ Free R h' p) (b : ∀ p, R p → H' p = H p) : Ext R h H h' H' := ⟨⟨a⟩, b⟩
theorem Ext.refl : Ext R h H h H := .mk' (fun _ _ a b _ => ⟨b, a⟩) (fun _ _ => rfl)
theorem Kp.trans (a : Kp R h H h1 H1) (b : Kp R h1 H1 h2 H2) : Kp R h H h2 H2 := ⟨fun p o x y z =>
  let q := a.keep p o x y z
  b.keep p o q.2 q.1 z⟩
theorem Ext.trans (a : Ext R h H h1 H1) (b : Ext R h1 H1 h2 H2) : Ext R h H h2 H2 := ⟨a.toKp.trans b.toKp, fun p r => (b.res p r).trans (a.res p r)⟩
theorem Kp.rd (e : Kp R h H h' H') {p : Addr} {o : HO} (hp : Free R h p) (so : stays o = true) (r : Rd H p o) : Rd H' p o ∧ Free R h' p := by
  rcases r with r | ⟨u, r⟩
  · exact ⟨.inl (e.keep p o hp r so).1, (e.keep p o hp r so).2⟩
  · exact ⟨.inr ⟨u, (e.keep p _ hp r rfl).1⟩, (e.keep p _ hp r rfl).2⟩
mutual
theorem RV.kp (e : Kp R h H h' H') {v : V} {d : D} (r : RV c R h H v d) : RV c R h' H' v d := match r with
  | .non => .non
  | .bl b => .bl b
  | .int i => .int i
  | .str x => .str x
  | .ty n => .ty n
  | .tup a b c => .tup (e.keep _ _ a b rfl).2 (e.keep _ _ a b rfl).1 (RVs.kp e c)
  | .lst a b c => .lst (e.keep _ _ a b rfl).2 (e.keep _ _ a b rfl).1 (RVs.kp e c)
  | .ref a => .ref a
  | .fn q => .fn q
  | .scrR a b => .scrR (e.rd a rfl b).2 (e.rd a rfl b).1
  | .scrK a b c d x y => .scrK a b c d x y
theorem RVs.kp (e : Kp R h H h' H') {vs : List V} {ds : List D} (r : RVs c R h H vs ds) : RVs c R h' H' vs ds := match r with
  | .nil => .nil
  | .cons a b => .cons (RV.kp e a) (RVs.kp e b)
end
theorem RV.ext (e : Ext R h H h' H') {v : V} {d : D} (r : RV c R h H v d) : RV c R h' H' v d := r.kp e.toKp
theorem RVs.ext (e : Ext R h H h' H') {vs : List V} {ds : List D} (r : RVs c R h H vs ds) : RVs c R h' H' vs ds := r.kp e.toKp
theorem RVs.length {vs : List V} {ds : List D} (r : RVs c R h H vs ds) : vs.length = ds.length := match r with
  | .nil => rfl
  | .cons _ b => congrArg (· + 1) (RVs.length b)
theorem RVs.append {vs ws : List V} {ds es : List D} (r : RVs c R h H vs ds) (q : RVs c R h H ws es) : RVs c R h H (vs ++ ws) (ds ++ es) := match r with
  | .nil => q
  | .cons a b => .cons a (RVs.append b q)
theorem RVs.take {vs : List V} {ds : List D} (n : Nat) (r : RVs c R h H vs ds) : RVs c R h H (vs.take n) (ds.take n) := match n, r with
  | 0, _ => .nil
  | _ + 1, .nil => .nil
  | n + 1, .cons a b => .cons a (RVs.take n b)
theorem RVs.drop {vs : List V} {ds : List D} (n : Nat) (r : RVs c R h H vs ds) : RVs c R h H (vs.drop n) (ds.drop n) := match n, r with
  | 0, r => r
  | _ + 1, .nil => .nil
  | n + 1, .cons a b => RVs.drop n b
theorem RVs.get {vs : List V} {ds : List D} {i : Nat} {d : D} (r : RVs c R h H vs ds) (e : ds[i]? = some d) : ∃ v, vs[i]? = some v ∧ RV c R h H v d := match i, r with
  | _, .nil => by simp at e
  | 0, .cons a b => ⟨_, rfl, by simp at e; subst e; exact a⟩
  | i + 1, .cons a b => RVs.get (i := i) b (by simpa using e)
theorem RVs.getV {vs : List V} {ds : List D} {i : Nat} {v : V} (r : RVs c R h H vs ds) (e : vs[i]? = some v) : ∃ d, ds[i]? = some d ∧ RV c R h H v d := match i, r with
  | _, .nil => by simp at e
  | 0, .cons a b => ⟨_, rfl, by simp at e; subst e; exact a⟩
  | i + 1, .cons a b => RVs.getV (i := i) b (by simpa using e)
theorem RVs.set {vs : List V} {ds : List D} {v : V} {d : D} (q : RV c R h H v d) (i : Nat) (r : RVs c R h H vs ds) : RVs c R h H (vs.set i v) (ds.set i d) := match i, r with
  | _, .nil => .nil
  | 0, .cons a b => .cons q b
  | i + 1, .cons a b => .cons a (RVs.set q i b)
theorem RVs.rep {vs : List V} {ds : List D} (r : RVs c R h H vs ds) : ∀ n : Nat, RVs c R h H (List.replicate n vs).flatten (List.replicate n ds).flatten
  | 0 => .nil
  | n + 1 => by
    rw [List.replicate_succ, List.replicate_succ, List.flatten_cons, List.flatten_cons]
    exact r.append (RVs.rep r n)
theorem RVs.ints : ∀ {ns : List Int}, RVs c R h H (ns.map V.int) (ns.map D.int)
  | [] => .nil
  | n :: ns => .cons (.int n) RVs.ints
theorem RVs.reverse {vs : List V} {ds : List D} (r : RVs c R h H vs ds) : RVs c R h H vs.reverse ds.reverse := match r with
  | .nil => .nil
  | .cons a b => by
    rw [List.reverse_cons, List.reverse_cons]
    exact (RVs.reverse b).append (.cons a .nil)

/-- fields -/
inductive RF (c : Cc) (R : Addr → Prop) (h : DH) (H : Hp) : List (Str × V) → List (Str × D) → Prop
  | nil : RF c R h H [] []
  | cons {x : Str} {v : V} {d : D} {vs : List (Str × V)} {ds : List (Str × D)} : RV c R h H v d → RF c R h H vs ds → RF c R h H ((x, v) :: vs) ((x, d) :: ds)
theorem RF.kp (e : Kp R h H h' H') {vs : List (Str × V)} {ds : List (Str × D)} (r : RF c R h H vs ds) : RF c R h' H' vs ds := by
  induction r with
  | nil => exact .nil
  | cons a _ ih => exact .cons (a.kp e) ih
theorem RF.ext (e : Ext R h H h' H') {vs : List (Str × V)} {ds : List (Str × D)} (r : RF c R h H vs ds) : RF c R h' H' vs ds := r.kp e.toKp
/-- keys of dicts, nested -/
inductive NK : D → NestedKey → Prop
  | non : NK .non .none
  | int (i : Int) : NK (.int i) (.num i)
  | str (x : Str) : NK (.str x) (.text x)
  | tup {ds : List D} {ks : List NestedKey} : Paired NK ds ks → NK (.tup ds) (.tup ks)
/-- a dict whose keys are tuples of any depth -/
def dicHO (c : Cc) (a : Addr) (xs : List (NestedKey × Addr × Value)) : HO := .ext fun h => xs.length ≤ sizeLine ∧ (a == sysModules) = false ∧ ∃ o es ep, h.get? a = some o ∧ o.ExactDict ∧ o.data = .dict es ep ∧ es.toList = xs.map (entryOfKey (nestedKind c.P c.w)) ∧ (xs.map (·.1)).Nodup
def keyD : Key → D
  | .inl i => .int i
  | .inr x => .str x
inductive KDs (c : Cc) (R : Addr → Prop) (h : DH) (H : Hp) : List (Key × V) → List (D × D) → Prop
  | nil : KDs c R h H [] []
  | cons {k : Key} {v : V} {d : D} {vs : List (Key × V)} {ds : List (D × D)} : RV c R h H v d → KDs c R h H vs ds → KDs c R h H ((k, v) :: vs) ((keyD k, d) :: ds)
inductive XDs (c : Cc) (R : Addr → Prop) (h : DH) (H : Hp) : List (NestedKey × Addr × Value) → List (D × D) → Prop
  | nil : XDs c R h H [] []
  | cons {k : NestedKey} {a : Addr} {u : Value} {v : V} {kd d : D} {vs : List (NestedKey × Addr × Value)} {ds : List (D × D)} : NK kd k → k.depth ≤ 8 → RV c R h H (.ref a) kd → RelV v u → RV c R h H v d → XDs c R h H vs ds → XDs c R h H ((k, a, u) :: vs) ((kd, d) :: ds)
theorem KDs.kp (e : Kp R h H h' H') {vs : List (Key × V)} {ds : List (D × D)} (r : KDs c R h H vs ds) : KDs c R h' H' vs ds := by
  induction r with
  | nil => exact .nil
  | cons a _ ih => exact .cons (a.kp e) ih
theorem KDs.ext (e : Ext R h H h' H') {vs : List (Key × V)} {ds : List (D × D)} (r : KDs c R h H vs ds) : KDs c R h' H' vs ds := r.kp e.toKp
theorem XDs.kp (e : Kp R h H h' H') {vs : List (NestedKey × Addr × Value)} {ds : List (D × D)} (r : XDs c R h H vs ds) : XDs c R h' H' vs ds := by
  induction r with
  | nil => exact .nil
  | cons a z b x y _ ih => exact .cons a z (b.kp e) x (y.kp e) ih
theorem XDs.ext (e : Ext R h H h' H') {vs : List (NestedKey × Addr × Value)} {ds : List (D × D)} (r : XDs c R h H vs ds) : XDs c R h' H' vs ds := r.kp e.toKp
def DicAt (c : Cc) (R : Addr → Prop) (h : DH) (H : Hp) (a : Addr) (kvs : List (D × D)) : Prop :=
  ∃ xs, H a = some (dicHO c a xs) ∧ XDs c R h H xs kvs
def DikAt (c : Cc) (R : Addr → Prop) (h : DH) (H : Hp) (a : Addr) (kvs : List (D × D)) : Prop :=
  ∃ kk, H a = some (.dK kk) ∧ KDs c R h H kk kvs
/-- a table of code objects of the name q -/
def TblAt (R : Addr → Prop) (h : DH) (H : Hp) (a : Addr) (q : Str) : Prop :=
  ∃ ps : Array Value, H a = some (.tbl ps) ∧ TriplesOk ps.toList ∧ ∀ (pos : Pos) (cv : Value), codeAmong pos ps.toList = some cv → ∃ c, cv = .ref c ∧ Free R h c ∧ H c = some (LamX.CodeO c q)
def RO (c : Cc) (R : Addr → Prop) (h : DH) (H : Hp) (a : Addr) : O → Prop
  | .lst ds => ∃ vs, H a = some (.lst vs) ∧ RVs c R h H vs ds
  | .ins x fs => ∃ C dx vs, c.mg x = some (.ref C) ∧ H a = some (.ins C dx vs) ∧ RF c R h H vs fs
  | .dic kvs => DicAt c R h H a kvs
  | .dik kvs => DikAt c R h H a kvs
  | .tbl q => TblAt R h H a q
theorem RO.some {a : Addr} {o : O} (r : RO c R h H a o) : ∃ u, H a = some u := by
  cases o with
  | lst ds => obtain ⟨_, e, _⟩ := r; exact ⟨_, e⟩
  | ins c fs => obtain ⟨_, _, _, _, e, _⟩ := r; exact ⟨_, e⟩
  | dic kvs => obtain ⟨_, e, _⟩ := r; exact ⟨_, e⟩
  | dik kvs => obtain ⟨_, e, _⟩ := r; exact ⟨_, e⟩
  | tbl q => obtain ⟨_, e, _⟩ := r; exact ⟨_, e⟩
theorem RO.kp (e : Kp R h H h' H') {a : Addr} {o : O} (ha : H' a = H a) (r : RO c R h H a o) : RO c R h' H' a o := by
  cases o with
  | lst ds => obtain ⟨vs, e1, r⟩ := r; exact ⟨vs, by rw [ha]; exact e1, r.kp e⟩
  | ins c fs => obtain ⟨C, dx, vs, m, e1, r⟩ := r; exact ⟨C, dx, vs, m, by rw [ha]; exact e1, r.kp e⟩
  | dic kvs =>
    obtain ⟨xs, e1, r⟩ := r
    exact ⟨xs, by rw [ha]; exact e1, r.kp e⟩
  | dik kvs =>
    obtain ⟨xs, e1, r⟩ := r
    exact ⟨xs, by rw [ha]; exact e1, r.kp e⟩
  | tbl q =>
    obtain ⟨ps, e1, t, r⟩ := r
    refine ⟨ps, by rw [ha]; exact e1, t, fun pos cv k => ?_⟩
    obtain ⟨c, z, f, y⟩ := r pos cv k
    exact ⟨c, z, (e.keep _ _ f y rfl).2, (e.keep _ _ f y rfl).1⟩
theorem RO.ext (e : Ext R h H h' H') {a : Addr} {o : O} (ha : H' a = H a) (r : RO c R h H a o) : RO c R h' H' a o := r.kp e.toKp ha
/-- the D-heap is held -/
structure RS (c : Cc) (R : Addr → Prop) (h : DH) (H : Hp) : Prop where
  ob : ∀ a o, h a = some o → RO c R h H a o
  rs : ∀ p, R p → h p = none ∧ ∃ u, H p = some u
theorem RS.no (r : RS c R h H) {p : Addr} (e : H p = none) : h p = none := by
  cases q : h p with
  | none => rfl
  | some o => obtain ⟨u, z⟩ := (r.ob p o q).some; rw [e] at z; cases z
theorem RS.free (r : RS c R h H) {p : Addr} (e : H p = none) : Free R h p := ⟨r.no e, fun z => by
  obtain ⟨_, u, q⟩ := r.rs p z
  rw [e] at q; cases q⟩
theorem RS.nr (r : RS c R h H) {p : Addr} {o : O} (e : h p = some o) : ¬ R p := fun z => by
  obtain ⟨q, _⟩ := r.rs p z
  rw [e] at q; cases q
theorem RS.fr (r : RS c R h H) {p : Addr} (e : H p = none) : ∀ q, R q → q ≠ p := fun q z => by
  obtain ⟨_, u, y⟩ := r.rs q z
  exact ne_of_none y e
theorem Ext.fresh {p : Addr} {o : HO} (r : RS c R h H) (e : H p = none) : Ext R h H h (upd H p o) := .mk' (fun q u a b _ => ⟨by rw [upd_ne (ne_of_none b e)]; exact b, a⟩) (fun q z => upd_ne (r.fr e q z))
theorem RS.fresh {p : Addr} {o : HO} (r : RS c R h H) (e : H p = none) : RS c R h (upd H p o) := ⟨fun a u q => by
  obtain ⟨z, hz⟩ := (r.ob a u q).some
  exact (r.ob a u q).ext (Ext.fresh r e) (upd_ne (ne_of_none hz e)), fun q z => ⟨(r.rs q z).1, by rw [upd_ne (r.fr e q z)]; exact (r.rs q z).2⟩⟩
theorem Le.ext (l : Le h' h) : Ext R h H h' H := .mk' (fun _ _ a b _ => ⟨b, l.no a.1, a.2⟩) (fun _ _ => rfl)
theorem RS.le (r : RS c R h H) (l : Le h' h) : RS c R h' H := ⟨fun a o q => (r.ob a o (l a o q)).ext l.ext rfl, fun q z => ⟨l.no (r.rs q z).1, (r.rs q z).2⟩⟩
/-- a new tracked thing of the D-heap -/
theorem Ext.newO {p : Addr} {o : HO} {u : O} (r : RS c R h H) (e : H p = none) : Ext R h H (upO h p u) (upd H p o) := .mk' (fun q v a b _ => ⟨by rw [upd_ne (ne_of_none b e)]; exact b, by rw [upO_ne (ne_of_none b e)]; exact a.1, a.2⟩) (fun q z => upd_ne (r.fr e q z))
theorem RS.newO {p : Addr} {o : HO} {w : O} (r : RS c R h H) (e : H p = none) (q : RO c R (upO h p w) (upd H p o) p w) : RS c R (upO h p w) (upd H p o) := ⟨fun a u z => by
  by_cases ha : a = p
  · subst ha
    rw [upO_same] at z
    cases z
    exact q
  · rw [upO_ne ha] at z
    exact (r.ob a u z).ext (Ext.newO r e) (upd_ne ha), fun q z => ⟨by rw [upO_ne (r.fr e q z)]; exact (r.rs q z).1, by rw [upd_ne (r.fr e q z)]; exact (r.rs q z).2⟩⟩
theorem RS.newL {p : Addr} {vs : List V} {ds : List D} (r : RS c R h H) (e : H p = none) (q : RVs c R h H vs ds) : RS c R (upO h p (.lst ds)) (upd H p (.lst vs)) :=
  r.newO e ⟨vs, upd_same, q.ext (Ext.newO r e)⟩
/-- a thing of the D-heap changes -/
theorem Ext.setO {p : Addr} {o : HO} {u w : O} (r : RS c R h H) (e : h p = some u) : Ext R h H (upO h p w) (upd H p o) := .mk' (fun q v a b _ => by
  have ne : q ≠ p := fun z => by have a := a.1; rw [z, e] at a; cases a
  exact ⟨by rw [upd_ne ne]; exact b, by rw [upO_ne ne]; exact a.1, a.2⟩) (fun q z => upd_ne fun y => r.nr e (y ▸ z))
theorem RS.setO {p : Addr} {o : HO} {u w : O} (r : RS c R h H) (e : h p = some u) (q : RO c R (upO h p w) (upd H p o) p w) : RS c R (upO h p w) (upd H p o) := ⟨fun a u z => by
  by_cases ha : a = p
  · subst ha
    rw [upO_same] at z
    cases z
    exact q
  · rw [upO_ne ha] at z
    exact (r.ob a u z).ext (Ext.setO r e) (upd_ne ha), fun q z => by
    have ne : q ≠ p := fun y => r.nr e (y ▸ z)
    exact ⟨by rw [upO_ne ne]; exact (r.rs q z).1, by rw [upd_ne ne]; exact (r.rs q z).2⟩⟩
theorem RS.setL {p : Addr} {vs : List V} {ds : List D} {u : O} (r : RS c R h H) (e : h p = some u) (q : RVs c R h H vs ds) : RS c R (upO h p (.lst ds)) (upd H p (.lst vs)) :=
  r.setO e ⟨vs, upd_same, q.ext (Ext.setO r e)⟩

/-- the slots -/
structure RE (c : Cc) (R : Addr → Prop) (h : DH) (H : Hp) (σ : St) (env : En) : Prop where
  len : env.length = σ.length
  get : ∀ (i : Nat) (d : D), env[i]? = some (some d) → ∃ v : V, σ[i]? = some (some v) ∧ RV c R h H v d
theorem RE.kp {σ : St} {env : En} (r : RE c R h H σ env) (e : Kp R h H h' H') : RE c R h' H' σ env := ⟨r.len, fun i d q => let ⟨v, a, b⟩ := r.get i d q; ⟨v, a, b.kp e⟩⟩
theorem RE.ext {σ : St} {env : En} (r : RE c R h H σ env) (e : Ext R h H h' H') : RE c R h' H' σ env := ⟨r.len, fun i d q => let ⟨v, a, b⟩ := r.get i d q; ⟨v, a, b.ext e⟩⟩
theorem RE.set {σ : St} {env : En} {v : V} {d : D} (r : RE c R h H σ env) (q : RV c R h H v d) (i : Nat) : RE c R h H (σ.set i (some v)) (env.set i (some d)) := ⟨by simp [r.len], fun j e z => by
  by_cases hj : i = j
  · subst hj
    by_cases hi : i < env.length
    · rw [List.getElem?_set_self hi] at z
      cases z
      exact ⟨v, by rw [List.getElem?_set_self (by rw [← r.len]; exact hi)], q⟩
    · rw [List.getElem?_eq_none (by simpa using hi)] at z; cases z
  · rw [List.getElem?_set_ne hj] at z ⊢
    exact r.get j e z⟩
/-- less of the slots -/
def LeE (e' e : En) : Prop := e'.length = e.length ∧ ∀ (i : Nat) (d : D), e'[i]? = some (some d) → e[i]? = some (some d)
theorem LeE.refl (e : En) : LeE e e := ⟨rfl, fun _ _ q => q⟩
theorem RE.le {σ : St} {env env' : En} (r : RE c R h H σ env) (l : LeE env' env) : RE c R h H σ env' := ⟨l.1.trans r.len, fun i d q => r.get i d (l.2 i d q)⟩
theorem LeE.nil : LeE [] [] := LeE.refl _
theorem LeE.cons {a b : Option D} {x y : En} (h : a = b ∨ a = none) (l : LeE x y) : LeE (a :: x) (b :: y) := ⟨by simp [l.1], fun i d q => by
  cases i with
  | zero =>
    simp only [List.getElem?_cons_zero, Option.some.injEq] at q ⊢
    rcases h with h | h
    · rw [← h]; exact q
    · rw [h] at q; cases q
  | succ i =>
    simp only [List.getElem?_cons_succ] at q ⊢
    exact l.2 i d q⟩

/-- an exception -/
def RX (c : Cc) (R : Addr → Prop) (h : DH) (H : Hp) (x : DX) (cls : Value) (od : Option Addr) : Prop :=
  ∃ C, c.mg x.c = some (.ref C) ∧ cls = .ref C ∧ match x.f with
    | none => od = none
    | some (f, d) => ∃ dd v, od = some dd ∧ H dd = some (.xd [(f, v)]) ∧ RV c R h H v d

/-! ### readings of denotations -/
section
variable (c : Cc) (W : WX)
/-- what an exception asks, at the slots σ -/
def EOk (R : Addr → Prop) (h : DH) (H : Hp) (σ : St) (EP : EK) : Prop := ∀ x h' cls od H', EP x h' → Ext R h H h' H' → RS c R h' H' → RX c R h' H' x cls od → W cls od σ H'
def EOkS (R : Addr → Prop) (h : DH) (H : Hp) (EP : EK) : Prop := ∀ x h' cls od H' σ', EP x h' → Ext R h H h' H' → RS c R h' H' → RX c R h' H' x cls od → W cls od σ' H'
structure RdD (m : DM) (σ : St) (H : Hp) (Q : VK) (R : Addr → Prop) (env : En) (h : DH) (P : DK) (EP : EK) : Prop where
  rs : RS c R h H
  re : RE c R h H σ env
  run : m env h EP P
  fin : ∀ d h' v H', P d h' → Ext R h H h' H' → RS c R h' H' → RV c R h' H' v d → Q v H'
  exc : EOk c W R h H σ EP
def tD (m : DM) : TE := fun σ H Q => ∃ R env h P EP, RdD c W m σ H Q R env h P EP
structure RdT (m : DT) (σ : St) (H : Hp) (Q : Bool → Hp → Prop) (R : Addr → Prop) (env : En) (h : DH) (P : Bool → DH → Prop) (EP : EK) : Prop where
  rs : RS c R h H
  re : RE c R h H σ env
  run : m env h EP P
  fin : ∀ b h' H', P b h' → Ext R h H h' H' → RS c R h' H' → Q b H'
  exc : EOk c W R h H σ EP
def tDT (m : DT) : TT := fun σ H Q => ∃ R env h P EP, RdT c W m σ H Q R env h P EP
structure RdA (m : DA) (σ : St) (H : Hp) (Q : List V → Hp → Prop) (R : Addr → Prop) (env : En) (h : DH) (P : List D → DH → Prop) (EP : EK) : Prop where
  rs : RS c R h H
  re : RE c R h H σ env
  run : m env h EP P
  fin : ∀ ds h' vs H', P ds h' → Ext R h H h' H' → RS c R h' H' → RVs c R h' H' vs ds → Q vs H'
  exc : EOk c W R h H σ EP
def tDA (m : DA) : TA := fun σ H Q => ∃ R env h P EP, RdA c W m σ H Q R env h P EP
structure RdS (m : DS) (D : Ends) (σ : St) (H : Hp) (R : Addr → Prop) (env : En) (h : DH) (P : Fl) (EP : EK) : Prop where
  rs : RS c R h H
  re : RE c R h H σ env
  run : m env h EP P
  nx : ∀ e h' σ' H', P.nx e h' → Ext R h H h' H' → RS c R h' H' → RE c R h' H' σ' e → D.nx σ' H'
  rt : ∀ d h' v H', P.rt d h' → Ext R h H h' H' → RS c R h' H' → RV c R h' H' v d → D.rt v H'
  bk : ∀ e h' σ' H', P.bk e h' → Ext R h H h' H' → RS c R h' H' → RE c R h' H' σ' e → D.bk σ' H'
  ct : ∀ e h' σ' H', P.ct e h' → Ext R h H h' H' → RS c R h' H' → RE c R h' H' σ' e → D.ct σ' H'
  exc : EOkS c W R h H EP
def tDS (m : DS) : TS := fun D σ H => ∃ R env h P EP, RdS c W m D σ H R env h P EP
end
variable {W : WX}
theorem EOk.ext {σ : St} {EP : EK} (q : EOk c W R h H σ EP) (e : Ext R h H h1 H1) : EOk c W R h1 H1 σ EP := fun x h' cls od H' a b c d => q x h' cls od H' a (e.trans b) c d
theorem EOkS.ext {EP : EK} (q : EOkS c W R h H EP) (e : Ext R h H h1 H1) : EOkS c W R h1 H1 EP := fun x h' cls od H' σ' a b c d => q x h' cls od H' σ' a (e.trans b) c d
theorem EOkS.at {EP : EK} {σ : St} (q : EOkS c W R h H EP) : EOk c W R h H σ EP := fun x h' cls od H' a b c d => q x h' cls od H' σ a b c d
/-- the judgements -/
abbrev DE (X : Cx) (W : WX) (e : Expr) (m : DM) : Prop := PE X e (tD X.c W m)
abbrev DTt (X : Cx) (W : WX) (e : Expr) (m : DT) : Prop := PT X e (tDT X.c W m)
abbrev DWt (X : Cx) (W : WX) (e : Expr) (m : DT) : Prop := PW X e (tDT X.c W m)
abbrev DAs (X : Cx) (W : WX) (es : List Expr) (m : DA) : Prop := PA X es (tDA X.c W m)
abbrev DSt (X : Cx) (W : WX) (st : Stmt) (m : DS) : Prop := PS X st (tDS X.c W m)
abbrev DSs (X : Cx) (W : WX) (st : List Stmt) (m : DS) : Prop := PSs X st (tDS X.c W m)
theorem _root_.L2.PE.wk {X : Cx} {e : Expr} {t t' : TE} (p : PE X e t) (q : ∀ σ H Q, t' σ H Q → t σ H Q) : PE X e t' := ⟨fun pins s σ H Q I w => p.run pins s σ H Q I (q σ H Q w)⟩
theorem _root_.L2.PW.wk {X : Cx} {e : Expr} {t t' : TT} (p : PW X e t) (q : ∀ σ H Q, t' σ H Q → t σ H Q) : PW X e t' := ⟨fun wh pins s σ H Q I w => p.run wh pins s σ H Q I (q σ H Q w)⟩
theorem _root_.L2.PT.wk {X : Cx} {e : Expr} {t t' : TT} (p : PT X e t) (q : ∀ σ H Q, t' σ H Q → t σ H Q) : PT X e t' := ⟨fun pins s σ H Q I w => p.run pins s σ H Q I (q σ H Q w)⟩
theorem _root_.L2.PA.wk {X : Cx} {e : List Expr} {t t' : TA} (p : PA X e t) (q : ∀ σ H Q, t' σ H Q → t σ H Q) : PA X e t' := ⟨fun pos pins s σ H Q I w => p.run pos pins s σ H Q I (q σ H Q w)⟩
theorem _root_.L2.PS.wk {X : Cx} {e : Stmt} {t t' : TS} (p : PS X e t) (q : ∀ D σ H, t' D σ H → t D σ H) : PS X e t' := ⟨fun pins s σ H Q I w => p.run pins s σ H Q I (q Q σ H w)⟩
theorem _root_.L2.PSs.wk {X : Cx} {e : List Stmt} {t t' : TS} (p : PSs X e t) (q : ∀ D σ H, t' D σ H → t D σ H) : PSs X e t' := ⟨fun pins s σ H Q I w => p.run pins s σ H Q I (q Q σ H w)⟩
end L2.Lmp

namespace L2.Lmp
open PySem PySem.Spec PyProof.Rows
variable {R : Addr → Prop} {c : Cc} {h h' h1 h2 : DH} {H H' H1 H2 : Hp} {W : WX} {X : Cx}

/-! ### denotations of expressions -/
def Oc {α : Type} (o : Option α) (Q : α → Prop) : Prop := match o with
  | some a => Q a
  | none => False
theorem Oc_some {α : Type} {a : α} {Q : α → Prop} : Oc (some a) Q = Q a := rfl
theorem Oc_elim {α : Type} {o : Option α} {Q : α → Prop} (x : Oc o Q) : ∃ a, o = some a ∧ Q a := by
  cases o with
  | none => exact x.elim
  | some a => exact ⟨a, rfl, x⟩
def slot (e : En) (i : Nat) : Option D := (e[i]?).join
theorem slot_some {e : En} {i : Nat} {d : D} (q : slot e i = some d) : e[i]? = some (some d) := by
  unfold slot at q
  cases z : e[i]? with
  | none => rw [z] at q; cases q
  | some o => rw [z] at q; cases o with
    | none => cases q
    | some d' => simpa using q
def mVar (i : Nat) : DM := fun e h _ Q => Oc (slot e i) fun d => Q d h
def mK (d : D) : DM := fun _ h _ Q => Q d h
abbrev P1 := DH → D → (D → Prop) → Prop
abbrev P2 := DH → D → D → (D → Prop) → Prop
def mOp1 (p : P1) (a : DM) : DM := fun e h E Q => a e h E fun x h1 => p h1 x fun z => Q z h1
def mOp2 (p : P2) (a b : DM) : DM := fun e h E Q => a e h E fun x h1 => b e h1 E fun y h2 => p h2 x y fun z => Q z h2
def aNil : DA := fun _ h _ Q => Q [] h
def aCons (m : DM) (r : DA) : DA := fun e h E Q => m e h E fun x h1 => r e h1 E fun xs h2 => Q (x :: xs) h2
def mTup (a : DA) : DM := fun e h E Q => a e h E fun xs h1 => xs.length ≤ 1000 ∧ Q (.tup xs) h1
def mLst (a : DA) : DM := fun e h E Q => a e h E fun xs h1 => xs.length ≤ 1000 ∧ Q (.lst xs) h1
def mLstM (a : DA) : DM := fun e h E Q => a e h E fun xs h1 => xs.length ≤ 1000 ∧ ∀ p, h1 p = none → Q (.ref p) (upO h1 p (.lst xs))
def mIf (t : DT) (a b : DM) : DM := fun e h E Q => t e h E fun k h1 => if k = true then a e h1 E Q else b e h1 E Q
def tTru (p : DH → D → (Bool → Prop) → Prop) (m : DM) : DT := fun e h E Q => m e h E fun x h1 => p h1 x fun k => Q k h1
def tNt (t : DT) : DT := fun e h E Q => t e h E fun k h1 => Q (!k) h1
def tAnd2 (a b : DT) : DT := fun e h E Q => a e h E fun k h1 => if k = true then b e h1 E Q else Q false h1
def tOr2 (a b : DT) : DT := fun e h E Q => a e h E fun k h1 => if k = true then Q true h1 else b e h1 E Q
def tOp2 (p : P2) (a b : DM) : DT := fun e h E Q => a e h E fun x h1 => b e h1 E fun y h2 => p h2 x y fun z => ∃ k, z = .bl k ∧ Q k h2
def mChain (p q : P2) (a b d : DM) : DM := fun e h E Q => a e h E fun x h1 => b e h1 E fun y h2 => p h2 x y fun z => ∃ k, z = .bl k ∧ if k = true then d e h2 E fun w h3 => q h3 y w fun u => Q u h3 else Q (.bl false) h2
def tChain' (p q : P2) (a b d : DM) : DT := fun e h E Q => a e h E fun x h1 => b e h1 E fun y h2 => p h2 x y fun z => ∃ k, z = .bl k ∧ if k = true then d e h2 E fun w h3 => q h3 y w fun u => ∃ k, u = .bl k ∧ Q k h3 else Q false h2
/-- a and b, a or b of bools as values -/
def mAnd (a b : DM) : DM := fun e h E Q => a e h E fun x h1 => ∃ k, x = .bl k ∧ if k = true then b e h1 E Q else Q (.bl false) h1
def mOr (a b : DM) : DM := fun e h E Q => a e h E fun x h1 => ∃ k, x = .bl k ∧ if k = true then Q (.bl true) h1 else b e h1 E Q
def mNot (a : DM) : DM := fun e h E Q => a e h E fun x h1 => ∃ k, x = .bl k ∧ Q (.bl (!k)) h1
def mCall (n : Nat) (F : Fn) (a : DA) : DM := fun e h E Q => a e h E fun ds h1 => ds.length = n ∧ F ds h1 E Q
def mBlt (p : DH → List D → (D → Prop) → Prop) (a : DA) : DM := fun e h E Q => a e h E fun ds h1 => p h1 ds fun z => Q z h1

/-! ### what the values' operations do -/
/-- less is asked of the end -/
def Imp2 (c : Cc) (p : P2) (r : R2) : Prop := ∀ (R : Addr → Prop) (h : DH) (H : Hp) (x y : D) (v u : V) (P : D → Prop) (Q : VK), RS c R h H → RV c R h H v x → RV c R h H u y → p h x y P →
  (∀ d w H', P d → Ext R h H h H' → RS c R h H' → RV c R h H' w d → Q w H') → r v u H Q
def ImpL (c : Cc) (p : DH → List D → (D → Prop) → Prop) (r : List V → Hp → VK → Prop) : Prop := ∀ (R : Addr → Prop) (h : DH) (H : Hp) (xs : List D) (vs : List V) (P : D → Prop) (Q : VK), RS c R h H → RVs c R h H vs xs → p h xs P →
  (∀ d w H', P d → Ext R h H h H' → RS c R h H' → RV c R h H' w d → Q w H') → r vs H Q
def ImpT (c : Cc) (p : DH → D → (Bool → Prop) → Prop) (r : V → Hp → (Bool → Hp → Prop) → Prop) : Prop := ∀ (R : Addr → Prop) (h : DH) (H : Hp) (x : D) (v : V) (P : Bool → Prop) (Q : Bool → Hp → Prop), RS c R h H → RV c R h H v x → p h x P →
  (∀ k, P k → Q k H) → r v H Q

/-! ### rules -/
section
variable {a b d : Expr} {ma mb md : DM} {es : List Expr} {da : DA} {ta tb : DT} {pos : Pos}
theorem de_var (i : Nat) {x : Str} {pos : Pos} (hN : X.N[i]? = some x := by rfl) (hv : Vis X.env.scope x := by first | exact Or.inl rfl | exact Or.inr (Or.inl rfl) | exact Or.inr (Or.inr rfl)) (hd : (x == ("__debug__" : Str)) = false := by decide)
    (hcd : (x == ("__classdict__" : Str)) = false := by decide) : DE X W (.Name x pos) (mVar i) := (pe_var hN hv hd hcd).wk fun σ H Q ⟨R, env, h, P, EP, r⟩ => by
  obtain ⟨d, e, q⟩ := Oc_elim r.run
  obtain ⟨v, e1, rv⟩ := r.re.get i d (slot_some e)
  exact ⟨v, e1, r.fin d h v H q .refl r.rs rv⟩
theorem tC_wk {v : V} {d : D} (hv : ∀ R h H, RV c R h H v d) : ∀ σ H Q, tD c W (mK d) σ H Q → tC v σ H Q := fun σ H Q ⟨R, env, h, P, EP, r⟩ => r.fin d h v H r.run .refl r.rs (hv _ _ _)
theorem de_int {i j pos} : DE X W (.Constant (.int i) j pos) (mK (.int i)) := pe_int.wk (tC_wk fun _ _ _ => .int i)
theorem de_bl {i j pos} : DE X W (.Constant (.bool i) j pos) (mK (.bl i)) := pe_bl.wk (tC_wk fun _ _ _ => .bl i)
theorem de_non {j pos} : DE X W (.Constant .none j pos) (mK .non) := pe_non.wk (tC_wk fun _ _ _ => .non)
theorem de_str {i j pos} : DE X W (.Constant (.str i) j pos) (mK (.str i)) := pe_str.wk (tC_wk fun _ _ _ => .str i)
theorem de_gint {x : Str} {i : Int} {u : Value} {pos : Pos} (hg : Gl X x) (hm : X.mg x = some u) (r : RelV (.int i) u) (hd : (x == ("__debug__" : Str)) = false := by decide) : DE X W (.Name x pos) (mK (.int i)) := (pe_glob hg hm r hd).wk (tC_wk fun _ _ _ => .int i)
theorem de_ty {x : Str} {n : String} {pos : Pos} (hg : Gl X x) (hm : X.mg x = none) (hv : bootBuiltins x = some (.type n)) (hn : x ≠ "__name__" := by decide) (hd : (x == ("__debug__" : Str)) = false := by decide) : DE X W (.Name x pos) (mK (.ty n)) := (pe_bltn (v := .ty n) hg hm hv rfl hn hd).wk (tC_wk fun _ _ _ => .ty n)
theorem da_nil : DAs X W [] aNil := pa_nil.wk fun σ H Q ⟨R, env, h, P, EP, r⟩ => r.fin [] h [] H r.run .refl r.rs .nil
theorem da_cons (ha : DE X W a ma) (hr : DAs X W es da) (hs : starEach (a :: es) X.env = (false, eval a X.env) :: starEach es X.env := by rfl) : DAs X W (a :: es) (aCons ma da) := (pa_cons ha hr hs).wk fun σ H Q ⟨R, env, h, P, EP, r⟩ =>
  ⟨R, env, h, _, EP, r.rs, r.re, r.run, fun x h1 v H1 q e rs rv => ⟨R, env, h1, _, EP, rs, r.re.ext e, q, fun xs h2 vs H2 q2 e2 rs2 rvs => r.fin (x :: xs) h2 (v :: vs) H2 q2 (e.trans e2) rs2 (.cons (rv.ext e2) rvs), r.exc.ext e⟩, r.exc⟩
theorem small_line {n : Nat} (z : n ≤ 1000) : n ≤ sizeLine := Nat.le_of_lt (small1000 z)
theorem de_tup {k} (ha : DAs X W es da) : DE X W (.Tuple es k pos) (mTup da) := (pe_tup ha).wk fun σ H Q ⟨R, env, h, P, EP, r⟩ =>
  ⟨R, env, h, _, EP, r.rs, r.re, r.run, fun xs h1 vs H1 ⟨z, q⟩ e rs rv => ⟨small_line (by rw [rv.length]; exact z), fun p hp => r.fin (.tup xs) h1 _ _ q (e.trans (Ext.fresh rs hp)) (rs.fresh hp) (.tup (rs.free hp) upd_same (rv.ext (Ext.fresh rs hp)))⟩, r.exc⟩
theorem de_lst (ha : DAs X W es da) : DE X W (.List es pos) (mLst da) := (pe_lst ha).wk fun σ H Q ⟨R, env, h, P, EP, r⟩ =>
  ⟨R, env, h, _, EP, r.rs, r.re, r.run, fun xs h1 vs H1 ⟨z, q⟩ e rs rv => ⟨small_line (by rw [rv.length]; exact z), fun p hp => r.fin (.lst xs) h1 _ _ q (e.trans (Ext.fresh rs hp)) (rs.fresh hp) (.lst (rs.free hp) upd_same (rv.ext (Ext.fresh rs hp)))⟩, r.exc⟩
theorem de_lstM (ha : DAs X W es da) : DE X W (.List es pos) (mLstM da) := (pe_lst ha).wk fun σ H Q ⟨R, env, h, P, EP, r⟩ =>
  ⟨R, env, h, _, EP, r.rs, r.re, r.run, fun xs h1 vs H1 ⟨z, q⟩ e rs rv => ⟨small_line (by rw [rv.length]; exact z), fun p hp => r.fin (.ref p) _ _ _ (q p (rs.no hp)) (e.trans (Ext.newO rs hp)) (rs.newL hp rv) (.ref p)⟩, r.exc⟩
/-- a two-place operation -/
theorem de_op {op : Operator} {p : P2} {r : R2} (ho : OpR X (binaryOp op) r) (hi : Imp2 X.c p r) (ha : DE X W a ma) (hb : DE X W b mb) : DE X W (.BinOp a op b pos) (mOp2 p ma mb) := (pe_op ho ha hb).wk fun σ H Q ⟨R, env, h, P, EP, r⟩ =>
  ⟨R, env, h, _, EP, r.rs, r.re, r.run, fun x h1 v H1 q e rs rv => ⟨R, env, h1, _, EP, rs, r.re.ext e, q, fun y h2 u H2 q2 e2 rs2 ru =>
    hi R h2 H2 x y v u _ Q rs2 (rv.ext e2) ru q2 fun d w H' pd e3 rs3 rw => r.fin d h2 w H' pd (e.trans (e2.trans e3)) rs3 rw, r.exc.ext e⟩, r.exc⟩
theorem de_cmp {op : CmpOp} {p : P2} {r : R2} (ho : OpR X (compareOp op) r) (hi : Imp2 X.c p r) (ha : DE X W a ma) (hb : DE X W b mb) (hm : behindInMarks op b = false) : DE X W (.Compare a [op] [b] pos) (mOp2 p ma mb) := (pe_cmpR ho ha hb hm).wk fun σ H Q ⟨R, env, h, P, EP, r⟩ =>
  ⟨R, env, h, _, EP, r.rs, r.re, r.run, fun x h1 v H1 q e rs rv => ⟨R, env, h1, _, EP, rs, r.re.ext e, q, fun y h2 u H2 q2 e2 rs2 ru =>
    hi R h2 H2 x y v u _ Q rs2 (rv.ext e2) ru q2 fun d w H' pd e3 rs3 rw => r.fin d h2 w H' pd (e.trans (e2.trans e3)) rs3 rw, r.exc.ext e⟩, r.exc⟩
theorem dt_cmp {op : CmpOp} {p : P2} {r : R2} (ho : OpR X (compareOp op) r) (hi : Imp2 X.c p r) (ha : DE X W a ma) (hb : DE X W b mb) (hm : behindInMarks op b = false) : DTt X W (.Compare a [op] [b] pos) (tOp2 p ma mb) := (pt_cmpR ho ha hb hm).wk fun σ H Q ⟨R, env, h, P, EP, r⟩ =>
  ⟨R, env, h, _, EP, r.rs, r.re, r.run, fun x h1 v H1 q e rs rv => ⟨R, env, h1, _, EP, rs, r.re.ext e, q, fun y h2 u H2 q2 e2 rs2 ru =>
    hi R h2 H2 x y v u _ _ rs2 (rv.ext e2) ru q2 fun d w H' ⟨k, ek, pd⟩ e3 rs3 rw => by
      subst ek
      cases rw
      exact ⟨k, rfl, r.fin k h2 H' pd (e.trans (e2.trans e3)) rs3⟩, r.exc.ext e⟩, r.exc⟩
theorem de_chain {op op' : CmpOp} {p q : P2} {r r' : R2} (ho : OpR X (compareOp op) r) (ho' : OpR X (compareOp op') r') (hi : Imp2 X.c p r) (hi' : Imp2 X.c q r') (ha : DE X W a ma) (hb : DE X W b mb) (hd : DE X W d md)
    (hm : lastMarks [op, op'] [b, d] = false := by with_unfolding_all rfl) : DE X W (.Compare a [op, op'] [b, d] pos) (mChain p q ma mb md) := (pe_chain ho ho' ha hb hd hm).wk fun σ H Q ⟨R, env, h, P, EP, r⟩ =>
  ⟨R, env, h, _, EP, r.rs, r.re, r.run, fun x h1 v H1 q1 e rs rv => ⟨R, env, h1, _, EP, rs, r.re.ext e, q1, fun y h2 u H2 q2 e2 rs2 ru =>
    hi R h2 H2 x y v u _ _ rs2 (rv.ext e2) ru q2 fun z w H3 ⟨k, ek, pd⟩ e3 rs3 rw => by
      subst ek
      cases rw
      refine ⟨k, rfl, ?_⟩
      cases k with
      | false => exact r.fin _ h2 _ H3 pd (e.trans (e2.trans e3)) rs3 (.bl false)
      | true =>
        exact ⟨R, env, h2, _, EP, rs3, r.re.ext (e.trans (e2.trans e3)), pd, fun t h4 tv H4 q4 e4 rs4 rt => hi' R h4 H4 y t u tv _ Q rs4 (ru.ext (e3.trans e4)) rt q4 fun d w H' pd e5 rs5 rw => r.fin d h4 w H' pd (e.trans (e2.trans (e3.trans (e4.trans e5)))) rs5 rw, r.exc.ext (e.trans (e2.trans e3))⟩, r.exc.ext e⟩, r.exc⟩
theorem dt_chain {op op' : CmpOp} {p q : P2} {r r' : R2} (ho : OpR X (compareOp op) r) (ho' : OpR X (compareOp op') r') (hi : Imp2 X.c p r) (hi' : Imp2 X.c q r') (ha : DE X W a ma) (hb : DE X W b mb) (hd : DE X W d md)
    (hm : lastMarks [op, op'] [b, d] = false := by with_unfolding_all rfl) : DTt X W (.Compare a [op, op'] [b, d] pos) (tChain' p q ma mb md) := (pt_chain ho ho' ha hb hd hm).wk fun σ H Q ⟨R, env, h, P, EP, r⟩ =>
  ⟨R, env, h, _, EP, r.rs, r.re, r.run, fun x h1 v H1 q1 e rs rv => ⟨R, env, h1, _, EP, rs, r.re.ext e, q1, fun y h2 u H2 q2 e2 rs2 ru =>
    hi R h2 H2 x y v u _ _ rs2 (rv.ext e2) ru q2 fun z w H3 ⟨k, ek, pd⟩ e3 rs3 rw => by
      subst ek
      cases rw
      refine ⟨k, rfl, ?_⟩
      cases k with
      | false => exact ⟨false, rfl, r.fin _ h2 H3 pd (e.trans (e2.trans e3)) rs3⟩
      | true =>
        exact ⟨R, env, h2, _, EP, rs3, r.re.ext (e.trans (e2.trans e3)), pd, fun t h4 tv H4 q4 e4 rs4 rt => hi' R h4 H4 y t u tv _ _ rs4 (ru.ext (e3.trans e4)) rt q4 fun d w H' ⟨k, ek, pd⟩ e5 rs5 rw => by
          subst ek
          cases rw
          exact ⟨k, rfl, r.fin k h4 H' pd (e.trans (e2.trans (e3.trans (e4.trans e5)))) rs5⟩, r.exc.ext (e.trans (e2.trans e3))⟩, r.exc.ext e⟩, r.exc⟩
/-- tests -/
theorem dt_tru {p : DH → D → (Bool → Prop) → Prop} (hi : ImpT X.c p (fun x H Q => ∃ k, TruV X.K x H k ∧ Q k H)) (ha : DE X W a ma) (he : ∀ whole, isTrue a X.env whole = (do let v ← whole; standAt a.pos; holding [v] (truthy v)) := by intro _; rfl) : DTt X W a (tTru p ma) :=
  (pt_truth ha he).wk fun σ H Q ⟨R, env, h, P, EP, r⟩ => ⟨R, env, h, _, EP, r.rs, r.re, r.run, fun x h1 v H1 q e rs rv => hi R h1 H1 x v _ _ rs rv q fun k pk => r.fin k h1 H1 pk e rs, r.exc⟩
theorem dt_not (ha : DTt X W a ta) : DTt X W (.UnaryOp .Not a pos) (tNt ta) := (pt_not ha).wk fun σ H Q ⟨R, env, h, P, EP, r⟩ => ⟨R, env, h, _, EP, r.rs, r.re, r.run, fun k h1 H1 q e rs => r.fin (!k) h1 H1 q e rs, r.exc⟩
variable {rest : List Expr}
theorem dw_and1 (ha : DTt X W a ta) : DWt X W (.BoolOp .And [a] pos) ta := pw_and1 ha
theorem dw_or1 (ha : DTt X W a ta) : DWt X W (.BoolOp .Or [a] pos) ta := pw_or1 ha
theorem dw_and (ha : DTt X W a ta) (hb : DWt X W (.BoolOp .And (b :: rest) pos) tb) : DWt X W (.BoolOp .And (a :: b :: rest) pos) (tAnd2 ta tb) := (pw_and ha hb).wk fun σ H Q ⟨R, env, h, P, EP, r⟩ =>
  ⟨R, env, h, _, EP, r.rs, r.re, r.run, fun k h1 H1 q e rs => by
    cases k with
    | true => exact ⟨R, env, h1, _, EP, rs, r.re.ext e, q, fun k2 h2 H2 q2 e2 rs2 => r.fin k2 h2 H2 q2 (e.trans e2) rs2, r.exc.ext e⟩
    | false => exact r.fin false h1 H1 q e rs, r.exc⟩
theorem dw_or (ha : DTt X W a ta) (hb : DWt X W (.BoolOp .Or (b :: rest) pos) tb) : DWt X W (.BoolOp .Or (a :: b :: rest) pos) (tOr2 ta tb) := (pw_or ha hb).wk fun σ H Q ⟨R, env, h, P, EP, r⟩ =>
  ⟨R, env, h, _, EP, r.rs, r.re, r.run, fun k h1 H1 q e rs => by
    cases k with
    | false => exact ⟨R, env, h1, _, EP, rs, r.re.ext e, q, fun k2 h2 H2 q2 e2 rs2 => r.fin k2 h2 H2 q2 (e.trans e2) rs2, r.exc.ext e⟩
    | true => exact r.fin true h1 H1 q e rs, r.exc⟩
theorem dt_w (h : DWt X W a ta) : DTt X W a ta := PW.pt h
/-- values -/
theorem de_if {t : Expr} (ht : DTt X W t ta) (ha : DE X W a ma) (hb : DE X W b mb) : DE X W (.IfExp t a b pos) (mIf ta ma mb) := (pe_ifExp ht ha hb).wk fun σ H Q ⟨R, env, h, P, EP, r⟩ =>
  ⟨R, env, h, _, EP, r.rs, r.re, r.run, fun k h1 H1 q e rs => by
    cases k with
    | true => exact ⟨R, env, h1, _, EP, rs, r.re.ext e, q, fun d h2 v H2 q2 e2 rs2 rv => r.fin d h2 v H2 q2 (e.trans e2) rs2 rv, r.exc.ext e⟩
    | false => exact ⟨R, env, h1, _, EP, rs, r.re.ext e, q, fun d h2 v H2 q2 e2 rs2 rv => r.fin d h2 v H2 q2 (e.trans e2) rs2 rv, r.exc.ext e⟩, r.exc⟩
theorem de_one {op} (ha : DE X W a ma) : DE X W (.BoolOp op [a] pos) ma := pe_one ha
theorem de_and (ha : DE X W a ma) (hb : DE X W (.BoolOp .And (b :: rest) pos) mb) : DE X W (.BoolOp .And (a :: b :: rest) pos) (mAnd ma mb) := (pe_and ha hb).wk fun σ H Q ⟨R, env, h, P, EP, r⟩ =>
  ⟨R, env, h, _, EP, r.rs, r.re, r.run, fun x h1 v H1 ⟨k, ek, q⟩ e rs rv => by
    subst ek
    cases rv
    refine ⟨k, rfl, ?_⟩
    cases k with
    | true => exact ⟨R, env, h1, _, EP, rs, r.re.ext e, q, fun d h2 v H2 q2 e2 rs2 rv => r.fin d h2 v H2 q2 (e.trans e2) rs2 rv, r.exc.ext e⟩
    | false => exact r.fin (.bl false) h1 _ H1 q e rs (.bl false), r.exc⟩
theorem de_not (ha : DE X W a ma) : DE X W (.UnaryOp .Not a pos) (mNot ma) := (pe_not ha).wk fun σ H Q ⟨R, env, h, P, EP, r⟩ =>
  ⟨R, env, h, _, EP, r.rs, r.re, r.run, fun x h1 v H1 ⟨k, ek, q⟩ e rs rv => by
    subst ek
    cases rv
    exact ⟨k, rfl, r.fin _ h1 _ H1 q e rs (.bl _)⟩, r.exc⟩
/-- a subscript -/
theorem de_ix {p : P2} {r : R2} (hr : IxR X r) (hi : Imp2 X.c p r) (ha : DE X W a ma) (hb : DE X W b mb) (hs : PlainIx b := by exact fun _ _ => rfl) : DE X W (.Subscript a b pos) (mOp2 p ma mb) := (pe_ix hr ha hb hs).wk fun σ H Q ⟨R, env, h, P, EP, r⟩ =>
  ⟨R, env, h, _, EP, r.rs, r.re, r.run, fun x h1 v H1 q e rs rv => ⟨R, env, h1, _, EP, rs, r.re.ext e, q, fun y h2 u H2 q2 e2 rs2 ru =>
    hi R h2 H2 x y v u _ Q rs2 (rv.ext e2) ru q2 fun d w H' pd e3 rs3 rw => r.fin d h2 w H' pd (e.trans (e2.trans e3)) rs3 rw, r.exc.ext e⟩, r.exc⟩
/-- a slice: parts are ints or left out -/
abbrev DO := En → DH → EK → (Option Int → DH → Prop) → Prop
def oNo : DO := fun _ h _ Q => Q none h
def oSo (m : DM) : DO := fun e h E Q => m e h E fun x h1 => ∃ i, x = .int i ∧ Q (some i) h1
def mSl (p : DH → D → Option Int → Option Int → (D → Prop) → Prop) (m : DM) (lo hi : DO) : DM := fun e h E Q => m e h E fun x h1 => lo e h1 E fun l h2 => hi e h2 E fun u h3 => p h3 x l u fun z => Q z h3
structure RdO (c : Cc) (W : WX) (m : DO) (σ : St) (H : Hp) (Q : Option Int → Hp → Prop) (R : Addr → Prop) (env : En) (h : DH) (P : Option Int → DH → Prop) (EP : EK) : Prop where
  rs : RS c R h H
  re : RE c R h H σ env
  run : m env h EP P
  fin : ∀ b h' H', P b h' → Ext R h H h' H' → RS c R h' H' → Q b H'
  exc : EOk c W R h H σ EP
def tDO (c : Cc) (W : WX) (m : DO) : TO := fun σ H Q => ∃ R env h P EP, RdO c W m σ H Q R env h P EP
abbrev DOp (X : Cx) (W : WX) (e : Option Expr) (m : DO) : Prop := PO X e (tDO X.c W m)
theorem _root_.L2.PO.wk {X : Cx} {e : Option Expr} {t t' : TO} (p : PO X e t) (q : ∀ σ H Q, t' σ H Q → t σ H Q) : PO X e t' := ⟨fun pins s σ H Q I w => p.run pins s σ H Q I (q σ H Q w)⟩
theorem do_no : DOp X W none oNo := po_none.wk fun σ H Q ⟨R, env, h, P, EP, r⟩ => r.fin none h H r.run .refl r.rs
theorem do_so (ha : DE X W a ma) : DOp X W (some a) (oSo ma) := (po_some ha).wk fun σ H Q ⟨R, env, h, P, EP, r⟩ =>
  ⟨R, env, h, _, EP, r.rs, r.re, r.run, fun x h1 v H1 ⟨i, ei, q⟩ e rs rv => by
    subst ei
    cases rv
    exact ⟨i, rfl, r.fin _ h1 H1 q e rs⟩, r.exc⟩
def ImpS (c : Cc) (p : DH → D → Option Int → Option Int → (D → Prop) → Prop) (r : V → Option Int → Option Int → Hp → VK → Prop) : Prop := ∀ (R : Addr → Prop) (h : DH) (H : Hp) (x : D) (v : V) (lo hi : Option Int) (P : D → Prop) (Q : VK), RS c R h H → RV c R h H v x → p h x lo hi P →
  (∀ d w H', P d → Ext R h H h H' → RS c R h H' → RV c R h H' w d → Q w H') → r v lo hi H Q
theorem de_slice {p : DH → D → Option Int → Option Int → (D → Prop) → Prop} {r : V → Option Int → Option Int → Hp → VK → Prop} {lo hi : Option Expr} {ml mh : DO} {p2 : Pos} (hr : SlR X r) (hi' : ImpS X.c p r) (ha : DE X W a ma) (hl : DOp X W lo ml) (hh : DOp X W hi mh) :
    DE X W (.Subscript a (.Slice lo hi none p2) pos) (mSl p ma ml mh) := (pe_slice hr ha hl hh).wk fun σ H Q ⟨R, env, h, P, EP, r⟩ =>
  ⟨R, env, h, _, EP, r.rs, r.re, r.run, fun x h1 v H1 q e rs rv => ⟨R, env, h1, _, EP, rs, r.re.ext e, q, fun l h2 H2 q2 e2 rs2 => ⟨R, env, h2, _, EP, rs2, r.re.ext (e.trans e2), q2, fun u h3 H3 q3 e3 rs3 =>
    hi' R h3 H3 x v l u _ Q rs3 (rv.ext (e2.trans e3)) q3 fun d w H' pd e4 rs4 rw => r.fin d h3 w H' pd (e.trans (e2.trans (e3.trans e4))) rs4 rw, r.exc.ext (e.trans e2)⟩, r.exc.ext e⟩, r.exc⟩
/-- built-in functions and types -/
theorem de_blt {id : String} {x : Str} {pp : Pos} {p : DH → List D → (D → Prop) → Prop} {r : List V → Hp → VK → Prop} (hc : CallR X (.builtin id) r) (hi : ImpL X.c p r) (hg : Gl X x) (hm : X.mg x = none) (hv : bootBuiltins x = some (.builtin id)) (ha : DAs X W (a :: es) da)
    (hn : x ≠ "__name__" := by decide) (hdb : (x == ("__debug__" : Str)) = false := by decide) (he : starEach (a :: es) X.env = (false, eval a X.env) :: starEach es X.env := by rfl) (hpl : (backTo pos (starEach es X.env)).any (·.1) = false := by rfl) :
    DE X W (.Call (.Name x pp) (a :: es) [] pos) (mBlt p da) := (pe_callB hc hg hm hv ha hn hdb he hpl).wk fun σ H Q ⟨R, env, h, P, EP, r⟩ =>
  ⟨R, env, h, _, EP, r.rs, r.re, r.run, fun xs h1 vs H1 q e rs rv => hi R h1 H1 xs vs _ Q rs rv q fun d w H' pd e2 rs2 rw => r.fin d h1 w H' pd (e.trans e2) rs2 rw, r.exc⟩
theorem de_bty {T : String} {x : Str} {pp : Pos} {p : DH → List D → (D → Prop) → Prop} {r : List V → Hp → VK → Prop} (hc : CallR X (.type T) r) (hi : ImpL X.c p r) (hg : Gl X x) (hm : X.mg x = none) (hv : bootBuiltins x = some (.type T)) (ha : DAs X W (a :: es) da)
    (hn : x ≠ "__name__" := by decide) (hdb : (x == ("__debug__" : Str)) = false := by decide) (he : starEach (a :: es) X.env = (false, eval a X.env) :: starEach es X.env := by rfl) (hpl : (backTo pos (starEach es X.env)).any (·.1) = false := by rfl) :
    DE X W (.Call (.Name x pp) (a :: es) [] pos) (mBlt p da) := (pe_callTy hc hg hm hv ha hn hdb he hpl).wk fun σ H Q ⟨R, env, h, P, EP, r⟩ =>
  ⟨R, env, h, _, EP, r.rs, r.re, r.run, fun xs h1 vs H1 q e rs rv => hi R h1 H1 xs vs _ Q rs rv q fun d w H' pd e2 rs2 rw => r.fin d h1 w H' pd (e.trans e2) rs2 rw, r.exc⟩
end

/-! ### a def -/
/-- what a def promises -/
def spD (c : Cc) (n : Nat) (F : Fn) : Sp := fun vs H Q E => vs.length = n ∧ ∃ R h ds P EP, RS c R h H ∧ RVs c R h H vs ds ∧ F ds h EP P ∧
  (∀ d h' v H', P d h' → Ext R h H h' H' → RS c R h' H' → RV c R h' H' v d → Q v H') ∧ (∀ x h' cls od H', EP x h' → Ext R h H h' H' → RS c R h' H' → RX c R h' H' x cls od → E cls od H')
/-- a def of the module's: its name, how many parameters, what it does -/
structure Def (c : Cc) (base : Heap) (k : Nat) (x : Str) (n : Nat) (F : Fn) : Prop where
  ex : ∃ f fd ps, FnOk c.P c.w c.K c.mg base (L2.CX c.P c.w) k f fd ps (spD c n F) ∧ c.mg x = some (.ref f) ∧ PySem.W.keepIn c.K (.ref f) = true ∧ Binds c.K fd ps []
theorem Def.mono {base : Heap} {j k : Nat} {x : Str} {n : Nat} {F : Fn} (d : Def c base j x n F) (l : j ≤ k) : Def c base k x n F := by
  obtain ⟨f, fd, ps, a, b⟩ := d.ex
  exact ⟨f, fd, ps, a.mono l, b⟩
section
variable {a : Expr} {es : List Expr} {da : DA} {pos pp : Pos} {x : Str} {k n : Nat} {F : Fn}
theorem de_call (D : Def X.c X.base k x n F) (hr : Room k X.A) (hg : Gl X x) (tk : Takes X W) (ha : DAs X W (a :: es) da) (hdb : (x == ("__debug__" : Str)) = false := by decide)
    (he : starEach (a :: es) X.env = (false, eval a X.env) :: starEach es X.env := by rfl) (hpl : (backTo pos (starEach es X.env)).any (·.1) = false := by rfl) :
    DE X W (.Call (.Name x pp) (a :: es) [] pos) (mCall n F da) := by
  obtain ⟨f, fd, ps, G, hm, hk, hb⟩ := D.ex
  exact (pe_callSD (dvs := []) G hr hg hm hk hb .nil (fun σ => passAt tk σ) ha hdb he hpl).wk fun σ H Q ⟨R, env, h, P, EP, r⟩ =>
    ⟨R, env, h, _, EP, r.rs, r.re, r.run, fun xs h1 vs H1 ⟨z, q⟩ e rs rv => by
      rw [List.append_nil]
      exact ⟨rv.length.trans z, R, h1, xs, P, EP, rs, rv, q, fun d h' v H' pd e2 rs2 rv2 => r.fin d h' v H' pd (e.trans e2) rs2 rv2, fun y h' cls od H' q2 e2 rs2 rx => r.exc y h' cls od H' q2 (e.trans e2) rs2 rx⟩, r.exc⟩
end
end L2.Lmp

namespace L2.Lmp
open PySem PySem.Spec PyProof.Rows
variable {R : Addr → Prop} {c : Cc} {h h' h1 h2 : DH} {H H' H1 H2 : Hp} {W : WX} {X : Cx}

/-! ### statements -/
abbrev DG := D → En → DH → EK → (En → DH → Prop) → Prop
abbrev DGs := List D → En → DH → EK → (En → DH → Prop) → Prop
def sPass : DS := fun e h _ D => D.nx e h
def sBrk : DS := fun e h _ D => D.bk e h
def sCnt : DS := fun e h _ D => D.ct e h
def sNever : DS := fun _ _ _ _ => False
def sSeq (a b : DS) : DS := fun e h E D => a e h E { D with nx := fun e h => b e h E D }
def sAsg (m : DM) (g : DG) : DS := fun e h E D => m e h E fun d h1 => g d e h1 E D.nx
def gNm (i : Nat) : DG := fun d e h _ Q => Q (e.set i (some d)) h
def gTu (n : Nat) (g : DGs) : DG := fun d e h E Q => ∃ xs, d = .tup xs ∧ xs.length = n ∧ g xs e h E Q
def gsNil : DGs := fun xs e h _ Q => xs = [] ∧ Q e h
def gsCons (g : DG) (r : DGs) : DGs := fun xs e h E Q => ∃ x ys, xs = x :: ys ∧ g x e h E fun e1 h1 => r ys e1 h1 E Q
def gSb (p : DH → D → D → D → (DH → Prop) → Prop) (mo mi : DM) : DG := fun d e h E Q => mo e h E fun o h1 => mi e h1 E fun i h2 => p h2 o i d fun h3 => Q e h3
def sPar (i j : Nat) (a : DA) : DS := fun e h E D => a e h E fun ds h1 => ∃ x y, ds = [x, y] ∧ D.nx ((e.set i (some x)).set j (some y)) h1
def sExp (m : DM) : DS := fun e h E D => m e h E fun _ h1 => D.nx e h1
def sRt (m : DM) : DS := fun e h E D => m e h E D.rt
def sRtN : DS := fun _ h _ D => D.rt .non h
def sIf (t : DT) (a b : DS) : DS := fun e h E D => t e h E fun k h1 => if k = true then a e h1 E D else b e h1 E D
def sAug (i : Nat) (m : DM) (p : P2) : DS := fun e h E D => Oc (slot e i) fun x => m e h E fun y h1 => p h1 x y fun z => D.nx (e.set i (some z)) h1
/-- up to what may be forgotten -/
def Wk (e : En) (h : DH) (Q : En → DH → Prop) : Prop := ∃ e' h', LeE e' e ∧ Le h' h ∧ Q e' h'
theorem Wk.of {e : En} {h : DH} {Q : En → DH → Prop} (q : Q e h) : Wk e h Q := ⟨e, h, .refl e, .refl h, q⟩
/-- what is walked: the items, what must hold all along -/
abbrev DIt := En → DH → EK → (List D → (DH → Prop) → DH → Prop) → Prop
def forL (g : DG) (body : DS) (gd : DH → Prop) : List D → DS
  | [], e, h, _, D => gd h ∧ D.nx e h
  | x :: xs, e, h, E, D => gd h ∧ g x e h E fun e1 h1 => body e1 h1 E ⟨fun e h => Wk e h fun e h => forL g body gd xs e h E D, D.rt, D.nx, fun e h => Wk e h fun e h => forL g body gd xs e h E D⟩
def sFor (it : DIt) (g : DG) (body : DS) : DS := fun e h E D => it e h E fun xs gd h1 => forL g body gd xs e h1 E D
def whL (t : DT) (body : DS) : Nat → DS
  | 0, _, _, _, _ => False
  | n + 1, e, h, E, D => t e h E fun k h1 => if k = true then body e h1 E ⟨fun e h => Wk e h fun e h => whL t body n e h E D, D.rt, D.nx, fun e h => Wk e h fun e h => whL t body n e h E D⟩ else D.nx e h1
def sWh (t : DT) (body : DS) : DS := fun e h E D => ∃ n, whL t body n e h E D
/-- comprehensions -/
def wipeE (e : En) : List Nat → En
  | [] => e
  | v :: vs => (wipeE e vs).set v none
def E0 : EK := fun _ _ => False
def compL (g : DG) (t : DT) (m : DM) (gd : DH → Prop) (e : En) : List D → DH → List D → (List D → DH → Prop) → Prop
  | [], h, acc, Q => gd h ∧ Q acc h
  | x :: xs, h, acc, Q => gd h ∧ acc.length < 16777216 ∧ g x e h E0 fun e1 h1 => t e1 h1 E0 fun k h2 => if k = true then m e1 h2 E0 fun y h3 => ∃ h4, Le h4 h3 ∧ compL g t m gd e xs h4 (acc ++ [y]) Q else ∃ h4, Le h4 h2 ∧ compL g t m gd e xs h4 acc Q
def mComp (it : DIt) (own : List Nat) (g : DG) (t : DT) (m : DM) : DM := fun e h E Q => it e h E fun xs gd h1 => compL g t m gd (wipeE e own) xs h1 [] fun ys h2 => Q (.lst ys) h2
def mCompM (it : DIt) (own : List Nat) (g : DG) (t : DT) (m : DM) : DM := fun e h E Q => it e h E fun xs gd h1 => compL g t m gd (wipeE e own) xs h1 [] fun ys h2 => ∀ p, h2 p = none → Q (.ref p) (upO h2 p (.lst ys))
def tYs : DT := fun _ h _ Q => Q true h

/-! ### blocks -/
section
variable {st : Stmt} {rest : List Stmt} {ms mr : DS} {a : Expr} {ma : DM} {pos : Pos}
theorem dss_nil : DSs X W [] sPass := pss_nil.wk fun D σ H ⟨R, env, h, P, EP, r⟩ => r.nx env h σ H r.run .refl r.rs r.re
theorem dss_one (h1 : DSt X W st ms) : DSs X W [st] ms := pss_one h1
theorem dss_cons (h1 : DSt X W st ms) (h2 : DSs X W rest mr) : DSs X W (st :: rest) (sSeq ms mr) := (pss_cons h1 h2).wk fun D σ H ⟨R, env, h, P, EP, r⟩ =>
  ⟨R, env, h, { P with nx := fun e h => mr e h EP P }, EP, r.rs, r.re, r.run, fun e h1 σ1 H1 q x rs re => ⟨R, e, h1, P, EP, rs, re, q, fun e h2 σ2 H2 q2 x2 rs2 re2 => r.nx e h2 σ2 H2 q2 (x.trans x2) rs2 re2,
    fun d h2 v H2 q2 x2 rs2 rv => r.rt d h2 v H2 q2 (x.trans x2) rs2 rv, fun e h2 σ2 H2 q2 x2 rs2 re2 => r.bk e h2 σ2 H2 q2 (x.trans x2) rs2 re2, fun e h2 σ2 H2 q2 x2 rs2 re2 => r.ct e h2 σ2 H2 q2 (x.trans x2) rs2 re2, r.exc.ext x⟩, r.rt, r.bk, r.ct, r.exc⟩
theorem ds_brk : DSt X W (.Break pos) sBrk := ps_break.wk fun D σ H ⟨R, env, h, P, EP, r⟩ => r.bk env h σ H r.run .refl r.rs r.re
theorem ds_expr (ha : DE X W a ma) (hs : swapsWith a none pos.line X.env = pure false := by rfl) : DSt X W (.Expr a pos) (sExp ma) := (ps_expr ha hs).wk fun D σ H ⟨R, env, h, P, EP, r⟩ =>
  ⟨R, env, h, _, EP, r.rs, r.re, r.run, fun d h1 v H1 q x rs rv => r.nx env h1 σ H1 q x rs (r.re.ext x), r.exc.at⟩
theorem ds_ret (ha : DE X W a ma) : DSt X W (.Return (some a) pos) (sRt ma) := (ps_ret ha).wk fun D σ H ⟨R, env, h, P, EP, r⟩ =>
  ⟨R, env, h, _, EP, r.rs, r.re, r.run, fun d h1 v H1 q x rs rv => r.rt d h1 v H1 q x rs rv, r.exc.at⟩
theorem RdS.more {D : Ends} {σ σ1 : St} {env e1 : En} {P : Fl} {EP : EK} {ms m1 : DS} (r : RdS c W ms D σ H R env h P EP) (x : Ext R h H h1 H1) (rs : RS c R h1 H1) (re : RE c R h1 H1 σ1 e1) (run : m1 e1 h1 EP P) : tDS c W m1 D σ1 H1 :=
  ⟨R, e1, h1, P, EP, rs, re, run, fun e h2 σ2 H2 q2 x2 rs2 re2 => r.nx e h2 σ2 H2 q2 (x.trans x2) rs2 re2,
    fun d h2 v H2 q2 x2 rs2 rv => r.rt d h2 v H2 q2 (x.trans x2) rs2 rv, fun e h2 σ2 H2 q2 x2 rs2 re2 => r.bk e h2 σ2 H2 q2 (x.trans x2) rs2 re2, fun e h2 σ2 H2 q2 x2 rs2 re2 => r.ct e h2 σ2 H2 q2 (x.trans x2) rs2 re2, r.exc.ext x⟩
theorem ds_if {t : Expr} {A B : List Stmt} {mt : DT} {mA mB : DS} (ht : DTt X W t mt) (hA : DSs X W A mA) (hB : DSs X W B mB) : DSt X W (.If t A B pos) (sIf mt mA mB) := (ps_if ht hA hB).wk fun D σ H ⟨R, env, h, P, EP, r⟩ =>
  ⟨R, env, h, _, EP, r.rs, r.re, r.run, fun k h1 H1 q x rs => by
    cases k with
    | true => exact r.more x rs (r.re.ext x) q
    | false => exact r.more x rs (r.re.ext x) q, r.exc.at⟩
end

/-! ### targets -/
/-- the slots but those at js stand -/
structure SameOut (js : List Nat) (σ σ' : St) : Prop where
  len : σ'.length = σ.length
  at' : ∀ j : Nat, j ∉ js → σ'[j]? = σ[j]?
theorem SameOut.refl {js : List Nat} {σ : St} : SameOut js σ σ := ⟨rfl, fun _ _ => rfl⟩
theorem SameOut.trans {js : List Nat} {σ σ1 σ2 : St} (a : SameOut js σ σ1) (b : SameOut js σ1 σ2) : SameOut js σ σ2 := ⟨b.len.trans a.len, fun j q => (b.at' j q).trans (a.at' j q)⟩
theorem SameOut.mono {js ks : List Nat} {σ σ1 : St} (a : SameOut js σ σ1) (s : ∀ j ∈ js, j ∈ ks) : SameOut ks σ σ1 := ⟨a.len, fun j q => a.at' j fun z => q (s j z)⟩
theorem wipe_at {σ : St} : ∀ {vs : List Nat} (j : Nat), (wipe σ vs)[j]? = if j ∈ vs then (σ[j]?).map (fun _ => none) else σ[j]?
  | [], j => by simp [wipe]
  | v :: vs, j => by
    unfold wipe
    rw [List.getElem?_set]
    by_cases e : v = j
    · subst e
      rw [if_pos rfl, if_pos List.mem_cons_self, wipe_length]
      by_cases l : v < σ.length
      · rw [if_pos l, List.getElem?_eq_getElem l]; rfl
      · rw [if_neg l, List.getElem?_eq_none (Nat.not_lt.mp l)]; rfl
    · rw [if_neg e, wipe_at j]
      by_cases q : j ∈ vs
      · rw [if_pos q, if_pos (List.mem_cons_of_mem _ q)]
      · rw [if_neg q, if_neg (fun z => (List.mem_cons.mp z).elim (fun y => e y.symm) q)]
theorem wipe_same {js vs : List Nat} {σ σ' : St} (s : SameOut js σ σ') (l : ∀ j ∈ js, j ∈ vs) : wipe σ' vs = wipe σ vs := by
  apply List.ext_getElem?
  intro j
  rw [wipe_at, wipe_at]
  by_cases q : j ∈ vs
  · rw [if_pos q, if_pos q]
    by_cases z : j < σ.length
    · rw [List.getElem?_eq_getElem z, List.getElem?_eq_getElem (by rw [s.len]; exact z)]; rfl
    · rw [List.getElem?_eq_none (Nat.not_lt.mp z), List.getElem?_eq_none (by rw [s.len]; exact Nat.not_lt.mp z)]
  · rw [if_neg q, if_neg q]
    exact s.at' j fun z => q (l j z)
theorem wipe_wipe {vs : List Nat} {σ : St} : wipe (wipe σ vs) vs = wipe σ vs := by
  apply List.ext_getElem?
  intro j
  rw [wipe_at, wipe_at]
  by_cases q : j ∈ vs
  · rw [if_pos q, if_pos q]
    cases σ[j]? <;> rfl
  · rw [if_neg q, if_neg q]
structure RdG (c : Cc) (W : WX) (js : List Nat) (g : DG) (v : V) (σ : St) (H : Hp) (Q : St → Hp → Prop) (R : Addr → Prop) (env : En) (h : DH) (d : D) (P : En → DH → Prop) (EP : EK) : Prop where
  rs : RS c R h H
  re : RE c R h H σ env
  rv : RV c R h H v d
  run : g d env h EP P
  fin : ∀ e h' σ' H', P e h' → Ext R h H h' H' → RS c R h' H' → RE c R h' H' σ' e → SameOut js σ σ' → Q σ' H'
  exc : EOkS c W R h H EP
def tDG (c : Cc) (W : WX) (js : List Nat) (g : DG) : TG := fun v σ H Q => ∃ R env h d P EP, RdG c W js g v σ H Q R env h d P EP
structure RdGs (c : Cc) (W : WX) (js : List Nat) (g : DGs) (vs : List V) (σ : St) (H : Hp) (Q : St → Hp → Prop) (R : Addr → Prop) (env : En) (h : DH) (ds : List D) (P : En → DH → Prop) (EP : EK) : Prop where
  rs : RS c R h H
  re : RE c R h H σ env
  rv : RVs c R h H vs ds
  run : g ds env h EP P
  fin : ∀ e h' σ' H', P e h' → Ext R h H h' H' → RS c R h' H' → RE c R h' H' σ' e → SameOut js σ σ' → Q σ' H'
  exc : EOkS c W R h H EP
def tDGs (c : Cc) (W : WX) (js : List Nat) (g : DGs) : TGs := fun v σ H Q => ∃ R env h d P EP, RdGs c W js g v σ H Q R env h d P EP
abbrev DGt (X : Cx) (W : WX) (js : List Nat) (e : Expr) (g : DG) : Prop := PG X e (tDG X.c W js g)
abbrev DGts (X : Cx) (W : WX) (js : List Nat) (e : List Expr) (g : DGs) : Prop := PGs X e (tDGs X.c W js g)
theorem _root_.L2.PG.wk {X : Cx} {e : Expr} {t t' : TG} (p : PG X e t) (q : ∀ v σ H Q, t' v σ H Q → t v σ H Q) : PG X e t' := ⟨fun pins s σ H v u Q I r w => p.run pins s σ H v u Q I r (q v σ H Q w)⟩
theorem _root_.L2.PGs.wk {X : Cx} {e : List Expr} {t t' : TGs} (p : PGs X e t) (q : ∀ v σ H Q, t' v σ H Q → t v σ H Q) : PGs X e t' := ⟨fun pins s σ H v u Q I r w => p.run pins s σ H v u Q I r (q v σ H Q w)⟩
section
variable {js : List Nat} {tg a b : Expr} {g : DG} {gs : DGs} {es : List Expr} {ma mb : DM} {pos : Pos} {body : List Stmt} {mb' : DS}
theorem dg_name {i : Nat} {x : Str} (hN : X.N.Nodup) (hi : X.N[i]? = some x) (hj : i ∈ js) (hx : Loc X.env.scope x) (hf : X.fn x = true ∨ X.env.scope.names.lookup x = some .local := by first | exact .inl rfl | exact .inr rfl | assumption) : DGt X W js (.Name x pos) (gNm i) :=
  (pg_name hN hi hx hf).wk fun v σ H Q ⟨R, env, h, d, P, EP, r⟩ => r.fin _ h _ H r.run .refl r.rs (r.re.set r.rv i) ⟨by simp, fun j q => by rw [List.getElem?_set_ne]; rintro rfl; exact q hj⟩
theorem dgs_nil : DGts X W js [] gsNil := pgs_nil.wk fun v σ H Q ⟨R, env, h, d, P, EP, r⟩ => by
  obtain ⟨e, q⟩ := r.run
  have rv := r.rv
  rw [e] at rv
  cases rv
  exact ⟨rfl, r.fin env h σ H q .refl r.rs r.re .refl⟩
theorem dgs_cons (h1 : DGt X W js a g) (h2 : DGts X W js es gs) (hs : (assignEach (a :: es) X.env).map (·.2) = assign a X.env :: (assignEach es X.env).map (·.2) := by rfl) : DGts X W js (a :: es) (gsCons g gs) := (pgs_cons h1 h2 hs).wk fun v σ H Q ⟨R, env, h, d, P, EP, r⟩ => by
  obtain ⟨x, ys, e, q⟩ := r.run
  have rv := r.rv
  rw [e] at rv
  cases rv with
  | cons rx ry =>
    exact ⟨_, _, rfl, R, env, h, x, _, EP, r.rs, r.re, rx, q, fun e1 h1 σ1 H1 q1 x1 rs1 re1 so1 => ⟨R, e1, h1, ys, P, EP, rs1, re1, ry.ext x1, q1, fun e2 h2 σ2 H2 q2 x2 rs2 re2 so2 => r.fin e2 h2 σ2 H2 q2 (x1.trans x2) rs2 re2 (so1.trans so2), r.exc.ext x1⟩, r.exc⟩
theorem dg_tup {k : Nat} {n : Nat} (hc : X.calm = true) (h : DGts X W js es gs) (hn : (assignEach es X.env).length = n := by rfl) (hst : (assignEach es X.env).findIdx? (·.1) = none := by rfl) : DGt X W js (.Tuple es k pos) (gTu n gs) :=
  (pg_tup hc h hn hst).wk fun v σ H Q ⟨R, env, h, d, P, EP, r⟩ => by
  obtain ⟨xs, e, l, q⟩ := r.run
  have rv := r.rv
  rw [e] at rv
  cases rv with
  | tup f rd rs => exact ⟨_, _, rfl, SqT.of rd, rs.length.trans l, R, env, h, xs, P, EP, r.rs, r.re, rs, q, r.fin, r.exc⟩
/-- o[i] = v by values -/
def ImpSet (c : Cc) (p : DH → D → D → D → (DH → Prop) → Prop) (t : TSet) : Prop := ∀ (R : Addr → Prop) (h : DH) (H : Hp) (o i d : D) (vo vi v : V) (P : DH → Prop) (Q : Hp → Prop), RS c R h H → RV c R h H vo o → RV c R h H vi i → RV c R h H v d → p h o i d P →
  (∀ h' H', P h' → Ext R h H h' H' → RS c R h' H' → Q H') → t vo vi v H Q
theorem dg_sub {p : DH → D → D → D → (DH → Prop) → Prop} {t : TSet} (hs : PSet X t) (hi : ImpSet X.c p t) (ha : DE X W a ma) (hb : DE X W b mb) (h1 : ∀ v, assign (.Subscript a b pos) X.env v = (do
      let ov ← holding [v] (eval a X.env)
      let iv ← holding [v, ov] (eval b X.env)
      standAt pos
      holding [v, ov, iv] (setItem ov iv v)
      release [v, ov, iv] []) := by intro _; rfl) : DGt X W js (.Subscript a b pos) (gSb p ma mb) := (pg_sub ha hb hs h1).wk fun v σ H Q ⟨R, env, h, d, P, EP, r⟩ =>
  ⟨R, env, h, _, EP, r.rs, r.re, r.run, fun o h1 vo H1 q1 x1 rs1 rv1 => ⟨R, env, h1, _, EP, rs1, r.re.ext x1, q1, fun i h2 vi H2 q2 x2 rs2 rv2 =>
    hi R h2 H2 o i d vo vi v _ _ rs2 (rv1.ext x2) rv2 (r.rv.ext (x1.trans x2)) q2 fun h3 H3 q3 x3 rs3 => r.fin env h3 σ H3 q3 (x1.trans (x2.trans x3)) rs3 (r.re.ext (x1.trans (x2.trans x3))) .refl, r.exc.at.ext x1⟩, r.exc.at⟩
theorem ds_asg (ha : DE X W a ma) (hg : DGt X W js tg g) (hs : swapsWithSole [tg] a pos.line X.env = pure false := by rfl) (hw : swappedStores [tg] a X.env = pure none := by rfl)
    (h1 : (assignEach [tg] X.env).map (·.2) = [assign tg X.env] := by rfl) : DSt X W (.Assign [tg] a pos) (sAsg ma g) := (ps_asg ha hg hs hw h1).wk fun D σ H ⟨R, env, h, P, EP, r⟩ =>
  ⟨R, env, h, _, EP, r.rs, r.re, r.run, fun d h1 v H1 q x rs rv => ⟨R, env, h1, d, _, EP, rs, r.re.ext x, rv, q, fun e h2 σ2 H2 q2 x2 rs2 re2 _ => r.nx e h2 σ2 H2 q2 (x.trans x2) rs2 re2, r.exc.ext x⟩, r.exc.at⟩
theorem ds_set {i : Nat} {x : Str} {pos' : Pos} (hN : X.N.Nodup) (hi : X.N[i]? = some x) (hx : Loc X.env.scope x) (ha : DE X W a ma) (hs : swapsWith a (some (.Name x pos')) pos.line X.env = pure false := by rfl)
    (hf : X.fn x = true ∨ X.env.scope.names.lookup x = some .local := by first | exact .inl rfl | exact .inr rfl | assumption) : DSt X W (.Assign [.Name x pos'] a pos) (sAsg ma (gNm i)) := (ps_set hN hi hx ha hs hf).wk fun D σ H ⟨R, env, h, P, EP, r⟩ =>
  ⟨R, env, h, _, EP, r.rs, r.re, r.run, fun d h1 v H1 q x rs rv => r.nx _ h1 _ H1 q x rs ((r.re.ext x).set rv i), r.exc.at⟩
theorem ds_par {i j : Nat} {x y : Str} {px py pt : Pos} {kt k2 : Nat} {pt2 : Pos} {da : DA} (hc : X.calm = true) (hN : X.N.Nodup) (hi : X.N[i]? = some x) (hj : X.N[j]? = some y) (hij : i ≠ j)
    (hx : X.env.scope.names.lookup x = some .local) (hy : X.env.scope.names.lookup y = some .local) (ha : DAs X W [a, b] da)
    (hw : swappedStores [.Tuple [.Name x px, .Name y py] kt pt] (.Tuple [a, b] k2 pt2) X.env = pure (some [x, y]))
    (hs : swapsWithSole [.Tuple [.Name x px, .Name y py] kt pt] (.Tuple [a, b] k2 pt2) pos.line X.env = pure false := by rfl) :
    DSt X W (.Assign [.Tuple [.Name x px, .Name y py] kt pt] (.Tuple [a, b] k2 pt2) pos) (sPar i j da) := (ps_par hc hN hi hj hij hx hy ha hw hs).wk fun D σ H ⟨R, env, h, P, EP, r⟩ =>
  ⟨R, env, h, _, EP, r.rs, r.re, r.run, fun ds h1 vs H1 ⟨u, w, e, q⟩ x rs rv => by
    subst e
    cases rv with
    | cons r1 rr =>
      cases rr with
      | cons r2 rr =>
        cases rr
        exact ⟨_, _, rfl, r.nx _ h1 _ H1 q x rs (((r.re.ext x).set r1 i).set r2 j)⟩, r.exc.at⟩
theorem ds_aug {i : Nat} {x : Str} {op : Operator} {p : P2} {ti : TIp} {pos' : Pos} (hN : X.N.Nodup) (hi : X.N[i]? = some x) (hx : Loc X.env.scope x) (ha : DE X W a ma) (ho : PIp X op ti) (hI : Imp2 X.c p ti)
    (hf : X.fn x = true ∨ X.env.scope.names.lookup x = some .local := by first | exact .inl rfl | exact .inr rfl | assumption) : DSt X W (.AugAssign (.Name x pos') op a pos) (sAug i ma p) := (ps_aug hN hi hx ha ho hf).wk fun D σ H ⟨R, env, h, P, EP, r⟩ => by
  obtain ⟨d, e, q⟩ := Oc_elim r.run
  obtain ⟨v, ev, rv⟩ := r.re.get i d (slot_some e)
  exact ⟨v, ev, R, env, h, _, EP, r.rs, r.re, q, fun y h1 u H1 q1 x1 rs1 ru => hI R h1 H1 d y v u _ _ rs1 (rv.ext x1) ru q1 fun z w H2 q2 x2 rs2 rw' => r.nx _ h1 _ H2 q2 (x1.trans x2) rs2 (((r.re.ext x1).ext x2).set rw' i), r.exc.at⟩

/-! ### loops -/
structure WalkD (c : Cc) (R : Addr → Prop) (h0 : DH) (H0 : Hp) (J : It) (xs : List D) (gd : DH → Prop) : Prop where
  go : ∀ (i : Nat) h H d, Kp R h0 H0 h H → RS c R h H → gd h → xs[i]? = some d → J.go i H ∧ ∀ x H', J.yld i H x H' → Ext R h H h H' ∧ RS c R h H' ∧ RV c R h H' x d
  stop : ∀ h H, Kp R h0 H0 h H → RS c R h H → gd h → J.stop xs.length H
structure RdI (c : Cc) (W : WX) (m : DIt) (σ : St) (H : Hp) (Q : It → Hp → Prop) (R : Addr → Prop) (env : En) (h : DH) (P : List D → (DH → Prop) → DH → Prop) (EP : EK) : Prop where
  rs : RS c R h H
  re : RE c R h H σ env
  run : m env h EP P
  fin : ∀ xs gd h' H' J, P xs gd h' → Ext R h H h' H' → RS c R h' H' → (∀ R' : Addr → Prop, (∀ p, R' p → R p ∨ H' p = none) → (∀ p, R p → R' p) → WalkD c R' h' H' J xs gd) → Q J H'
  exc : EOk c W R h H σ EP
def tDI (c : Cc) (W : WX) (m : DIt) : TI := fun σ H Q => ∃ R env h P EP, RdI c W m σ H Q R env h P EP
abbrev DIs (X : Cx) (W : WX) (tg iter : Expr) (m : DIt) : Prop := PI X tg iter (tDI X.c W m)
theorem _root_.L2.PI.wk {X : Cx} {tg e : Expr} {t t' : TI} (p : PI X tg e t) (q : ∀ σ H Q, t' σ H Q → t σ H Q) : PI X tg e t' := ⟨fun pins s σ H Q I w => p.run pins s σ H Q I (q σ H Q w)⟩
theorem ds_for {iter : Expr} {it : DIt} (hp : PassesOwn (model X.prog X.w) X.A X.env X.xe) (hc : X.calm = true) (hi : DIs X W tg iter it) (hg : DGt X W js tg g) (hb : DSs X W body mb')
    (hs : ∀ x, foldedSetIterable iter X.env x = pure x := by intro _; rfl) : DSt X W (.For tg iter body [] pos) (sFor it g mb') := (ps_for hp hc hi hg hb hs).wk fun D σ H ⟨R, env, h, P, EP, r⟩ => by
  refine ⟨R, env, h, _, EP, r.rs, r.re, r.run, fun xs gd h1 H1 J q x1 rs1 wk => ?_, r.exc.at⟩
  have w := wk R (fun p z => .inl z) fun p z => z
  refine ⟨fun i m σ' H' => m = xs.length - i ∧ i ≤ xs.length ∧ ∃ e' h', Ext R h1 H1 h' H' ∧ RS X.c R h' H' ∧ RE X.c R h' H' σ' e' ∧ forL g mb' gd (xs.drop i) e' h' EP P, ⟨xs.length, by simp, Nat.zero_le _, env, h1, .refl, rs1, r.re.ext x1, q⟩, ?_⟩
  rintro i m σ' H' ⟨rfl, hi, e', h', x2, rs2, re2, q2⟩
  by_cases hlt : i < xs.length
  · rw [List.drop_eq_getElem_cons hlt] at q2
    obtain ⟨g2, q2⟩ := q2
    obtain ⟨go, yd⟩ := w.go i h' H' xs[i] x2.toKp rs2 g2 (List.getElem?_eq_getElem hlt)
    refine .inr ⟨go, fun σ3 H3 => ∃ e3 h3, Ext R h1 H1 h3 H3 ∧ RS X.c R h3 H3 ∧ RE X.c R h3 H3 σ3 e3 ∧ forL g mb' gd (xs.drop (i + 1)) e3 h3 EP P, fun σ3 H3 ⟨e3, h3, a⟩ => ⟨xs.length - (i + 1), by omega, rfl, hlt, e3, h3, a⟩, fun x H3 y => ?_⟩
    obtain ⟨x3, rs3, rv3⟩ := yd x H3 y
    have again : ∀ (e5 : En) (h5 : DH) (σ5 : St) (H5 : Hp), (Wk e5 h5 fun e h => forL g mb' gd (xs.drop (i + 1)) e h EP P) → Ext R h1 H1 h5 H5 → RS X.c R h5 H5 → RE X.c R h5 H5 σ5 e5 → ∃ e3 h3, Ext R h1 H1 h3 H5 ∧ RS X.c R h3 H5 ∧ RE X.c R h3 H5 σ5 e3 ∧ forL g mb' gd (xs.drop (i + 1)) e3 h3 EP P :=
      fun e5 h5 σ5 H5 ⟨e6, h6, le, lh, q6⟩ x5 rs5 re5 => ⟨e6, h6, x5.trans lh.ext, rs5.le lh, (re5.ext lh.ext).le le, q6⟩
    refine ⟨R, e', h', xs[i], _, EP, rs3, re2.ext x3, rv3, q2, fun e4 h4 σ4 H4 q4 x4 rs4 re4 _ => ?_, r.exc.ext (x1.trans (x2.trans x3))⟩
    have xx := x2.trans (x3.trans x4)
    exact ⟨R, e4, h4, _, EP, rs4, re4, q4, fun e5 h5 σ5 H5 q5 x5 rs5 re5 => again e5 h5 σ5 H5 q5 (xx.trans x5) rs5 re5, fun d h5 v H5 q5 x5 rs5 rv5 => r.rt d h5 v H5 q5 (x1.trans (xx.trans x5)) rs5 rv5,
      fun e5 h5 σ5 H5 q5 x5 rs5 re5 => r.nx e5 h5 σ5 H5 q5 (x1.trans (xx.trans x5)) rs5 re5, fun e5 h5 σ5 H5 q5 x5 rs5 re5 => again e5 h5 σ5 H5 q5 (xx.trans x5) rs5 re5, r.exc.ext (x1.trans xx)⟩
  · have e : i = xs.length := by omega
    subst e
    rw [List.drop_length] at q2
    exact .inl ⟨w.stop h' H' x2.toKp rs2 q2.1, r.nx e' h' σ' H' q2.2 (x1.trans x2) rs2 re2⟩
theorem ds_wh {t : Expr} {mt : DT} (hp : PassesOwn (model X.prog X.w) X.A X.env X.xe) (ht : DTt X W t mt) (hb : DSs X W body mb') : DSt X W (.While t body [] pos) (sWh mt mb') := (ps_while hp ht hb).wk fun D σ H ⟨R, env, h, P, EP, r⟩ => by
  obtain ⟨n, q⟩ := r.run
  refine ⟨fun m σ' H' => ∃ e' h', Ext R h H h' H' ∧ RS X.c R h' H' ∧ RE X.c R h' H' σ' e' ∧ whL mt mb' m e' h' EP P, ⟨n, env, h, .refl, r.rs, r.re, q⟩, ?_⟩
  rintro m σ1 H1 ⟨e1, h1, x1, rs1, re1, q1⟩
  cases m with
  | zero => exact q1.elim
  | succ m =>
    refine ⟨R, e1, h1, _, EP, rs1, re1, q1, fun k h2 H2 q2 x2 rs2 => ?_, r.exc.at.ext x1⟩
    have xx := x1.trans x2
    cases k with
    | false => exact r.nx e1 h2 σ1 H2 q2 xx rs2 (re1.ext x2)
    | true =>
      refine ⟨fun σ3 H3 => ∃ e3 h3, Ext R h H h3 H3 ∧ RS X.c R h3 H3 ∧ RE X.c R h3 H3 σ3 e3 ∧ whL mt mb' m e3 h3 EP P, fun σ3 H3 a => ⟨m, Nat.lt_succ_self m, a⟩, ?_⟩
      have again : ∀ (e5 : En) (h5 : DH) (σ5 : St) (H5 : Hp), (Wk e5 h5 fun e h => whL mt mb' m e h EP P) → Ext R h H h5 H5 → RS X.c R h5 H5 → RE X.c R h5 H5 σ5 e5 → ∃ e3 h3, Ext R h H h3 H5 ∧ RS X.c R h3 H5 ∧ RE X.c R h3 H5 σ5 e3 ∧ whL mt mb' m e3 h3 EP P :=
        fun e5 h5 σ5 H5 ⟨e6, h6, le, lh, q6⟩ x5 rs5 re5 => ⟨e6, h6, x5.trans lh.ext, rs5.le lh, (re5.ext lh.ext).le le, q6⟩
      exact ⟨R, e1, h2, _, EP, rs2, re1.ext x2, q2, fun e5 h5 σ5 H5 q5 x5 rs5 re5 => again e5 h5 σ5 H5 q5 (xx.trans x5) rs5 re5, fun d h5 v H5 q5 x5 rs5 rv5 => r.rt d h5 v H5 q5 (xx.trans x5) rs5 rv5,
        fun e5 h5 σ5 H5 q5 x5 rs5 re5 => r.nx e5 h5 σ5 H5 q5 (xx.trans x5) rs5 re5, fun e5 h5 σ5 H5 q5 x5 rs5 re5 => again e5 h5 σ5 H5 q5 (xx.trans x5) rs5 re5, r.exc.ext xx⟩
end

/-! ### a def by its body -/
def Ret (d : D) (h : DH) (Q : DK) : Prop := ∃ d' h', ((d' = d ∧ Le h' h) ∨ ∃ a ds, d = .ref a ∧ h a = some (.lst ds) ∧ d' = .lst ds ∧ Le h' h ∧ h' a = none) ∧ Q d' h'
theorem Ret.of {d : D} {h : DH} {Q : DK} (q : Q d h) : Ret d h Q := ⟨d, h, .inl ⟨rfl, .refl h⟩, q⟩
theorem Ret.le {d : D} {h h' : DH} {Q : DK} (l : Le h' h) (q : Q d h') : Ret d h Q := ⟨d, h', .inl ⟨rfl, l⟩, q⟩
theorem Ret.frz {a : Addr} {ds : List D} {h h' : DH} {Q : DK} (e : h a = some (.lst ds)) (l : Le h' h) (n : h' a = none) (q : Q (.lst ds) h') : Ret (.ref a) h Q := ⟨_, h', .inr ⟨a, ds, rfl, e, rfl, l, n⟩, q⟩
def mkFn (n : Nat) (body : DS) : Fn := fun ds h E Q => body (ds.map some ++ List.replicate (n - ds.length) none) h E ⟨fun _ h' => Ret .non h' Q, fun d h' => Ret d h' Q, fun _ _ => False, fun _ _ => False⟩
theorem Ret.use {d : D} {v : V} {Q : DK} (q : Ret d h' Q) (x : Ext R h H h' H') (rs : RS c R h' H') (rv : RV c R h' H' v d) : ∃ d2 h2, Q d2 h2 ∧ Ext R h H h2 H' ∧ RS c R h2 H' ∧ RV c R h2 H' v d2 := by
  obtain ⟨d2, h2, z, q⟩ := q
  rcases z with ⟨rfl, l⟩ | ⟨a, ds, rfl, e, rfl, l, n⟩
  · exact ⟨_, h2, q, x.trans l.ext, rs.le l, rv.ext l.ext⟩
  · refine ⟨_, h2, q, x.trans l.ext, rs.le l, ?_⟩
    cases rv
    obtain ⟨vs, e2, r⟩ := rs.ob a _ e
    exact .lst ⟨n, rs.nr e⟩ e2 (r.ext l.ext)
theorem fn_ok {P : Program} {w : World} {K : PySem.W.Frag} {mg : Str → Option Value} {base : Heap} {x qual : Str} {st : Stmt} {f : Addr} {fd : FuncData} {N ps : List Str} {k n : Nat} {body : DS} (F : Fun K x qual st f fd) (S : FnScope N ps (defScope st)) (hn : ps.length = n)
    (hb : ∀ (cdv : Value) (A : Around) (outer : List Env) (s : Shared) (H : Hp) (E : XK), Room k (A.deeper (envOfC qual (defScope st) s.heap.objs.size f cdv)) →
      DSs (cxOf (L2.CX P w) P w K mg base N qual (defScope st) f cdv A outer s H E) (fun cls d _ H => E cls d H) (defBody st) body) :
    FnOk P w K mg base (L2.CX P w) (k + 1) f fd ps (spD ⟨P, w, K, mg⟩ n (mkFn N.length body)) := by
  refine F.okX S (fun vs H Q E h => h.1.trans hn.symm) fun cdv A outer s H vs Q E hr ⟨hl, R, h, ds, P', EP, rs, rv, run, fin, exc⟩ => ⟨_, hb cdv A outer s H E hr, R, _, h, _, EP, rs, ⟨?_, fun i d q => ?_⟩, run, fun e h' σ' H' q x rs' _ => ?_, fun d h' v H' q x rs' rv' => ?_, fun _ _ _ _ z => z.elim, fun _ _ _ _ z => z.elim, fun y h' cls od H' σ' a b d e => exc y h' cls od H' a b d e⟩
  · unfold start
    simp [rv.length]
  · unfold start
    by_cases hi : i < ds.length
    · rw [List.getElem?_append_left (by simpa using hi), List.getElem?_map] at q
      cases z : ds[i]? with
      | none => rw [z] at q; cases q
      | some d' =>
        rw [z] at q
        cases q
        obtain ⟨v, e, r⟩ := rv.get z
        exact ⟨v, by rw [List.getElem?_append_left (by simpa [rv.length] using hi), List.getElem?_map, e]; rfl, r⟩
    · rw [List.getElem?_append_right (by simpa using hi), List.getElem?_replicate] at q
      split at q <;> cases q
  · obtain ⟨d2, h2, a, b, e, r⟩ := q.use x rs' .non
    exact fin d2 h2 .non H' a b e r
  · obtain ⟨d2, h2, a, b, e, r⟩ := q.use x rs' rv'
    exact fin d2 h2 v H' a b e r
/-- what a def's body wants to know of its context -/
theorem tk_of {P : Program} {w : World} {K : PySem.W.Frag} {mg : Str → Option Value} {base : Heap} {N : List Str} {qual : Str} {scope : Scope} {f : Addr} {cdv : Value} {A : Around} {outer : List Env} {s : Shared} {H : Hp} {E : XK} :
    Takes (cxOf (L2.CX P w) P w K mg base N qual scope f cdv A outer s H E) (fun cls d _ H => E cls d H) := takes_of rfl rfl rfl rfl
theorem po_of {P : Program} {w : World} {K : PySem.W.Frag} {mg : Str → Option Value} {base : Heap} {N : List Str} {qual : Str} {scope : Scope} {f : Addr} {cdv : Value} {A : Around} {outer : List Env} {s : Shared} {H : Hp} {E : XK} {CX : CXT} :
    PassesOwn (model P w) (cxOf CX P w K mg base N qual scope f cdv A outer s H E).A (cxOf CX P w K mg base N qual scope f cdv A outer s H E).env (cxOf CX P w K mg base N qual scope f cdv A outer s H E).xe := PassesOwn.leaving
end L2.Lmp

namespace L2.Lmp
open PySem PySem.Spec PyProof.Rows
variable {R R' : Addr → Prop} {c : Cc} {h h' h1 h2 : DH} {H H' H1 H2 : Hp} {W : WX} {X : Cx}

/-! ### more or less is reserved -/
theorem Free.sub (s : ∀ p, R p → R' p) : ∀ p, Free R' h p → Free R h p := fun p f => ⟨f.1, fun z => f.2 (s p z)⟩
mutual
theorem RV.conv (s : ∀ p, Free R' h p → Free R h' p) {v : V} {d : D} (r : RV c R' h H v d) : RV c R h' H v d := match r with
  | .non => .non
  | .bl b => .bl b
  | .int i => .int i
  | .str x => .str x
  | .ty n => .ty n
  | .tup a b c => .tup (s _ a) b (RVs.conv s c)
  | .lst a b c => .lst (s _ a) b (RVs.conv s c)
  | .ref a => .ref a
  | .fn q => .fn q
  | .scrR a b => .scrR (s _ a) b
  | .scrK a b c d x y => .scrK a b c d x y
theorem RVs.conv (s : ∀ p, Free R' h p → Free R h' p) {vs : List V} {ds : List D} (r : RVs c R' h H vs ds) : RVs c R h' H vs ds := match r with
  | .nil => .nil
  | .cons a b => .cons (RV.conv s a) (RVs.conv s b)
end
theorem rd_there {p : Addr} {o : HO} (r : Rd H p o) : ∃ u, H p = some u := by
  rcases r with r | ⟨u, r⟩
  · exact ⟨_, r⟩
  · exact ⟨_, r⟩
theorem Free.moreO (s : ∀ p, R' p → R p ∨ H p = none) {p : Addr} {o : HO} (r : H p = some o) (f : Free R h p) : Free R' h p := ⟨f.1, fun z => by
  rcases s p z with z | z
  · exact f.2 z
  · rw [z] at r; cases r⟩
theorem Free.more (s : ∀ p, R' p → R p ∨ H p = none) {p : Addr} {o : HO} (r : Rd H p o) (f : Free R h p) : Free R' h p := ⟨f.1, fun z => by
  rcases s p z with z | z
  · exact f.2 z
  · obtain ⟨u, e⟩ := rd_there r
    rw [z] at e; cases e⟩
mutual
theorem RV.more (s : ∀ p, R' p → R p ∨ H p = none) {v : V} {d : D} (r : RV c R h H v d) : RV c R' h H v d := match r with
  | .non => .non
  | .bl b => .bl b
  | .int i => .int i
  | .str x => .str x
  | .ty n => .ty n
  | .tup a b c => .tup (a.moreO s b) b (RVs.more s c)
  | .lst a b c => .lst (a.moreO s b) b (RVs.more s c)
  | .ref a => .ref a
  | .fn q => .fn q
  | .scrR a b => .scrR (a.more s b) b
  | .scrK a b c d x y => .scrK a b c d x y
theorem RVs.more (s : ∀ p, R' p → R p ∨ H p = none) {vs : List V} {ds : List D} (r : RVs c R h H vs ds) : RVs c R' h H vs ds := match r with
  | .nil => .nil
  | .cons a b => .cons (RV.more s a) (RVs.more s b)
end
theorem RO.conv (s : ∀ p, Free R' h p → Free R h' p) {a : Addr} {o : O} (r : RO c R' h H a o) : RO c R h' H a o := by
  cases o with
  | lst ds => obtain ⟨vs, e, r⟩ := r; exact ⟨vs, e, r.conv s⟩
  | ins x fs =>
    obtain ⟨C, dx, vs, m, e, r⟩ := r
    refine ⟨C, dx, vs, m, e, ?_⟩
    clear e
    induction r with
    | nil => exact .nil
    | cons a _ ih => exact .cons (a.conv s) ih
  | dic kvs =>
    obtain ⟨xs, e, r⟩ := r
    refine ⟨xs, e, ?_⟩
    clear e
    induction r with
    | nil => exact .nil
    | cons a z b x y _ ih => exact .cons a z (b.conv s) x (y.conv s) ih
  | dik kvs =>
    obtain ⟨kk, e, r⟩ := r
    refine ⟨kk, e, ?_⟩
    clear e
    induction r with
    | nil => exact .nil
    | cons a _ ih => exact .cons (a.conv s) ih
  | tbl q =>
    obtain ⟨ps, e, t, r⟩ := r
    refine ⟨ps, e, t, fun pos cv k => ?_⟩
    obtain ⟨c, z, f, y⟩ := r pos cv k
    exact ⟨c, z, s _ f, y⟩
theorem RO.more (s : ∀ p, R' p → R p ∨ H p = none) {a : Addr} {o : O} (r : RO c R h H a o) : RO c R' h H a o := by
  cases o with
  | lst ds => obtain ⟨vs, e, r⟩ := r; exact ⟨vs, e, r.more s⟩
  | ins x fs =>
    obtain ⟨C, dx, vs, m, e, r⟩ := r
    refine ⟨C, dx, vs, m, e, ?_⟩
    clear e
    induction r with
    | nil => exact .nil
    | cons a _ ih => exact .cons (a.more s) ih
  | dic kvs =>
    obtain ⟨xs, e, r⟩ := r
    refine ⟨xs, e, ?_⟩
    clear e
    induction r with
    | nil => exact .nil
    | cons a z b x y _ ih => exact .cons a z (b.more s) x (y.more s) ih
  | dik kvs =>
    obtain ⟨kk, e, r⟩ := r
    refine ⟨kk, e, ?_⟩
    clear e
    induction r with
    | nil => exact .nil
    | cons a _ ih => exact .cons (a.more s) ih
  | tbl q =>
    obtain ⟨ps, e, t, r⟩ := r
    refine ⟨ps, e, t, fun pos cv k => ?_⟩
    obtain ⟨c, z, f, y⟩ := r pos cv k
    exact ⟨c, z, f.moreO s y, y⟩
theorem RE.more (s : ∀ p, R' p → R p ∨ H p = none) {σ : St} {env : En} (r : RE c R h H σ env) : RE c R' h H σ env := ⟨r.len, fun i d q => let ⟨v, a, b⟩ := r.get i d q; ⟨v, a, b.more s⟩⟩
theorem wipeE_length {e : En} : ∀ {vs : List Nat}, (wipeE e vs).length = e.length
  | [] => rfl
  | v :: vs => by unfold wipeE; rw [List.length_set, wipeE_length]
theorem wipeE_some {e : En} {i : Nat} {d : D} : ∀ {vs : List Nat}, (wipeE e vs)[i]? = some (some d) → e[i]? = some (some d) ∧ i ∉ vs
  | [], q => ⟨q, by simp⟩
  | v :: vs, q => by
    unfold wipeE at q
    by_cases hi : v = i
    · subst hi
      by_cases hv : v < (wipeE e vs).length
      · rw [List.getElem?_set_self hv] at q; cases q
      · rw [List.getElem?_eq_none (by simpa using hv)] at q; cases q
    · rw [List.getElem?_set_ne hi] at q
      obtain ⟨a, b⟩ := wipeE_some q
      exact ⟨a, by simp only [List.mem_cons, not_or]; exact ⟨fun e => hi e.symm, b⟩⟩
theorem RE.wipe {σ : St} {env : En} (r : RE c R h H σ env) (vs : List Nat) : RE c R h H (wipe σ vs) (wipeE env vs) := ⟨by rw [wipeE_length, wipe_length, r.len], fun i d q => by
  obtain ⟨a, b⟩ := wipeE_some q
  obtain ⟨v, e, rv⟩ := r.get i d a
  exact ⟨v, by rw [wipe_at, if_neg b]; exact e, rv⟩⟩

/-! ### comprehensions -/
abbrev W0 : WX := fun _ _ _ _ => False
structure PTsD (X : Cx) (ifs : List Expr) (m : DT) : Prop where
  p : PTs X ifs (tDT X.c W0 m)
theorem pts_noD : PTsD X [] tYs := ⟨⟨fun pins s σ H Q I ⟨R, env, h, P, EP, r⟩ => pts_nil.run pins s σ H Q I (r.fin true h H r.run .refl r.rs)⟩⟩
theorem pts_oneD {t : Expr} {m : DT} (ht : DTt X W0 t m) : PTsD X [t] m := ⟨pts_one ht⟩
theorem EOk.e0 {σ : St} {W : WX} {E : EK} (e : ∀ x h, ¬ E x h) : EOk c W R h H σ E := fun x h' _ _ _ q _ _ _ => (e x h' q).elim
theorem EOkS.e0 {W : WX} {E : EK} (e : ∀ x h, ¬ E x h) : EOkS c W R h H E := fun x h' _ _ _ _ q _ _ _ => (e x h' q).elim
theorem E0_no : ∀ x h, ¬ E0 x h := fun _ _ z => z
/-- the turn of a comprehension, at any list made so far -/
theorem comp_core {own js : List Nat} {g : DG} {t : DT} {m : DM} {te : TE} {tt : TT} {tg : TG} {σ : St} {H : Hp} {Q : VK} {R : Addr → Prop} {env : En} {h : DH} {PQ : List D → DH → Prop}
    (hjs : ∀ j ∈ js, j ∈ own)
    (hG : ∀ v σ H Q, tDG c W0 js g v σ H Q → tg v σ H Q) (hT : ∀ σ H Q, tDT c W0 t σ H Q → tt σ H Q) (hM : ∀ σ H Q, tD c W0 m σ H Q → te σ H Q)
    (rs1 : RS c R h H) (re1 : RE c R h H σ env) {J : It} {xs : List D} {gd : DH → Prop}
    (wk : ∀ R' : Addr → Prop, (∀ p, R' p → R p ∨ H p = none) → (∀ p, R p → R' p) → WalkD c R' h H J xs gd)
    (q : compL g t m gd (wipeE env own) xs h [] PQ)
    (fin : ∀ ds h2 vs H2 D' (R' : Addr → Prop), PQ ds h2 → (∀ p, R p → R' p) → (∀ p, R' p → R p ∨ p = D') → R' D' → Kp R' h H h2 H2 → (∀ p, R p → H2 p = H p) → RS c R' h2 H2 → RVs c R' h2 H2 vs ds → H2 D' = some (.lst vs) → ¬ R D' → H D' = none → Q (.ref D') H2) :
    ∀ D, H D = none → ∃ W : Nat → Nat → Hp → Prop, (∃ m, W 0 m (upd H D (.lst []))) ∧ ∀ i m H, W i m H →
      (J.stop i H ∧ Q (.ref D) H) ∨ (J.go i H ∧ ∃ Nx : Hp → Prop, (∀ H', Nx H' → ∃ m', m' < m ∧ W (i + 1) m' H') ∧ ∀ x H', J.yld i H x H' → tg x (wipe σ own) H' fun σ2 H2 => wipe σ2 own = wipe σ own ∧ tt σ2 H2 fun b H3 =>
        if b = true then te σ2 H3 fun y H4 => ∃ acc, H4 D = some (.lst acc) ∧ acc.length < sizeLine ∧ Nx (upd H4 D (.lst (acc ++ [y]))) else Nx H3) := by
  intro D hD
  have nR : ¬ R D := fun z => by
    obtain ⟨_, u, e⟩ := rs1.rs D z
    rw [hD] at e; cases e
  generalize hR : (fun p => R p ∨ p = D : Addr → Prop) = R'
  have sub : ∀ p, R p → R' p := fun p z => by rw [← hR]; exact .inl z
  have sup : ∀ p, R' p → R p ∨ H p = none := fun p z => by
    rw [← hR] at z
    rcases z with z | z
    · exact .inl z
    · rw [z]; exact .inr hD
  have inD : R' D := by rw [← hR]; exact .inr rfl
  have w := wk R' sup sub
  -- the base of all turns: H with the new list
  have kp0 : Kp R' h H h (upd H D (.lst [])) := ⟨fun p o f e _ => ⟨by rw [upd_ne (ne_of_none e hD)]; exact e, f⟩⟩
  have rs0 : RS c R' h (upd H D (.lst [])) := ⟨fun a o e => by
    obtain ⟨u, z⟩ := (rs1.ob a o e).some
    exact ((rs1.ob a o e).more sup).kp kp0 (upd_ne (ne_of_none z hD)), fun p z => by
    rw [← hR] at z
    rcases z with z | z
    · obtain ⟨a, u, e⟩ := rs1.rs p z
      exact ⟨a, u, by rw [upd_ne (ne_of_none e hD)]; exact e⟩
    · rw [z]; exact ⟨rs1.no hD, _, upd_same⟩⟩
  refine ⟨fun i k H2 => k = xs.length - i ∧ i ≤ xs.length ∧ ∃ h2 vs ds, Kp R' h H h2 H2 ∧ (∀ p, R p → H2 p = H p) ∧ RS c R' h2 H2 ∧ H2 D = some (.lst vs) ∧ RVs c R' h2 H2 vs ds ∧ compL g t m gd (wipeE env own) (xs.drop i) h2 ds PQ,
    ⟨xs.length, by simp, Nat.zero_le _, h, [], [], kp0, fun p z => upd_ne (rs1.fr hD p z), rs0, upd_same, .nil, q⟩, ?_⟩
  rintro i k H2 ⟨rfl, hi, h2, vs, ds, kp, res, rs, eD, rv, q2⟩
  have hD2 : h2 D = none := (rs.rs D inD).1
  by_cases hlt : i < xs.length
  · rw [List.drop_eq_getElem_cons hlt] at q2
    obtain ⟨g2, sz, q2⟩ := q2
    obtain ⟨go, yd⟩ := w.go i h2 H2 xs[i] kp rs g2 (List.getElem?_eq_getElem hlt)
    refine .inr ⟨go, fun H3 => ∃ h3 vs ds, Kp R' h H h3 H3 ∧ (∀ p, R p → H3 p = H p) ∧ RS c R' h3 H3 ∧ H3 D = some (.lst vs) ∧ RVs c R' h3 H3 vs ds ∧ compL g t m gd (wipeE env own) (xs.drop (i + 1)) h3 ds PQ, fun H3 a => ⟨xs.length - (i + 1), by omega, rfl, hlt, a⟩, fun x H3 y => ?_⟩
    obtain ⟨x3, rs3, rv3⟩ := yd x H3 y
    have re2 : RE c R' h2 H3 (wipe σ own) (wipeE env own) := (((re1.more sup).wipe own).kp kp).ext x3
    refine hG x (wipe σ own) H3 _ ⟨R', wipeE env own, h2, xs[i], _, E0, rs3, re2, rv3, q2, fun e4 h4 σ4 H4 q4 x4 rs4 re4 so4 => ⟨(wipe_same so4 hjs).trans wipe_wipe, ?_⟩, .e0 E0_no⟩
    refine hT σ4 H4 _ ⟨R', e4, h4, _, E0, rs4, re4, q4, fun b h5 H5 q5 x5 rs5 => ?_, .e0 E0_no⟩
    have resT : ∀ {h6 H6}, Ext R' h2 H2 h6 H6 → ∀ p, R p → H6 p = H p := fun x6 p z => (x6.res p (sub p z)).trans (res p z)
    cases b with
    | false =>
      obtain ⟨h6, l6, q6⟩ := q5
      have xx := (x3.trans (x4.trans x5)).trans l6.ext
      exact ⟨h6, vs, ds, kp.trans xx.toKp, resT xx, rs5.le l6, (xx.res D inD).trans eD, rv.ext xx, q6⟩
    | true =>
      refine hM σ4 H5 _ ⟨R', e4, h5, _, E0, rs5, re4.ext x5, q5, fun d h6 v H6 q6 x6 rs6 rv6 => ?_, .e0 E0_no⟩
      obtain ⟨h7, l7, q7⟩ := q6
      have xx := (x3.trans (x4.trans (x5.trans x6))).trans l7.ext
      have rs7 := rs6.le l7
      have e6 : H6 D = some (.lst vs) := (xx.res D inD).trans eD
      refine ⟨vs, e6, by rw [rv.length, sizeLine_eq]; exact sz, h7, vs ++ [v], ds ++ [d], ?_⟩
      -- the list grows: nothing else leans on it
      have kg : Kp R' h7 H6 h7 (upd H6 D (.lst (vs ++ [v]))) := ⟨fun p o f e _ => ⟨by rw [upd_ne (fun z => f.2 (by rw [z]; exact inD))]; exact e, f⟩⟩
      have rs8 : RS c R' h7 (upd H6 D (.lst (vs ++ [v]))) := ⟨fun a o e => by
        have ne : a ≠ D := fun z => by rw [z, (rs7.rs D inD).1] at e; cases e
        exact (rs7.ob a o e).kp kg (upd_ne ne), fun p z => ⟨(rs7.rs p z).1, by
          by_cases ep : p = D
          · rw [ep]; exact ⟨_, upd_same⟩
          · rw [upd_ne ep]; exact (rs7.rs p z).2⟩⟩
      refine ⟨kp.trans (xx.toKp.trans kg), fun p z => ?_, rs8, upd_same, ((rv.ext xx).append (.cons (rv6.ext l7.ext) .nil)).kp kg, q7⟩
      rw [upd_ne (fun y => nR (by rw [← y]; exact z))]
      exact resT xx p z
  · have e : i = xs.length := by omega
    subst e
    rw [List.drop_length] at q2
    exact .inl ⟨w.stop h2 H2 kp rs q2.1, fin ds h2 vs H2 D R' q2.2 sub (fun p z => by rw [← hR] at z; exact z) inD kp res rs rv eD nR hD⟩
/-- behind the comprehension: the list is not reserved any more -/
theorem comp_ext {D : Addr} (sub : ∀ p, R p → R' p) (sup : ∀ p, R' p → R p ∨ p = D) (kp : Kp R' h H h2 H2) (res : ∀ p, R p → H2 p = H p) (hD : H D = none) {h3 : DH} (l : ∀ p, p ≠ D → h2 p = none → h3 p = none) : Ext R h H h3 H2 :=
  .mk' (fun p o f e s => by
    have ne : p ≠ D := ne_of_none e hD
    obtain ⟨a, b⟩ := kp.keep p o ⟨f.1, fun z => (sup p z).elim f.2 ne⟩ e s
    exact ⟨a, l p ne b.1, fun z => b.2 (sub p z)⟩) res
section
variable {elt tg iter : Expr} {ifs : List Expr} {scope : Scope} {own : List (Str × Nat)} {pos : Pos} {js : List Nat} {g : DG} {t : DT} {m : DM} {it : DIt}
theorem de_comp (hc : X.calm = true) (hN : X.N.Nodup) (hi : DIs X W tg iter it) (ok : BlkOk X.N X.env.scope scope own) (hjs : ∀ j ∈ js, j ∈ own.map (·.2))
    (hg : ∀ (s : Shared) (H : Hp) (C : Addr) (cl : List (Str × Addr)) (fp : List Addr), DGt (X.blk s H scope (compEnvC scope cl C X.env) fp) W0 js tg g) (ht : ∀ (s : Shared) (H : Hp) (C : Addr) (cl : List (Str × Addr)) (fp : List Addr), PTsD (X.blk s H scope (compEnvC scope cl C X.env) fp) ifs t)
    (he : ∀ (s : Shared) (H : Hp) (C : Addr) (cl : List (Str × Addr)) (fp : List Addr), DE (X.blk s H scope (compEnvC scope cl C X.env) fp) W0 elt m) (hs : ∀ x, foldedSetIterable iter X.env x = pure x := by intro _; rfl) :
    DE X W (.ListComp elt [⟨tg, iter, ifs, 0⟩] scope pos) (mComp it (own.map (·.2)) g t m) :=
  (pe_lc hc hN hi ok hg (fun s H C cl fp => (ht s H C cl fp).p) he hs).wk fun σ H Q ⟨R, env, h, P, EP, r⟩ =>
    ⟨R, env, h, _, EP, r.rs, r.re, r.run, fun xs gd h1 H1 J q x1 rs1 wk => comp_core hjs (fun _ _ _ _ z => z) (fun _ _ _ z => z) (fun _ _ _ z => z) rs1 (r.re.ext x1) wk q
      fun ds h2 vs H2 D' R' pd sub sup inD kp res rs2 rv2 e2 nr hn => r.fin _ h2 _ H2 pd (x1.trans (comp_ext sub sup kp res hn fun _ _ z => z))
        ⟨fun a o e => (rs2.ob a o e).conv (Free.sub sub), fun p z => ⟨(rs2.rs p (sub p z)).1, (rs2.rs p (sub p z)).2⟩⟩ (.lst ⟨(rs2.rs D' inD).1, nr⟩ e2 (rv2.conv (Free.sub sub))), r.exc⟩
end
end L2.Lmp

set_option maxHeartbeats 4000000
namespace L2.Lmp
open PySem PySem.Spec PyProof.Rows
/-! tuple * int, once and not at all -/
theorem tuple_mul1 (l : Addr) (items : Array Value) (n : Nat) (dd : Option Addr) (sl : Array (Option Value)) (x : Int) (u : Tok) (c0 : (decide (x < -(2 ^ 63)) || decide (x ≥ 2 ^ 63)) = false) (c1 : (items.isEmpty || x == 1) = true) :
    Meets (Builtin.«tuple.__mul__» ⟨[.ref l, .int x u], []⟩) (fun _ R s => s.heap.get? l = some { cls := .type "tuple", dict := dd, data := .seq items n, slots := sl } ∧ R (.ok (.ret (Value.ref l))) s) :=
  .of_wp fun prog w A R s h => by
    obtain ⟨hp, g, d, tk, os⟩ := s
    obtain ⟨hl, h⟩ := h
    have f1 := AutoSeq1.idx_int
    have hT : (⟨hp, g, d, tk, os⟩ : Shared).TypeIs (.ref l) "tuple" := ⟨_, hl, rfl⟩
    wp_walk using wpAny_loadPart' hl
    refine wpAny_ite_false (decide_eq_false (by rw [c0]; exact Bool.false_ne_true)) ?_
    wp_walk using wpAny_loadPart' hl
    exact ⟨_, rfl, h⟩
theorem tuple_mul0 (l : Addr) (items : Array Value) (n : Nat) (dd : Option Addr) (sl : Array (Option Value)) (x : Int) (u : Tok) (c0 : (decide (x < -(2 ^ 63)) || decide (x ≥ 2 ^ 63)) = false) (c1 : (items.isEmpty || x == 1) = false) (c2 : (decide (x ≤ 0) || items.isEmpty) = true) :
    Meets (Builtin.«tuple.__mul__» ⟨[.ref l, .int x u], []⟩) (fun _ R s => s.heap.get? l = some { cls := .type "tuple", dict := dd, data := .seq items n, slots := sl } ∧
      R (.ok (.ret (Value.ref s.heap.objs.size))) { s with heap := s.heap.push { cls := Value.type "tuple", data := Data.seq #[] }, toks := s.toks }) :=
  .of_wp fun prog w A R s h => by
    obtain ⟨hp, g, d, tk, os⟩ := s
    obtain ⟨hl, h⟩ := h
    have f1 := AutoSeq1.idx_int
    have hz : ¬ ((#[] : Array Value).size > sizeLine) := Nat.not_lt.mpr (Nat.zero_le _)
    wp_walk using wpAny_loadPart' hl
    refine wpAny_ite_false (decide_eq_false (by rw [c0]; exact Bool.false_ne_true)) ?_
    wp_walk using wpAny_loadPart' hl
    all_goals (repeat (first
      | exact ⟨_, rfl, h⟩
      | (refine wpAny_ite_false (decide_eq_false hz) ?_; wp_walk using wpAny_loadPart' hl)))
end L2.Lmp

set_option maxHeartbeats 4000000
namespace L2.Lmp
open PySem PySem.Spec PyProof.Rows
variable {R R' : Addr → Prop} {c : Cc} {h h' h1 h2 : DH} {H H' H1 H2 : Hp} {W : WX} {X : Cx}

theorem mul_setup {l : Addr} {pins : List (Addr × Obj)} {s : Shared} {σ : St} {k : Int} {t : Tok} {xs : List V} {Q : Value → Shared → Prop} (I : Inv X pins σ H s) (hT : SqT X.K H l xs)
    (hk : ∀ (its : List Value) (dd : Option Addr) (n : Nat) (sl : Array (Option Value)), Vals xs its → s.heap.get? l = some { cls := .type "tuple", dict := dd, data := .seq its.toArray n, slots := sl } →
      ∃ S : PySem.Spec, Meets (Builtin.«tuple.__mul__» ⟨[.ref l, .int k t], []⟩) S ∧ S X.A (wants Q X.xe) s) :
    wpAny (model X.prog X.w) X.A (binaryOp .Mult (.ref l) (.int k t)) Q X.xe s := by
  obtain ⟨its, r, ⟨⟨cls, dd, data, sl⟩, ho, hc, n, hd⟩, hs⟩ := I.tuple hT
  simp only at hc hd
  subst hc hd
  obtain ⟨S, m, hS⟩ := hk its dd n sl r ho
  exact wpAny_binaryOp_repeat_ref (T := "tuple") (U := "int") (by decide) ⟨_, ho, rfl⟩ (fun s' => typeIs_int s' k t) noFill_tuple_mul F.fills_int_mul F.slot_int_rmul repeat_tuple F.slot_int_index.lookup
    (call_meets F.slot_int_rmul (typeIs_int s k t) F.entry_int_rmul (F.args_int_rmul_2 _ _) (int_rmul_tuple k t l its.toArray n dd sl)
      ⟨ho, rfl, ⟨_, ho, rfl⟩, call_meets F.slot_tuple_mul ⟨_, ho, rfl⟩ F.entry_tuple_mul (F.args_tuple_mul_2 _ _) m hS⟩)
theorem mulc0 {k : Int} (h1 : -1000 ≤ k) (h2 : k ≤ 1000) : (decide (k < -(2 ^ 63)) || decide (k ≥ 2 ^ 63)) = false := by
  rw [decide_eq_false (by omega), decide_eq_false (by omega)] <;> rfl
/-- tuple * int, of any small count -/
def rRepA (K : PySem.W.Frag) : R2 := fun x y H Q => ∃ l k xs, x = .ref l ∧ y = .int k ∧ SqT K H l xs ∧ xs ≠ [] ∧ -1000 ≤ k ∧ k ≤ 1000 ∧ xs.length ≤ 1000 ∧ (k = 1 → Q (.ref l) H) ∧ (k ≠ 1 → ∀ p, H p = none → Q (.ref p) (upd H p (.tup (List.replicate k.toNat xs).flatten)))
theorem op_repA : OpR X (binaryOp .Mult) (rRepA X.K) := by
  intro pins s σ H x y v u Q I rx ry h
  obtain ⟨l, k, xs, rfl, rfl, hT, hne, h1, h2, hz, q1, q2⟩ := h
  by_cases hk1 : k = 1
  · subst hk1
    cases rx
    obtain ⟨t, rfl⟩ := ry
    exact mul_setup I hT fun its dd n sl r ho => ⟨_, tuple_mul1 l its.toArray n dd sl 1 t (mulc0 h1 h2) (by simp), ho, ⟨.ref l, H, I, rfl, q1 rfl⟩⟩
  · by_cases hk2 : 2 ≤ k
    · exact op_repT pins s σ H _ _ v u Q I rx ry ⟨l, k, xs, rfl, rfl, hT, hne, hk2, h2, hz, q2 hk1⟩
    · cases rx
      obtain ⟨t, rfl⟩ := ry
      refine mul_setup I hT fun its dd n sl r ho => ?_
      have hi : its.toArray.isEmpty = false := by
        cases its with
        | nil => cases r; exact absurd rfl hne
        | cons a b => rfl
      have c1 : (its.toArray.isEmpty || k == 1) = false := by
        rw [hi, Bool.false_or]
        exact beq_eq_false_iff_ne.mpr hk1
      have c2 : (decide (k ≤ 0) || its.toArray.isEmpty) = true := by
        rw [decide_eq_true (by omega)]; rfl
      refine ⟨_, tuple_mul0 l its.toArray n dd sl k t (mulc0 h1 h2) c1 c2, ho, ?_⟩
      have e0 : (List.replicate k.toNat xs).flatten = [] := by rw [show k.toNat = 0 by omega]; rfl
      refine ⟨.ref s.heap.objs.size, _, I.laid (t' := s.toks) (o := .tup (List.replicate k.toNat xs).flatten) (fun b ob q => Heap.get?_push_of_some _ q) (Nat.le_refl _) ?_, rfl, q2 hk1 _ (I.hok.fresh (Nat.le_refl _))⟩
      rw [e0]
      exact ⟨Nat.zero_le _, [], .nil, IsTup.new _ _⟩

/-! ### what a D-value is, behind a list of the D-heap -/
def rs (h : DH) : D → D
  | .ref a => match h a with
    | some (.lst ds) => .lst ds
    | _ => .ref a
  | d => d
theorem rs_ref {a : Addr} {ds : List D} (e : h a = some (.lst ds)) : rs h (.ref a) = .lst ds := by simp only [rs, e]
/-- a value that is a list, read -/
theorem sq_of (r : RS c R h H) {v : V} {d : D} {ds : List D} (rv : RV c R h H v d) (e : rs h d = .lst ds) : ∃ p vs, v = .ref p ∧ SqL c.K H p vs ∧ RVs c R h H vs ds := by
  cases rv with
  | lst a b x =>
    cases e
    exact ⟨_, _, rfl, .inl (.inl b), x⟩
  | ref a =>
    cases q : h a with
    | none => simp only [rs, q] at e; cases e
    | some o =>
      cases o with
      | lst es =>
        simp only [rs, q] at e
        cases e
        obtain ⟨vs, e2, x⟩ := r.ob a _ q
        exact ⟨_, _, rfl, SqL.of e2, x⟩
      | ins _ _ => simp only [rs, q] at e; cases e
      | dic _ => simp only [rs, q] at e; cases e
      | dik _ => simp only [rs, q] at e; cases e
      | tbl _ => simp only [rs, q] at e; cases e
  | _ => cases e
theorem st_of {v : V} {ds : List D} (rv : RV c R h H v (.tup ds)) : ∃ p vs, v = .ref p ∧ SqT c.K H p vs ∧ RVs c R h H vs ds := by
  cases rv with
  | tup a b x => exact ⟨_, _, rfl, .inl (.inl b), x⟩

/-! ### + - * // % ** -/
def addP : P2 := fun h x y Q => match x, y with
  | .int i, .int j => Q (.int (i + j))
  | .tup xs, .tup ys => xs.length + ys.length ≤ 1000000 ∧ Q (.tup (xs ++ ys))
  | .str i, .str j => i.length + j.length ≤ 1000000 ∧ Q (.str (i ++ j))
  | _, _ => False
def subP : P2 := fun _ x y Q => match x, y with
  | .int i, .int j => Q (.int (i - j))
  | _, _ => False
def mulP : P2 := fun _ x y Q => match x, y with
  | .int i, .int j => (i.natAbs < 2 ^ 4000 ∧ j.natAbs < 2 ^ 4000) ∧ Q (.int (i * j))
  | .tup xs, .int k => (xs ≠ [] ∧ -1000 ≤ k ∧ k ≤ 1000 ∧ xs.length ≤ 1000) ∧ Q (.tup (List.replicate k.toNat xs).flatten)
  | _, _ => False
def divP : P2 := fun _ x y Q => match x, y with
  | .int i, .int j => (0 < j ∧ j.natAbs < 2 ^ 4000) ∧ Q (.int (i / j))
  | _, _ => False
def modP : P2 := fun _ x y Q => match x, y with
  | .int i, .int j => 0 < j ∧ Q (.int (i % j))
  | _, _ => False
def powP : P2 := fun _ x y Q => match x, y with
  | .int i, .int j => (0 ≤ j ∧ j ≤ 1000 ∧ i.natAbs < 2 ^ 64) ∧ Q (.int (i ^ j.toNat))
  | _, _ => False
theorem line_mill {n : Nat} (z : n ≤ 1000000) : n ≤ sizeLine := by rw [sizeLine_eq]; omega
def rAddAll (K : PySem.W.Frag) : R2 := fun x y H Q => (rI0 (fun i j => .int (i + j)) x y H Q ∨ rCatA K x y H Q) ∨ (∃ i j, x = .str i ∧ y = .str j ∧ i.length + j.length ≤ sizeLine ∧ Q (.str (i ++ j)) H)
theorem op_addAll : OpR X (binaryOp .Add) (rAddAll X.K) := (op_add.or op_catA).or op_add_str
theorem i_add : Imp2 c addP (rAddAll c.K) := fun R h H x y v u P Q rs rx ry p fin => by
  unfold addP at p
  split at p
  · cases rx; cases ry
    exact .inl (.inl ⟨_, _, rfl, rfl, fin _ _ H p .refl rs (.int _)⟩)
  · obtain ⟨p1, vs, e1, s1, r1⟩ := st_of rx
    obtain ⟨p2, ws, e2, s2, r2⟩ := st_of ry
    refine .inl (.inr ⟨p1, p2, vs, ws, e1, e2, s1, s2, ?_, fun z => ?_, fun z1 z2 => ?_, fun z1 z2 q hq => ?_⟩)
    · rw [r1.length, r2.length]; exact line_mill p.1
    · have := r1.length
      rw [z] at this
      have e : _ = ([] : List D) := List.eq_nil_of_length_eq_zero this.symm
      rw [e, List.nil_append] at p
      rw [← e2]
      exact fin _ _ H p.2 .refl rs ry
    · have := r2.length
      rw [z2] at this
      have e : _ = ([] : List D) := List.eq_nil_of_length_eq_zero this.symm
      rw [e, List.append_nil] at p
      rw [← e1]
      exact fin _ _ H p.2 .refl rs rx
    · exact fin _ _ _ p.2 (Ext.fresh rs hq) (rs.fresh hq) (.tup (rs.free hq) upd_same ((r1.append r2).ext (Ext.fresh rs hq)))
  · cases rx; cases ry
    exact .inr ⟨_, _, rfl, rfl, line_mill p.1, fin _ _ H p.2 .refl rs (.str _)⟩
  · exact p.elim
theorem i_sub : Imp2 c subP (rI0 fun i j => .int (i - j)) := fun R h H x y v u P Q rs rx ry p fin => by
  unfold subP at p
  split at p
  · cases rx; cases ry
    exact ⟨_, _, rfl, rfl, fin _ _ H p .refl rs (.int _)⟩
  · exact p.elim
def rMulAll (K : PySem.W.Frag) : R2 := fun x y H Q => rI CMulW (fun i j => .int (i * j)) x y H Q ∨ rRepA K x y H Q
theorem op_mulAll : OpR X (binaryOp .Mult) (rMulAll X.K) := op_mulW.or op_repA
theorem i_mul : Imp2 c mulP (rMulAll c.K) := fun R h H x y v u P Q rs rx ry p fin => by
  unfold mulP at p
  split at p
  · cases rx; cases ry
    exact .inl ⟨_, _, rfl, rfl, wide_mul p.1.1 p.1.2 (by decide) (by decide) (by decide), fin _ _ H p.2 .refl rs (.int _)⟩
  · cases ry
    obtain ⟨p1, vs, e1, s1, r1⟩ := st_of rx
    refine .inr ⟨p1, _, vs, e1, rfl, s1, fun z => p.1.1 ?_, p.1.2.1, p.1.2.2.1, by rw [r1.length]; exact p.1.2.2.2, fun z => ?_, fun z q hq => ?_⟩
    · have := r1.length
      rw [z] at this
      exact List.eq_nil_of_length_eq_zero this.symm
    · subst z
      have p2 := p.2
      simp only [Int.toNat_one, List.replicate_one, List.flatten_cons, List.flatten_nil, List.append_nil] at p2
      rw [← e1]
      exact fin _ _ H p2 .refl rs rx
    · exact fin _ _ _ p.2 (Ext.fresh rs hq) (rs.fresh hq) (.tup (rs.free hq) upd_same ((r1.rep _).ext (Ext.fresh rs hq)))
  · exact p.elim
theorem i_div : Imp2 c divP (rI CDivW fun i j => .int (i / j)) := fun R h H x y v u P Q rs rx ry p fin => by
  unfold divP at p
  split at p
  · cases rx; cases ry
    exact ⟨_, _, rfl, rfl, wide_div p.1.1 p.1.2 (by decide) (by decide), fin _ _ H p.2 .refl rs (.int _)⟩
  · exact p.elim
theorem i_mod : Imp2 c modP (rI (fun _ j => 0 < j) fun i j => .int (i % j)) := fun R h H x y v u P Q rs rx ry p fin => by
  unfold modP at p
  split at p
  · cases rx; cases ry
    exact ⟨_, _, rfl, rfl, p.1, fin _ _ H p.2 .refl rs (.int _)⟩
  · exact p.elim
theorem i_pow : Imp2 c powP (rI CPow fun i j => .int (i ^ j.toNat)) := fun R h H x y v u P Q rs rx ry p fin => by
  unfold powP at p
  split at p
  · cases rx; cases ry
    exact ⟨_, _, rfl, rfl, ⟨p.1.1, by have := p.1.2.1; omega, p.1.2.2⟩, fin _ _ H p.2 .refl rs (.int _)⟩
  · exact p.elim
def iaddP : P2 := fun _ x y Q => match x, y with
  | .int i, .int j => Q (.int (i + j))
  | _, _ => False
theorem i_iadd : Imp2 c iaddP (ipI fun i j => i + j) := fun R h H x y v u P Q rs rx ry p fin => by
  unfold iaddP at p
  split at p
  · cases rx; cases ry
    exact ⟨_, _, rfl, rfl, fin _ _ H p .refl rs (.int _)⟩
  · exact p.elim
theorem i_isub : Imp2 c subP (ipI fun i j => i - j) := fun R h H x y v u P Q rs rx ry p fin => by
  unfold subP at p
  split at p
  · cases rx; cases ry
    exact ⟨_, _, rfl, rfl, fin _ _ H p .refl rs (.int _)⟩
  · exact p.elim
end L2.Lmp

set_option maxHeartbeats 4000000
namespace L2.Lmp
open PySem PySem.Spec PyProof.Rows
variable {R R' : Addr → Prop} {c : Cc} {h h' h1 h2 : DH} {H H' H1 H2 : Hp} {W : WX} {X : Cx}

/-! ### == by data -/
mutual
def pdv : D → PyData
  | .non => .none
  | .bl b => .bool b
  | .int i => .int i
  | .str x => .str x
  | .tup xs => .tuple (pdvs xs)
  | .lst xs => .list (pdvs xs)
  | .ref _ => .dict []
  | .fn _ => .dict []
  | .scr _ => .dict []
  | .ty _ => .dict []
def pdvs : List D → List PyData
  | [] => []
  | x :: xs => pdv x :: pdvs xs
end
mutual
def eqB : D → D → Bool
  | .non, .non => true
  | .bl a, .bl b => a == b
  | .bl a, .int j => (if a then 1 else 0) == j
  | .int i, .bl b => i == (if b then 1 else 0)
  | .int i, .int j => i == j
  | .str x, .str y => x == y
  | .tup xs, .tup ys => eqBs xs ys
  | .lst xs, .lst ys => eqBs xs ys
  | _, _ => false
def eqBs : List D → List D → Bool
  | [], [] => true
  | x :: xs, y :: ys => eqB x y && eqBs xs ys
  | _, _ => false
end
mutual
theorem eqv_pdv : ∀ x y : D, PyData.eqv (pdv x) (pdv y) = eqB x y
  | .non, y => by cases y <;> rfl
  | .bl a, y => by cases y <;> rfl
  | .int a, y => by cases y <;> rfl
  | .str a, y => by cases y <;> rfl
  | .tup xs, .tup ys => eqv_pdvs xs ys
  | .lst xs, .lst ys => eqv_pdvs xs ys
  | .tup xs, .non => rfl
  | .tup xs, .bl _ => rfl
  | .tup xs, .int _ => rfl
  | .tup xs, .str _ => rfl
  | .tup xs, .lst _ => rfl
  | .tup xs, .ref _ => rfl
  | .tup xs, .fn _ => rfl
  | .tup xs, .scr _ => rfl
  | .tup xs, .ty _ => rfl
  | .lst xs, .non => rfl
  | .lst xs, .bl _ => rfl
  | .lst xs, .int _ => rfl
  | .lst xs, .str _ => rfl
  | .lst xs, .tup _ => rfl
  | .lst xs, .ref _ => rfl
  | .lst xs, .fn _ => rfl
  | .lst xs, .scr _ => rfl
  | .lst xs, .ty _ => rfl
  | .ref a, y => by cases y <;> rfl
  | .fn a, y => by cases y <;> rfl
  | .scr a, y => by cases y <;> rfl
  | .ty a, y => by cases y <;> rfl
theorem eqv_pdvs : ∀ xs ys : List D, PyData.eqvAll (pdvs xs) (pdvs ys) = eqBs xs ys
  | [], [] => rfl
  | [], _ :: _ => rfl
  | _ :: _, [] => rfl
  | x :: xs, y :: ys => by
    show (PyData.eqv (pdv x) (pdv y) && PyData.eqvAll (pdvs xs) (pdvs ys)) = (eqB x y && eqBs xs ys)
    rw [eqv_pdv x y, eqv_pdvs xs ys]
end
/-- data of a bounded depth -/
def shN : Nat → D → Prop
  | _, .non => True
  | _, .bl _ => True
  | _, .int _ => True
  | _, .str x => PyData.strOk x = true
  | n + 1, .tup xs => ∀ x ∈ xs, shN n x
  | n + 1, .lst xs => ∀ x ∈ xs, shN n x
  | _, _ => False
theorem sh_all {n : Nat} (ih : ∀ d, shN n d → (pdv d).canLay0 = true ∧ (pdv d).depth ≤ n) : ∀ xs : List D, (∀ x ∈ xs, shN n x) → PyData.canLayAll0 (pdvs xs) = true ∧ PyData.depthAll (pdvs xs) ≤ n
  | [], _ => ⟨rfl, Nat.zero_le _⟩
  | x :: xs, q => by
    obtain ⟨a, b⟩ := ih x (q x List.mem_cons_self)
    obtain ⟨d, e⟩ := sh_all ih xs fun y z => q y (List.mem_cons_of_mem _ z)
    refine ⟨?_, ?_⟩
    · show ((pdv x).canLay0 && PyData.canLayAll0 (pdvs xs)) = true
      rw [a, d]; rfl
    · show max (pdv x).depth (PyData.depthAll (pdvs xs)) ≤ n
      omega
theorem sh_lay : ∀ (n : Nat) (d : D), shN n d → (pdv d).canLay0 = true ∧ (pdv d).depth ≤ n
  | n, .non, _ => by cases n <;> exact ⟨rfl, Nat.zero_le _⟩
  | n, .bl _, _ => by cases n <;> exact ⟨rfl, Nat.zero_le _⟩
  | n, .int _, _ => by cases n <;> exact ⟨rfl, Nat.zero_le _⟩
  | n, .str x, q => by cases n <;> exact ⟨q, Nat.zero_le _⟩
  | n + 1, .tup xs, q => by
    obtain ⟨a, b⟩ := sh_all (sh_lay n) xs q
    exact ⟨a, Nat.succ_le_succ b⟩
  | n + 1, .lst xs, q => by
    obtain ⟨a, b⟩ := sh_all (sh_lay n) xs q
    exact ⟨a, Nat.succ_le_succ b⟩
  | 0, .tup _, q => q.elim
  | 0, .lst _, q => q.elim
  | 0, .ref _, q => q.elim
  | 0, .fn _, q => q.elim
  | 0, .scr _, q => q.elim
  | 0, .ty _, q => q.elim
  | _ + 1, .ref _, q => q.elim
  | _ + 1, .fn _, q => q.elim
  | _ + 1, .scr _, q => q.elim
  | _ + 1, .ty _, q => q.elim
theorem sh_shaped {d : D} (q : shN 60 d) : SeqAt.shaped (pdv d) = true := by
  obtain ⟨a, b⟩ := sh_lay 60 d q
  unfold SeqAt.shaped
  rw [a, decide_eq_true (by omega)]; rfl
mutual
theorem dp_of {v : V} {d : D} (r : RV c R h H v d) (q : (pdv d).canLay0 = true) : Dp c.K H v (pdv d) := match d, r with
  | .non, .non => .non
  | .bl b, .bl _ => .bl b
  | .int i, .int _ => .int i
  | .str x, .str _ => .str x
  | .tup xs, .tup _ b x => .tup (.inl (.inl b)) (dps_of x q)
  | .lst xs, .lst _ b x => .lst (.inl (.inl b)) (dps_of x q)
  | .ref _, .ref _ => by cases q
  | .fn _, .fn _ => by cases q
  | .ty _, .ty _ => by cases q
  | .scr _, .scrR _ _ => by cases q
  | .scr _, .scrK _ _ _ _ _ _ => by cases q
theorem dps_of {vs : List V} {ds : List D} (r : RVs c R h H vs ds) (q : PyData.canLayAll0 (pdvs ds) = true) : DpAll c.K H vs (pdvs ds) := match ds, r with
  | [], .nil => .nil
  | x :: xs, .cons a b => by
    have q : ((pdv x).canLay0 && PyData.canLayAll0 (pdvs xs)) = true := q
    rw [Bool.and_eq_true] at q
    exact .cons (dp_of a q.1) (dps_of b q.2)
end
theorem dp_rs (rs' : RS c R h H) {v : V} {d : D} (r : RV c R h H v d) (q : shN 60 (rs h d)) : Dp c.K H v (pdv (rs h d)) := by
  have l := (sh_lay 60 _ q).1
  cases d with
  | ref a =>
    cases e : h a with
    | none => simp only [rs, e] at l; cases l
    | some o =>
      cases o with
      | lst ds =>
        simp only [rs, e] at l ⊢
        cases r
        obtain ⟨vs, e2, x⟩ := rs'.ob a _ e
        exact .lst (SqL.of e2) (dps_of x l)
      | ins _ _ => simp only [rs, e] at l; cases l
      | dic _ => simp only [rs, e] at l; cases l
      | dik _ => simp only [rs, e] at l; cases l
      | tbl _ => simp only [rs, e] at l; cases l
  | _ => exact dp_of r l
def eqP : P2 := fun h x y Q => (shN 60 (rs h x) ∧ shN 60 (rs h y)) ∧ Q (.bl (eqB (rs h x) (rs h y)))
def neP : P2 := fun h x y Q => (shN 60 (rs h x) ∧ shN 60 (rs h y)) ∧ Q (.bl (!eqB (rs h x) (rs h y)))
theorem i_eq : Imp2 c eqP (rEqD c.K) := fun R h H x y v u P Q rs rx ry p fin =>
  ⟨_, _, dp_rs rs rx p.1.1, dp_rs rs ry p.1.2, sh_shaped p.1.1, sh_shaped p.1.2, by rw [eqv_pdv]; exact fin _ _ H p.2 .refl rs (.bl _)⟩
theorem i_ne : Imp2 c neP (rNeD c.K) := fun R h H x y v u P Q rs rx ry p fin =>
  ⟨_, _, dp_rs rs rx p.1.1, dp_rs rs ry p.1.2, sh_shaped p.1.1, sh_shaped p.1.2, by rw [eqv_pdv]; exact fin _ _ H p.2 .refl rs (.bl _)⟩

/-! ### order -/
def cmpP (p : Int → Int → Bool) : P2 := fun _ x y Q => match x, y with
  | .int i, .int j => Q (.bl (p i j))
  | _, _ => False
theorem i_cmp {p : Int → Int → Bool} : Imp2 c (cmpP p) (rI0 fun i j => .bl (p i j)) := fun R h H x y v u P Q rs rx ry q fin => by
  unfold cmpP at q
  split at q
  · cases rx; cases ry
    exact ⟨_, _, rfl, rfl, fin _ _ H q .refl rs (.bl _)⟩
  · exact q.elim
abbrev leP : P2 := cmpP fun i j => decide (i ≤ j)
abbrev gtP : P2 := cmpP fun i j => decide (j < i)
abbrev geP : P2 := cmpP fun i j => decide (j ≤ i)
theorem RVs.of_ints : ∀ {ns : List Int} {vs : List V}, RVs c R h H vs (ns.map D.int) → vs = ns.map V.int
  | [], _, .nil => rfl
  | n :: ns, _, .cons a b => by
    cases a
    rw [List.map_cons, RVs.of_ints b]
def ltP : P2 := fun _ x y Q => match x, y with
  | .int i, .int j => Q (.bl (decide (i < j)))
  | .tup xs, .tup ys => ∃ ns ms, xs = ns.map D.int ∧ ys = ms.map D.int ∧ Q (.bl (HT.lexLt ns ms))
  | _, _ => False
theorem op_ltA (hu : X.A.units < cLine) : OpR X (compareOp .Lt) (fun x y H Q => rI0 (fun i j => .bl (decide (i < j))) x y H Q ∨ rLtT X.K x y H Q) := op_lt.or (op_ltT hu)
theorem i_lt : Imp2 c ltP (fun x y H Q => rI0 (fun i j => .bl (decide (i < j))) x y H Q ∨ rLtT c.K x y H Q) := fun R h H x y v u P Q rs rx ry q fin => by
  unfold ltP at q
  split at q
  · cases rx; cases ry
    exact .inl ⟨_, _, rfl, rfl, fin _ _ H q .refl rs (.bl _)⟩
  · obtain ⟨ns, ms, e1, e2, q⟩ := q
    subst e1 e2
    obtain ⟨p1, vs, e1, s1, r1⟩ := st_of rx
    obtain ⟨p2, ws, e2, s2, r2⟩ := st_of ry
    rw [r1.of_ints] at s1
    rw [r2.of_ints] at s2
    exact .inr ⟨p1, p2, ns, ms, e1, e2, s1, s2, fin _ _ H q .refl rs (.bl _)⟩
  · exact q.elim
/-! ### is -/
/-! ### places -/
def ixP : P2 := fun h x y Q => match y with
  | .int i => match rs h x with
    | .tup xs => Oc (atI xs i) Q
    | .lst xs => Oc (atI xs i) Q
    | .scr ns => Oc (atI ns i) fun n => Q (.int n)
    | .str z => z.length ≤ 1000000 ∧ Oc (atI z.cps.toList i) fun k => Q (.str ⟨#[k]⟩)
    | _ => False
  | _ => False
theorem atI_rv {vs : List V} {ds : List D} {i : Int} {d : D} (r : RVs c R h H vs ds) (e : atI ds i = some d) : ∃ v, atI vs i = some v ∧ RV c R h H v d := by
  unfold atI at e ⊢
  rw [r.length]
  cases q : ixN ds.length i with
  | none => rw [q] at e; cases e
  | some j =>
    rw [q] at e
    exact RVs.get r e
theorem rs_tup {d : D} {xs : List D} (e : rs h d = .tup xs) : d = .tup xs := by
  cases d with
  | ref a =>
    cases q : h a with
    | none => simp only [rs, q] at e; cases e
    | some o => cases o <;> simp only [rs, q] at e <;> cases e
  | _ => exact e
theorem rs_imm {d x : D} (e : rs h d = x) (hx : ∀ ds, x ≠ .lst ds) (hr : ∀ a, x ≠ .ref a) : d = x := by
  cases d with
  | ref a =>
    cases q : h a with
    | none => simp only [rs, q] at e; exact absurd e.symm (hr a)
    | some o =>
      cases o with
      | lst ds => simp only [rs, q] at e; exact absurd e.symm (hx ds)
      | ins _ _ => simp only [rs, q] at e; exact absurd e.symm (hr a)
      | dic _ => simp only [rs, q] at e; exact absurd e.symm (hr a)
      | dik _ => simp only [rs, q] at e; exact absurd e.symm (hr a)
      | tbl _ => simp only [rs, q] at e; exact absurd e.symm (hr a)
  | _ => exact e
theorem rs_str {d : D} {z : Str} (e : rs h d = .str z) : d = .str z := by
  cases d with
  | ref a =>
    cases q : h a with
    | none => simp only [rs, q] at e; cases e
    | some o => cases o <;> simp only [rs, q] at e <;> cases e
  | _ => exact e
theorem rs_scr {d : D} {z : List Int} (e : rs h d = .scr z) : d = .scr z := by
  cases d with
  | ref a =>
    cases q : h a with
    | none => simp only [rs, q] at e; cases e
    | some o => cases o <;> simp only [rs, q] at e <;> cases e
  | _ => exact e
theorem scr_sq {v : V} {ns : List Int} (r : RV c R h H v (.scr ns)) : ∃ p, v = .ref p ∧ SqL c.K H p (ns.map V.int) := by
  cases r with
  | scrR a b => exact ⟨_, rfl, .inl b⟩
  | scrK a b d e x y => exact ⟨_, rfl, .inr ⟨_, _, _, a, b, d, e, x, y⟩⟩
theorem atI_map {ns : List Int} {i n : Int} (e : atI ns i = some n) : atI (ns.map V.int) i = some (.int n) := by
  unfold atI at e ⊢
  rw [List.length_map]
  cases q : ixN ns.length i with
  | none => rw [q] at e; cases e
  | some j =>
    rw [q] at e
    have e : ns[j]? = some n := e
    show (ns.map V.int)[j]? = some (.int n)
    rw [List.getElem?_map, e]; rfl
theorem i_ix : Imp2 c ixP (rIx c.K) := fun R h H x y v u P Q rs' rx ry q fin => by
  unfold ixP at q
  split at q
  · cases ry
    split at q
    · rename_i e
      rw [rs_tup e] at rx
      obtain ⟨p1, vs, e1, s1, r1⟩ := st_of rx
      obtain ⟨d, ed, q⟩ := Oc_elim q
      obtain ⟨w, ew, rw'⟩ := atI_rv r1 ed
      exact .inr (.inl ⟨p1, vs, _, w, e1, rfl, s1, ew, fin _ _ H q .refl rs' rw'⟩)
    · rename_i e
      obtain ⟨p1, vs, e1, s1, r1⟩ := sq_of rs' rx e
      obtain ⟨d, ed, q⟩ := Oc_elim q
      obtain ⟨w, ew, rw'⟩ := atI_rv r1 ed
      exact .inl ⟨p1, vs, _, w, e1, rfl, s1, ew, fin _ _ H q .refl rs' rw'⟩
    · rename_i e
      rw [rs_scr e] at rx
      obtain ⟨p1, e1, s1⟩ := scr_sq rx
      obtain ⟨n, en, q⟩ := Oc_elim q
      exact .inl ⟨p1, _, _, _, e1, rfl, s1, atI_map en, fin _ _ H q .refl rs' (.int _)⟩
    · rename_i e
      rw [rs_str e] at rx
      cases rx
      obtain ⟨k, ek, q2⟩ := Oc_elim q.2
      exact .inr (.inr ⟨_, _, k, rfl, rfl, line_mill q.1, ek, fin _ _ H q2 .refl rs' (.str _)⟩)
    · exact q.elim
  · exact q.elim
/-- slices by ones -/
def cutD (xs : List D) (lo hi : Option Int) : List D := (xs.drop (HT.sIx xs.length 0 lo)).take (HT.sIx xs.length xs.length hi - HT.sIx xs.length 0 lo)
def slP : DH → D → Option Int → Option Int → (D → Prop) → Prop := fun h x lo hi Q => match rs h x with
  | .tup xs => Q (.tup (cutD xs lo hi))
  | .lst xs => Q (.lst (cutD xs lo hi))
  | _ => False
theorem RVs.cut {vs : List V} {ds : List D} (r : RVs c R h H vs ds) (lo hi : Option Int) : RVs c R h H (cutV vs lo hi) (cutD ds lo hi) := by
  unfold cutV cutD
  rw [r.length]
  exact (r.drop _).take _
theorem cutD_whole {xs : List D} {lo hi : Option Int} (h : HT.sIx xs.length 0 lo = 0 ∧ HT.sIx xs.length xs.length hi = xs.length) : cutD xs lo hi = xs := by
  unfold cutD
  rw [h.1, h.2]
  simp
def rSlAll (K : PySem.W.Frag) : V → Option Int → Option Int → Hp → VK → Prop := fun x lo hi H Q => rSlA K x lo hi H Q ∨ rSlL K x lo hi H Q
theorem sl_all : SlR X (rSlAll X.K) := sl_tupA.or sl_list
theorem i_sl : ImpS c slP (rSlAll c.K) := fun R h H x v lo hi P Q rs' rx q fin => by
  unfold slP at q
  split at q
  · rename_i e
    rw [rs_tup e] at rx
    obtain ⟨p1, vs, e1, s1, r1⟩ := st_of rx
    refine .inl ⟨p1, vs, e1, s1, fun z => ?_, fun z q2 hq => fin _ _ _ q (Ext.fresh rs' hq) (rs'.fresh hq) (.tup (rs'.free hq) upd_same ((r1.cut lo hi).ext (Ext.fresh rs' hq)))⟩
    rw [r1.length] at z
    rw [cutD_whole z] at q
    rw [← e1]
    exact fin _ _ H q .refl rs' rx
  · rename_i e
    obtain ⟨p1, vs, e1, s1, r1⟩ := sq_of rs' rx e
    exact .inr ⟨p1, vs, e1, s1, fun q2 hq => fin _ _ _ q (Ext.fresh rs' hq) (rs'.fresh hq) (.lst (rs'.free hq) upd_same ((r1.cut lo hi).ext (Ext.fresh rs' hq)))⟩
  · exact q.elim

/-! ### len, truth, isinstance, int, tuple, list, sum, all, any -/
abbrev PL := DH → List D → (D → Prop) → Prop
def lenP : PL := fun h ds Q => match ds with
  | [x] => match rs h x with
    | .tup xs => Q (.int xs.length)
    | .lst xs => Q (.int xs.length)
    | .scr xs => Q (.int xs.length)
    | .str z => z.length ≤ 1000000 ∧ Q (.int z.length)
    | _ => False
  | _ => False
theorem one_of {v : List V} {d : D} (r : RVs c R h H v [d]) : ∃ u, v = [u] ∧ RV c R h H u d := by
  cases r with
  | cons a b => cases b; exact ⟨_, rfl, a⟩
theorem two_of {v : List V} {d e : D} (r : RVs c R h H v [d, e]) : ∃ u w, v = [u, w] ∧ RV c R h H u d ∧ RV c R h H w e := by
  cases r with
  | cons a b => cases b with
    | cons a2 b => cases b; exact ⟨_, _, rfl, a, a2⟩
theorem i_len : ImpL c lenP (fun xs H Q => ∃ x n, xs = [x] ∧ LenV c.K x H n ∧ Q (.int n) H) := fun R h H xs vs P Q rs' rx q fin => by
  unfold lenP at q
  split at q
  · obtain ⟨u, e1, ru⟩ := one_of rx
    split at q
    · rename_i e
      rw [rs_tup e] at ru
      obtain ⟨p1, vs, e2, s1, r1⟩ := st_of ru
      exact ⟨u, vs.length, e1, by rw [e2]; exact .inr ⟨vs, s1, rfl⟩, by rw [r1.length]; exact fin _ _ H q .refl rs' (.int _)⟩
    · rename_i e
      obtain ⟨p1, vs, e2, s1, r1⟩ := sq_of rs' ru e
      exact ⟨u, vs.length, e1, by rw [e2]; exact .inl ⟨vs, s1, rfl⟩, by rw [r1.length]; exact fin _ _ H q .refl rs' (.int _)⟩
    · rename_i e
      rw [rs_scr e] at ru
      obtain ⟨p1, e2, s1⟩ := scr_sq ru
      exact ⟨u, _, e1, by rw [e2]; exact .inl ⟨_, s1, rfl⟩, by rw [List.length_map]; exact fin _ _ H q .refl rs' (.int _)⟩
    · rename_i e
      rw [rs_str e] at ru
      cases ru
      exact ⟨_, _, e1, ⟨line_mill q.1, rfl⟩, fin _ _ H q.2 .refl rs' (.int _)⟩
    · exact q.elim
  · exact q.elim
def truP : DH → D → (Bool → Prop) → Prop := fun h x Q => match rs h x with
  | .non => Q false
  | .bl b => Q b
  | .int i => Q (i != 0)
  | .tup xs => Q (!xs.isEmpty)
  | .lst xs => Q (!xs.isEmpty)
  | _ => False
theorem isEmpty_rv {vs : List V} {ds : List D} (r : RVs c R h H vs ds) : vs.isEmpty = ds.isEmpty := by cases r <;> rfl
theorem i_tru : ImpT c truP (fun x H Q => ∃ k, TruV c.K x H k ∧ Q k H) := fun R h H x v P Q rs' rx q fin => by
  unfold truP at q
  split at q
  · rename_i e
    have := rs_imm e (fun _ z => nomatch z) (fun _ z => nomatch z)
    subst this
    cases rx
    exact ⟨false, rfl, fin _ q⟩
  · rename_i e
    have := rs_imm e (fun _ z => nomatch z) (fun _ z => nomatch z)
    subst this
    cases rx
    exact ⟨_, rfl, fin _ q⟩
  · rename_i e
    have := rs_imm e (fun _ z => nomatch z) (fun _ z => nomatch z)
    subst this
    cases rx
    exact ⟨_, rfl, fin _ q⟩
  · rename_i e
    rw [rs_tup e] at rx
    obtain ⟨p1, vs, e2, s1, r1⟩ := st_of rx
    subst e2
    exact ⟨!vs.isEmpty, .inr (.inl ⟨vs, s1, rfl⟩), by rw [isEmpty_rv r1]; exact fin _ q⟩
  · rename_i e
    obtain ⟨p1, vs, e2, s1, r1⟩ := sq_of rs' rx e
    subst e2
    exact ⟨!vs.isEmpty, .inl ⟨vs, s1, rfl⟩, by rw [isEmpty_rv r1]; exact fin _ q⟩
  · exact q.elim
/-- a value's type by name -/
def tyN (h : DH) (d : D) : Option String := match rs h d with
  | .non => some "NoneType"
  | .bl _ => some "bool"
  | .int _ => some "int"
  | .str _ => some "str"
  | .tup _ => some "tuple"
  | .lst _ => some "list"
  | _ => none
theorem ty_of (rs' : RS c R h H) {v : V} {d : D} {t : String} (r : RV c R h H v d) (e : tyN h d = some t) : TyX c.K H v (.type t) := by
  cases r with
  | non => cases e; exact .base .non
  | bl b => cases e; exact .base (.bl b)
  | int b => cases e; exact .base (.int b)
  | str b => cases e; exact .base (.str b)
  | tup _ b _ => cases e; exact .base (.tup b)
  | lst _ b _ => cases e; exact .base (.lst b)
  | ref a =>
    unfold tyN at e
    cases z : h a with
    | none => simp only [rs, z] at e; cases e
    | some o =>
      cases o with
      | lst ds =>
        simp only [rs, z] at e
        cases e
        obtain ⟨vs, e2, _⟩ := rs'.ob a _ z
        exact .base (.lst e2)
      | ins _ _ => simp only [rs, z] at e; cases e
      | dic _ => simp only [rs, z] at e; cases e
      | dik _ => simp only [rs, z] at e; cases e
      | tbl _ => simp only [rs, z] at e; cases e
  | _ => cases e
def kitT (t : String) : List D → Option Bool
  | [] => some false
  | .ty n :: ds => (kitB t n).bind fun b => (kitT t ds).bind fun r => some (b || r)
  | _ => none
def isiP : PL := fun h ds Q => match ds with
  | [x, .ty n] => Oc (tyN h x) fun t => Oc (kitB t n) fun b => Q (.bl b)
  | [x, .tup cs] => Oc (tyN h x) fun t => Oc (kitT t cs) fun b => Q (.bl b)
  | _ => False
def rIsiA (K : PySem.W.Frag) : List V → Hp → VK → Prop := fun xs H Q => rIsi K xs H Q ∨ rIsiT K xs H Q
theorem call_isiA : CallR X (.builtin "isinstance") (rIsiA X.K) := call_isi.or call_isiT
theorem kitT_any {t : String} : ∀ {ds : List D} {vs : List V} {b : Bool}, RVs c R h H vs ds → kitT t ds = some b → ∃ us, Paired ClsV vs us ∧ PySem.W.kitAny c.K (.type t) us = some b
  | [], _, _, .nil, e => by cases e; exact ⟨[], .nil, rfl⟩
  | .ty n :: ds, _, b, .cons a r, e => by
    cases a
    unfold kitT at e
    cases q : kitB t n with
    | none => rw [q] at e; cases e
    | some k =>
      rw [q] at e
      have e : ((kitT t ds).bind fun r => some (k || r)) = some b := e
      cases q2 : kitT t ds with
      | none => rw [q2] at e; cases e
      | some r2 =>
        rw [q2] at e
        have e : some (k || r2) = some b := e
        obtain ⟨us, p, z⟩ := kitT_any r q2
        refine ⟨.type n :: us, .cons (.ty n) p, kitAny_cons (kit_ty q) (fun y => ?_) (fun y => ?_)⟩
        · rw [y] at e
          cases e
          exact z
        · rw [y] at e
          cases e
          rfl
  | .non :: _, _, _, _, e => by cases e
  | .bl _ :: _, _, _, _, e => by cases e
  | .int _ :: _, _, _, _, e => by cases e
  | .str _ :: _, _, _, _, e => by cases e
  | .tup _ :: _, _, _, _, e => by cases e
  | .lst _ :: _, _, _, _, e => by cases e
  | .ref _ :: _, _, _, _, e => by cases e
  | .fn _ :: _, _, _, _, e => by cases e
  | .scr _ :: _, _, _, _, e => by cases e
theorem i_isi : ImpL c isiP (rIsiA c.K) := fun R h H xs vs P Q rs' rx q fin => by
  unfold isiP at q
  split at q
  · obtain ⟨t, et, q⟩ := Oc_elim q
    obtain ⟨b, eb, q⟩ := Oc_elim q
    obtain ⟨u, w, e1, ru, rw'⟩ := two_of rx
    cases rw'
    exact .inl ⟨u, _, .type t, _, b, e1, .ty _, ty_of rs' ru et, kit_ty eb, fin _ _ H q .refl rs' (.bl _)⟩
  · obtain ⟨t, et, q⟩ := Oc_elim q
    obtain ⟨b, eb, q⟩ := Oc_elim q
    obtain ⟨u, w, e1, ru, rw'⟩ := two_of rx
    cases rw' with
    | tup f e r =>
      obtain ⟨us, p, z⟩ := kitT_any r eb
      exact .inr ⟨u, _, _, .type t, us, b, e1, e, p, ty_of rs' ru et, z, fin _ _ H q .refl rs' (.bl _)⟩
  · exact q.elim
def intP : PL := fun _ ds Q => match ds with
  | [.int i] => Q (.int i)
  | [.bl b] => Q (.int (if b then 1 else 0))
  | _ => False
theorem i_int : ImpL c intP (fun xs H Q => (∃ i, xs = [.int i] ∧ Q (.int i) H) ∨ ∃ k, xs = [.bl k] ∧ Q (.int (if k then 1 else 0)) H) := fun R h H xs vs P Q rs' rx q fin => by
  unfold intP at q
  split at q
  · obtain ⟨u, e1, ru⟩ := one_of rx
    cases ru
    exact .inl ⟨_, e1, fin _ _ H q .refl rs' (.int _)⟩
  · obtain ⟨u, e1, ru⟩ := one_of rx
    cases ru
    exact .inr ⟨_, e1, fin _ _ H q .refl rs' (.int _)⟩
  · exact q.elim
def tupleP : PL := fun h ds Q => match ds with
  | [x] => match rs h x with
    | .tup xs => Q (.tup xs)
    | .lst xs => Q (.tup xs)
    | _ => False
  | _ => False
theorem i_tuple : ImpL c tupleP (fun xs H Q => ∃ p ys, xs = [.ref p] ∧ ((SqL c.K H p ys ∧ ∀ l, H l = none → Q (.ref l) (upd H l (.tup ys))) ∨ (SqT c.K H p ys ∧ Q (.ref p) H))) := fun R h H xs vs P Q rs' rx q fin => by
  unfold tupleP at q
  split at q
  · obtain ⟨u, e1, ru⟩ := one_of rx
    split at q
    · rename_i e
      rw [rs_tup e] at ru
      obtain ⟨p1, vs, e2, s1, r1⟩ := st_of ru
      subst e2
      exact ⟨p1, vs, e1, .inr ⟨s1, fin _ _ H q .refl rs' ru⟩⟩
    · rename_i e
      obtain ⟨p1, vs, e2, s1, r1⟩ := sq_of rs' ru e
      subst e2
      exact ⟨p1, vs, e1, .inl ⟨s1, fun l hl => fin _ _ _ q (Ext.fresh rs' hl) (rs'.fresh hl) (.tup (rs'.free hl) upd_same (r1.ext (Ext.fresh rs' hl)))⟩⟩
    · exact q.elim
  · exact q.elim
def listP : PL := fun h ds Q => match ds with
  | [x] => match rs h x with
    | .tup xs => Q (.lst xs)
    | .lst xs => Q (.lst xs)
    | _ => False
  | _ => False
theorem i_list : ImpL c listP (fun xs H Q => ∃ p ys, xs = [.ref p] ∧ (SqL c.K H p ys ∨ SqT c.K H p ys) ∧ ∀ l, H l = none → Q (.ref l) (upd H l (.lst ys))) := fun R h H xs vs P Q rs' rx q fin => by
  unfold listP at q
  split at q
  · obtain ⟨u, e1, ru⟩ := one_of rx
    split at q
    · rename_i e
      rw [rs_tup e] at ru
      obtain ⟨p1, vs, e2, s1, r1⟩ := st_of ru
      subst e2
      exact ⟨p1, vs, e1, .inr s1, fun l hl => fin _ _ _ q (Ext.fresh rs' hl) (rs'.fresh hl) (.lst (rs'.free hl) upd_same (r1.ext (Ext.fresh rs' hl)))⟩
    · rename_i e
      obtain ⟨p1, vs, e2, s1, r1⟩ := sq_of rs' ru e
      subst e2
      exact ⟨p1, vs, e1, .inl s1, fun l hl => fin _ _ _ q (Ext.fresh rs' hl) (rs'.fresh hl) (.lst (rs'.free hl) upd_same (r1.ext (Ext.fresh rs' hl)))⟩
    · exact q.elim
  · exact q.elim
def max2P : PL := fun h ds Q => match ds with
  | [.int i, .int j] => Q (.int (if j > i then j else i))
  | _ => False
def min2P : PL := fun h ds Q => match ds with
  | [.int i, .int j] => Q (.int (if j < i then j else i))
  | _ => False
def absP : PL := fun h ds Q => match ds with
  | [.int i] => Q (.int (if i < 0 then -i else i))
  | _ => False
theorem i_abs : ImpL c absP (fun xs H Q => ∃ i, xs = [.int i] ∧ Q (.int (if i < 0 then -i else i)) H) := fun R h H xs vs P Q rs' rx q fin => by
  unfold absP at q
  split at q
  · obtain ⟨u, e1, ru⟩ := one_of rx
    cases ru
    exact ⟨_, e1, fin _ _ H q .refl rs' (.int _)⟩
  · exact q.elim
theorem RVs.of_bls : ∀ {ns : List Bool} {vs : List V}, RVs c R h H vs (ns.map D.bl) → vs = ns.map V.bl
  | [], _, .nil => rfl
  | n :: ns, _, .cons a b => by
    cases a
    rw [List.map_cons, RVs.of_bls b]
def allP : PL := fun h ds Q => match ds with
  | [x] => ∃ bs : List Bool, rs h x = .lst (bs.map D.bl) ∧ Q (.bl (bs.all id))
  | _ => False
theorem i_all : ImpL c allP (rAll c.K) := fun R h H xs vs P Q rs' rx q fin => by
  unfold allP at q
  split at q
  · obtain ⟨u, e1, ru⟩ := one_of rx
    obtain ⟨ns, e, q⟩ := q
    obtain ⟨p1, ws, e2, s1, r1⟩ := sq_of rs' ru e
    rw [r1.of_bls] at s1
    subst e2
    exact ⟨p1, ns, e1, s1, fin _ _ H q .refl rs' (.bl _)⟩
  · exact q.elim
def anyP : PL := fun h ds Q => match ds with
  | [x] => ∃ bs : List Bool, rs h x = .lst (bs.map D.bl) ∧ Q (.bl (bs.any id))
  | _ => False
theorem i_any : ImpL c anyP (rAny c.K) := fun R h H xs vs P Q rs' rx q fin => by
  unfold anyP at q
  split at q
  · obtain ⟨u, e1, ru⟩ := one_of rx
    obtain ⟨ns, e, q⟩ := q
    obtain ⟨p1, ws, e2, s1, r1⟩ := sq_of rs' ru e
    rw [r1.of_bls] at s1
    subst e2
    exact ⟨p1, ns, e1, s1, fin _ _ H q .refl rs' (.bl _)⟩
  · exact q.elim
/-! ### stores into lists; append -/
def setLP : DH → D → D → D → (DH → Prop) → Prop := fun h o i d Q => match o, i with
  | .ref a, .int k => match h a with
    | some (.lst ds) => Oc (ixN ds.length k) fun j => Q (upO h a (.lst (ds.set j d)))
    | _ => False
  | _, _ => False
theorem i_setL : ImpSet c setLP rSetL := fun R h H o i d vo vi v P Q rs' ro ri rd q fin => by
  unfold setLP at q
  split at q
  · cases ro; cases ri
    split at q
    · rename_i e
      obtain ⟨vs, e2, r⟩ := rs'.ob _ _ e
      obtain ⟨j, ej, q⟩ := Oc_elim q
      exact ⟨_, vs, _, j, rfl, rfl, e2, by rw [r.length]; exact ej, fin _ _ q (Ext.setO rs' e) (rs'.setL e (r.set rd j))⟩
    · exact q.elim
  · exact q.elim
/-- x.append(e) -/
def appK (x y : D) (h : DH) (Q : DK) : Prop := match x with
  | .ref a => match h a with
    | some (.lst ds) => ds.length < 1000000 ∧ Q .non (upO h a (.lst (ds ++ [y])))
    | _ => False
  | _ => False
def app1 (x : D) (Q : DK) (ys : List D) (h : DH) : Prop := match ys with
  | [y] => appK x y h Q
  | _ => False
def mApp (o m : DM) : DM := fun e h E Q => o e h E fun x h1 => (∃ ds, rs h1 x = .lst ds) ∧ m e h1 E fun y h2 => appK x y h2 Q
theorem de_app {o a : Expr} {mo ma : DM} {apos cpos : Pos} (ho : DE X W o mo) (ha : DE X W a ma) (hst : starEach [a] X.env = [(false, eval a X.env)] := by rfl)
    (hbase : attributeBase o "append" X.env (eval o X.env) = eval o X.env := by rfl)
    (hfew : ((backTo cpos (starEach (a :: []) X.env)).all (fun x => !x.1) && (backToKw cpos (keywordEach [] X.env)).all (fun x => x.1.isSome)
      && decide ((a :: []).length + ([] : List Keyword).length + (if ([] : List Keyword).isEmpty then 0 else 1) < 30)) = true := by rfl)
    (hline : (apos.endLine == cpos.line) = true := by rfl) (hplain : (backTo cpos (starEach [] X.env)).any (·.1) = false := by rfl) :
    DE X W (.Call (.Attribute o "append" apos) [a] [] cpos) (mApp mo ma) := (pe_bm PySem.F.plainAttrs_list PySem.F.slot_list_append PySem.F.type_list_append mt_append ho (da_cons ha da_nil hst) hbase hfew hline hst hplain).wk fun σ H Q ⟨R, env, h, P, EP, r⟩ =>
  ⟨R, env, h, _, EP, r.rs, r.re, r.run, fun x h1 v H1 ⟨⟨ds, ed⟩, q⟩ e rs rv => by
    obtain ⟨p, vs, ev, sq, _⟩ := sq_of rs rv ed
    subst ev
    refine ⟨.inl ⟨rfl, _, sq⟩, R, env, h1, app1 x P, EP, rs, r.re.ext e, q, fun ys h2 us H2 q2 e2 rs2 rys => ?_, r.exc.ext e⟩
    unfold app1 at q2
    split at q2
    · obtain ⟨u, e1, ru⟩ := one_of rys
      unfold appK at q2
      split at q2
      · cases rv
        split at q2
        · rename_i ea
          obtain ⟨ws, e3, r3⟩ := rs2.ob _ _ ea
          refine ⟨_, ws, u, rfl, e1, e3, by rw [r3.length, sizeLine_eq]; omega, r.fin _ _ _ _ q2.2 (e.trans (e2.trans (Ext.setO rs2 ea))) (rs2.setL ea (r3.append (.cons ru .nil))) .non⟩
        · exact q2.elim
      · exact q2.elim
    · exact q2.elim, r.exc⟩
end L2.Lmp

set_option maxHeartbeats 4000000
namespace L2.Lmp
open PySem PySem.Spec PyProof.Rows
variable {R R' : Addr → Prop} {c : Cc} {h h' h1 h2 : DH} {H H' H1 H2 : Hp} {W : WX} {X : Cx}

/-! ### sequences: a list (true) or a tuple -/
def soH (b : Bool) (xs : List V) : HO := if b = true then .lst xs else .tup xs
def itr (b : Bool) (h : Heap) (it a : Addr) (i : Nat) : Prop := if b = true then h.IsListIter it a i else h.IsTupleIter it a i
def isq (b : Bool) (a : Addr) (items : Array Value) (h : Heap) : Prop := if b = true then h.IsList a items else h.IsTuple a items
def itN (b : Bool) : String := if b = true then "list_iterator" else "tuple_iterator"
theorem draws_s (b : Bool) {P : Program} {w : World} {A : Around} (hh : A.handled = none) (it a : Addr) (hne : a ≠ it) (items : Array Value) : Draws P w A it [it, a] items.size (fun i v => items[i]? = some v) (fun i h => itr b h it a i ∧ isq b a items h) := by
  cases b with
  | true => exact Draws.list hh it a hne items
  | false => exact Draws.tuple hh it a hne items
theorem begins_s (b : Bool) (a : Addr) (items : Array Value) : Begins (.ref a) { cls := .type (itN b), data := .fields #[.ref a, .int 0 0] } (isq b a items) := by
  cases b with
  | true => exact begins_list a items
  | false => exact begins_tuple a items
theorem itr_new {b : Bool} {h : Heap} {it a : Addr} (e : h.get? it = some { cls := .type (itN b), data := .fields #[.ref a, .int 0 0] }) : itr b h it a 0 := by
  cases b with
  | true => exact ⟨_, e, rfl, rfl⟩
  | false => exact ⟨_, e, rfl, rfl⟩
theorem itr_at {b : Bool} {h h' : Heap} {it a : Addr} {i : Nat} (x : itr b h it a i) (k : ∀ o, h.get? it = some o → h'.get? it = some o) : itr b h' it a i := by
  cases b with
  | true => exact Heap.IsListIter.at x k
  | false => exact Heap.IsTupleIter.at x k
theorem itr_obj {b : Bool} {h : Heap} {it a : Addr} {i : Nat} (x : itr b h it a i) : ∃ o, h.get? it = some o ∧ ∀ v, o.data ≠ .cell v := by
  cases b with
  | true => obtain ⟨o, e, _, d⟩ := x; exact ⟨o, e, fun v q => by rw [d] at q; cases q⟩
  | false => obtain ⟨o, e, _, d⟩ := x; exact ⟨o, e, fun v q => by rw [d] at q; cases q⟩
theorem isq_of {b : Bool} {pins : List (Addr × Obj)} {σ : St} {s : Shared} {a : Addr} {vs : List V} (I : Inv X pins σ H s) (e : H a = some (soH b vs)) : ∃ its : List Value, Vals vs its ∧ isq b a its.toArray s.heap ∧ its.length = vs.length := by
  cases b with
  | true =>
    obtain ⟨its, r, p, _⟩ := I.list (SqL.of e)
    exact ⟨its, r, p.isList, r.length.symm⟩
  | false =>
    obtain ⟨its, r, p, _⟩ := I.tuple (SqT.of e)
    exact ⟨its, r, p, r.length.symm⟩

/-! ### an iterator that gives out new tuples, over tracked things -/
def ItT (n : Nat) (S : Hp → Prop) (PtV : Hp → Nat → List V → Prop) : It :=
  ⟨fun i H => i < n ∧ S H, fun i H v H' => ∃ T xs, v = .ref T ∧ H T = none ∧ H' = upd H T (.tup xs) ∧ PtV H i xs, fun i H => i = n ∧ S H⟩
theorem turn_T {P : Program} {w : World} {K : PySem.W.Frag} {elts : List Expr} {kk : Nat} {tpos : Pos} {I : Addr} {own wr fp : List Addr} {n : Nat} {ι : Type} {Pt : ι → Nat → Array Value → Prop} {Own : Nat → Heap → Prop} {Src : ι → Heap → Prop} {Mid : ι → Nat → Addr → Heap → Prop} {S : Hp → Prop} {PtV : Hp → Nat → List V → Prop}
    (hI : I ∈ own) (hobj : ∀ i h, Own i h → ∀ b ∈ own, ∃ o, h.get? b = some o ∧ ∀ v, o.data ≠ .cell v) (hkeep : ∀ i h h', Own i h → (∀ b ∈ own, ∀ o, h.get? b = some o → h'.get? b = some o) → Own i h') (hwr : ∀ b ∈ wr, b ∈ own)
    (hsm : ∀ H i xs, PtV H i xs → xs.length ≤ 1000)
    (hsrc : ∀ (X : Cx) (pins : List (Addr × Obj)) (σ : St) (H : Hp) (s : Shared), X.prog = P → X.w = w → Inv X pins σ H s → S H → ∃ t, Src t s.heap ∧ (∀ i vals, Pt t i vals → ∃ xs, Vals xs vals.toList ∧ PtV H i xs) ∧
      ∀ A : Around, A.handled = none → WalksT P w A I fp wr n (Pt t) (fun i h => Own i h ∧ Src t h) (Mid t))
    (hself : ∀ (A : Around) (i : Nat) (s : Shared) (Q : Value → Shared → Prop) (E : Value → Shared → Prop), Own i s.heap → Q (.ref I) s → wpAny (model P w) A (pyIter (.ref I)) Q E s) :
    Turn P w K (.Tuple elts kk tpos) (ItT n S PtV) own I Own where
  mem := hI
  obj := hobj
  keep := hkeep
  item := by
    intro X hP hw hK hc i pins s σ H E I' hf st hg
    obtain ⟨hi, hS⟩ := hg
    obtain ⟨t, src, pt, hW⟩ := hsrc X pins σ H s hP hw I' hS
    subst hP hw hK
    have Wk := hW X.A (I'.ok.hd hc)
    refine Wk.item i s _ _ hi ⟨st, src⟩ fun T vals h' tk hP hnew hT hm hk => ⟨_, rfl, Wk.go elts kk tpos i T { s with heap := h', toks := tk } _ _ hm fun h'' st' hk' => ?_⟩
    obtain ⟨xs, rv, pv⟩ := pt i vals hP
    have hT2 : h''.IsTuple T vals := hT.at fun o e => hk' T o (Wk.apart i T h' hm) e
    have hfr : H T = none := I'.hok.fresh hnew
    have new : ObjOk X.prog X.w (upd H T (.tup xs)) h'' T (.tup xs) := by
      refine ⟨small_line (hsm _ _ _ pv), vals.toList, rv, ?_⟩
      have e : vals.toList.toArray = vals := by simp
      rw [e]
      exact hT2
    have I1 : Inv X pins σ (upd H T (.tup xs)) { s with heap := h'', toks := tk } :=
      I'.turnedNew (ch := own) (fun b o hb q => hk' b o (fun z => hb (hwr b z)) (hk b o (fun z => hb (hwr b z)) q)) hf hnew new
    refine ⟨.ref T, _, I1, rfl, ⟨T, xs, rfl, hfr, rfl, pv⟩, st'.1, fun b hb => ?_⟩
    obtain ⟨o, e, _⟩ := hobj i s.heap st b hb
    rw [upd_ne (Nat.ne_of_lt (Nat.lt_of_lt_of_le (Heap.lt_size e) hnew))]
    exact (hf b hb).1
  done := by
    intro X hP hw hK hc i pins s σ H E I' hf st hg
    obtain ⟨hi, hS⟩ := hg
    obtain ⟨t, src, pt, hW⟩ := hsrc X pins σ H s hP hw I' hS
    subst hP hw hK hi
    exact (hW X.A (I'.ok.hd hc)).done s _ _ ⟨st, src⟩ fun h' tk hk => ⟨rfl, I'.turnedL (t' := tk) (ch := own) (fun b o hb q => hk b o (fun z => hb (hwr b z)) q) hf⟩
  self := hself
/-! ### enumerate -/
def ownE (b : Bool) (e it a : Addr) (i : Nat) (h : Heap) : Prop := (∃ old, IsEnum h e it (0 + (i : Int)) old) ∧ itr b h it a i
theorem turn_enumS (b : Bool) {P : Program} {w : World} {K : PySem.W.Frag} {elts : List Expr} {kk : Nat} {tpos : Pos} {e it a : Addr} (n : Nat) (hei : e ≠ it) (hea : e ≠ a) (hia : a ≠ it) :
    Turn P w K (.Tuple elts kk tpos) (ItT n (fun H => ∃ vs, H a = some (soH b vs) ∧ vs.length = n) (fun H i xs => ∃ vs x, H a = some (soH b vs) ∧ vs[i]? = some x ∧ xs = [.int (i : Nat), x])) [e, it] e (ownE b e it a) := by
  refine turn_T (fp := e :: [it, a]) (wr := [e, it]) (ι := List Value) (Pt := fun its i vals => ∃ t x, its.toArray[i]? = some x ∧ vals = #[.int (0 + (i : Int)) t, x]) (Src := fun its h => isq b a its.toArray h)
    (Mid := fun its i T h => (∃ x, IsEnumOut h e it (0 + (i : Int) + 1) x T) ∧ (itr b h it a (i + 1) ∧ isq b a its.toArray h) ∧ T ≠ e ∧ T ≠ it)
    (by simp) (fun i h ⟨⟨old, he⟩, hi⟩ c hc => ?_) (fun i h h' ⟨⟨old, he⟩, hi⟩ k => ⟨⟨old, k e (by simp) _ he⟩, itr_at hi fun o q => k it (by simp) o q⟩) (fun _ z => z) (fun H i xs ⟨_, _, _, _, z⟩ => by rw [z]; show 2 ≤ 1000; decide) ?_ (fun A i s Q E ⟨⟨_, he⟩, _⟩ q => wpAny_pyIter_enum he q)
  · have hc : c = e ∨ c = it := by simpa using hc
    rcases hc with z | z
    · rw [z]; exact ⟨_, he, fun v q => nomatch q⟩
    · rw [z]; exact itr_obj hi
  · rintro X pins σ H s hP hw I ⟨vs, ev, el⟩
    obtain ⟨its, rv, sq, hl⟩ := isq_of I ev
    refine ⟨its, sq, fun i vals ⟨t, x, hx, evs⟩ => ?_, fun A hh => ?_⟩
    · have hx : its[i]? = some x := by simpa using hx
      cases q : vs[i]? with
      | none => rw [rv.none_of q] at hx; cases hx
      | some v =>
        obtain ⟨u, hu, ru⟩ := rv.get q
        rw [hx] at hu; cases hu
        refine ⟨[.int (i : Nat), v], ?_, vs, v, ev, q, rfl⟩
        rw [evs]
        exact .cons ⟨t, by simp⟩ (.cons ru .nil)
    · have W := WalksT.enumFrom (prog := P) (w := w) (A := A) 0 (draws_s b (P := P) (w := w) (A := A.in1) (by simpa using hh) it a hia its.toArray) e hei (by simp [hei, hea]) (by simp)
      have es : its.toArray.size = n := by simp [hl, el]
      rw [es] at W
      have e1 : (fun (i : Nat) (h : Heap) => (∃ old, IsEnum h e it (0 + (i : Int)) old) ∧ itr b h it a i ∧ isq b a its.toArray h) = fun i h => ownE b e it a i h ∧ isq b a its.toArray h := by
        funext i h
        exact propext ⟨fun ⟨x, y, z⟩ => ⟨⟨x, y⟩, z⟩, fun ⟨⟨x, y⟩, z⟩ => ⟨x, y, z⟩⟩
      rw [e1] at W
      exact W
set_option maxHeartbeats 1000000 in
theorem meets_enumerate_new1 {v : Value} {o : Obj} {H : Heap → Prop} (B : Begins v o H) :
    Meets (Builtin.«enumerate.__new__» ⟨[.type "enumerate", v], []⟩) (fun _ R s => H s.heap ∧
      R (.ok (.ret (.ref (s.heap.push o).objs.size))) { s with heap := (s.heap.push o).push { cls := .type "enumerate", data := .fields #[.none, .bool false, .ref s.heap.objs.size, rawInt 0, .none, .none] } }) :=
  .of_wp fun prog w A R s h => by
    obtain ⟨hp, g, d, tk, os⟩ := s; obtain ⟨h1, h⟩ := h
    have hsub := sub_enumerate
    have q1 : ∀ {A' : Around} {E : Value → Shared → Prop} {Q : Value → Shared → Prop}, Q (.ref hp.objs.size) ⟨hp.push o, g, d, tk, os⟩ → wpAny (model prog w) A' (pyIter v) Q E ⟨hp, g, d, tk, os⟩ :=
      fun q => B.iter prog w _ _ ⟨hp, g, d, tk, os⟩ _ h1 q
    wp_walk using q1
    refine wpAny_stack_any fun st => wpAny_pure ?_
    split
    · rename_i c _ _ _ _ _
      cases (c == Value.type "enumerate")
      · wp_walk using q1
        exact ⟨_, rfl, h⟩
      · wp_walk using q1
        exact ⟨_, rfl, h⟩
    · wp_walk using q1
      exact ⟨_, rfl, h⟩
theorem enum_begins1 {prog : Program} {w : World} {A : Around} {E : Value → Shared → Prop} {s : Shared} {v : Value} {o : Obj} {H : Heap → Prop} {Q : Value → Shared → Prop} (B : Begins v o H) (h1 : H s.heap)
    (h : ∀ h', IsEnum h' (s.heap.objs.size + 1) s.heap.objs.size 0 .none → h'.get? s.heap.objs.size = some o → h'.objs.size = s.heap.objs.size + 2 →
      (∀ b o, s.heap.get? b = some o → h'.get? b = some o) → Q (.ref (s.heap.objs.size + 1)) { s with heap := h' }) :
    wpAny (model prog w) A (call (.type "enumerate") [v]) Q E s := by
  refine callType_new F.called_enumerate (by decide) (F.typeCall_enumerate_1 _) (F.newCall_enumerate_1 _) (fun obj => F.args_object_init_2 obj _) F.entry_enumerate_new
    (meets_enumerate_new1 B) ⟨h1, ?_⟩
  have hz : (s.heap.push o).objs.size = s.heap.objs.size + 1 := Heap.size_push ..
  show _ ∧ _
  rw [hz]
  have he : IsEnum ((s.heap.push o).push { cls := .type "enumerate", data := .fields #[.none, .bool false, .ref s.heap.objs.size, rawInt 0, .none, .none] }) (s.heap.objs.size + 1) s.heap.objs.size 0 .none := by
    have := Heap.get?_push_size (s.heap.push o) (o := { cls := .type "enumerate", data := .fields #[.none, .bool false, .ref s.heap.objs.size, rawInt 0, .none, .none] }) rfl
    rw [hz] at this; exact this
  refine ⟨⟨_, he, rfl⟩, h _ he (Heap.get?_push_of_some _ (Heap.get?_push_size _ B.free)) (by rw [Heap.size_push, hz]) fun b o x => Heap.get?_push_of_some _ (Heap.get?_push_of_some _ x)⟩
/-- the source of a walk: an address, its kind, how many -/
def iEnumS (ta : TA) : TI := fun σ H R => ta σ H fun vs H1 => ∃ b a xs, vs = [.ref a] ∧ H1 a = some (soH b xs) ∧ R (ItT xs.length (fun H => ∃ vs, H a = some (soH b vs) ∧ vs.length = xs.length) (fun H i ys => ∃ vs x, H a = some (soH b vs) ∧ vs[i]? = some x ∧ ys = [.int (i : Nat), x])) H1
theorem pi_enumS {e : Expr} {ta : TA} {p pos tpos : Pos} {elts : List Expr} {kk : Nat} (hg : Gl X "enumerate") (hm : X.mg "enumerate" = none) (ha : PA X [e] ta) (hs : starEach [e] X.env = [(false, eval e X.env)] := by rfl) :
    PI X (.Tuple elts kk tpos) (.Call (.Name "enumerate" p) [e] [] pos) (iEnumS ta) := by
  refine ⟨fun pins s σ H R I h => ?_⟩
  refine Call_ (ld_blt I hg hm boot_enumerate (PyProof.Rows.callWith_type1 (thn (ha.run pos pins s σ H _ I h) fun us s1 ⟨vs, H1, I1, r1, q1⟩ => ?_) hs rfl))
  obtain ⟨b, a, xs, ex, hq, q⟩ := q1
  subst ex
  obtain ⟨u, rfl, ru⟩ := vals1 r1
  cases ru
  obtain ⟨its, rv, sq, hl⟩ := isq_of I1 hq
  have la : a < s1.heap.objs.size := I1.hok.lt hq
  refine enum_begins1 (begins_s b a its.toArray) sq fun h' he hit hsz hk => ?_
  refine wpAny_pyIter_enum he ?_
  have I2 : Inv X pins σ H1 { s1 with heap := h' } := I1.kept (t' := s1.toks) hk
  refine ⟨s1.heap.objs.size + 1, [s1.heap.objs.size + 1, s1.heap.objs.size], _, _, H1, rfl, I2, turn_enumS b xs.length (Nat.ne_of_gt (Nat.lt_succ_self _)) (Nat.ne_of_gt (Nat.lt_succ_of_lt la)) (Nat.ne_of_lt la), ⟨⟨.none, he⟩, itr_new hit⟩, fun c hcm => ?_, q⟩
  have e' : c = s1.heap.objs.size + 1 ∨ c = s1.heap.objs.size := by simpa using hcm
  have hle : s1.heap.objs.size ≤ c := by
    rcases e' with z | z
    · rw [z]; exact Nat.le_add_right _ _
    · rw [z]; exact Nat.le_refl _
  exact I1.fpOk hle (I1.hok.fresh hle)
end L2.Lmp

set_option maxHeartbeats 4000000
namespace L2.Lmp
open PySem PySem.Spec PyProof.Rows
variable {R R' : Addr → Prop} {c : Cc} {h h' h1 h2 : DH} {H H' H1 H2 : Hp} {W : WX} {X : Cx}

/-! ### zip -/
theorem nmem2 {x a b : Nat} (h1 : x ≠ a) (h2 : x ≠ b) : (x : Addr) ∉ ([a, b] : List Addr) := fun h => by
  rcases List.mem_cons.mp h with e | h
  · exact h1 e
  · exact h2 (List.mem_singleton.mp h)
theorem zsep2 (N a b : Nat) (ha : a < N) (hb : b < N) : ZipSep2 (N + 4) (N + 2) (N + 3) N (N + 1) [N, a] [N + 1, b] where
  TIz := (show (N + 2 : Nat) ≠ N + 4 by omega)
  TOz := (show (N + 3 : Nat) ≠ N + 4 by omega)
  TITO := (show (N + 2 : Nat) ≠ N + 3 by omega)
  TIi1 := (show (N + 2 : Nat) ≠ N by omega)
  mem1 := List.mem_cons_self
  zf1 := nmem2 (by omega) (by omega)
  Tf1 := nmem2 (by omega) (by omega)
  TIi2 := (show (N + 2 : Nat) ≠ N + 1 by omega)
  mem2 := List.mem_cons_self
  zf2 := nmem2 (by omega) (by omega)
  Tf2 := nmem2 (by omega) (by omega)
  sep1_2 := nmem2 (by omega) (by omega)
  sep2_1 := nmem2 (by omega) (by omega)
def ownZ2 (b1 b2 : Bool) (z TI TO i1 i2 a1 a2 : Addr) (i : Nat) (h : Heap) : Prop := IsZip h z TI TO .none ∧ IsTupOf2 h TI (.ref i1) (.ref i2) ∧ (∃ x y, IsTupOf2 h TO x y) ∧ itr b1 h i1 a1 i ∧ itr b2 h i2 a2 i
theorem rel_at {vs : List V} {its : List Value} {i : Nat} {u : Value} (r : Vals vs its) (e : its[i]? = some u) : ∃ v, vs[i]? = some v ∧ RelV v u := by
  cases q : vs[i]? with
  | none => rw [r.none_of q] at e; cases e
  | some v =>
    obtain ⟨w, hw, rw'⟩ := r.get q
    rw [e] at hw; cases hw
    exact ⟨v, rfl, rw'⟩
theorem turn_zip2S (b1 b2 : Bool) {P : Program} {w : World} {K : PySem.W.Frag} {elts : List Expr} {kk : Nat} {tpos : Pos} {z TI TO i1 i2 a1 a2 : Addr} (n1 n2 : Nat) (S : ZipSep2 z TI TO i1 i2 [i1, a1] [i2, a2]) (h1 : a1 ≠ i1) (h2 : a2 ≠ i2) :
    Turn P w K (.Tuple elts kk tpos) (ItT (min n1 n2) (fun H => (∃ vs, H a1 = some (soH b1 vs) ∧ vs.length = n1) ∧ ∃ vs, H a2 = some (soH b2 vs) ∧ vs.length = n2)
      (fun H i xs => (∃ vs ws x y, H a1 = some (soH b1 vs) ∧ H a2 = some (soH b2 ws) ∧ vs[i]? = some x ∧ ws[i]? = some y ∧ xs = [x, y]))) [z, TI, TO, i1, i2] z (ownZ2 b1 b2 z TI TO i1 i2 a1 a2) := by
  refine turn_T (fp := z :: TI :: TO :: ([i1, a1] ++ [i2, a2])) (wr := [z, TO, i1, i2]) (ι := List Value × List Value) (Pt := fun its i vals => ∃ x y, its.1.toArray[i]? = some x ∧ its.2.toArray[i]? = some y ∧ vals = #[x, y]) (Src := fun its h => isq b1 a1 its.1.toArray h ∧ isq b2 a2 its.2.toArray h)
    (Mid := fun its i T h => IsZip h z TI TO (rawInt T) ∧ IsTupOf2 h TI (.ref i1) (.ref i2) ∧ (∃ a1 a2, IsTupOf2 h TO a1 a2) ∧ (itr b1 h i1 a1 (i + 1) ∧ isq b1 a1 its.1.toArray h) ∧ (itr b2 h i2 a2 (i + 1) ∧ isq b2 a2 its.2.toArray h) ∧ T ≠ z ∧ T ≠ TO ∧ T ≠ i1 ∧ T ≠ i2)
    (by simp) (fun i h ⟨hz, hTI, ⟨x, y, hTO⟩, q1, q2⟩ c hc => ?_) (fun i h h' ⟨hz, hTI, ⟨x, y, hTO⟩, q1, q2⟩ k => ⟨k z (by simp) _ hz, k TI (by simp) _ hTI, ⟨x, y, k TO (by simp) _ hTO⟩, itr_at q1 fun o q => k i1 (by simp) o q, itr_at q2 fun o q => k i2 (by simp) o q⟩)
    (fun c hc => by simp at hc ⊢; rcases hc with q | q | q | q <;> simp [q]) (fun H i xs ⟨_, _, _, _, _, _, _, _, q⟩ => by rw [q]; show 2 ≤ 1000; decide) ?_ (fun A i s Q E ⟨hz, _⟩ q => wpAny_pyIter_zip hz q)
  · have hc : c = z ∨ c = TI ∨ c = TO ∨ c = i1 ∨ c = i2 := by simpa using hc
    rcases hc with q | q | q | q | q
    · rw [q]; exact ⟨_, hz, fun v q => nomatch q⟩
    · rw [q]; exact ⟨_, hTI, fun v q => nomatch q⟩
    · rw [q]; exact ⟨_, hTO, fun v q => nomatch q⟩
    · rw [q]; exact itr_obj q1
    · rw [q]; exact itr_obj q2
  · rintro X pins σ H s hP hw I ⟨⟨vs, ev, el⟩, ⟨ws, ew, el2⟩⟩
    obtain ⟨its, rv, sq, hl⟩ := isq_of I ev
    obtain ⟨its2, rv2, sq2, hl2⟩ := isq_of I ew
    refine ⟨(its, its2), ⟨sq, sq2⟩, fun i vals ⟨x, y, hx, hy, evs⟩ => ?_, fun A hh => ?_⟩
    · obtain ⟨v, hv, r1⟩ := rel_at (i := i) rv (u := x) (by simpa using hx)
      obtain ⟨v2, hv2, r2⟩ := rel_at (i := i) rv2 (u := y) (by simpa using hy)
      refine ⟨[v, v2], ?_, vs, ws, v, v2, ev, ew, hv, hv2, rfl⟩
      rw [evs]
      exact .cons r1 (.cons r2 .nil)
    · have Wk := WalksT.zipD2 (prog := P) (w := w) (A := A) S (draws_s b1 (P := P) (w := w) (A := A.in1) (by simpa using hh) i1 a1 h1 its.toArray) (draws_s b2 (P := P) (w := w) (A := A.in1) (by simpa using hh) i2 a2 h2 its2.toArray)
      have es : its.toArray.size = n1 := by simp [hl, el]
      have es2 : its2.toArray.size = n2 := by simp [hl2, el2]
      rw [es, es2] at Wk
      have e1 : (fun (i : Nat) (h : Heap) => IsZip h z TI TO .none ∧ IsTupOf2 h TI (.ref i1) (.ref i2) ∧ (∃ a1 a2, IsTupOf2 h TO a1 a2) ∧ (itr b1 h i1 a1 i ∧ isq b1 a1 its.toArray h) ∧ (itr b2 h i2 a2 i ∧ isq b2 a2 its2.toArray h)) =
          fun i h => ownZ2 b1 b2 z TI TO i1 i2 a1 a2 i h ∧ (isq b1 a1 its.toArray h ∧ isq b2 a2 its2.toArray h) := by
        funext i h
        exact propext ⟨fun ⟨x, y, u, ⟨p, q⟩, ⟨p2, q2⟩⟩ => ⟨⟨x, y, u, p, p2⟩, q, q2⟩, fun ⟨⟨x, y, u, p, p2⟩, q, q2⟩ => ⟨x, y, u, ⟨p, q⟩, ⟨p2, q2⟩⟩⟩
      rw [e1] at Wk
      exact Wk
def iZip2S (ta : TA) : TI := fun σ H R => ta σ H fun vs H1 => ∃ b1 b2 a1 a2 xs ys, vs = [.ref a1, .ref a2] ∧ H1 a1 = some (soH b1 xs) ∧ H1 a2 = some (soH b2 ys) ∧
  R (ItT (min xs.length ys.length) (fun H => (∃ vs, H a1 = some (soH b1 vs) ∧ vs.length = xs.length) ∧ ∃ vs, H a2 = some (soH b2 vs) ∧ vs.length = ys.length)
      (fun H i zs => (∃ vs ws x y, H a1 = some (soH b1 vs) ∧ H a2 = some (soH b2 ws) ∧ vs[i]? = some x ∧ ws[i]? = some y ∧ zs = [x, y]))) H1
theorem pi_zip2S {e e2 : Expr} {ta : TA} {p pos tpos : Pos} {elts : List Expr} {kk : Nat} (hg : Gl X "zip") (hm : X.mg "zip" = none) (ha : PA X [e, e2] ta)
    (hs : starEach [e, e2] X.env = (false, eval e X.env) :: starEach [e2] X.env := by rfl) (hpl : (backTo pos (starEach [e2] X.env)).any (·.1) = false := by rfl) :
    PI X (.Tuple elts kk tpos) (.Call (.Name "zip" p) [e, e2] [] pos) (iZip2S ta) := by
  refine ⟨fun pins s σ H R I h => ?_⟩
  refine Call_ (ld_blt I hg hm PyProof.Rows.boot_zip (PyProof.Rows.callWith_type1 (thn (ha.run pos pins s σ H _ I h) fun us s1 ⟨vs, H1, I1, r1, q1⟩ => ?_) hs hpl))
  obtain ⟨b1, b2, a1, a2, xs, ys, ex, hq1, hq2, q⟩ := q1
  subst ex
  obtain ⟨u1, u2, rfl, ru1, ru2⟩ := vals2 r1
  cases ru1
  cases ru2
  obtain ⟨its, rv, sq, hl⟩ := isq_of I1 hq1
  obtain ⟨its2, rv2, sq2, hl2⟩ := isq_of I1 hq2
  have l1 : a1 < s1.heap.objs.size := I1.hok.lt hq1
  have l2 : a2 < s1.heap.objs.size := I1.hok.lt hq2
  refine zip_begins2 (begins_s b1 a1 its.toArray) (begins_s b2 a2 its2.toArray) sq sq2 fun h' hz hTI hTO e1 e2 hsz hk => wpAny_pyIter_zip hz ?_
  have I2 : Inv X pins σ H1 { s1 with heap := h' } := I1.kept (t' := s1.toks) hk
  refine ⟨s1.heap.objs.size + 4, [s1.heap.objs.size + 4, s1.heap.objs.size + 2, s1.heap.objs.size + 3, s1.heap.objs.size, s1.heap.objs.size + 1], _, _, H1, rfl, I2,
    turn_zip2S b1 b2 xs.length ys.length (zsep2 s1.heap.objs.size a1 a2 l1 l2) (Nat.ne_of_lt l1) (Nat.ne_of_lt (Nat.lt_succ_of_lt l2)), ⟨hz, hTI, ⟨_, _, hTO⟩, itr_new e1, itr_new e2⟩, fun c hcm => ?_, q⟩
  have e' : c = s1.heap.objs.size + 4 ∨ c = s1.heap.objs.size + 2 ∨ c = s1.heap.objs.size + 3 ∨ c = s1.heap.objs.size ∨ c = s1.heap.objs.size + 1 := by simpa using hcm
  have hle : s1.heap.objs.size ≤ c := by
    rcases e' with z | z | z | z | z <;> rw [z] <;> first | exact Nat.le_refl _ | exact Nat.le_add_right _ _
  exact I1.fpOk hle (I1.hok.fresh hle)
/-! ### what is walked, in D -/
def seqP (h : DH) (x : D) (Q : List D → (DH → Prop) → Prop) : Prop := match x with
  | .tup xs => Q xs fun _ => True
  | .lst xs => Q xs fun _ => True
  | .ref a => match h a with
    | some (.lst xs) => Q xs fun h' => h' a = some (.lst xs)
    | _ => False
  | _ => False
theorem seqP_elim {x : D} {Q : List D → (DH → Prop) → Prop} (q : seqP h x Q) : ∃ xs gd, Q xs gd ∧ (x = .tup xs ∨ x = .lst xs ∨ ∃ a, x = .ref a ∧ h a = some (.lst xs) ∧ gd = fun h' => h' a = some (.lst xs)) := by
  unfold seqP at q
  split at q
  · exact ⟨_, _, q, .inl rfl⟩
  · exact ⟨_, _, q, .inr (.inl rfl)⟩
  · split at q
    · rename_i e
      exact ⟨_, _, q, .inr (.inr ⟨_, rfl, e, rfl⟩)⟩
    · exact q.elim
  · exact q.elim
/-- a source stands all along -/
theorem seq_src (rs' : RS c R h H) {v : V} {x : D} {xs : List D} {gd : DH → Prop} (rv : RV c R h H v x) (e : x = .tup xs ∨ x = .lst xs ∨ ∃ a, x = .ref a ∧ h a = some (.lst xs) ∧ gd = fun h' => h' a = some (.lst xs)) :
    ∃ b a vs, v = .ref a ∧ H a = some (soH b vs) ∧ vs.length = xs.length ∧ ∀ R' : Addr → Prop, (∀ p, R' p → R p ∨ H p = none) → ∀ h' H', Kp R' h H h' H' → RS c R' h' H' → gd h' → ∃ vs, H' a = some (soH b vs) ∧ RVs c R' h' H' vs xs := by
  rcases e with e | e | ⟨a, e, ha, eg⟩
  · subst e
    cases rv with
    | tup f e r =>
      exact ⟨false, _, _, rfl, e, r.length, fun R' s h' H' k _ _ => ⟨_, (k.keep _ _ (f.moreO s e) e rfl).1, (r.more s).kp k⟩⟩
  · subst e
    cases rv with
    | lst f e r =>
      exact ⟨true, _, _, rfl, e, r.length, fun R' s h' H' k _ _ => ⟨_, (k.keep _ _ (f.moreO s e) e rfl).1, (r.more s).kp k⟩⟩
  · subst e
    cases rv
    obtain ⟨vs, e2, r⟩ := rs'.ob a _ ha
    refine ⟨true, a, vs, rfl, e2, r.length, fun R' s h' H' k rs2 g => ?_⟩
    rw [eg] at g
    obtain ⟨ws, e3, r3⟩ := rs2.ob a _ g
    exact ⟨ws, e3, r3⟩
def itSeq (m : DM) : DIt := fun e h E Q => m e h E fun x h1 => seqP h1 x fun xs gd => Q xs gd h1
def itScr (m : DM) : DIt := fun e h E Q => m e h E fun x h1 => ∃ ns, x = .scr ns ∧ Q (ns.map D.int) (fun _ => True) h1
def enumD : Nat → List D → List D
  | _, [] => []
  | k, x :: xs => .tup [.int k, x] :: enumD (k + 1) xs
theorem enumD_length : ∀ (k : Nat) (xs : List D), (enumD k xs).length = xs.length
  | _, [] => rfl
  | k, x :: xs => congrArg (· + 1) (enumD_length (k + 1) xs)
theorem enumD_get : ∀ (k : Nat) (xs : List D) (i : Nat), (enumD k xs)[i]? = (xs[i]?).map fun x => .tup [.int ((k + i : Nat) : Int), x]
  | _, [], i => by simp [enumD]
  | k, x :: xs, 0 => by simp [enumD]
  | k, x :: xs, i + 1 => by
    unfold enumD
    rw [List.getElem?_cons_succ, List.getElem?_cons_succ, enumD_get (k + 1) xs i, show k + 1 + i = k + (i + 1) by omega]
def zipD (xs ys : List D) : List D := List.zipWith (fun x y => .tup [x, y]) xs ys
def zip3D : List D → List D → List D → List D
  | x :: xs, y :: ys, z :: zs => .tup [x, y, z] :: zip3D xs ys zs
  | _, _, _ => []
def itEnum (m : DM) : DIt := fun e h E Q => m e h E fun x h1 => seqP h1 x fun xs gd => Q (enumD 0 xs) gd h1
def itZip (a b : DM) : DIt := fun e h E Q => a e h E fun x h1 => b e h1 E fun y h2 => seqP h2 x fun xs g1 => seqP h2 y fun ys g2 => Q (zipD xs ys) (fun h => g1 h ∧ g2 h) h2
def itZip3 (a b d : DM) : DIt := fun e h E Q => a e h E fun x h1 => b e h1 E fun y h2 => d e h2 E fun z h3 => seqP h3 x fun xs g1 => seqP h3 y fun ys g2 => seqP h3 z fun zs g3 => Q (zip3D xs ys zs) (fun h => g1 h ∧ g2 h ∧ g3 h) h3
def rngD (lo : Int) : Nat → List D
  | 0 => []
  | n + 1 => .int lo :: rngD (lo + 1) n
theorem rngD_length : ∀ (lo : Int) (n : Nat), (rngD lo n).length = n
  | _, 0 => rfl
  | lo, n + 1 => congrArg (· + 1) (rngD_length (lo + 1) n)
theorem rngD_get : ∀ (lo : Int) (n i : Nat) (d : D), (rngD lo n)[i]? = some d → i < n ∧ d = .int (lo + i)
  | _, 0, i, d, e => by simp [rngD] at e
  | lo, n + 1, 0, d, e => by
    simp only [rngD, List.getElem?_cons_zero, Option.some.injEq] at e
    exact ⟨Nat.succ_pos _, by rw [← e]; simp⟩
  | lo, n + 1, i + 1, d, e => by
    simp only [rngD, List.getElem?_cons_succ] at e
    obtain ⟨a, b⟩ := rngD_get (lo + 1) n i d e
    exact ⟨Nat.succ_lt_succ a, by rw [b]; congr 1; omega⟩
def rngC (lo st : Int) : Nat → List D
  | 0 => []
  | n + 1 => .int lo :: rngC (lo + st) st n
theorem rngC_length : ∀ (lo st : Int) (n : Nat), (rngC lo st n).length = n
  | _, _, 0 => rfl
  | lo, st, n + 1 => congrArg (· + 1) (rngC_length (lo + st) st n)
theorem rngC_get : ∀ (lo st : Int) (n i : Nat) (d : D), (rngC lo st n)[i]? = some d → i < n ∧ d = .int (lo + i * st)
  | _, _, 0, i, d, e => by simp [rngC] at e
  | lo, st, n + 1, 0, d, e => by
    simp only [rngC, List.getElem?_cons_zero, Option.some.injEq] at e
    exact ⟨Nat.succ_pos _, by rw [← e]; simp⟩
  | lo, st, n + 1, i + 1, d, e => by
    simp only [rngC, List.getElem?_cons_succ] at e
    obtain ⟨a, b⟩ := rngC_get (lo + st) st n i d e
    refine ⟨Nat.succ_lt_succ a, ?_⟩
    rw [b]
    congr 1
    rw [Int.natCast_add, Int.add_mul]
    omega
def itR1 (m : DM) : DIt := fun e h E Q => m e h E fun x h1 => ∃ j, x = .int j ∧ -1000000 ≤ j ∧ j ≤ 1000000 ∧ Q (rngD 0 j.toNat) (fun _ => True) h1
def itR2 (a b : DM) : DIt := fun e h E Q => a e h E fun x h1 => b e h1 E fun y h2 => ∃ i j, x = .int i ∧ y = .int j ∧ (-1000000 ≤ i ∧ i ≤ 1000000 ∧ -1000000 ≤ j ∧ j ≤ 1000000) ∧ Q (rngD i (j - i).toNat) (fun _ => True) h2
/-- down by ones -/
def itR3 (a b d : DM) : DIt := fun e h E Q => a e h E fun x h1 => b e h1 E fun y h2 => d e h2 E fun z h3 => ∃ i j s, x = .int i ∧ y = .int j ∧ z = .int s ∧ (-1000000 ≤ i ∧ i ≤ 1000000 ∧ -1000000 ≤ j ∧ j ≤ 1000000) ∧ ((s = -1 ∧ Q (rngC i (-1) (i - j).toNat) (fun _ => True) h3) ∨ (s = 1 ∧ Q (rngC i 1 (j - i).toNat) (fun _ => True) h3))
section
variable {tg a b d : Expr} {ma mb md : DM} {p pos tpos : Pos} {elts : List Expr} {kk : Nat}
theorem i_walkT {n : Nat} {S : Hp → Prop} {PtV : Hp → Nat → List V → Prop} {xs : List D} {gd : DH → Prop} (hn : xs.length = n)
    (hs : ∀ h' H', Kp R h H h' H' → RS c R h' H' → gd h' → S H' ∧ ∀ i ys, PtV H' i ys → ∀ dd, xs[i]? = some dd → ∃ ds, dd = .tup ds ∧ RVs c R h' H' ys ds) : WalkD c R h H (ItT n S PtV) xs gd where
  go := fun i h' H' dd k rs' g e => by
    obtain ⟨s, q⟩ := hs h' H' k rs' g
    refine ⟨⟨by rw [← hn]; exact (List.getElem?_eq_some_iff.mp e).1, s⟩, fun x H2 ⟨T, ys, ex, hT, eH, pv⟩ => ?_⟩
    obtain ⟨ds, ed, r⟩ := q i ys pv dd e
    subst ex eH ed
    exact ⟨Ext.fresh rs' hT, rs'.fresh hT, .tup (rs'.free hT) upd_same (r.ext (Ext.fresh rs' hT))⟩
  stop := fun h' H' k rs' g => ⟨hn, (hs h' H' k rs' g).1⟩
/-- a list or a tuple, walked -/
def iSeqS (K : PySem.W.Frag) (tl : TE) : TI := fun σ H R => tl σ H fun x H1 => ∃ a, x = .ref a ∧ (((∃ xs, SqL K H1 a xs) ∧ R (Itl K a) H1) ∨ ((∃ xs, SqT K H1 a xs) ∧ R (Itt K a) H1))
theorem pi_seqS {l : Expr} {tl : TE} (hl : PE X l tl) : PI X tg l (iSeqS X.K tl) := by
  refine ⟨fun pins s σ H R I h => ?_⟩
  refine thn (hl.run pins s σ H _ I h) fun v s1 ⟨x, H1, I1, r1, q1⟩ => ?_
  obtain ⟨a, e, q⟩ := q1
  subst e
  cases r1
  rcases q with ⟨⟨xs, hq⟩, q⟩ | ⟨⟨xs, hq⟩, q⟩
  · obtain ⟨its, rv, p, hz⟩ := I1.list hq
    refine wpAny_pyIter_list p.isList ?_
    refine ⟨s1.heap.objs.size, [s1.heap.objs.size], _, _, H1, rfl, I1.kept (t' := s1.toks) fun b o e => Heap.get?_push_of_some _ e, turn_list a _, ⟨_, Heap.get?_push_size _ rfl, rfl, rfl⟩, fun b hb => ?_, q⟩
    have e : b = s1.heap.objs.size := by simpa using hb
    subst e
    exact I1.fpOk (Nat.le_refl _) (I1.hok.fresh (Nat.le_refl _))
  · obtain ⟨its, rv, p, hz⟩ := I1.tuple hq
    refine wpAny_pyIter_tuple (show s1.heap.IsTuple a its.toArray from p) ?_
    refine ⟨s1.heap.objs.size, [s1.heap.objs.size], _, _, H1, rfl, I1.kept (t' := s1.toks) fun b o e => Heap.get?_push_of_some _ e, turn_tuple a _, ⟨_, Heap.get?_push_size _ rfl, rfl, rfl⟩, fun b hb => ?_, q⟩
    have e : b = s1.heap.objs.size := by simpa using hb
    subst e
    exact I1.fpOk (Nat.le_refl _) (I1.hok.fresh (Nat.le_refl _))
theorem walk_t {a : Addr} {xs : List D} {gd : DH → Prop} (hs : ∀ h' H', Kp R h H h' H' → RS c R h' H' → gd h' → ∃ vs, SqT c.K H' a vs ∧ RVs c R h' H' vs xs) : WalkD c R h H (Itt c.K a) xs gd where
  go := fun i h' H' dd k rs' g e => by
    obtain ⟨vs, sq, r⟩ := hs h' H' k rs' g
    obtain ⟨v, ev, rv⟩ := r.get e
    refine ⟨⟨vs, v, sq, ev⟩, fun x H2 ⟨eH, q⟩ => ?_⟩
    subst eH
    have := q vs sq
    rw [ev] at this
    cases this
    exact ⟨.refl, rs', rv⟩
  stop := fun h' H' k rs' g => by
    obtain ⟨vs, sq, r⟩ := hs h' H' k rs' g
    exact ⟨vs, sq, Nat.le_of_eq r.length⟩
theorem di_seq (ha : DE X W a ma) : DIs X W tg a (itSeq ma) := (pi_seqS ha).wk fun σ H Q ⟨R, env, h, P, EP, r⟩ =>
  ⟨R, env, h, _, EP, r.rs, r.re, r.run, fun x h1 v H1 q e rs rv => by
    obtain ⟨xs, gd, q, z⟩ := seqP_elim q
    obtain ⟨b, a, vs, ev, e1, el, st⟩ := seq_src rs rv z
    refine ⟨a, ev, ?_⟩
    cases b with
    | true =>
      refine .inl ⟨⟨vs, SqL.of e1⟩, r.fin xs gd h1 H1 _ q e rs fun R' s1 s2 => ?_⟩
      exact ⟨fun i h' H' dd k rs' g ei => by
        obtain ⟨ws, e2, r2⟩ := st R' s1 h' H' k rs' g
        obtain ⟨w, ew, rw'⟩ := r2.get ei
        refine ⟨⟨ws, w, SqL.of e2, ew⟩, fun x H2 ⟨eH, q⟩ => ?_⟩
        subst eH
        have := q ws (SqL.of e2)
        rw [ew] at this
        cases this
        exact ⟨.refl, rs', rw'⟩, fun h' H' k rs' g => by
        obtain ⟨ws, e2, r2⟩ := st R' s1 h' H' k rs' g
        exact ⟨ws, SqL.of e2, Nat.le_of_eq r2.length⟩⟩
    | false =>
      refine .inr ⟨⟨vs, SqT.of e1⟩, r.fin xs gd h1 H1 _ q e rs fun R' s1 s2 => walk_t fun h' H' k rs' g => ?_⟩
      obtain ⟨ws, e2, r2⟩ := st R' s1 h' H' k rs' g
      exact ⟨ws, SqT.of e2, r2⟩, r.exc⟩
theorem di_enum (hg : Gl X "enumerate") (hm : X.mg "enumerate" = none) (ha : DE X W a ma) (hs : starEach [a] X.env = [(false, eval a X.env)] := by rfl) : DIs X W (.Tuple elts kk tpos) (.Call (.Name "enumerate" p) [a] [] pos) (itEnum ma) :=
  (pi_enumS hg hm (da_cons ha da_nil hs) hs).wk fun σ H Q ⟨R, env, h, P, EP, r⟩ =>
  ⟨R, env, h, fun ds h1 => match ds with
    | [x] => seqP h1 x fun xs gd => P (enumD 0 xs) gd h1
    | _ => False, EP, r.rs, r.re, r.run, fun ds h1 vs H1 q e rs rvs => by
    split at q
    · obtain ⟨v, ev0, rv⟩ := one_of rvs
      obtain ⟨xs, gd, q, z⟩ := seqP_elim q
      obtain ⟨b, a, vs, ev, e1, el, st⟩ := seq_src rs rv z
      subst ev
      refine ⟨b, a, vs, ev0, e1, r.fin _ gd h1 H1 _ q e rs fun R' s1 s2 => i_walkT (by rw [enumD_length, el]) fun h' H' k rs' g => ?_⟩
      obtain ⟨ws, e2, r2⟩ := st R' s1 h' H' k rs' g
      refine ⟨⟨ws, e2, r2.length.trans el.symm⟩, fun i ys ⟨us, x, e3, ex, ey⟩ dd ed => ?_⟩
      rw [e2] at e3
      have e3 : us = ws := by cases b <;> (cases e3; rfl)
      subst e3
      obtain ⟨d2, ed2, rd2⟩ := r2.getV ex
      rw [enumD_get, ed2] at ed
      simp only [Option.map_some, Option.some.injEq, Nat.zero_add] at ed
      refine ⟨_, ed.symm, ?_⟩
      rw [ey]
      exact .cons (.int _) (.cons rd2 .nil)
    · exact q.elim, r.exc⟩
theorem soH_inj {b : Bool} {us ws : List V} (e : soH b us = soH b ws) : us = ws := by cases b <;> (cases e; rfl)
theorem di_zip (hg : Gl X "zip") (hm : X.mg "zip" = none) (ha : DE X W a ma) (hb : DE X W b mb) (hs : starEach [a, b] X.env = (false, eval a X.env) :: starEach [b] X.env := by rfl) (hs2 : starEach [b] X.env = [(false, eval b X.env)] := by rfl)
    (hpl : (backTo pos (starEach [b] X.env)).any (·.1) = false := by rfl) : DIs X W (.Tuple elts kk tpos) (.Call (.Name "zip" p) [a, b] [] pos) (itZip ma mb) :=
  (pi_zip2S hg hm (da_cons ha (da_cons hb da_nil hs2) hs) hs hpl).wk fun σ H Q ⟨R, env, h, P, EP, r⟩ =>
  ⟨R, env, h, fun ds h1 => match ds with
    | [x, y] => seqP h1 x fun xs g1 => seqP h1 y fun ys g2 => P (zipD xs ys) (fun h => g1 h ∧ g2 h) h1
    | _ => False, EP, r.rs, r.re, r.run, fun ds h1 vs H1 q e rs rvs => by
    split at q
    · obtain ⟨v, u, ev0, rv, ru⟩ := two_of rvs
      obtain ⟨xs, g1, q, z1⟩ := seqP_elim q
      obtain ⟨ys, g2, q, z2⟩ := seqP_elim q
      obtain ⟨b1, a1, vs1, ev1, e1, el1, st1⟩ := seq_src rs rv z1
      obtain ⟨b2, a2, vs2, ev2, e2, el2, st2⟩ := seq_src rs ru z2
      subst ev1 ev2
      refine ⟨b1, b2, a1, a2, vs1, vs2, ev0, e1, e2, r.fin _ _ h1 H1 _ q e rs fun R' s1 s2 => i_walkT (by unfold zipD; rw [List.length_zipWith, el1, el2]) fun h' H' k rs' ⟨g1', g2'⟩ => ?_⟩
      obtain ⟨ws1, f1, r1⟩ := st1 R' s1 h' H' k rs' g1'
      obtain ⟨ws2, f2, r2⟩ := st2 R' s1 h' H' k rs' g2'
      refine ⟨⟨⟨ws1, f1, r1.length.trans el1.symm⟩, ⟨ws2, f2, r2.length.trans el2.symm⟩⟩, fun i zs ⟨us1, us2, x, y, f3, f4, ex, ey, ez⟩ dd ed => ?_⟩
      rw [f1] at f3
      rw [f2] at f4
      have f3 := soH_inj (Option.some.inj f3)
      have f4 := soH_inj (Option.some.inj f4)
      subst f3 f4
      obtain ⟨d1, ed1, rd1⟩ := r1.getV ex
      obtain ⟨d2, ed2, rd2⟩ := r2.getV ey
      unfold zipD at ed
      rw [List.getElem?_zipWith, ed1, ed2] at ed
      refine ⟨_, (Option.some.inj ed).symm, ?_⟩
      rw [ez]
      exact .cons rd1 (.cons rd2 .nil)
    · exact q.elim, r.exc⟩
theorem three_of {v : List V} {d e f : D} {R : Addr → Prop} {c : Cc} {h : DH} {H : Hp} (r : RVs c R h H v [d, e, f]) : ∃ u w x, v = [u, w, x] ∧ RV c R h H u d ∧ RV c R h H w e ∧ RV c R h H x f := by
  cases r with
  | cons a b => cases b with
    | cons a2 b => cases b with
      | cons a3 b => cases b; exact ⟨_, _, _, rfl, a, a2, a3⟩
theorem walk_r {lo : Int} {n : Nat} {gd : DH → Prop} : WalkD c R h H (Itr lo n) (rngD lo n) gd where
  go := fun i h' H' dd k rs' g e => by
    obtain ⟨a, b⟩ := rngD_get lo n i dd e
    refine ⟨a, fun x H2 ⟨eH, ex⟩ => ?_⟩
    subst eH ex b
    exact ⟨.refl, rs', .int _⟩
  stop := fun h' H' k rs' g => by
    rw [rngD_length]
    exact Nat.le_refl _
theorem walk_rc {lo st : Int} {n : Nat} {gd : DH → Prop} : WalkD c R h H (Itc lo st n) (rngC lo st n) gd where
  go := fun i h' H' dd k rs' g e => by
    obtain ⟨a, b⟩ := rngC_get lo st n i dd e
    refine ⟨a, fun x H2 ⟨eH, ex⟩ => ?_⟩
    subst eH ex b
    exact ⟨.refl, rs', .int _⟩
  stop := fun h' H' k rs' g => by
    rw [rngC_length]
    exact Nat.le_refl _
theorem di_r1 (hg : Gl X "range") (hm : X.mg "range" = none) (ha : DE X W a ma) (hs : starEach [a] X.env = [(false, eval a X.env)] := by rfl) : DIs X W tg (.Call (.Name "range" p) [a] [] pos) (itR1 ma) :=
  (pi_range1 hg hm (da_cons ha da_nil hs) hs).wk fun σ H Q ⟨R, env, h, P, EP, r⟩ =>
  ⟨R, env, h, fun ds h1 => match ds with
    | [x] => ∃ j, x = .int j ∧ -1000000 ≤ j ∧ j ≤ 1000000 ∧ P (rngD 0 j.toNat) (fun _ => True) h1
    | _ => False, EP, r.rs, r.re, r.run, fun ds h1 vs H1 q e rs rvs => by
    split at q
    · obtain ⟨v, ev0, rv⟩ := one_of rvs
      obtain ⟨j, ej, l1, l2, q⟩ := q
      subst ej
      cases rv
      exact ⟨j, ev0, by omega, by omega, r.fin _ _ h1 H1 _ q e rs fun R' s1 s2 => walk_r⟩
    · exact q.elim, r.exc⟩
theorem di_r2 (hg : Gl X "range") (hm : X.mg "range" = none) (ha : DE X W a ma) (hb : DE X W b mb) (hs : starEach [a, b] X.env = [(false, eval a X.env), (false, eval b X.env)] := by rfl) (hs2 : starEach [b] X.env = [(false, eval b X.env)] := by rfl) : DIs X W tg (.Call (.Name "range" p) [a, b] [] pos) (itR2 ma mb) :=
  (pi_range2 hg hm (da_cons ha (da_cons hb da_nil hs2) (by rw [hs, hs2])) hs hs2).wk fun σ H Q ⟨R, env, h, P, EP, r⟩ =>
  ⟨R, env, h, fun ds h1 => match ds with
    | [x, y] => ∃ i j, x = .int i ∧ y = .int j ∧ (-1000000 ≤ i ∧ i ≤ 1000000 ∧ -1000000 ≤ j ∧ j ≤ 1000000) ∧ P (rngD i (j - i).toNat) (fun _ => True) h1
    | _ => False, EP, r.rs, r.re, r.run, fun ds h1 vs H1 q e rs rvs => by
    split at q
    · obtain ⟨v, u, ev0, rv, ru⟩ := two_of rvs
      obtain ⟨i, j, ei, ej, l, q⟩ := q
      subst ei ej
      cases rv
      cases ru
      exact ⟨i, j, ev0, by omega, r.fin _ _ h1 H1 _ q e rs fun R' s1 s2 => walk_r⟩
    · exact q.elim, r.exc⟩
theorem di_r3 (hg : Gl X "range") (hm : X.mg "range" = none) (ha : DE X W a ma) (hb : DE X W b mb) (hd : DE X W d md) (hs : starEach [a, b, d] X.env = (false, eval a X.env) :: starEach [b, d] X.env := by rfl) (hs2 : starEach [b, d] X.env = (false, eval b X.env) :: starEach [d] X.env := by rfl) (hs3 : starEach [d] X.env = [(false, eval d X.env)] := by rfl) (hpl : (backTo pos (starEach [b, d] X.env)).any (·.1) = false := by rfl) : DIs X W tg (.Call (.Name "range" p) [a, b, d] [] pos) (itR3 ma mb md) :=
  (pi_range3 hg hm (da_cons ha (da_cons hb (da_cons hd da_nil hs3) hs2) hs) hs hpl).wk fun σ H Q ⟨R, env, h, P, EP, r⟩ =>
  ⟨R, env, h, fun ds h1 => match ds with
    | [x, y, z] => ∃ i j s, x = .int i ∧ y = .int j ∧ z = .int s ∧ (-1000000 ≤ i ∧ i ≤ 1000000 ∧ -1000000 ≤ j ∧ j ≤ 1000000) ∧ ((s = -1 ∧ P (rngC i (-1) (i - j).toNat) (fun _ => True) h1) ∨ (s = 1 ∧ P (rngC i 1 (j - i).toNat) (fun _ => True) h1))
    | _ => False, EP, r.rs, r.re, r.run, fun ds h1 vs H1 q e rs rvs => by
    split at q
    · obtain ⟨v, u, t, ev0, rv, ru, rt⟩ := three_of rvs
      obtain ⟨i, j, s, ei, ej, ek, l, q⟩ := q
      subst ei ej ek
      cases rv
      cases ru
      cases rt
      rcases q with ⟨es, q⟩ | ⟨es, q⟩
      · subst es
        exact ⟨i, j, -1, _, ev0, RgC.neg (by omega) (by omega) (by omega) (by omega), r.fin _ _ h1 H1 _ q e rs fun R' s1 s2 => walk_rc⟩
      · subst es
        exact ⟨i, j, 1, _, ev0, ⟨by decide, by decide, small_one (by omega) (by omega) (by omega) (by omega), by rw [rangeSize_one]; split <;> omega⟩, r.fin _ _ h1 H1 _ q e rs fun R' s1 s2 => walk_rc⟩
    · exact q.elim, r.exc⟩
end
end L2.Lmp

set_option maxHeartbeats 4000000
namespace L2.Lmp
open PySem PySem.Spec PyProof.Rows
variable {R R' : Addr → Prop} {c : Cc} {h h' h1 h2 : DH} {H H' H1 H2 : Hp} {W : WX} {X : Cx}

/-! ### -i -/
theorem de_un {op : UnaryOp} {p : P1} {r : V → Hp → VK → Prop} {a : Expr} {ma : DM} {pos : Pos} (ho : UnR X (unaryOp op) r)
    (hi : ∀ (R : Addr → Prop) (h : DH) (H : Hp) (x : D) (v : V) (P : D → Prop) (Q : VK), RS X.c R h H → RV X.c R h H v x → p h x P → (∀ d w, P d → RV X.c R h H w d → Q w H) → r v H Q)
    (ha : DE X W a ma) : DE X W (.UnaryOp op a pos) (mOp1 p ma) := (pe_un ho ha).wk fun σ H Q ⟨R, env, h, P, EP, r⟩ =>
  ⟨R, env, h, _, EP, r.rs, r.re, r.run, fun x h1 v H1 q e rs rv => hi R h1 H1 x v _ Q rs rv q fun d w pd rw' => r.fin d h1 w H1 pd e rs rw', r.exc⟩
def negP : P1 := fun _ x Q => match x with
  | .int i => Q (.int (-i))
  | _ => False
theorem i_neg : ∀ (R : Addr → Prop) (h : DH) (H : Hp) (x : D) (v : V) (P : D → Prop) (Q : VK), RS c R h H → RV c R h H v x → negP h x P → (∀ d w, P d → RV c R h H w d → Q w H) → rU (fun i => .int (-i)) v H Q := fun R h H x v P Q _ rx q fin => by
  unfold negP at q
  split at q
  · cases rx
    exact ⟨_, rfl, fin _ _ q (.int _)⟩
  · exact q.elim
/-! ### name = [..] on one line -/
section
variable {elt tg iter : Expr} {ifs : List Expr} {scope : Scope} {own : List (Str × Nat)} {pos spos py : Pos} {js : List Nat} {g : DG} {t : DT} {m : DM} {it : DIt} {y : Str} {i : Nat}
theorem ds_setComp (hc : X.calm = true) (hN : X.N.Nodup) (hy : X.N[i]? = some y) (hyl : X.env.scope.names.lookup y = some .local) (hsw : swapsWith (.ListComp elt [⟨tg, iter, ifs, 0⟩] scope pos) (some (.Name y py)) spos.line X.env = pure true)
    (hi : DIs X W tg iter it) (ok : BlkOk X.N X.env.scope scope own) (hjs : ∀ j ∈ js, j ∈ own.map (·.2))
    (hg : ∀ (s : Shared) (H : Hp) (C : Addr) (cl : List (Str × Addr)) (fp : List Addr), DGt (X.blk s H scope (compEnvC scope cl C X.env) fp) W0 js tg g) (ht : ∀ (s : Shared) (H : Hp) (C : Addr) (cl : List (Str × Addr)) (fp : List Addr), PTsD (X.blk s H scope (compEnvC scope cl C X.env) fp) ifs t)
    (he : ∀ (s : Shared) (H : Hp) (C : Addr) (cl : List (Str × Addr)) (fp : List Addr), DE (X.blk s H scope (compEnvC scope cl C X.env) fp) W0 elt m) (hs : ∀ x, foldedSetIterable iter X.env x = pure x := by intro _; rfl) :
    DSt X W (.Assign [.Name y py] (.ListComp elt [⟨tg, iter, ifs, 0⟩] scope pos) spos) (sAsg (mComp it (own.map (·.2)) g t m) (gNm i)) :=
  (ps_setLc hc hN hy hyl hsw hi ok hg (fun s H C cl fp => (ht s H C cl fp).p) he hs).wk fun D0 σ H ⟨R, env, h, P, EP, r⟩ =>
    ⟨R, env, h, _, EP, r.rs, r.re, r.run, fun xs gd h1 H1 J q x1 rs1 wk => comp_core (Q := fun v H => D0.nx (σ.set i (some v)) H) hjs (fun _ _ _ _ z => z) (fun _ _ _ z => z) (fun _ _ _ z => z) rs1 (r.re.ext x1) wk q
      fun ds h2 vs H2 D' R' pd sub sup inD kp res rs2 rv2 e2 nr hn => by
        have x2 := x1.trans (comp_ext sub sup kp res hn fun _ _ z => z)
        exact r.nx _ h2 _ H2 pd x2 ⟨fun a o e => (rs2.ob a o e).conv (Free.sub sub), fun p z => ⟨(rs2.rs p (sub p z)).1, (rs2.rs p (sub p z)).2⟩⟩
          ((r.re.ext x2).set (.lst ⟨(rs2.rs D' inD).1, nr⟩ e2 (rv2.conv (Free.sub sub))) i), r.exc.at⟩
end
/-! ### defs -/
theorem def_mk {base : Heap} {x : Str} {ps : List Str} {st : Stmt} {f : Addr} {fd : FuncData} {n k : Nat} {F : Fn} (Fu : L2.Fun c.K x x st f fd) (G : FnOk c.P c.w c.K c.mg base (L2.CX c.P c.w) k f fd ps (spD c n F)) (m : c.mg x = some (.ref f)) (b : Binds c.K fd ps []) : Def c base k x n F :=
  ⟨f, fd, ps, G, m, Fu.kp, b⟩
theorem def_rec {base : Heap} {x : Str} {ps : List Str} {st : Stmt} {f : Addr} {fd : FuncData} {n k : Nat} {F : Nat → Fn} (Fu : L2.Fun c.K x x st f fd) (hl : ps.length = n) (h0 : ∀ ds h E Q, ¬ F 0 ds h E Q)
    (G : ∀ j, Def c base (k + j) x n (F j) → FnOk c.P c.w c.K c.mg base (L2.CX c.P c.w) (k + j + 1) f fd ps (spD c n (F (j + 1)))) (m : c.mg x = some (.ref f)) (b : Binds c.K fd ps []) : ∀ j, Def c base (k + j) x n (F j)
  | 0 => ⟨f, fd, ps, ⟨fun vs H Q E h => h.1.trans hl.symm, fun A outer s H args us vs Q E _ _ _ _ ⟨_, R, h, ds, P, EP, rs, rv, run, _⟩ => (h0 _ _ _ _ run).elim⟩, m, Fu.kp, b⟩
  | j + 1 => ⟨f, fd, ps, G j (def_rec Fu hl h0 G m b j), m, Fu.kp, b⟩
end L2.Lmp

set_option maxHeartbeats 4000000
/-! sorted of tuples of ints of any lengths -/
namespace L2.Lmp
open PySem PySem.Spec PyProof.Rows PySem.Calls SrtO
section
variable {prog : Program} {w : World} {A : Around} {E : Value → Shared → Prop} {s : Shared}
/-- a tuple of ints with a first one -/
def IsIs (h : Heap) (v : Value) (ns : List Int) : Prop := ∃ a o vs n, v = .ref a ∧ h.get? a = some o ∧ o.cls = .type "tuple" ∧ o.data = .seq vs n ∧ IntsAre vs.toList ns ∧ ns ≠ []
theorem IsIs.keeps {h h' : Heap} {v : Value} {ns : List Int} (p : IsIs h v ns) (k : ∀ b o, h.get? b = some o → o.cls = .type "tuple" → h'.get? b = some o) : IsIs h' v ns := by
  obtain ⟨a, o, vs, n, e, ho, hc, hd, hi⟩ := p
  exact ⟨a, o, vs, n, e, k _ _ ho hc, hc, hd, hi⟩
end
end L2.Lmp

set_option maxHeartbeats 4000000
namespace L2.Lmp
open PySem PySem.Spec PyProof.Rows
variable {R R' : Addr → Prop} {c : Cc} {h h' h1 h2 : DH} {H H' H1 H2 : Hp} {W : WX} {X : Cx}
/-! ### the sorted list as a function -/
end L2.Lmp

set_option maxHeartbeats 4000000
namespace L2.Lmp
open PySem PySem.Spec PyProof.Rows
variable {R R' : Addr → Prop} {c : Cc} {h h' h1 h2 : DH} {H H' H1 H2 : Hp} {W : WX} {X : Cx}
theorem _root_.L2.Room.units65 {k : Nat} {A : Around} (r : Room k A) : A.units + 65 < cLine := by have := r.un; omega
/-! ### x in l, x not in l -/
theorem any_pdv {x : D} : ∀ ys : List D, ((pdvs ys).any fun z => PyData.eqv z (pdv x)) = ys.any fun z => eqB z x
  | [] => rfl
  | y :: ys => by
    show (PyData.eqv (pdv y) (pdv x) || (pdvs ys).any fun z => PyData.eqv z (pdv x)) = (eqB y x || ys.any fun z => eqB z x)
    rw [eqv_pdv, any_pdv ys]
def ninP : P2 := fun h x y Q => ∃ ys, rs h y = .lst ys ∧ shN 60 (rs h x) ∧ shN 60 (.lst ys) ∧ Q (.bl (!ys.any fun z => eqB z (rs h x)))
theorem i_nin : Imp2 c ninP (rNotInD c.K) := fun R h H x y v u P Q rs' rx ry ⟨ys, e, sx, sy, q⟩ fin => by
  have dy := dp_rs rs' ry (by rw [e]; exact sy)
  rw [e] at dy
  exact ⟨_, pdvs ys, dp_rs rs' rx sx, dy, sh_shaped sx, sh_shaped sy, by rw [any_pdv]; exact fin _ _ H q .refl rs' (.bl _)⟩
/-! ### l + l -/
theorem lst_at (r : RS c R h H) {v : V} {d : D} {ds : List D} (rv : RV c R h H v d) (e : rs h d = .lst ds) : ∃ p vs, v = .ref p ∧ H p = some (.lst vs) ∧ RVs c R h H vs ds := by
  cases rv with
  | lst a b x =>
    cases e
    exact ⟨_, _, rfl, b, x⟩
  | ref a =>
    cases q : h a with
    | none => simp only [rs, q] at e; cases e
    | some o =>
      cases o with
      | lst es =>
        simp only [rs, q] at e
        cases e
        obtain ⟨vs, e2, x⟩ := r.ob a _ q
        exact ⟨_, _, rfl, e2, x⟩
      | ins _ _ => simp only [rs, q] at e; cases e
      | dic _ => simp only [rs, q] at e; cases e
      | dik _ => simp only [rs, q] at e; cases e
      | tbl _ => simp only [rs, q] at e; cases e
  | _ => cases e
def addLP : P2 := fun h x y Q => ∃ xs ys, rs h x = .lst xs ∧ rs h y = .lst ys ∧ xs.length + ys.length ≤ 1000000 ∧ Q (.lst (xs ++ ys))
theorem i_addL : Imp2 c addLP rCat := fun R h H x y v u P Q rs' rx ry q fin => by
  obtain ⟨xs, ys, e1, e2, l, q⟩ := q
  obtain ⟨p1, vs, f1, s1, r1⟩ := lst_at rs' rx e1
  obtain ⟨p2, ws, f2, s2, r2⟩ := lst_at rs' ry e2
  exact ⟨p1, p2, vs, ws, f1, f2, s1, s2, by rw [r1.length, r2.length]; exact line_mill l, fun p hp => fin _ _ _ q (Ext.fresh rs' hp) (rs'.fresh hp) (.lst (rs'.free hp) upd_same ((r1.append r2).ext (Ext.fresh rs' hp)))⟩
end L2.Lmp

set_option maxHeartbeats 4000000
/-! dicts whose keys are tuples of any depth -/
namespace L2.Lmp
open PySem PySem.Spec PyProof.Rows
variable {R R' : Addr → Prop} {c : Cc} {h h' h1 h2 : DH} {H H' H1 H2 : Hp} {W : WX} {X : Cx}
mutual
inductive KNV (H : Hp) : V → NestedKey → Prop
  | non : KNV H .non .none
  | int (i : Int) : KNV H (.int i) (.num i)
  | str (x : Str) : KNV H (.str x) (.text x)
  | tup {p : Addr} {vs : List V} {ks : List NestedKey} : H p = some (.tup vs) → KNVs H vs ks → KNV H (.ref p) (.tup ks)
inductive KNVs (H : Hp) : List V → List NestedKey → Prop
  | nil : KNVs H [] []
  | cons {v : V} {k : NestedKey} {vs : List V} {ks : List NestedKey} : KNV H v k → KNVs H vs ks → KNVs H (v :: vs) (k :: ks)
end
mutual
theorem kn_is {P : Program} {w : World} {hp : Heap} (ok : HOk P w H hp) : ∀ {v : V} {k : NestedKey} {u : Value}, KNV H v k → RelV v u → NestedIs hp k u
  | _, _, _, .non, r => by
    cases r
    exact .none
  | _, _, _, .int i, r => by
    obtain ⟨t, rfl⟩ := r
    exact .int i t
  | _, _, _, .str x, r => by
    obtain ⟨t, rfl⟩ := r
    exact .text x t
  | _, _, _, .tup e x, r => by
    cases r
    obtain ⟨_, its, rv, o, h1, h2, n, h3⟩ := (show ObjOk P w H hp _ (.tup _) from ok _ _ e)
    exact .tup h1 h2 h3 (by simpa using kns_is ok x rv)
theorem kns_is {P : Program} {w : World} {hp : Heap} (ok : HOk P w H hp) : ∀ {vs : List V} {ks : List NestedKey} {us : List Value}, KNVs H vs ks → Vals vs us → NestedAll hp ks us
  | _, _, _, .nil, .nil => .nil
  | _, _, _, .cons a b, .cons r s => .cons (kn_is ok a r) (kns_is ok b s)
end
def KX (H : Hp) (xs : List (NestedKey × Addr × Value)) : Prop := ∀ x ∈ xs, KNV H (.ref x.2.1) x.1 ∧ x.1.depth ≤ 8
theorem dic_of {hp : Heap} {a : Addr} {xs : List (NestedKey × Addr × Value)} (ok : HOk c.P c.w H hp) (e : H a = some (dicHO c a xs)) (kx : KX H xs) : xs.length ≤ sizeLine ∧ (a == sysModules) = false ∧ hp.DictOfH (nestedKind c.P c.w) a xs := by
  obtain ⟨⟨z, hd, o, es, ep, h1, h2, h3, h4, h5⟩, _⟩ := (show ObjOk c.P c.w H hp a (dicHO c a xs) from ok a _ e)
  exact ⟨z, hd, o, es, ep, h1, h2, h3, h4, fun x hx => ⟨kn_is ok (kx x hx).1 rfl, (kx x hx).2⟩, h5⟩
theorem dic_ok {hp : Heap} {a : Addr} {xs : List (NestedKey × Addr × Value)} (z : xs.length ≤ sizeLine) (hd : (a == sysModules) = false) (dd : hp.DictOfH (nestedKind c.P c.w) a xs) : ObjOk c.P c.w H hp a (dicHO c a xs) := by
  obtain ⟨o, es, ep, h1, h2, h3, h4, _, h5⟩ := dd
  exact ⟨⟨z, hd, o, es, ep, h1, h2, h3, h4, h5⟩, ⟨o, h1⟩, fun g1 g2 ⟨a1, a2, o, es, ep, b1, b2⟩ k => ⟨a1, a2, o, es, ep, k _ b1, b2⟩⟩
/-! ### by values -/
def tDNewX (c : Cc) : TE := fun _ H Q => ∀ p, H p = none → Q (.ref p) (upd H p (dicHO c p []))
theorem pe_dnewX {pos : Pos} : PE X (.Dict [] [] pos) (tDNewX X.c) := ⟨fun pins s σ H Q I h =>
  wpAny_Dict_empty ⟨.ref s.heap.objs.size, _, I.laid (a := s.heap.objs.size) (o := dicHO X.c s.heap.objs.size []) (t' := s.toks) (fun _ _ q => Heap.get?_push_of_some _ q) (Nat.le_refl _)
    (dic_ok (Nat.zero_le _) (beq_eq_false_iff_ne.mpr (Ne.symm (Nat.ne_of_lt I.big))) (Heap.DictOfH.new s.heap)), rfl, h _ (I.hok.fresh (Nat.le_refl _))⟩⟩
theorem room_n {A : Around} (hu : A.units + 65 < cLine) : (nestedKind X.prog X.w).room A.in1 := show A.units + 1 + 8 < cLine by omega
def rGetX (c : Cc) : R2 := fun x y H Q => ∃ a xs b k p u v, x = .ref a ∧ y = .ref b ∧ H a = some (dicHO c a xs) ∧ KX H xs ∧ KNV H (.ref b) k ∧ k.depth ≤ 8 ∧ atKey xs k = some (p, u) ∧ RelV v u ∧ Q v H
theorem ix_dX (hu : X.A.units + 65 < cLine) : IxR X (rGetX X.c) := by
  intro value slice pins s σ H x y v u Q I rx ry h hs
  obtain ⟨a, xs, b, k, p, w', z, rfl, rfl, e, kx, kn, kd, hk, rz, q⟩ := h
  cases rx
  cases ry
  obtain ⟨z0, hd, dd⟩ := dic_of (c := X.c) I.hok e kx
  exact tail_any dd.typeIs PySem.F.slot_dict_getitem.lookup (wpAny_getItem_heap (room_n hu) ⟨kn_is I.hok kn rfl, kd⟩ dd hk ⟨z, H, I.tok _, rz, q⟩) hs
def rInX (c : Cc) (n : Bool) : R2 := fun x y H Q => ∃ a xs b k, x = .ref b ∧ y = .ref a ∧ H a = some (dicHO c a xs) ∧ KX H xs ∧ KNV H (.ref b) k ∧ k.depth ≤ 8 ∧ Q (.bl (if n then !(atKey xs k).isSome else (atKey xs k).isSome)) H
theorem op_notInX (hu : X.A.units + 65 < cLine) : OpR X (compareOp .NotIn) (rInX X.c true) := by
  intro pins s σ H x y v u Q I rx ry h
  obtain ⟨a, xs, b, k, rfl, rfl, e, kx, kn, kd, q⟩ := h
  cases rx
  cases ry
  obtain ⟨z0, hd, dd⟩ := dic_of (c := X.c) I.hok e kx
  exact wpAny_notIn_heap (room_n hu) ⟨kn_is I.hok kn rfl, kd⟩ hd dd ⟨.bl _, H, I.tok _, rfl, q⟩
def tSetX (c : Cc) : TSet := fun o i v H Q => ∃ a xs b k, o = .ref a ∧ i = .ref b ∧ H a = some (dicHO c a xs) ∧ KX H xs ∧ KNV H (.ref b) k ∧ k.depth ≤ 8 ∧ xs.length < sizeLine ∧ ∀ u, RelV v u → Q (upd H a (dicHO c a (storedH xs k b u)))
theorem storedH_length {xs : List (NestedKey × Addr × Value)} {k : NestedKey} {b : Addr} {u : Value} : (storedH xs k b u).length ≤ xs.length + 1 := by
  unfold storedH
  split
  · rw [List.length_map]; omega
  · rw [List.length_append]; exact Nat.le_refl _
theorem set_dX (hu : X.A.units + 65 < cLine) : PSet X (tSetX X.c) := by
  intro pins s σ H o i v ov iv u Q I ro ri rv h
  obtain ⟨a, xs, b, k, rfl, rfl, e, kx, kn, kd, hl, q⟩ := h
  cases ro
  cases ri
  obtain ⟨z0, hd, dd⟩ := dic_of (c := X.c) I.hok e kx
  refine wpAny_setItem_heap (hsz := z0) (room_n hu) ⟨kn_is I.hok kn rfl, kd⟩ dd fun h' dd' hs => ?_
  have he : ∃ q, h'.get? a = some q := let ⟨q, _, _, hq, _⟩ := dd'; ⟨q, hq⟩
  exact ⟨upd H a (dicHO X.c a (storedH xs k b u)), d_write I (by rw [e]; exact True.intro) hs he (dic_ok (H := upd H a (dicHO X.c a (storedH xs k b u))) (by have := storedH_length (xs := xs) (k := k) (b := b) (u := u); omega) hd dd'), q u rv⟩
end L2.Lmp

set_option maxHeartbeats 4000000
namespace L2.Lmp
open PySem PySem.Spec PyProof.Rows
variable {R R' : Addr → Prop} {c : Cc} {h h' h1 h2 : DH} {H H' H1 H2 : Hp} {W : WX} {X : Cx}
mutual
theorem knv_of : ∀ {v : V} {d : D} {k : NestedKey}, RV c R h H v d → NK d k → KNV H v k
  | _, .non, _, r, q => by cases q; cases r; exact .non
  | _, .int i, _, r, q => by cases q; cases r; exact .int i
  | _, .str x, _, r, q => by cases q; cases r; exact .str x
  | _, .tup ds, _, r, q => by
    cases q with
    | tup p =>
      cases r with
      | tup f e x => exact .tup e (knvs_of x p)
  | _, .bl _, _, _, q => by cases q
  | _, .lst _, _, _, q => by cases q
  | _, .ref _, _, _, q => by cases q
  | _, .fn _, _, _, q => by cases q
  | _, .scr _, _, _, q => by cases q
  | _, .ty _, _, _, q => by cases q
theorem knvs_of : ∀ {vs : List V} {ds : List D} {ks : List NestedKey}, RVs c R h H vs ds → Paired NK ds ks → KNVs H vs ks
  | _, [], _, r, q => by cases q; cases r; exact .nil
  | _, d :: ds, _, r, q => by
    cases q with
    | cons a b =>
      cases r with
      | cons x y => exact .cons (knv_of x a) (knvs_of y b)
end
mutual
theorem nk_eq : ∀ {d d' : D} {k k' : NestedKey}, NK d k → NK d' k' → eqB d d' = NestedKey.beq k k'
  | .non, d', _, _, q, q' => by cases q; cases q' <;> rfl
  | .int i, d', _, _, q, q' => by
    cases q
    cases q' with
    | int j =>
      show (i == j) = decide (i = j)
      rfl
    | _ => rfl
  | .str x, d', _, _, q, q' => by
    cases q
    cases q' with
    | str y =>
      show (x == y) = decide (x = y)
      by_cases e : x = y
      · subst e; simp
      · rw [decide_eq_false e]; simpa using e
    | _ => rfl
  | .tup ds, d', _, _, q, q' => by
    cases q with
    | tup p =>
      cases q' with
      | tup p' => exact nks_eq p p'
      | _ => rfl
  | .bl _, _, _, _, q, _ => by cases q
  | .lst _, _, _, _, q, _ => by cases q
  | .ref _, _, _, _, q, _ => by cases q
  | .fn _, _, _, _, q, _ => by cases q
  | .scr _, _, _, _, q, _ => by cases q
  | .ty _, _, _, _, q, _ => by cases q
theorem nks_eq : ∀ {ds ds' : List D} {ks ks' : List NestedKey}, Paired NK ds ks → Paired NK ds' ks' → eqBs ds ds' = NestedKey.beqAll ks ks'
  | [], _, _, _, q, q' => by cases q; cases q' <;> rfl
  | d :: ds, ds', _, _, q, q' => by
    cases q with
    | cons a b =>
      cases q' with
      | nil => rfl
      | cons a' b' =>
        show (eqB d _ && eqBs ds _) = (NestedKey.beq _ _ && NestedKey.beqAll _ _)
        rw [nk_eq a a', nks_eq b b']
end
theorem nk_dec {d d' : D} {k k' : NestedKey} (q : NK d k) (q' : NK d' k') : eqB d d' = decide (k = k') := by
  rw [nk_eq q q', ← NestedKey.decide_eq]
/-- a key: a tuple of ints, texts, None and such tuples -/
def KeyD (x : D) : Prop := ∃ ds ks, x = .tup ds ∧ NK x (.tup ks) ∧ (NestedKey.tup ks).depth ≤ 8
def lookD (kvs : List (D × D)) (k : D) : Option D := (kvs.find? fun p => eqB p.1 k).map (·.2)
def putD (kvs : List (D × D)) (k v : D) : List (D × D) := if (lookD kvs k).isSome then kvs.map fun p => if eqB p.1 k = true then (p.1, v) else p else kvs ++ [(k, v)]
theorem XDs.kx {xs : List (NestedKey × Addr × Value)} {kvs : List (D × D)} (r : XDs c R h H xs kvs) : KX H xs := by
  induction r with
  | nil => exact fun x hx => (List.not_mem_nil hx).elim
  | cons a z b _ _ _ ih =>
    intro x hx
    rcases List.mem_cons.mp hx with e | hx
    · subst e
      exact ⟨knv_of b a, z⟩
    · exact ih x hx
theorem XDs.length {xs : List (NestedKey × Addr × Value)} {kvs : List (D × D)} (r : XDs c R h H xs kvs) : xs.length = kvs.length := by
  induction r with
  | nil => rfl
  | cons a z b _ _ _ ih => rw [List.length_cons, List.length_cons, ih]
/-- what stands at a key -/
theorem XDs.look {xs : List (NestedKey × Addr × Value)} {kvs : List (D × D)} (r : XDs c R h H xs kvs) {y0 : D} {k : NestedKey} (q : NK y0 k) :
    (lookD kvs y0 = none ∧ atKey xs k = none) ∨ ∃ d a u v, lookD kvs y0 = some d ∧ atKey xs k = some (a, u) ∧ RelV v u ∧ RV c R h H v d := by
  induction r with
  | nil => exact .inl ⟨rfl, rfl⟩
  | @cons k1 a1 u1 v1 kd1 d1 vs ds a z b x y _ ih =>
    have e := nk_dec a q
    by_cases hk : k1 = k
    · refine .inr ⟨d1, a1, u1, v1, ?_, ?_, x, y⟩
      · unfold lookD
        rw [List.find?_cons_of_pos (by rw [e]; exact decide_eq_true hk)]
        rfl
      · unfold atKey
        rw [List.find?_cons_of_pos (by exact decide_eq_true hk)]
        rfl
    · have e1 : lookD ((kd1, d1) :: ds) y0 = lookD ds y0 := by
        unfold lookD
        rw [List.find?_cons_of_neg (by rw [e]; simpa using hk)]
      have e2 : atKey ((k1, a1, u1) :: vs) k = atKey vs k := by
        unfold atKey
        rw [List.find?_cons_of_neg (by simpa using hk)]
      rw [e1, e2]
      exact ih
theorem XDs.map {xs : List (NestedKey × Addr × Value)} {kvs : List (D × D)} (r : XDs c R h H xs kvs) {y d : D} {k : NestedKey} {v : V} {u : Value} (q : NK y k) (rv : RelV v u) (rd : RV c R h H v d) :
    XDs c R h H (xs.map (putAt k u)) (kvs.map fun p => if eqB p.1 y = true then (p.1, d) else p) := by
  induction r with
  | nil => exact .nil
  | @cons k1 a1 u1 v1 kd1 d1 vs ds a z b x y' _ ih =>
    have e := nk_dec a q
    rw [List.map_cons, List.map_cons]
    unfold putAt
    by_cases hk : k1 = k
    · rw [if_pos hk, if_pos (by rw [e]; exact decide_eq_true hk)]
      exact .cons a z b rv rd ih
    · rw [if_neg hk, if_neg (by rw [e]; simpa using hk)]
      exact .cons a z b x y' ih
theorem XDs.append {xs ys : List (NestedKey × Addr × Value)} {kvs lvs : List (D × D)} (r : XDs c R h H xs kvs) (r2 : XDs c R h H ys lvs) : XDs c R h H (xs ++ ys) (kvs ++ lvs) := by
  induction r with
  | nil => exact r2
  | cons a z b x y _ ih => exact .cons a z b x y ih
theorem XDs.put {xs : List (NestedKey × Addr × Value)} {kvs : List (D × D)} (r : XDs c R h H xs kvs) {y d : D} {k : NestedKey} {p : Addr} {v : V} {u : Value} (q : NK y k) (hd : k.depth ≤ 8) (ry : RV c R h H (.ref p) y) (rv : RelV v u) (rd : RV c R h H v d) :
    XDs c R h H (storedH xs k p u) (putD kvs y d) := by
  unfold storedH putD
  rcases r.look q with ⟨e1, e2⟩ | ⟨d', a, u', v', e1, e2, _, _⟩
  · rw [e1, e2]
    exact r.append (.cons q hd ry rv rd .nil)
  · rw [e1, e2]
    exact r.map q rv rd
/-! ### denotations -/
def mDic0 : DM := fun _ h _ Q => ∀ p, h p = none → Q (.ref p) (upO h p (.dic []))
theorem de_dic0 {pos : Pos} : DE X W (.Dict [] [] pos) mDic0 := (pe_dnewX).wk fun σ H Q ⟨R, env, h, P, EP, r⟩ => fun p hp =>
  r.fin (.ref p) _ _ _ (r.run p (r.rs.no hp)) (Ext.newO r.rs hp) (r.rs.newO hp ⟨[], upd_same, .nil⟩) (.ref p)
def dicAt (h : DH) (x : D) (Q : Addr → List (D × D) → Prop) : Prop := match x with
  | .ref a => match h a with
    | some (.dic kvs) => Q a kvs
    | _ => False
  | _ => False
theorem dicAt_elim {x : D} {Q : Addr → List (D × D) → Prop} (q : dicAt h x Q) : ∃ a kvs, x = .ref a ∧ h a = some (.dic kvs) ∧ Q a kvs := by
  unfold dicAt at q
  split at q
  · split at q
    · rename_i e
      exact ⟨_, _, rfl, e, q⟩
    · exact q.elim
  · exact q.elim
def ixDP : P2 := fun h x y Q => dicAt h x fun a kvs => KeyD y ∧ Oc (lookD kvs y) Q
def ninDP : P2 := fun h y x Q => dicAt h x fun a kvs => KeyD y ∧ Q (.bl (!(lookD kvs y).isSome))
theorem i_ixD : Imp2 c ixDP (rGetX c) := fun R h H x y v u P Q rs' rx ry q fin => by
  obtain ⟨a, kvs, e, ha, ⟨ds, ks, ey, nk, dp⟩, q2⟩ := dicAt_elim q
  clear q
  subst e
  obtain ⟨d, ed, q3⟩ := Oc_elim q2
  cases rx
  obtain ⟨xs, e2, r⟩ := rs'.ob _ _ ha
  have kn := knv_of ry nk
  subst ey
  cases ry with
  | tup f e x =>
    rcases r.look nk with ⟨e1, _⟩ | ⟨d', b, u', v', e1, e3, e4, e5⟩
    · rw [e1] at ed; cases ed
    · rw [e1] at ed
      cases ed
      exact ⟨_, xs, _, _, _, _, v', rfl, rfl, e2, r.kx, kn, dp, e3, e4, fin _ _ H q3 .refl rs' e5⟩
theorem i_ninD : Imp2 c ninDP (rInX c true) := fun R h H y x u v P Q rs' ry rx q fin => by
  obtain ⟨a, kvs, e, ha, ⟨ds, ks, ey, nk, dp⟩, q2⟩ := dicAt_elim q
  clear q
  subst e
  cases rx
  obtain ⟨xs, e2, r⟩ := rs'.ob _ _ ha
  have kn := knv_of ry nk
  subst ey
  cases ry with
  | tup f e x =>
    refine ⟨_, xs, _, _, rfl, rfl, e2, r.kx, kn, dp, ?_⟩
    rcases r.look nk with ⟨e1, e3⟩ | ⟨d', b, u', v', e1, e3, e4, e5⟩
    · rw [e1] at q2
      rw [e3]
      exact fin _ _ H q2 .refl rs' (.bl _)
    · rw [e1] at q2
      rw [e3]
      exact fin _ _ H q2 .refl rs' (.bl _)
def setDP : DH → D → D → D → (DH → Prop) → Prop := fun h o i d Q => dicAt h o fun a kvs => KeyD i ∧ kvs.length < 1000000 ∧ Q (upO h a (.dic (putD kvs i d)))
theorem i_setD : ImpSet c setDP (tSetX c) := fun R h H o i d vo vi v P Q rs' ro ri rd q fin => by
  obtain ⟨a, kvs, e, ha, ⟨ds, ks, ei, nk, dp⟩, lz, q2⟩ := dicAt_elim q
  clear q
  subst e
  cases ro
  obtain ⟨xs, e2, r⟩ := rs'.ob _ _ ha
  have kn := knv_of ri nk
  have ri2 := ri
  subst ei
  cases ri with
  | tup f e x =>
    refine ⟨_, xs, _, _, rfl, rfl, e2, r.kx, kn, dp, by rw [r.length, sizeLine_eq]; omega, fun u ru => ?_⟩
    have q1 := r.put nk dp ri2 ru rd
    exact fin _ _ q2 (Ext.setO rs' ha) (rs'.setO ha ⟨_, upd_same, q1.ext (Ext.setO rs' ha)⟩)
end L2.Lmp

set_option maxHeartbeats 4000000
namespace L2.Lmp
open PySem PySem.Spec PyProof.Rows
variable {R R' : Addr → Prop} {c : Cc} {h h' h1 h2 : DH} {H H' H1 H2 : Hp} {W : WX} {X : Cx}
/-! ### {k: v} -/
def tDic1 (c : Cc) (tk tv : TE) : TE := fun σ H Q => ∀ p, H p = none → tk σ (upd H p (dicHO c p [])) fun x H1 => tv σ H1 fun y H2 => H2 p = some (dicHO c p []) ∧ ∃ b k, x = .ref b ∧ KNV H2 (.ref b) k ∧ k.depth ≤ 8 ∧ ∀ u, RelV y u → Q (.ref p) (upd H2 p (dicHO c p [(k, b, u)]))
theorem pe_dic1 {k v : Expr} {tk tv : TE} {pos : Pos} (hu : X.A.units + 65 < cLine) (hk : PE X k tk) (hv : PE X v tv) : PE X (.Dict [some k] [v] pos) (tDic1 X.c tk tv) := by
  refine ⟨fun pins s σ H Q I h => ?_⟩
  have hn := I.hok.fresh (Nat.le_refl s.heap.objs.size)
  have hbig := beq_eq_false_iff_ne.mpr (Ne.symm (Nat.ne_of_lt I.big))
  have I1 := I.laid (a := s.heap.objs.size) (o := dicHO X.c s.heap.objs.size []) (h' := s.heap.push { cls := .type "dict", data := .dict #[] }) (t' := s.toks) (fun _ _ q => Heap.get?_push_of_some _ q) (Nat.le_refl _) (dic_ok (Nat.zero_le _) hbig (Heap.DictOfH.new s.heap))
  rw [arm_eval_Dict, zip_pairTrees [some k] [v] X.env pos rfl rfl, dictDisplay_pairs (pairTrees [some k] [v] X.env pos) (List.cons_ne_nil _ _) (by exact (by decide : 1 < 17))]
  refine wpAny_bind (wpAny_standAt (wpAny_bind ?_))
  unfold subDict
  refine wpAny_bind (wpAny_alloc ?_)
  refine wpAny_bind (wpAny_holding ?_)
  rw [if_pos (by exact (by decide : 1 ≤ 15))]
  refine wpAny_bind ?_
  refine pairTrees_cons_walk (thn (hk.run pins _ σ _ _ I1 (h _ hn)) fun kv s1 ⟨x, H1, I2, rx, q1⟩ => thn (hv.run pins s1 σ H1 _ I2 q1) fun vv s2 ⟨y, H2, I3, ry, e, b, kk, ex, kn, kd, q2⟩ => pairTrees_nil_walk ?_)
  subst ex
  cases rx
  obtain ⟨z0, hd, dd⟩ := dic_of (c := X.c) I3.hok e (fun x hx => (List.not_mem_nil hx).elim)
  refine wpAny_holding ?_
  rw [List.forIn_cons]
  refine wpAny_bind (wpAny_bind (wpAny_bind (wpAny_dictSet_heap (hsz := z0) (show (nestedKind X.prog X.w).room X.A from show X.A.units + 8 < cLine by omega) ⟨kn_is I3.hok kn rfl, kd⟩ dd fun h' dd' hs => ?_)))
  refine wpAny_pure ?_
  show wpAny _ _ (forIn [] _ _) _ _ _
  rw [List.forIn_nil]
  refine wpAny_pure (wpAny_pure (wpAny_pure (wpAny_pure ?_)))
  have he : ∃ q, h'.get? s.heap.objs.size = some q := let ⟨q, _, _, hq, _⟩ := dd'; ⟨q, hq⟩
  exact ⟨.ref s.heap.objs.size, upd H2 s.heap.objs.size (dicHO X.c s.heap.objs.size [(kk, b, vv)]), d_write I3 (by rw [e]; exact True.intro) hs he (dic_ok (H := upd H2 s.heap.objs.size (dicHO X.c s.heap.objs.size [(kk, b, vv)])) (by rw [sizeLine_eq]; exact (by decide : 1 ≤ 16777216)) hd dd'), rfl, q2 vv ry⟩
def mDic1 (mk mv : DM) : DM := fun e h E Q => ∀ p, h p = none → mk e (upO h p (.dic [])) E fun x h1 => mv e h1 E fun y h2 => h2 p = some (.dic []) ∧ KeyD x ∧ Q (.ref p) (upO h2 p (.dic [(x, y)]))
/-! ### len(d) -/
theorem de_dic1 {k v : Expr} {mk mv : DM} {pos : Pos} (hu : X.A.units + 65 < cLine) (hk : DE X W k mk) (hv : DE X W v mv) : DE X W (.Dict [some k] [v] pos) (mDic1 mk mv) := (pe_dic1 hu hk hv).wk fun σ H Q ⟨R, env, h, P, EP, r⟩ => fun p hp => by
  have rs0 : RS X.c R (upO h p (.dic [])) (upd H p (dicHO X.c p [])) := r.rs.newO hp ⟨[], upd_same, .nil⟩
  have x0 : Ext R h H (upO h p (.dic [])) (upd H p (dicHO X.c p [])) := Ext.newO r.rs hp
  refine ⟨R, env, _, _, EP, rs0, r.re.ext x0, r.run p (r.rs.no hp), fun x h1 v1 H1 q e rs1 rv => ?_, r.exc.ext x0⟩
  refine ⟨R, env, h1, _, EP, rs1, (r.re.ext x0).ext e, q, fun y h2 v2 H2 q2 e2 rs2 rv2 => ?_, (r.exc.ext x0).ext e⟩
  obtain ⟨hp2, ⟨ds, ks, ex, nk, dp⟩, q3⟩ := q2
  obtain ⟨xs, e3, r3⟩ := rs2.ob _ _ hp2
  cases r3
  have rx := rv.ext e2
  have kn := knv_of rx nk
  subst ex
  cases rx with
  | tup f ee xx =>
    refine ⟨e3, _, _, rfl, kn, dp, fun u ru => ?_⟩
    have fin : XDs X.c R h2 H2 [(NestedKey.tup ks, _, u)] [(D.tup ds, y)] := .cons nk dp (.tup f ee xx) ru rv2 .nil
    exact r.fin (.ref p) _ _ _ q3 (x0.trans (e.trans (e2.trans (Ext.setO rs2 hp2)))) (rs2.setO hp2 ⟨_, upd_same, fin.ext (Ext.setO rs2 hp2)⟩) (.ref p)
end L2.Lmp

set_option maxHeartbeats 4000000
namespace L2.Lmp
open PySem PySem.Spec PyProof.Rows
variable {R R' : Addr → Prop} {c : Cc} {h h' h1 h2 : DH} {H H' H1 H2 : Hp} {W : WX} {X : Cx}
def sPar3 (i j l : Nat) (a : DA) : DS := fun e h E D => a e h E fun ds h1 => ∃ x y z, ds = [x, y, z] ∧ D.nx (((e.set i (some x)).set j (some y)).set l (some z)) h1
theorem ds_par3 {i j l : Nat} {x y z : Str} {a b c : Expr} {da : DA} {px py pz pt pos : Pos} {kt k2 : Nat} {pt2 : Pos} (hc : X.calm = true) (hN : X.N.Nodup) (hi : X.N[i]? = some x) (hj : X.N[j]? = some y) (hl : X.N[l]? = some z) (hij : i ≠ j) (hil : i ≠ l) (hjl : j ≠ l)
    (hx : X.env.scope.names.lookup x = some .local) (hy : X.env.scope.names.lookup y = some .local) (hz : X.env.scope.names.lookup z = some .local) (ha : DAs X W [a, b, c] da)
    (hw : swappedStores [.Tuple [.Name x px, .Name y py, .Name z pz] kt pt] (.Tuple [a, b, c] k2 pt2) X.env = pure (some [x, y, z]))
    (hs : swapsWithSole [.Tuple [.Name x px, .Name y py, .Name z pz] kt pt] (.Tuple [a, b, c] k2 pt2) pos.line X.env = pure false := by rfl) :
    DSt X W (.Assign [.Tuple [.Name x px, .Name y py, .Name z pz] kt pt] (.Tuple [a, b, c] k2 pt2) pos) (sPar3 i j l da) := (ps_par3 hc hN hi hj hl hij hil hjl hx hy hz ha hw hs).wk fun D σ H ⟨R, env, h, P, EP, r⟩ =>
  ⟨R, env, h, _, EP, r.rs, r.re, r.run, fun ds h1 vs H1 ⟨u, w, v, e, q⟩ x rs rv => by
    subst e
    cases rv with
    | cons r1 rr =>
      cases rr with
      | cons r2 rr =>
        cases rr with
        | cons r3 rr =>
          cases rr
          exact ⟨_, _, _, rfl, r.nx _ h1 _ H1 q x rs ((((r.re.ext x).set r1 i).set r2 j).set r3 l)⟩, r.exc.at⟩
end L2.Lmp

set_option maxHeartbeats 4000000
namespace L2.Lmp
open PySem PySem.Spec PyProof.Rows
variable {R R' : Addr → Prop} {c : Cc} {h h' h1 h2 : DH} {H H' H1 H2 : Hp} {W : WX} {X : Cx}
/-- l + l, a new list that may change -/
def mAddM (a b : DM) : DM := fun e h E Q => a e h E fun x h1 => b e h1 E fun y h2 => ∃ xs ys, rs h2 x = .lst xs ∧ rs h2 y = .lst ys ∧ xs.length + ys.length ≤ 1000000 ∧ ∀ p, h2 p = none → Q (.ref p) (upO h2 p (.lst (xs ++ ys)))
end L2.Lmp

set_option maxHeartbeats 2000000
namespace L2.Lmp
open PySem PySem.Spec PyProof.Rows
variable {R : Addr → Prop} {c : Cc} {h h' h1 h2 : DH} {H H' H1 H2 : Hp} {W : WX} {X : Cx}
/-! ### is, of bools -/
def isP : P2 := fun _ x y Q => match x, y with
  | .bl a, .bl b => Q (.bl (decide (a = b)))
  | _, _ => False
theorem i_is : Imp2 c isP rIsB := fun R h H x y v u P Q rs rx ry q fin => by
  cases rx <;> cases ry <;> first | exact q.elim | exact ⟨_, _, rfl, rfl, fin _ _ _ q .refl rs (.bl _)⟩
end L2.Lmp

set_option maxHeartbeats 2000000
namespace L2.Lmp
open PySem PySem.Spec PyProof.Rows
variable {R : Addr → Prop} {c : Cc} {h h' h1 h2 : DH} {H H' H1 H2 : Hp} {W : WX} {X : Cx}
/-! ### starred things in displays -/
def starP (h : DH) (x : D) (Q : List D → Prop) : Prop := match rs h x with
  | .tup ys => Q ys
  | .lst ys => Q ys
  | _ => False
def aStar (m : DM) (r : DA) : DA := fun e h E Q => m e h E fun x h1 => starP h1 x fun ys => r e h1 E fun xs h2 => Q (ys ++ xs) h2
theorem starP_elim (rs' : RS c R h H) {v : V} {x : D} {Q : List D → Prop} (rx : RV c R h H v x) (q : starP h x Q) : ∃ ys p vs, Q ys ∧ v = .ref p ∧ (SqT c.K H p vs ∨ SqL c.K H p vs) ∧ RVs c R h H vs ys := by
  unfold starP at q
  split at q
  · rename_i ys e
    rw [rs_tup e] at rx
    obtain ⟨p, vs, ev, sq, rv⟩ := st_of rx
    exact ⟨ys, p, vs, q, ev, .inl sq, rv⟩
  · rename_i ys e
    obtain ⟨p, vs, ev, sq, rv⟩ := sq_of rs' rx e
    exact ⟨ys, p, vs, q, ev, .inr sq, rv⟩
  · exact q.elim
theorem da_star {a : Expr} {es : List Expr} {ma : DM} {da : DA} {p : Pos} (ha : DE X W a ma) (hr : DAs X W es da) (hs : starEach (.Starred a p :: es) X.env = (true, eval a X.env) :: starEach es X.env := by rfl) : DAs X W (.Starred a p :: es) (aStar ma da) := (StX.pa_star ha hr hs).wk fun σ H Q ⟨R, env, h, P, EP, r⟩ =>
  ⟨R, env, h, _, EP, r.rs, r.re, r.run, fun x h1 v H1 q e rs rv => by
    obtain ⟨ys, p, vs, q2, ev, sq, rvs⟩ := starP_elim rs rv q
    refine ⟨p, vs, ev, sq, R, env, h1, _, EP, rs, r.re.ext e, q2, fun xs h2 ws H2 q3 e2 rs2 rw => r.fin (ys ++ xs) h2 (vs ++ ws) H2 q3 (e.trans e2) rs2 ((rvs.ext e2).append rw), r.exc.ext e⟩, r.exc⟩
theorem starP_t {ys : List D} {Q : List D → Prop} : starP h (.tup ys) Q = Q ys := id rfl
theorem starP_l {ys : List D} {Q : List D → Prop} : starP h (.lst ys) Q = Q ys := id rfl
end L2.Lmp

set_option maxHeartbeats 2000000
namespace L2.Lmp
open PySem PySem.Spec PyProof.Rows
variable {R : Addr → Prop} {c : Cc} {h h' h1 h2 : DH} {H H' H1 H2 : Hp} {W : WX} {X : Cx}
/-! ### a list times an int -/
def repD (xs : List D) (k : Int) : List D := (List.replicate k.toNat xs).flatten
def mulLP : P2 := fun h x y Q => match y with
  | .int k => ∃ xs, rs h x = .lst xs ∧ (-1000000 ≤ k ∧ k ≤ 1000000 ∧ xs.length * k.toNat ≤ 1000000) ∧ Q (.lst (repD xs k))
  | _ => False
theorem i_mulL : Imp2 c mulLP rRep := fun R h H x y v u P Q rs' rx ry q fin => by
  unfold mulLP at q
  split at q
  · cases ry
    obtain ⟨xs, e1, ⟨k1, k2, k3⟩, q⟩ := q
    obtain ⟨p1, vs, f1, s1, r1⟩ := lst_at rs' rx e1
    exact ⟨p1, _, vs, f1, rfl, s1, by omega, by omega, by rw [r1.length]; exact line_mill k3, fun p hp => fin _ _ _ q (Ext.fresh rs' hp) (rs'.fresh hp) (.lst (rs'.free hp) upd_same ((r1.rep _).ext (Ext.fresh rs' hp)))⟩
  · exact q.elim
/-- .. a new list that may change -/
def mMulM (a b : DM) : DM := fun e h E Q => a e h E fun x h1 => b e h1 E fun y h2 => ∃ xs k, rs h2 x = .lst xs ∧ y = .int k ∧ (-1000000 ≤ k ∧ k ≤ 1000000 ∧ xs.length * k.toNat ≤ 1000000) ∧ ∀ p, h2 p = none → Q (.ref p) (upO h2 p (.lst (repD xs k)))
end L2.Lmp

set_option maxHeartbeats 2000000
namespace L2.Lmp
open PySem PySem.Spec PyProof.Rows
variable {R : Addr → Prop} {c : Cc} {h h' h1 h2 : DH} {H H' H1 H2 : Hp} {W : WX} {X : Cx}
/-! ### the sum of a tuple of ints, or of a list -/
end L2.Lmp

set_option maxHeartbeats 2000000
namespace L2.Lmp
open PySem PySem.Spec PyProof.Rows
variable {R : Addr → Prop} {c : Cc} {h h' h1 h2 : DH} {H H' H1 H2 : Hp} {W : WX} {X : Cx}
/-! ### min, max of a list or tuple of data that can be compared -/
section
variable {prog : Program} {w : World} {A : Around} {E : Value → Shared → Prop} {s : Shared}
end
end L2.Lmp

set_option maxHeartbeats 4000000
namespace PySem
namespace OwnX
open PySem.W PySem.Calls PyProof.Rows PySem.HandSPX
/-! ### the text of __init__ -/
def iA (f : Str) (p1 p2 : Pos) : Arguments := { posonlyargs := [], args := [{ arg := "self", annotation := none, pos := p1 }, { arg := f, annotation := none, pos := p2 }], vararg := none, kwonlyargs := [], kw_defaults := [], kwarg := none, defaults := [] }
def iB (f : Str) (q1 q2 q3 q4 : Pos) : List Stmt := [.Assign [.Attribute (.Name "self" q1) f q2] (.Name f q3) q4]
def iS (f : Str) : Scope := { kind := .function, names := [(PySem.Str.ofString "self", .local), (f, .local)], isGenerator := false, isCoroutine := false, more := [] }
/-- what the written part says of Low, at C, and of its __init__, at fI -/
structure OwnTxt (K : Frag) (mg : Str → Option Value) (x f : Str) (C fI : Addr) : Prop where
  gC : mg x = some (.ref C)
  fOk : f = "index" ∨ f = "most" ∨ f = "place"
  cls : ∃ nm q N bs bm sn sub ab col dd k0 k1 k2 k3 k5, K.lookup C = some (excClassObj nm q C N bs bm true sn sub ab col dd k0 k1 k2 k3 k5 "ValueError.__new__") ∧ refsVE bm = true
  sa : findIn K (.ref C) "__setattr__" = some (some (.builtin "object.__setattr__"))
  ga : findIn K (.ref C) "__getattribute__" = some (some (.builtin "BaseException.__getattribute__"))
  gg : findIn K (.ref C) "__getattr__" = some none
  noN : findIn K (.ref C) f = some none
  iC : findIn K (.ref C) "__init__" = some (some (.ref fI))
  tC : typeIn K (.ref fI) = some (.type "function")
  kC : keepIn K (.ref C) = true
  exC : subIn K (.ref C) (.type "BaseException") = some true
  tyC : typeIn K (.ref C) = some (.type "type")
  hdC : hasDictIn K C = true
  te : exmOne K (.ref C) (.ref C) = some true
  fn : ∃ (qn : Str) (oc : Value) (od : Option Addr) (doc pm : Value) (an : Option Addr) (cdv ct : Value) (osl : Array (Option Value)) (p1 p2 q1 q2 q3 q4 : Pos),
    K.lookup fI = some ⟨oc, od, .func (fnOf "__init__" qn (iA f p1 p2) (iB f q1 q2 q3 q4) (iS f) .none .none doc pm an cdv ct), osl⟩ ∧ codeIn K cdv qn = true
theorem one_size (v : Value) : [v].length ≤ sizeLine := by
  rw [sizeLine_eq]
  exact (by decide : 1 ≤ 16777216)
theorem ldC {M : Model} {s : Shared} {name : Str} {scope : Scope} {L a : Addr} {cd : Value} {m : Str → Option Value} {x : Str} {pos : Pos} {v : Value} {Q : Value → Shared → Prop} {A : Around} {E : Value → Shared → Prop} (hn : s.heap.Ns L m) (hv : m x = some v) (h : Q v s)
    (hk : scope.kind = .function := by rfl) (hl : (envOfC name scope L a cd).kindOf x = some .local := by rfl) (hd : (x == ("__debug__" : Str)) = false := by decide) :
    wpAny M A (eval (.Name x pos) (envOfC name scope L a cd)) Q E s := wpAny_Name (wpAny_loadName_local hk hl hn hv h) hd
/-- what __init__ leaves of a fresh exception at x -/
structure InitEnd (f : Str) (h h' : Heap) (x C dx t1 : Addr) (v : Value) : Prop where
  keep : ∀ b o, b ≠ x → h.get? b = some o → h'.get? b = some o
  obj : h'.get? x = some { cls := .ref C, dict := some dx, data := .fields #[.ref t1, .none, .none, .none, .bool false, .none] }
  dbig : h.objs.size ≤ dx
  dne : dx ≠ x
  ns : h'.Ns1 dx (fun y => if y = f then some v else none)
/-- a made Low -/
structure OwnMade (f : Str) (h h' : Heap) (e C d : Addr) (v : Value) : Prop where
  keep : ∀ b o, h.get? b = some o → h'.get? b = some o
  new : h.objs.size ≤ e
  obj : ∃ oe vs, h'.get? e = some oe ∧ oe.cls = .ref C ∧ oe.dict = some d ∧ oe.data = .fields vs ∧ vs[1]? = some .none
  dbig : h.objs.size ≤ d
  dne : d ≠ e
  ns : h'.Ns1 d (fun y => if y = f then some v else none)
section
variable {prog : Program} {w : World} {A : Around} {E : Value → Shared → Prop} {R : Result → Shared → Prop} {s : Shared} {K : Frag} {mg : Str → Option Value} {C fI : Addr} {x0 f : Str}
theorem own_init (T : OwnTxt K mg x0 f C fI) {x t0 : Addr} {v : Value} (X : K.In s.heap) (hlim : s.heap.NoLimit) (hx : s.heap.get? x = some (excO C t0)) (hnx : K.lookup x = none) (hroom : A.depth < recursionLimit)
    (hq : ∀ h' tk dx, InitEnd f s.heap h' x C dx t0 v → R (.ok (.ret .none)) { s with heap := h', toks := tk }) :
    codeAny (model prog w) A (.call (.ref fI) ⟨[.ref x, v], []⟩) R s := by
  rcases T.fOk with ef | ef | ef
  · subst ef
    obtain ⟨qn, oc, od, doc, pm, an, cdv, ct, osl, p1, p2, q1, q2, q3, q4, ho, hcd⟩ := T.fn
    obtain ⟨nm, q, N, bs, bm, sn, sub, ab, col, dd, k0, k1, k2, k3, k5, hC, hbm⟩ := T.cls
    have hcl : clsIn K C = some { name := nm, bases := bs, mro := .ref C :: bm, ns := N, qualname := q, hasDict := true, slotNames := sn, subclasses := sub, abstract := ab, collection := col, hasDel := false } := by unfold clsIn; rw [hC] <;> rfl
    refine Att.call_fn (binds := [("self", .ref x), ("index", v)]) X hlim ho hcd hroom (BindsTo.of_eq (by first | rfl | with_unfolding_all rfl)) (by first | rfl | decide | with_unfolding_all rfl) (fun s₁ IC => ?_) rfl rfl rfl
    obtain ⟨h₁, tk₁, rfl⟩ := IC.toInCall.same
    have k : ∀ b o, s.heap.get? b = some o → h₁.get? b = some o := IC.toInCall.keep
    have hn := IC.toInCall.ns
    have hxL : s.heap.objs.size ≠ x := Nat.ne_of_gt (Heap.lt_size hx)
    have X₁ : K.In h₁ := X.keeps k
    have hx₁ := k _ _ hx
    have noN := T.noN
    show wpAny _ _ (execs _ _) _ _ _
    refine wpAny_execs_cons (plainObj_wpAny_Assign_Attribute ?_)
    refine ldC (v := v) hn (by first | rfl | with_unfolding_all rfl | kernel_rfl) (ldC (v := .ref x) hn (by first | rfl | with_unfolding_all rfl | kernel_rfl) ?_)
    refine set_plain X₁ (ox := excO C t0) (od := none) ⟨hx₁, rfl, rfl, trivial⟩ T.sa ?_
    refine exc_osa X₁ hx₁ hcl (show refsVE (.ref C :: bm) = true from hbm) rfl noN (fun h₃ tk₃ dx k₃ dn dne hx₃ hn₃ => ?_)
    show wpAny _ _ (execs _ _) _ _ _
    have z : s.heap.objs.size < h₁.objs.size := hn.lt
    exact wpAny_execs_nil (hq h₃ tk₃ dx ⟨fun b o hb e => k₃ b o hb (k b o e), hx₃, Nat.le_of_lt (Nat.lt_of_lt_of_le z dn), dne, hn₃⟩)
  · subst ef
    obtain ⟨qn, oc, od, doc, pm, an, cdv, ct, osl, p1, p2, q1, q2, q3, q4, ho, hcd⟩ := T.fn
    obtain ⟨nm, q, N, bs, bm, sn, sub, ab, col, dd, k0, k1, k2, k3, k5, hC, hbm⟩ := T.cls
    have hcl : clsIn K C = some { name := nm, bases := bs, mro := .ref C :: bm, ns := N, qualname := q, hasDict := true, slotNames := sn, subclasses := sub, abstract := ab, collection := col, hasDel := false } := by unfold clsIn; rw [hC] <;> rfl
    refine Att.call_fn (binds := [("self", .ref x), ("most", v)]) X hlim ho hcd hroom (BindsTo.of_eq (by first | rfl | with_unfolding_all rfl)) (by first | rfl | decide | with_unfolding_all rfl) (fun s₁ IC => ?_) rfl rfl rfl
    obtain ⟨h₁, tk₁, rfl⟩ := IC.toInCall.same
    have k : ∀ b o, s.heap.get? b = some o → h₁.get? b = some o := IC.toInCall.keep
    have hn := IC.toInCall.ns
    have hxL : s.heap.objs.size ≠ x := Nat.ne_of_gt (Heap.lt_size hx)
    have X₁ : K.In h₁ := X.keeps k
    have hx₁ := k _ _ hx
    have noN := T.noN
    show wpAny _ _ (execs _ _) _ _ _
    refine wpAny_execs_cons (plainObj_wpAny_Assign_Attribute ?_)
    refine ldC (v := v) hn (by first | rfl | with_unfolding_all rfl | kernel_rfl) (ldC (v := .ref x) hn (by first | rfl | with_unfolding_all rfl | kernel_rfl) ?_)
    refine set_plain X₁ (ox := excO C t0) (od := none) ⟨hx₁, rfl, rfl, trivial⟩ T.sa ?_
    refine exc_osa X₁ hx₁ hcl (show refsVE (.ref C :: bm) = true from hbm) rfl noN (fun h₃ tk₃ dx k₃ dn dne hx₃ hn₃ => ?_)
    show wpAny _ _ (execs _ _) _ _ _
    have z : s.heap.objs.size < h₁.objs.size := hn.lt
    exact wpAny_execs_nil (hq h₃ tk₃ dx ⟨fun b o hb e => k₃ b o hb (k b o e), hx₃, Nat.le_of_lt (Nat.lt_of_lt_of_le z dn), dne, hn₃⟩)
  · subst ef
    obtain ⟨qn, oc, od, doc, pm, an, cdv, ct, osl, p1, p2, q1, q2, q3, q4, ho, hcd⟩ := T.fn
    obtain ⟨nm, q, N, bs, bm, sn, sub, ab, col, dd, k0, k1, k2, k3, k5, hC, hbm⟩ := T.cls
    have hcl : clsIn K C = some { name := nm, bases := bs, mro := .ref C :: bm, ns := N, qualname := q, hasDict := true, slotNames := sn, subclasses := sub, abstract := ab, collection := col, hasDel := false } := by unfold clsIn; rw [hC] <;> rfl
    refine Att.call_fn (binds := [("self", .ref x), ("place", v)]) X hlim ho hcd hroom (BindsTo.of_eq (by first | rfl | with_unfolding_all rfl)) (by first | rfl | decide | with_unfolding_all rfl) (fun s₁ IC => ?_) rfl rfl rfl
    obtain ⟨h₁, tk₁, rfl⟩ := IC.toInCall.same
    have k : ∀ b o, s.heap.get? b = some o → h₁.get? b = some o := IC.toInCall.keep
    have hn := IC.toInCall.ns
    have hxL : s.heap.objs.size ≠ x := Nat.ne_of_gt (Heap.lt_size hx)
    have X₁ : K.In h₁ := X.keeps k
    have hx₁ := k _ _ hx
    have noN := T.noN
    show wpAny _ _ (execs _ _) _ _ _
    refine wpAny_execs_cons (plainObj_wpAny_Assign_Attribute ?_)
    refine ldC (v := v) hn (by first | rfl | with_unfolding_all rfl | kernel_rfl) (ldC (v := .ref x) hn (by first | rfl | with_unfolding_all rfl | kernel_rfl) ?_)
    refine set_plain X₁ (ox := excO C t0) (od := none) ⟨hx₁, rfl, rfl, trivial⟩ T.sa ?_
    refine exc_osa X₁ hx₁ hcl (show refsVE (.ref C :: bm) = true from hbm) rfl noN (fun h₃ tk₃ dx k₃ dn dne hx₃ hn₃ => ?_)
    show wpAny _ _ (execs _ _) _ _ _
    have z : s.heap.objs.size < h₁.objs.size := hn.lt
    exact wpAny_execs_nil (hq h₃ tk₃ dx ⟨fun b o hb e => k₃ b o hb (k b o e), hx₃, Nat.le_of_lt (Nat.lt_of_lt_of_le z dn), dne, hn₃⟩)
theorem own_made (T : OwnTxt K mg x0 f C fI) {v : Value} (X : K.In s.heap) (hlim : s.heap.NoLimit) (hroom : A.depth + 1 < recursionLimit)
    (hq : ∀ h' tk e d, OwnMade f s.heap h' e C d v → R (.ok (.ret (.ref e))) { s with heap := h', toks := tk }) :
    codeAny (model prog w) A (.call (.ref C) ⟨[v], []⟩) R s := by
  obtain ⟨nm, q, N, bs, bm, sn, sub, ab, col, dd, k0, k1, k2, k3, k5, hC, hbm⟩ := T.cls
  obtain ⟨hp, g, dr, tk, os⟩ := s
  have k : ∀ b o, hp.get? b = some o → ((hp.push (kdv_tup [v])).push (excO C hp.objs.size)).get? b = some o := fun b o e => Heap.get?_push_of_some _ (Heap.get?_push_of_some _ e)
  have hget : ((hp.push (kdv_tup [v])).push (excO C hp.objs.size)).get? (hp.objs.size + 1) = some (excO C hp.objs.size) := by heap_get
  have hnx : K.lookup (hp.objs.size + 1) = none := by
    cases e : K.lookup (hp.objs.size + 1) with
    | none => rfl
    | some o =>
      have z : hp.get? (hp.objs.size + 1) = some o := X _ _ e
      exact absurd (Nat.lt_of_succ_lt (Heap.lt_size z)) (Nat.lt_irrefl _)
  refine call_own F.excBase_ValueError (fun X => refsVE_contains X bm hbm) (X _ _ hC) (looks_findIn X T.iC) (fun self => bind_fn X self T.tC) (one_size v) ?_
  refine own_init (s := ⟨(hp.push (kdv_tup [v])).push (excO C hp.objs.size), g, dr, tk, os⟩) T (X.keeps k) (hlim.keeps k) hget hnx ?_ fun h' tk' dx ⟨k', hx, dn, dne, hns⟩ => ?_
  · show A.depth + 1 < recursionLimit
    exact hroom
  · have old : ∀ b o, hp.get? b = some o → h'.get? b = some o := fun b o e => k' b o (Nat.ne_of_lt (Nat.lt_succ_of_lt (Heap.lt_size e))) (k b o e)
    have z : hp.objs.size + 1 + 1 ≤ dx := by
      first
        | (simpa only [Heap.size_push] using dn)
        | exact dn
        | (have q := dn; rw [Heap.size_push, Heap.size_push] at q; exact q)
    exact ⟨rfl, hq h' tk' (hp.objs.size + 1) dx ⟨old, Nat.le_succ _, ⟨_, _, hx, rfl, rfl, rfl, rfl⟩, Nat.le_trans (Nat.le_trans (Nat.le_succ _) (Nat.le_succ _)) z, dne, hns⟩⟩
end
end OwnX
end PySem
namespace L2
open PySem PySem.Spec PyProof.Rows
theorem relO_own1 {w : Str} {v : V} {v' : Value} (r : RelV v v') (f : Str) : RelO (List.lookup f [(w, v)]) (if f = w then some v' else none) := by
  by_cases hw : f = w
  · subst hw
    rw [if_pos rfl]
    have q : List.lookup f [(f, v)] = some v := by simp [List.lookup]
    rw [q]
    exact r
  · rw [if_neg hw]
    have qw : (f == w) = false := by simpa using hw
    have q2 : List.lookup f [(w, v)] = none := by simp [List.lookup, qw]
    rw [q2]
    trivial
section
variable {X : Cx} {C fI : Addr} {x f : Str}
/-- Low(e) -/
def tMkOwn (f : Str) (C : Addr) (ta : TA) : St → Hp → XK → Prop := fun σ H Q => ta σ H fun vs H1 => ∃ v, vs = [v] ∧ ∀ d, H1 d = none → Q (.ref C) (some d) (upd H1 d (.xd [(f, v)]))
theorem pmk_own1f {a : Expr} {ta : TA} {p pos : Pos} {k : Nat} (T : PySem.OwnX.OwnTxt X.K X.mg x f C fI) (hr : Room (k + 1) X.A) (ha : PA X [a] ta) (hg : Gl X x) (hdb : (x == ("__debug__" : Str)) = false)
    (he : starEach (a :: []) X.env = (false, eval a X.env) :: starEach [] X.env := by rfl) (hpl : (backTo pos (starEach [] X.env)).any (·.1) = false := by rfl) :
    PMk X (.Call (.Name x p) [a] [] pos) (tMkOwn f C ta) := by
  intro pins s σ H Q I h
  refine wpAny_Call_Name_kw (ld_glob I hg T.gC ?_ hdb)
  refine PySem.W.callWith_K (h₀ := X.base) I.ok.mod.kin T.kC (thn (ha.run pos pins s σ H _ I h) fun us s1 hh => ?_) he hpl
  obtain ⟨vs, H1, I1, r1, v, ev, q1⟩ := hh
  subst ev
  refine ⟨I1.kIn, ?_⟩
  cases r1 with
  | cons rv rn =>
    rename_i v' us'
    cases rn
    show wpAny _ _ (call (.ref C) [v']) _ _ _
    have hlim := I1.nolimit
    obtain ⟨hp, g, dr, tk, os⟩ := s1
    refine wpAny_call (PySem.OwnX.own_made T I1.kIn hlim (by have := hr.dp; omega) fun h' tk' e d M => ?_)
    show MkP X pins σ Q (.ref e) ⟨h', g, dr, tk', os⟩
    obtain ⟨oe, fv, hoe, hc, hd, hdat, h1⟩ := M.obj
    have hns := M.ns
    obtain ⟨G', g1, g2⟩ := restrict h' fun b => decide (b ≠ e)
    have gk : ∀ b, b ≠ e → G'.get? b = h'.get? b := fun b hb => g1 b (decide_eq_true hb)
    have ge : G'.get? e = none := g2 e (by simp)
    have old : ∀ b o, hp.get? b = some o → G'.get? b = some o := fun b o q => (gk b (Nat.ne_of_lt (Nat.lt_of_lt_of_le (Heap.lt_size q) M.new))).trans (M.keep b o q)
    have ob : ObjOk X.prog X.w (upd H1 d (.xd [(f, v)])) G' d (.xd [(f, v)]) :=
      ⟨_, hns.at (fun o q => (gk d M.dne).trans q), fun f => relO_own1 rv f⟩
    have J : Inv X pins σ (upd H1 d (.xd [(f, v)])) ⟨G', g, dr, tk', os⟩ := I1.laid (t' := tk') old M.dbig ob
    refine ⟨e, oe, fv, ⟨G', g, dr, tk', os⟩, _, .ref C, some d, rfl, J, fun b o q => ?_, ge, hoe, ⟨hc, hd⟩, hdat, h1, ?_, rfl, I1.bare, raises_own T.exC T.tyC, q1 d (I1.hok.fresh M.dbig)⟩
    · by_cases hb : b = e
      · have q' : G'.get? b = some o := q
        rw [hb, ge] at q'; cases q'
      · exact (gk b hb).symm.trans q
    · rw [upd_ne (Ne.symm M.dne)]
      exact I1.hok.fresh M.new
end
end L2

set_option maxHeartbeats 2000000
namespace L2.Lmp
open PySem PySem.Spec PyProof.Rows
variable {R : Addr → Prop} {c : Cc} {h h' h1 h2 : DH} {H H' H1 H2 : Hp} {W : WX} {X : Cx}
/-! ### raise -/
/-- an own class without an own __init__ -/
structure Xc0 (K : PySem.W.Frag) (mg : Str → Option Value) (x : Str) (C : Addr) : Prop where
  gC : mg x = some (.ref C)
  ex : ∃ (B newId initId : String) (bmB : List Value), ExcBaseFacts B newId initId bmB ∧ PySem.W.excIn K C bmB newId = true
  kC : PySem.W.keepIn K (.ref C) = true
  sB : PySem.W.subIn K (.ref C) (.type "BaseException") = some true
  tC : PySem.W.typeIn K (.ref C) = some (.type "type")
theorem pmk_own0 {C : Addr} {x : Str} {p pos : Pos} (F : Xc0 X.K X.mg x C) (hg : Gl X x) (hdb : (x == ("__debug__" : Str)) = false) : PMk X (.Call (.Name x p) [] [] pos) (fun _ H Q => Q (.ref C) none H) := by
  intro pins s σ H Q I h
  obtain ⟨B, newId, initId, bmB, F1, q⟩ := F.ex
  refine wpAny_Call_Name_kw (ld_glob I hg F.gC ?_ hdb)
  refine PySem.W.callWith_K0 (K := X.K) I.kIn F.kC ?_
  show wpAny _ _ (call (.ref C) []) _ _ _
  obtain ⟨bm, N, nm, qn, bs, hdct, sn, sub, ab, col, dd, k0, k1, k2, k3, k5, mN, hC, hN, hni, T⟩ := exc_obj I.kIn q
  refine wpAny_call_exc_subT F1 T hC hN hni (fun h' e hm => ?_) (Nat.zero_le _)
  exact mk_of I hm (raises_own F.sB F.tC) h (I.hok.gone hm.new)
def sRaise0 (x : Str) : DS := fun _ h E _ => E ⟨x, none⟩ h
def sRaise1 (x f : Str) (m : DM) : DS := fun e h E _ => m e h E fun d h1 => E ⟨x, some (f, d)⟩ h1
theorem ds_raise0 {x : Str} {p pos pos' : Pos} {C : Addr} (F : Xc0 X.K X.mg x C) (hc : X.calm = true) (tk : Takes X W) (hg : Gl X x) (hdb : (x == ("__debug__" : Str)) = false := by decide) : DSt X W (.Raise (some (.Call (.Name x p) [] [] pos)) none pos') (sRaise0 x) :=
  (ps_raise hc tk (pmk_own0 F hg hdb)).wk fun D σ H ⟨R, env, h, P, EP, r⟩ => r.exc _ h (.ref C) none H σ r.run .refl r.rs ⟨C, F.gC, rfl, rfl⟩
theorem ds_raise1 {x f : Str} {a : Expr} {ma : DM} {p pos pos' : Pos} {C fI : Addr} {k : Nat} (T : PySem.OwnX.OwnTxt X.K X.mg x f C fI) (hc : X.calm = true) (tk : Takes X W) (hr : Room (k + 1) X.A) (hg : Gl X x) (ha : DE X W a ma) (hdb : (x == ("__debug__" : Str)) = false := by decide)
    (he : starEach (a :: []) X.env = (false, eval a X.env) :: starEach [] X.env := by rfl) (hpl : (backTo pos (starEach [] X.env)).any (·.1) = false := by rfl) :
    DSt X W (.Raise (some (.Call (.Name x p) [a] [] pos)) none pos') (sRaise1 x f ma) :=
  (ps_raise hc tk (pmk_own1f T hr (da_cons ha da_nil he) hg hdb he hpl)).wk fun D σ H ⟨R, env, h, P, EP, r⟩ =>
    ⟨R, env, h, fun ds h1 => ∃ d, ds = [d] ∧ EP ⟨x, some (f, d)⟩ h1, EP, r.rs, r.re, by
      have q := r.run
      have e : (fun (d : L2.Lmp.D) h1 => EP ⟨x, some (f, d)⟩ h1) = fun d h1 => ∃ d', [d] = [d'] ∧ EP ⟨x, some (f, d')⟩ h1 := by
        funext d h1
        exact propext ⟨fun z => ⟨d, rfl, z⟩, fun ⟨d', e, z⟩ => by cases e; exact z⟩
      unfold sRaise1 at q
      rw [e] at q
      exact q, fun ds h1 vs H1 ⟨d, ed, q⟩ e rs rv => by
      subst ed
      obtain ⟨v, ev, ru⟩ := one_of rv
      refine ⟨v, ev, fun dd hd => ?_⟩
      have x1 := Ext.fresh (o := .xd [(f, v)]) rs hd
      exact r.exc _ h1 (.ref C) (some dd) _ σ q (e.trans x1) (rs.fresh hd) ⟨C, T.gC, rfl, dd, v, rfl, upd_same, ru.ext x1⟩, r.exc.at⟩
end L2.Lmp

set_option maxHeartbeats 4000000
namespace PySem.W
open PySem PySem.Spec PySem.Calls PyProof.Rows
section
variable {prog : Program} {w : World} {A : Around} {E : Value → Shared → Prop} {s : Shared} {K : Frag} {x D : Addr} {ox : Obj}
theorem findObj_dataA {od : Option Obj} {C : Addr} {name : Str} {a g : Value} (hc : (clsIn K C).isSome = true) (ha : findIn K (.ref C) name = some (some a)) (hg : specialIn K a "__get__" = some (some g)) (ht : takesIn K a = some true) : findObj K C od name = some (.bind g a) := by
  obtain ⟨cd, hc⟩ := Option.isSome_iff_exists.mp hc
  unfold findObj
  rw [hc, Option.bind_some, ha, Option.bind_some]
  simp [hg, ht]
theorem kin_classA {od : Option Obj} {Q : Option Value → Shared → Prop} (hga : findIn K (.ref D) "__getattribute__" = some (some (.builtin "BaseException.__getattribute__"))) (hgt : findIn K (.ref D) "__getattr__" = some none) (hsub : subIn K (.ref D) (.type "BaseException") = some true)
    (hdct : hasDictIn K D = true) (ha : findIn K (.ref D) "__class__" = some (some (.builtin "object.__class__")))
    (hn : specialIn K (.builtin "object.__class__") "__get__" = some (some (.builtin "getset_descriptor.__get__"))) (htk : takesIn K (.builtin "object.__class__") = some true) (hm : mroIn K D (.type "object") = some true)
    (X : K.In s.heap) (I : InstAt s.heap x ox D od) (h : Q (some (.ref D)) { s with toks := s.toks + 1 }) : wpAny (model prog w) A (getAttr? (.ref x) "__class__") Q E s := by
  have hf : findObj K D od "__class__" = some (.bind (.builtin "getset_descriptor.__get__") (.builtin "object.__class__")) := findObj_dataA (by obtain ⟨cd, hc, _⟩ := any_some hdct; rw [hc]; rfl) ha hn htk
  obtain ⟨hp, g, d, t, os⟩ := s
  have L0 := I.type (M := model prog w)
  have L1 := looks_findIn (M := model prog w) X hga
  have L2 := looks_findIn (M := model prog w) X hgt
  have L3 := looks_find (M := model prog w) X I hf
  have sub : Looks (model prog w) hp (isInstance (.ref x) (.type "BaseException")) true := L0.andThen (looks_subIn X hsub)
  have hx0 : (false && onTheHeap (Value.builtin "BaseException.__getattribute__")) = false := rfl
  have hx2 : (Value.builtin "BaseException.__getattribute__" == Value.builtin "object.__getattribute__") = false := by decide +kernel
  have hx1 : (onTheHeap (Value.ref D) && Value.builtin "BaseException.__getattribute__" == Value.builtin "object.__getattribute__") = false := by rw [hx2]; rfl
  unfold getAttr? getAttrBy? getAttrBy
  refine wpAny_bind (wpAny_mkText (wpAny_bind (wpAny_attempt (wpAny_holding (wpAny_bind (L0.at (wpAny_bind (L1.at ?_))))))))
  show wpAny _ _ (if (onTheHeap (Value.ref D) && Value.builtin "BaseException.__getattribute__" == Value.builtin "object.__getattribute__") = true then _ else _) _ _ _
  rw [hx1, if_neg Bool.false_ne_true]
  unfold getAttrByItsOwn hookBefore
  refine wpAny_bind ?_
  rw [if_pos (show onTheHeap (Value.ref D) = true from rfl)]
  refine L2.at ?_
  refine wpAny_bind (wpAny_attempt (wpAny_holding ?_))
  unfold callGetattribute
  rw [hx0, if_neg Bool.false_ne_true]
  unfold boundAndCalled
  rw [PySem.F.excAttr_ValueError.ga.bind (.ref x)]
  refine wpAny_bind (wpAny_pure ?_)
  show wpAny _ _ (call (.builtin "BaseException.__getattribute__") [.ref x, .str "__class__" t]) _ _ _
  refine wpAny_call (codeAny_call_builtin PySem.F.excAttr_ValueError.ga.plain PySem.F.entry_bexc_ga ?_)
  refine @check_slot (model prog w) _ _ ⟨hp, g, d, t + 1, os⟩ "BaseException.__getattribute__" "BaseException" "__getattribute__" (.ref x) [.str "__class__" t] [] _ (by decide +kernel) (by decide +kernel) sub (PySem.F.args_bexc_ga (.ref x) (.str "__class__" t)) ?_
  unfold Builtin.«object.__getattribute__»
  refine wpAny_bind (wpAny_of_eq (a := ((Value.ref x : Value), [Value.str "__class__" t])) (by first | rfl | (simp only [slotArgs]; rfl)) ?_)
  refine wpAny_bind (wpAny_pure (wpAny_bind (L0.at (wpAny_bind (L3.at ?_)))))
  show wpAny _ _ (holding [Value.builtin "object.__class__"] (call (.builtin "getset_descriptor.__get__") [.builtin "object.__class__", .ref x, .ref D]) >>= ret) _ _ _
  refine wpAny_bind (wpAny_holding (wpAny_call (class_get (s := ⟨hp, g, d, t + 1, os⟩) (ox := ox) (od := od) X I hm ?_)))
  refine wpAny_pure ?_
  show wpAny _ _ (handedOut (.ref D)) _ _ _
  rw [handedOut_of (v := .ref D) rfl]
  first
    | exact wpAny_pure (wpAny_pure h)
    | exact wpAny_pure h
    | exact wpAny_pure (wpAny_bind (wpAny_pure (wpAny_pure h)))
theorem handS_kitx_excA {od : Option Obj} (hga : findIn K (.ref D) "__getattribute__" = some (some (.builtin "BaseException.__getattribute__"))) (hgt : findIn K (.ref D) "__getattr__" = some none) (hsub : subIn K (.ref D) (.type "BaseException") = some true) (hdct : hasDictIn K D = true) (ha : findIn K (.ref D) "__class__" = some (some (.builtin "object.__class__")))
    (hn : specialIn K (.builtin "object.__class__") "__get__" = some (some (.builtin "getset_descriptor.__get__"))) (htk : takesIn K (.builtin "object.__class__") = some true) (hm : mroIn K D (.type "object") = some true) :
    KitX K (.ref x) (.ref D) (fun h => InstAt h x ox D od) where
  ty := fun _ _ _ I => I.type
  it := fun _ _ X _ => by
    obtain ⟨cdD, hcD, _⟩ := any_some hdct
    unfold clsIn at hcD
    split at hcD
    · rename_i c' d' cd' sl' ho
      intro A' Q' E' s' k q
      unfold isType loadHead
      exact wpAny_bind (wpAny_loadPart (k _ _ (X _ _ ho)) (wpAny_pure q))
    · cases hcD
  ne := fun h tp dd its n sl X htp => by
    obtain ⟨cdD, hcD, _⟩ := any_some hdct
    refine Bool.eq_false_iff.mpr fun q => ?_
    have e : D = tp := Value.ref.inj (beq_iff_eq.mp q)
    subst e
    unfold clsIn at hcD
    split at hcD
    · rename_i c' d' cd' sl' ho
      have z := (X _ _ ho).symm.trans htp
      cases z
    · cases hcD
  ca := fun X I k => kin_classA hga hgt hsub hdct ha hn htk hm X I k
end
end PySem.W
namespace L2
open PySem PySem.Spec PyProof.Rows
/-- isinstance(e, c), e the exception that the suite holds, with a dict of its own -/
def rIsEd (K : PySem.W.Frag) (D a dd : Addr) : List V → Hp → VK → Prop := fun xs H Q => ∃ (c : V) (cv : Value) (b : Bool), xs = [.ref a, c] ∧ (∀ u, RelV c u → u = cv) ∧ PySem.W.kitOne K (.ref D) cv = some b ∧ (∃ fs, H dd = some (.xd fs)) ∧ Q (.bl b) H
theorem call_isEd {X : Cx} {a D dd : Addr} {oe : Obj} {pn : List (Addr × Obj)} (C : ExcC X.K D) (hz : Zc (.ref D) (some dd) oe) (hf : ∃ vs, oe.data = .fields vs) : CallR (X.suite a ((a, oe) :: pn)) (.builtin "isinstance") (rIsEd X.K D a dd) := by
  intro pins s σ H xs us Q I r h
  obtain ⟨c, cv, b, rfl, hcv, e, ⟨fs, hdd⟩, q⟩ := h
  cases r with
  | cons rx rr =>
    cases rr with
    | cons rt rr =>
      cases rr
      cases rx
      have ec := hcv _ rt
      subst ec
      obtain ⟨hget, _⟩ := I.pin (a, oe) (List.mem_append.mpr (.inl List.mem_cons_self))
      obtain ⟨vs, hv⟩ := hf
      have hx : ObjOk X.prog X.w H s.heap dd (.xd fs) := I.hok dd _ hdd
      obtain ⟨mA, hns, hr⟩ := hx
      obtain ⟨od, ho, hl⟩ := lookIn_ns hns
      have J : PySem.W.InstAt s.heap a oe D (some od) := ⟨hget, hz.1, by unfold PySem.W.notCls; rw [hv] <;> rfl, by rw [hz.2]; exact ho⟩
      exact PySem.W.kia_one (PySem.W.handS_kitx_excA C.hg C.hk C.hs C.hd C.ha C.hn C.ht C.hm) I.kIn J e (fun z => nomatch z) fun tk => ⟨.bl b, H, I.kept (t' := tk) fun _ _ z => z, rfl, q⟩
end L2

set_option maxHeartbeats 4000000
namespace L2
open PySem PySem.Spec PyProof.Rows
/-- what the clauses wish of an exception of the body, one after the other, with a name or without -/
def wMix (K : PySem.W.Frag) (Wout : WX) (D : Ends) : List (Value × Option Nat × (Addr → Value → Option Addr → TS)) → WX
  | [] => Wout
  | (c, none, ts) :: r => fun cls d σ H => ∃ b, PySem.W.exmOne K cls c = some b ∧ (b = true → ∀ a, H a = none → ts a cls d D σ H) ∧ (b = false → wMix K Wout D r cls d σ H)
  | (c, some i, ts) :: r => fun cls d σ H => ∃ b, PySem.W.exmOne K cls c = some b ∧ (b = true → ∀ a, H a = none → ts a cls d { nx := fun σ' H' => D.nx (σ'.set i none) H', rt := D.rt, bk := fun σ' H' => D.bk (σ'.set i none) H', ct := fun σ' H' => D.ct (σ'.set i none) H' } (σ.set i (some (.ref a))) H) ∧
    (b = false → wMix K Wout D r cls d σ H)
inductive HdsMix (X : Cx) : List ExceptHandler → List (Value × Option Nat × (Addr → Value → Option Addr → TS)) → Prop
  | nil : HdsMix X [] []
  | cons {x : Str} {c : Value} {ts : Addr → Value → Option Addr → TS} {b₀ : Stmt} {suite : List Stmt} {np pos' : Pos} {hds : List ExceptHandler} {l : List (Value × Option Nat × (Addr → Value → Option Addr → TS))} (hc : Names X x c)
      (hsu : ∀ (a : Addr) (oe : Obj) (cls : Value) (d : Option Addr) (pn : List (Addr × Obj)), Zc cls d oe → (∃ vs, oe.data = .fields vs) → PSs (X.suite a ((a, oe) :: pn)) (b₀ :: suite) (ts a cls d)) (r : HdsMix X hds l) :
      HdsMix X (.ExceptHandler (some (.Name x np)) none (b₀ :: suite) pos' :: hds) ((c, none, ts) :: l)
  | consAs {x n : Str} {c : Value} {i : Nat} {ts : Addr → Value → Option Addr → TS} {b₀ : Stmt} {suite : List Stmt} {np pos' : Pos} {hds : List ExceptHandler} {l : List (Value × Option Nat × (Addr → Value → Option Addr → TS))} (hN : X.N.Nodup) (hi : X.N[i]? = some n) (hln : X.env.kindOf n = some .local) (hc : Names X x c)
      (hsu : ∀ (a : Addr) (oe : Obj) (cls : Value) (d : Option Addr) (pn : List (Addr × Obj)), Zc cls d oe → (∃ vs, oe.data = .fields vs) → PSs (X.suite a ((a, oe) :: pn)) (b₀ :: suite) (ts a cls d)) (r : HdsMix X hds l) :
      HdsMix X (.ExceptHandler (some (.Name x np)) (some n) (b₀ :: suite) pos' :: hds) ((c, some i, ts) :: l)
section
variable {X : Cx} {body : List Stmt} {h₀ : ExceptHandler} {hds : List ExceptHandler} {l : List (Value × Option Nat × (Addr → Value → Option Addr → TS))} {pos : Pos} {tb : WX → TS} {Wout : WX}
theorem ps_try_mix (hs : X.stack = X.env :: X.outer) (hf : X.env.frame = some X.env.locals) (tk : Takes X Wout)
    (hb : ∀ (W : WX) (pn : List (Addr × Obj)) (xe : Value → Shared → Prop), Takes (X.tr pn xe) W → PassesOwn (model X.prog X.w) X.A X.env xe → PSs (X.tr pn xe) body (tb W))
    (hh : HdsMix X (h₀ :: hds) l) : PS X (.Try body (h₀ :: hds) [] [] pos) (fun D σ H => tb (wMix X.K Wout D l) D σ H) := by
  refine ⟨fun pins s σ H D I h => ?_⟩
  have ok := I.ok
  have hfr : X.A.frames = some (X.env :: X.outer) := by rw [ok.frames, hs]
  refine wpAny_Try_except ?_
  refine wpAny_mono ((hb (wMix X.K Wout D l) (X.pn ++ pins) (fun e s₁ => wpAny (model X.prog X.w) X.A (noteFrame e X.env) (fun _ s₂ => wpAny (model X.prog X.w) X.A (setFlight e none) (fun _ s₃ =>
    wpAny (model X.prog X.w) X.A (handleBy e X.env (h₀ :: hds)) (SP X pins D) X.xe s₃) X.xe s₂) X.xe s₁) (fun u s' xx => ?_) PassesOwn.looking).run [] s σ H D (I.toTry _) h) (fun f s1 hsp => ?_) (fun e s1 he => he)
  · -- the catch
    obtain ⟨a, B, sI, pins', σ', H', cls, d, rfl, J', nb, up, sky, na, os, ag, w⟩ := xx
    have J : Inv X pins σ' H' sI := J'.ofTry ok
    have sky' : Sky B (X.env :: X.outer) a (Zc cls d) X.env.locals s'.heap := by rw [← hs]; exact sky
    show wpAny (model X.prog X.w) X.A (noteFrame (.ref a) X.env) _ _ _
    refine Sky.land Zc.steady hfr hf sky' fun h3 fl3 up3 => ?_
    have J3 : Inv X pins σ' H' { s' with heap := h3 } := J.landed nb fl3.1 (up.trans up3) os ag
    obtain ⟨oe3, vs3, he3, hz3, hd3⟩ := fl3.there
    have notFr : ∀ {h : Heap} {o : Obj} {vs : Array Value}, h.FunFrames B (X.env :: X.outer) → h.get? a = some o → o.data = .fields vs → a ∉ frs (X.env :: X.outer) := fun {h o vs} ff e dd hm => by
      obtain ⟨_, o', e', hnf⟩ := ff.mem hm
      rw [e] at e'; cases e'
      exact hnf _ dd
    have nfr := notFr fl3.2.2.1 he3 hd3
    have nL : a ≠ X.env.locals := fun z => nfr (List.mem_filterMap.mpr ⟨X.env, List.mem_cons_self, by rw [hf, z]⟩)
    have nF : a ∉ X.fs := fun hm => by
      obtain ⟨e, he, q⟩ := List.mem_filterMap.mp hm
      exact nfr (List.mem_filterMap.mpr ⟨e, List.mem_cons_of_mem _ he, q⟩)
    have S3 := J3.suite he3 hd3 na nL nF
    have go : ∀ {hds' : List ExceptHandler} {l' : List (Value × Option Nat × (Addr → Value → Option Addr → TS))}, HdsMix X hds' l' → wMix X.K Wout D l' cls d σ' H' →
        wpAny (model X.prog X.w) X.A (handleBy (.ref a) X.env hds') (SP X pins D) X.xe { s' with heap := h3 } := by
      intro hds' l' hk
      induction hk with
      | nil =>
        intro w
        refine wpAny_handleBy_nil ?_
        obtain ⟨k1, k2, k3, oe, vs, T, oT, ts', he, hz, hd, h1, hr⟩ := id fl3
        unfold PySem.passOn
        refine wpAny_bind (wpAny_field he hd h1 ?_)
        rw [if_neg (show ¬ ((Value.ref T == Value.none) = true) from by simp)]
        have fin : wpAny (model X.prog X.w) X.A (setFlight (.ref a) X.env.frame) (fun _ s4 => wpAny (model X.prog X.w) X.A (throw (.ref a) : Sem Flow) (SP X pins D) X.xe s4) X.xe { s' with heap := h3 } := by
          rw [hf]
          refine HandSPX.setFlight_upZ fl3 fun h4 hh4 up4 => wpAny_throw (tk _ _ ?_)
          exact ⟨a, B, sI, pins, σ', H', cls, d, rfl, J, nb, (up.trans up3).trans up4, .inr (.inr (by rw [hs]; exact hh4)), na, os, ag, w⟩
        first
          | exact wpAny_bind (wpAny_pure (wpAny_bind fin))
          | exact wpAny_bind fin
      | @cons x c ts b₀ suite np pos' hds2 l2 hc hsu r ih =>
        intro w
        obtain ⟨b, hb1, hyes, hno⟩ := w
        refine wpAny_handleBy_cons (codeAny_handlers_test ?_) (by intro q; cases q)
        have LT : PySem.W.Looks (model X.prog X.w) h3 (typeOf (.ref a)) cls := fun A Q E s k q => wpAny_typeOf_ref (k _ _ he3) (by rw [hz3.1]; exact q)
        have LM := PySem.W.exm_one (M := model X.prog X.w) (J3.kIn) LT hb1
        have test : ∀ {Q : Value → Shared → Prop} {E : Value → Shared → Prop}, Q c { s' with heap := h3 } → wpAny (model X.prog X.w) (X.A.mark (some (.ref a))) (eval (.Name x np) X.env) Q E { s' with heap := h3 } := fun {Q E} q => by
          obtain ⟨hg, hdbg, hm | ⟨hm, hv, hnn⟩⟩ := hc
          · exact ld_glob (X := X.suite a ((a, oe3) :: (X.pn ++ pins))) S3 hg hm q hdbg
          · exact ld_blt (X := X.suite a ((a, oe3) :: (X.pn ++ pins))) S3 hg hm hv q hnn hdbg
        refine test (LM.here ?_)
        cases b with
        | true =>
          refine codeAny_handlers_suite ?_
          refine HandSPX.lands_againZ fl3 fun h4 fl4 up4 => ?_
          have J4 : Inv X pins σ' H' { s' with heap := h4 } := J.landed nb fl4.1 ((up.trans up3).trans up4) os ag
          obtain ⟨oe4, vs4, he4, hz4, hd4⟩ := fl4.there
          have S4 := J4.suite he4 hd4 na nL nF
          refine wpAny_mono ((hsu a oe4 cls d (X.pn ++ pins) hz4 ⟨_, hd4⟩).run [] _ _ H' _ S4 (hyes rfl a na)) (fun f s6 hsp => ?_) (fun _ _ z => False.elim z)
          cases f with
          | next =>
            obtain ⟨σ6, H6, S6, q6⟩ := hsp
            exact ⟨_, _, S6.unsuite ok, q6⟩
          | brk =>
            obtain ⟨σ6, H6, S6, q6⟩ := hsp
            exact ⟨_, _, S6.unsuite ok, q6⟩
          | cont =>
            obtain ⟨σ6, H6, S6, q6⟩ := hsp
            exact ⟨_, _, S6.unsuite ok, q6⟩
          | ret u =>
            obtain ⟨v6, σ6, H6, S6, r6, q6⟩ := hsp
            exact ⟨_, _, _, S6.unsuite ok, r6, q6⟩
        | false =>
          show wpAny _ X.A (handleBy (.ref a) X.env hds2) _ _ _
          exact ih (hno rfl)
      | @consAs x n c i ts b₀ suite np pos' hds2 l2 hN hi hln hc hsu r ih =>
        intro w
        obtain ⟨b, hb1, hyes, hno⟩ := w
        refine wpAny_handleBy_cons (codeAny_handlers_test ?_) (by intro q; cases q)
        have hloc : Loc X.env.scope n := .inl hln
        have LT : PySem.W.Looks (model X.prog X.w) h3 (typeOf (.ref a)) cls := fun A Q E s k q => wpAny_typeOf_ref (k _ _ he3) (by rw [hz3.1]; exact q)
        have LM := PySem.W.exm_one (M := model X.prog X.w) (J3.kIn) LT hb1
        have test : ∀ {Q : Value → Shared → Prop} {E : Value → Shared → Prop}, Q c { s' with heap := h3 } → wpAny (model X.prog X.w) (X.A.mark (some (.ref a))) (eval (.Name x np) X.env) Q E { s' with heap := h3 } := fun {Q E} q => by
          obtain ⟨hg, hdbg, hm | ⟨hm, hv, hnn⟩⟩ := hc
          · exact ld_glob (X := X.suite a ((a, oe3) :: (X.pn ++ pins))) S3 hg hm q hdbg
          · exact ld_blt (X := X.suite a ((a, oe3) :: (X.pn ++ pins))) S3 hg hm hv q hnn hdbg
        refine test (LM.here ?_)
        cases b with
        | true =>
          refine codeAny_handlers_suite_as ?_
          refine HandSPX.lands_againZ fl3 fun h4 fl4 up4 => ?_
          have J4 : Inv X pins σ' H' { s' with heap := h4 } := J.landed nb fl4.1 ((up.trans up3).trans up4) os ag
          obtain ⟨oe4, vs4, he4, hz4, hd4⟩ := fl4.there
          have S4 := J4.suite he4 hd4 na nL nF
          refine store_ok (X := X.suite a ((a, oe4) :: (X.pn ++ pins))) (v := .ref a) S4 hN hi hloc rfl (fun s5 S5 => ?_) (.inr hln)
          refine wpAny_mono ((hsu a oe4 cls d (X.pn ++ pins) hz4 ⟨_, hd4⟩).run [] s5 _ H' _ S5 (hyes rfl a na)) (fun f s6 hsp => ?_) (fun _ _ z => False.elim z)
          have end_ : ∀ {σ6 : St} {H6 : Hp} {Q : Shared → Prop}, Inv (X.suite a ((a, oe4) :: (X.pn ++ pins))) [] σ6 H6 s6 → (∀ s7, Inv X pins (σ6.set i none) H6 s7 → Q s7) →
              wpAny (model X.prog X.w) X.A (do bindName X.env n .none; unbindBehindTheSuite X.env n pos') (fun _ s7 => Q s7) X.xe s6 := fun {σ6 H6 Q} S6 hq => gone_ok (S6.unsuite ok) hN hi hln hq
          cases f with
          | next =>
            obtain ⟨σ6, H6, S6, q6⟩ := hsp
            exact end_ S6 fun s7 J7 => ⟨_, _, J7, q6⟩
          | brk =>
            obtain ⟨σ6, H6, S6, q6⟩ := hsp
            exact end_ S6 fun s7 J7 => ⟨_, _, J7, q6⟩
          | cont =>
            obtain ⟨σ6, H6, S6, q6⟩ := hsp
            exact end_ S6 fun s7 J7 => ⟨_, _, J7, q6⟩
          | ret u =>
            obtain ⟨v6, σ6, H6, S6, r6, q6⟩ := hsp
            exact end_ S6 fun s7 J7 => ⟨_, _, _, J7, r6, q6⟩
        | false =>
          show wpAny _ X.A (handleBy (.ref a) X.env hds2) _ _ _
          exact ih (hno rfl)
    exact go hh w
  · cases f with
    | next =>
      obtain ⟨σ', H', J', q⟩ := hsp
      exact wpAny_execs_nil ⟨σ', H', J'.ofTry ok, q⟩
    | brk =>
      obtain ⟨σ', H', J', q⟩ := hsp
      exact ⟨σ', H', J'.ofTry ok, q⟩
    | cont =>
      obtain ⟨σ', H', J', q⟩ := hsp
      exact ⟨σ', H', J'.ofTry ok, q⟩
    | ret u =>
      obtain ⟨v, σ', H', J', r, q⟩ := hsp
      exact ⟨v, σ', H', J'.ofTry ok, r, q⟩
end
end L2

set_option maxHeartbeats 2000000
namespace L2.Lmp
open PySem PySem.Spec PyProof.Rows
variable {R : Addr → Prop} {c : Cc} {h h' h1 h2 : DH} {H H' H1 H2 : Hp} {W : WX} {X : Cx}
/-! ### what an error is told as -/
/-- the classes of a list of clauses: told by the name alone, or with a field -/
abbrev Hds := List (Str × Option Str)
def hdE (hs : Hds) (P : DK) : EK := fun x h => match hs.lookup x.c with
  | none => False
  | some none => P (.str x.c) h
  | some (some f) => ∃ d, x.f = some (f, d) ∧ P (.tup [.str x.c, d]) h
/-- the same of values -/
def hdV (x : Str) (r : Option Str) (Q : VK) (d : Option Addr) (H : Hp) : Prop := match r with
  | none => Q (.str x) H
  | some f => ∃ dd v, d = some dd ∧ H dd = some (.xd [(f, v)]) ∧ ∀ l, H l = none → Q (.ref l) (upd H l (.tup [.str x, v]))
def wHs (mg : Str → Option Value) (hs : Hds) (Q : VK) : XK := fun cls d H => ∃ x C r, hs.lookup x = some r ∧ mg x = some (.ref C) ∧ cls = .ref C ∧ hdV x r Q d H
theorem wHs_of {hs : Hds} {P : DK} {Q : VK} (fin : ∀ d h' v H', P d h' → Ext R h H h' H' → RS c R h' H' → RV c R h' H' v d → Q v H') {x : DX} {cls : Value} {od : Option Addr} (q : hdE hs P x h') (e : Ext R h H h' H') (rs : RS c R h' H') (rx : RX c R h' H' x cls od) : wHs c.mg hs Q cls od H' := by
  obtain ⟨C, m, ec, rf⟩ := rx
  unfold hdE at q
  split at q
  · exact q.elim
  · rename_i el
    exact ⟨x.c, C, none, el, m, ec, fin _ h' _ H' q e rs (.str _)⟩
  · rename_i f el
    obtain ⟨d, ex, q⟩ := q
    rw [ex] at rf
    obtain ⟨dd, v, ed, hd, rv⟩ := rf
    refine ⟨x.c, C, some f, el, m, ec, dd, v, ed, hd, fun l hl => ?_⟩
    have x1 := Ext.fresh (o := .tup [.str x.c, v]) rs hl
    exact fin _ h' _ _ q (e.trans x1) (rs.fresh hl) (.tup (rs.free hl) upd_same (.cons (.str _) (.cons (rv.ext x1) .nil)))
/-- the own classes told apart -/
def ExT (K : PySem.W.Frag) (mg : Str → Option Value) (ns : List Str) : Prop := ∀ x ∈ ns, ∀ y ∈ ns, ∀ C D, mg x = some (.ref C) → mg y = some (.ref D) → PySem.W.exmOne K (.ref C) (.ref D) = some (x == y)
structure Cls (X : Cx) (ns : List Str) (hds : List ExceptHandler) (hs : Hds) : Prop where
  ex : ∃ l, HdsMix X hds l ∧ ∀ (D : Ends) cls d σ H x C r, hs.lookup x = some r → x ∈ ns → X.mg x = some (.ref C) → cls = .ref C → hdV x r D.rt d H → wMix X.K (fun _ _ _ _ => False) D l cls d σ H
theorem lookup_cons {x y : Str} {r0 : Option Str} {t : Hds} : List.lookup x ((y, r0) :: t) = if x == y then some r0 else t.lookup x := by
  cases e : x == y <;> simp [List.lookup, e]
theorem cls_last {ns : List Str} {y : Str} {b₀ : Stmt} {suite : List Stmt} {np pos' : Pos} {D : Addr} (hm : X.mg y = some (.ref D)) (hg : Gl X y) (hdb : (y == ("__debug__" : Str)) = false) :
    Cls X ns [.ExceptHandler (some (.Name y np)) none (b₀ :: suite) pos'] [] :=
  ⟨[(.ref D, none, fun _ _ _ _ _ _ => False)], .cons ⟨hg, hdb, .inl hm⟩ (fun a oe cls d pn _ _ => ⟨fun pins s σ H Q I h => h.elim⟩) .nil, fun D cls d σ H x C r e => by cases e⟩
theorem cls_nam {ns : List Str} {y : Str} {hds : List ExceptHandler} {hs : Hds} {np p1 p2 p3 : Pos} {j : Nat} {D : Addr} (T : ExT X.K X.mg ns) (my : y ∈ ns) (hm : X.mg y = some (.ref D)) (hg : Gl X y) (hdb : (y == ("__debug__" : Str)) = false) (r : Cls X ns hds hs) :
    Cls X ns (.ExceptHandler (some (.Name y np)) none [.Return (some (.Constant (.str y) j p1)) p2] p3 :: hds) ((y, none) :: hs) := by
  obtain ⟨l, hl, hw⟩ := r.ex
  refine ⟨(.ref D, none, fun _ _ _ => tRet (tC (.str y))) :: l, .cons ⟨hg, hdb, .inl hm⟩ (fun a oe cls d pn _ _ => pss_one (ps_ret pe_str)) hl, fun E cls d σ H x C r e mx mC ec q => ?_⟩
  subst ec
  refine ⟨x == y, T x mx y my C D mC hm, fun b a _ => ?_, fun b => ?_⟩
  · have := eq_of_beq b
    subst this
    rw [lookup_cons, if_pos b] at e
    cases e
    exact q
  · rw [lookup_cons, if_neg (by rw [b]; simp)] at e
    exact hw E _ d σ H x C r e mx mC rfl q
/-- a class whose errors have a field -/
structure XcF (K : PySem.W.Frag) (f : Str) (C : Addr) : Prop where
  exc : ExcC K C
  xf : XfC K C
  no : PySem.W.findIn K (.ref C) f = some none
  kit : PySem.W.kitOne K (.ref C) (.type "ValueError") = some true
theorem cls_fld {ns : List Str} {y f n o : Str} {i : Nat} {hds : List ExceptHandler} {hs : Hds} {np p0 p1 p2 p3 p4 p5 p6 p7 p8 p9 q1 q2 : Pos} {j j2 k : Nat} {D : Addr} (T : ExT X.K X.mg ns) (my : y ∈ ns) (hm : X.mg y = some (.ref D)) (F : XcF X.K f D) (hg : Gl X y) (hdb : (y == ("__debug__" : Str)) = false)
    (hN : X.N.Nodup) (hi : X.N[i]? = some n) (hln : X.env.kindOf n = some .local) (hv : Vis X.env.scope n) (hd1 : (n == ("__debug__" : Str)) = false) (hd2 : (n == ("__classdict__" : Str)) = false) (hgi : Gl X "isinstance") (hmi : X.mg "isinstance" = none) (hgv : Gl X "ValueError") (hmv : X.mg "ValueError" = none) (r : Cls X ns hds hs) :
    Cls X ns (.ExceptHandler (some (.Name y np)) (some n) [.Return (some (.IfExp (.Call (.Name "isinstance" p0) [.Name n p1, .Name "ValueError" p2] [] p3) (.Tuple [.Constant (.str y) j p4, .Attribute (.Name n p5) f p6] k p7) (.Constant (.str o) j2 p8) p9)) q1] q2 :: hds) ((y, some f) :: hs) := by
  obtain ⟨l, hl, hw⟩ := r.ex
  refine ⟨(.ref D, some i, fun a cls d => fun E σ H => (i < σ.length → σ[i]? = some (some (.ref a))) ∧ cls = .ref D ∧ ∃ dd v, d = some dd ∧ H dd = some (.xd [(f, v)]) ∧ ∀ l, H l = none → E.rt (.ref l) (upd H l (.tup [.str y, v]))) :: l,
    .consAs hN hi hln ⟨hg, hdb, .inl hm⟩ (fun a oe cls d pn hz hf => ⟨fun pins s σ H E I hh => ?_⟩) hl, fun E cls d σ H x C r e mx mC ec q => ?_⟩
  · obtain ⟨hs1, ec, dd, v, ed, hdd, q⟩ := hh
    subst ec
    subst ed
    have lN : i < (X.suite a ((a, oe) :: pn)).N.length := (List.getElem?_eq_some_iff.mp hi).1
    have lσ : i < σ.length := by rw [I.len]; exact lN
    have ve : PE (X.suite a ((a, oe) :: pn)) (.Name n p1) (tVar i) := pe_var hi hv hd1 hd2
    have ve2 : PE (X.suite a ((a, oe) :: pn)) (.Name n p5) (tVar i) := pe_var hi hv hd1 hd2
    have vv : PE (X.suite a ((a, oe) :: pn)) (.Name "ValueError" p2) (tC (.ty "ValueError")) := pe_bltn hgv hmv (by decide +kernel) rfl
    have wf := pss_one (ps_ret (pos := q1) (pe_ifExp (pos := p9) (pt_val (pe_callB (pos := p3) (p := p0) (call_isEd (pn := pn) F.exc hz hf) hgi hmi (by decide +kernel) (pa_cons ve (pa_cons vv pa_nil)))) (pe_tup (pos := p7) (x1 := k) (pa_cons (pe_str (x := y) (j := j) (pos := p4)) (pa_cons (pe_xf (pos := p6) F.xf F.no hz hf ve2) pa_nil))) (pe_str (x := o) (j := j2) (pos := p8))))
    refine wf.run pins s σ H E I ?_
    refine ⟨_, hs1 lσ, .ty "ValueError", .type "ValueError", true, rfl, fun u hu => ?_, F.kit, ⟨_, hdd⟩, true, rfl, ?_⟩
    · exact hu
    · have l1 : List.lookup f [(f, v)] = some v := by simp [List.lookup]
      exact (show tTup (tCons (tC (V.str y)) (tCons (tXf a (Value.ref D) (some dd) D f (tVar i)) tNil)) σ H E.rt from ⟨.ref a, hs1 lσ, rfl, rfl, dd, _, v, rfl, hdd, l1, small_line (by decide : 2 ≤ 1000), q⟩)
  · subst ec
    refine ⟨x == y, T x mx y my C D mC hm, fun b a _ => ?_, fun b => ?_⟩
    · have := eq_of_beq b
      subst this
      rw [lookup_cons, if_pos b] at e
      cases e
      rw [mC] at hm
      cases hm
      exact ⟨fun hlt => List.getElem?_set_self (by simpa using hlt), rfl, q⟩
    · rw [lookup_cons, if_neg (by rw [b]; simp)] at e
      exact hw E _ d σ H x C r e mx mC rfl q
end L2.Lmp

set_option maxHeartbeats 4000000
namespace LamD
open PySem PySem.Spec PyProof.Rows L2 LamX
section
variable {X : Cx} {pins : List (Addr × Obj)} {σ : L2.St} {H : Hp} {s : Shared}
/-- the lambda is made: its code object is new, or found in the table -/
theorem lam_tail {dV : Value} {c P : Addr} {ps : Array Value} {params : Arguments} {body : Expr} {scope : Scope} {pos : Pos} {E : Value → Shared → Prop} {Q : Value → Shared → Prop} (I : Inv X pins σ H s) (TB : TabB X.base X.mg c P) (hcode : X.env.code = .ref c)
    (hP : H P = some (.tbl ps)) (ht : TriplesOk ps.toList) (ha : ∀ (pos : Pos) (cv : Value), codeAmong pos ps.toList = some cv → ∃ c, cv = .ref c ∧ H c = some (CodeO c (X.env.qual ++ "<lambda>"))) (hfree : ∀ y ∈ scope.names, y.2 = .free → ∃ c, X.env.cells.lookup y.1 = some c)
    (h : ∀ (f c' : Addr) (doc pm ctv : Value) (H1 : Hp) (s' : Shared), Inv X pins σ H1 s' → (H1 = H ∨ (H c' = none ∧ H1 = upd (upd H P (.tbl (ps ++ #[rawInt pos.line, rawInt pos.col, .ref c']))) c' (CodeO c' (X.env.qual ++ "<lambda>")))) → (∀ b o, (∀ ps, H b ≠ some (.tbl ps)) → s.heap.get? b = some o → s'.heap.get? b = some o) → (∀ b o, s.heap.get? b = some o → H b = none → H1 b = none) →
      s'.heap.get? f = some (PySem.W.kdv_obj "<lambda>" (X.env.qual ++ "<lambda>") params (.expr body) scope (cloFrom X.env.cells scope.names []) dV doc pm c' ctv) → H1 f = none → f ∉ frs X.stack → H1 c' = some (CodeO c' (X.env.qual ++ "<lambda>")) → Q (.ref f) s') :
    wpAny (model X.prog X.w) X.A (makeTail "<lambda>" (X.env.qual ++ "<lambda>") params (.expr body) scope X.env dV .none none pos pos.line) Q E s := by
  have bP : s.heap.BuiltinsAt X.mg P := TB.bm.keeps I.bk
  have hP' : s.heap.get? P = some { cls := .none, data := .fields ps } := I.hok P _ hP
  have nofr : ∀ f, s.heap.objs.size ≤ f → f ∉ frs X.stack := fun f hf z => by
    rcases List.mem_cons.mp (I.stkSub _ z) with e | e
    · have h1 := I.lt
      rw [← e] at h1
      exact Nat.lt_irrefl _ (Nat.lt_of_lt_of_le h1 hf)
    · exact I.nofs hf e
  cases hc : codeAmong pos ps.toList with
  | none =>
    refine PySem.W.kdv_makeTail (mg := X.mg) (c := c) (P := P) (ps := ps) (closure_ok hfree) I.ok.glob (I.mod.glob.keeps I.bk) hcode (TB.code.keeps I.bk) hP' ht hc TB.gP bP fun c' ctv doc h' tk hx hge hlt hrec htb => ?_
    obtain ⟨c2, oc, vs, t, e2, hoc, hd, hv⟩ := hrec
    cases e2
    have hsz : s.heap.objs.size ≤ h'.objs.size := Nat.le_trans hge (Nat.le_of_lt hlt)
    have nC : H c' = none := I.hok.fresh hge
    have I1 := inv_table (t' := tk) (more := #[rawInt pos.line, rawInt pos.col, .ref c']) (h' := h'.push (PySem.W.kdv_obj "<lambda>" (X.env.qual ++ "<lambda>") params (.expr body) scope (cloFrom X.env.cells scope.names []) dV doc ((X.mg "__name__").getD .none) c' ctv)) I hP
      (fun b o hb e => Heap.get?_push_of_some _ (hx b o hb e)) (Heap.get?_push_of_some _ htb) hge ⟨oc, vs, t, Heap.get?_push_of_some _ hoc, hd, hv⟩
    refine h h'.objs.size c' doc ((X.mg "__name__").getD .none) ctv _ _ I1 (.inr ⟨nC, rfl⟩) (fun b o hb e => Heap.get?_push_of_some _ (hx b o (fun z => hb ps (by rw [z]; exact hP)) e)) (fun b o e n => ?fr) (Heap.get?_push_size _ rfl) ?_ (nofr _ hsz) upd_same
    case fr =>
      have nP : b ≠ P := fun z => by rw [z, hP] at n; cases n
      have nc : b ≠ c' := fun z => by rw [z] at e; exact Nat.lt_irrefl _ (Nat.lt_of_lt_of_le (Heap.lt_size e) hge)
      rw [upd_ne nc, upd_ne nP]; exact n
    · have n1 : h'.objs.size ≠ c' := Nat.ne_of_gt hlt
      have n2 : h'.objs.size ≠ P := Nat.ne_of_gt (Nat.lt_of_lt_of_le (Heap.lt_size hP') hsz)
      rw [upd_ne n1, upd_ne n2]
      exact I.hok.fresh hsz
  | some cv =>
    obtain ⟨c', e, hco⟩ := ha pos cv hc
    subst e
    refine PySem.W.kdv_makeTailHit (mg := X.mg) (c := c) (P := P) (ps := ps) (closure_ok hfree) I.ok.glob (I.mod.glob.keeps I.bk) hcode (TB.code.keeps I.bk) hP' ht hc bP fun ctv doc h' tk hx hsz => ?_
    have I1 : Inv X pins σ H { s with heap := h'.push (PySem.W.kdv_obj "<lambda>" (X.env.qual ++ "<lambda>") params (.expr body) scope (cloFrom X.env.cells scope.names []) dV doc ((X.mg "__name__").getD .none) c' ctv), toks := tk } := I.kept fun b o e => Heap.get?_push_of_some _ (hx b o e)
    exact h h'.objs.size c' doc ((X.mg "__name__").getD .none) ctv H _ I1 (.inl rfl) (fun b o _ e => Heap.get?_push_of_some _ (hx b o e)) (fun b o _ n => n) (Heap.get?_push_size _ rfl) (I.hok.fresh hsz) (nofr _ hsz) hco
end
end LamD

set_option maxHeartbeats 4000000
namespace LamD
open PySem PySem.Spec PyProof.Rows L2 LamX
/-- a lambda's names: captured ones, globals, its parameters, of which none is the maker's -/
structure LamSD (N : List Str) (sc scope : Scope) (bs : List Str) : Prop where
  kind : scope.kind = .function
  co : scope.isCoroutine = false
  gen : scope.isGenerator = false
  own : ∀ y ∈ scope.names, y.2 ≠ .cell ∧ (y.2 = .local → y.1 ∈ bs)
  free : ∀ y ∈ scope.names, y.2 = .free → sc.names.lookup y.1 = some .cell ∨ sc.names.lookup y.1 = some .free
  notN : ∀ y ∈ bs, y ∉ N
  loc : ∀ y ∈ bs, scope.names.lookup y = some .local
def lamSDB (N : List Str) (sc scope : Scope) (bs : List Str) : Bool :=
  decide (scope.kind = .function) && !scope.isCoroutine && !scope.isGenerator && (scope.names.all fun y => !decide (y.2 = .cell) && (!decide (y.2 = .local) || bs.contains y.1) && (!decide (y.2 = .free) || decide (sc.names.lookup y.1 = some .cell) || decide (sc.names.lookup y.1 = some .free))) && bs.all fun y => !N.contains y && decide (scope.names.lookup y = some .local)
theorem lamSD_by {N : List Str} {sc scope : Scope} {bs : List Str} (h : lamSDB N sc scope bs = true) : LamSD N sc scope bs := by
  unfold lamSDB at h
  simp only [Bool.and_eq_true, Bool.or_eq_true, Bool.not_eq_true', decide_eq_true_eq, decide_eq_false_iff_not, List.all_eq_true, List.contains_eq_mem] at h
  obtain ⟨⟨⟨⟨h1, h2⟩, h3⟩, h4⟩, h5⟩ := h
  refine ⟨h1, h2, h3, fun y hy => ⟨(h4 y hy).1.1, fun e => ?_⟩, fun y hy e => ?_, fun y hy => (h5 y hy).1, fun y hy => (h5 y hy).2⟩
  · rcases (h4 y hy).1.2 with z | z
    · exact absurd e z
    · exact z
  · rcases (h4 y hy).2 with (z | z) | z
    · exact absurd e z
    · exact .inl z
    · exact .inr z
theorem LamSD.has {X : Cx} {N : List Str} {scope : Scope} {bs : List Str} (L : LamSD N X.env.scope scope bs) (ok : X.Ok) : ∀ y ∈ scope.names, y.2 = .free → ∃ c, X.env.cells.lookup y.1 = some c := fun y hy e => by
  rcases L.free y hy e with k | k
  · exact ok.has _ (.inl k)
  · exact ok.has _ (.inr k)
section
variable {X : Cx} {pins : List (Addr × Obj)} {σ : L2.St} {H HZ : Hp} {s s1 : Shared}
theorem lam_startD {bs : List (Str × Value)} {A : Around} {outer : List Env} {E : XK} {scope : Scope} {f c' : Addr} {h₁ : Heap} {tk : Nat} (I : Inv X pins σ H s) (L : LamSD X.N X.env.scope scope (bs.map (·.1))) (e0 : Env0 X.prog X.w X.K X.mg X.base A outer s1 HZ) (hd : A.handled = none)
    (un : Un (frs X.stack) [] H HZ s.heap s1.heap) (hns : h₁.Ns s1.heap.objs.size fun y => bs.reverse.lookup y) (kp : ∀ b o, s1.heap.get? b = some o → h₁.get? b = some o) :
    Inv (lamCx X A outer s1 HZ E scope f c') [] σ HZ { s1 with heap := h₁, toks := tk } := by
  have hfree := L.has I.ok
  have cm : ∀ {y c}, (cloFrom X.env.cells scope.names []).lookup y = some c → X.env.cells.lookup y = some c := fun {y c} e => by
    rcases cloFrom_mem (PySem.mem_of_lookup e) with hm | ⟨h1, h2⟩
    · cases hm
    · obtain ⟨c1, hc⟩ := hfree _ h1 rfl
      have hc : X.env.cells.lookup y = some c1 := hc
      have e2 : c = c1 := by
        rw [h2, hc] <;> rfl
      rw [e2]
      exact hc
  have look : ∀ {y}, scope.names.lookup y = some .free → ∃ c, (cloFrom X.env.cells scope.names []).lookup y = some c := fun {y} hl => by
    have hy : (y, NameKind.free) ∈ scope.names := PySem.mem_of_lookup hl
    exact mem_lookup (cloFrom_has (cells := X.env.cells) (acc := []) hy)
  have cellK : ∀ {c : Addr} {v : Option Value}, H c = none → s.heap.IsCell c v → h₁.IsCell c v := fun {c v} n ⟨o, ho, hd⟩ => by
    obtain ⟨sl, q⟩ := un.any ho n (by simp)
    exact ⟨_, kp _ _ q, hd⟩
  have noA : ∀ b : Addr, b ∉ (lamCx X A outer s1 HZ E scope f c').ex := fun b z => absurd (show b ∈ ([] : List Addr) from z) (by simp)
  refine ⟨⟨e0.mod, L.kind, rfl, rfl, Nat.le_refl _, fun y z c e1 e2 => I.ok.inj y z c (cm e1) (cm e2), fun y hy => ?_, fun y c z _ => ?_, fun _ => hd, Around.frames_deeper e0.frames, .inr ⟨rfl, rfl⟩, fun b z => absurd z (noA b), e0.bs, e0.bsz, fun b _ _ => noA b,
      fun b z => absurd z (noA b), e0.funs, e0.frf⟩,
    rfl, e0.bare, Un.kept kp, ⟨_, hns, fun i y v e1 e2 e3 => ?_⟩, fun y c e => ?_, e0.hok.fresh (Nat.le_refl _), fun y c e => ?_, fun q hq => absurd (show q ∈ ([] : List (Addr × Obj)) ++ [] from hq) (by simp), e0.hok.kept kp, I.len⟩
  · have hy : scope.names.lookup y = some .cell ∨ scope.names.lookup y = some .free := hy
    rcases hy with hy | hy
    · exact absurd rfl (L.own _ (PySem.mem_of_lookup hy)).1
    · exact look hy
  · have z : false = true := z
    cases z
  · have e3 : Vis scope y := e3
    rcases e3 with k | k | k
    · exact absurd (List.mem_of_getElem? e1) (L.notN _ ((L.own _ (PySem.mem_of_lookup k)).2 rfl))
    · exact absurd rfl (L.own _ (PySem.mem_of_lookup k)).1
    · obtain ⟨m, hn, hl⟩ := I.loc
      have hvis : Vis X.env.scope y := (L.free _ (PySem.mem_of_lookup k) rfl).elim (fun k => .inr (.inl k)) (fun k => .inr (.inr k))
      obtain ⟨w', r, q⟩ := hl i y v e1 e2 hvis
      obtain ⟨c2, h2⟩ := look k
      refine ⟨w', r, .inr ⟨.inr k, c2, h2, ?_⟩⟩
      have c1 := cm h2
      rcases q with ⟨k', _⟩ | ⟨_, c3, e', z⟩
      · have k' : X.env.scope.names.lookup y = some .local := k'
        rcases L.free _ (PySem.mem_of_lookup k) rfl with k2 | k2 <;> rw [show X.env.scope.names.lookup y = _ from k2] at k' <;> cases k'
      · rw [c1] at e'
        cases e'
        exact cellK (I.freeC y _ c1) z
  · obtain ⟨w', z⟩ := I.cell y c (cm e)
    exact ⟨w', cellK (I.freeC y c (cm e)) z⟩
  · obtain ⟨v, o, ho, hd⟩ := I.cell y c (cm e)
    exact un.free c o ho (I.freeC y c (cm e)) (by simp)
theorem pe_actD {bs : List (Str × Value)} {dV doc : Value} {CXg : CXT} {Eg : XK} {Ng : List Str} {qg : Str} {sg : Scope} {g f c' : Addr} {cdg pm ctv : Value} {params : Arguments} {body : Expr} {scope : Scope} {k i : Nat} {a : Str} {pn : List (Addr × Obj)} {xe : Value → Shared → Prop} {W : WX} {E : XK} {tb : TE} {p1 p2 : Pos}
    (I : Inv X pins σ H s) (L : LamSD X.N X.env.scope scope (bs.map (·.1))) (hf : s.heap.get? f = some (PySem.W.kdv_obj "<lambda>" (X.env.qual ++ "<lambda>") params (.expr body) scope (cloFrom X.env.cells scope.names []) dV doc pm c' ctv)) (hfn : H f = none) (hfr : f ∉ frs X.stack)
    (hbind : ∀ s1 : Shared, (∀ b o, s.heap.get? b = some o → H b = none → b ∉ frs X.stack → s1.heap.get? b = some o) → BindsTo s1 (PySem.W.kdv_fn "<lambda>" (X.env.qual ++ "<lambda>") params (.expr body) scope (cloFrom X.env.cells scope.names []) dV doc pm (.ref c') ctv) ⟨[], []⟩ bs)
    (tk : Takes ((cxOf CXg X.prog X.w X.K X.mg X.base Ng qg sg g cdg X.A X.stack s H Eg).tr pn xe) W) (hW : ∀ cls d σ' H', E cls d H' → W cls d σ' H') (hr : Room (k + 1) (X.A.deeper (envOfC qg sg s.heap.objs.size g cdg)))
    (hbody : ∀ (A : Around) (outer : List Env) (s : Shared) (H : Hp), Room k (A.deeper (lamEnv X scope s.heap.objs.size f c')) → PE (lamCx X A outer s H E scope f c') body tb)
    (hN : Ng[i]? = some a) (hv : Vis sg a) (hd : (a == ("__debug__" : Str)) = false := by decide) (hcd : (a == ("__classdict__" : Str)) = false := by decide) :
    PE ((cxOf CXg X.prog X.w X.K X.mg X.base Ng qg sg g cdg X.A X.stack s H Eg).tr pn xe) (.Call (.Name a p1) [] [] p2)
      (fun σZ HZ Q => σZ[i]? = some (some (.ref f)) ∧ HZ c' = some (CodeO c' (X.env.qual ++ "<lambda>")) ∧ tb σ HZ Q) := by
  refine ⟨fun pinsZ sZ σZ HZ Q IZ h => ?_⟩
  obtain ⟨hs, hc, ht⟩ := h
  refine wpAny_Call_Name_kw (thn ((pe_var (pos := p1) (i := i) hN hv hd hcd).run pinsZ sZ σZ HZ (fun v H1 => v = .ref f ∧ H1 = HZ) IZ ⟨.ref f, hs, rfl, rfl⟩) fun u s1 ⟨v, H1, I1, r1, q1⟩ => ?_)
  obtain ⟨ev, eH⟩ := q1
  subst ev
  rw [eH] at I1
  obtain rfl : u = Value.ref f := r1
  have of1 : s1.heap.get? f = some (PySem.W.kdv_obj "<lambda>" (X.env.qual ++ "<lambda>") params (.expr body) scope (cloFrom X.env.cells scope.names []) dV doc pm c' ctv) := I1.base.keep f _ hf hfn hfr (fun z => nomatch (show f ∈ ([] : List Addr) from z))
  refine PySem.W.callWith_F0 ⟨_, _, _, _, of1⟩ ?_
  have un : Un (frs X.stack) [] H HZ s.heap s1.heap := I1.base
  obtain ⟨⟨oc, vs, t, hoc, hdc, hvc⟩, _, _⟩ := I1.hok c' _ hc
  have rc : codeAny (model X.prog X.w) (X.A.deeper (envOfC qg sg s.heap.objs.size g cdg)) (.call (.ref f) ⟨[], []⟩) (CR (L2.CX X.prog X.w) (envOfC qg sg s.heap.objs.size g cdg :: X.stack) X.prog X.w HZ s1 Q E) s1 := by
    refine PySem.W.kla_callFunE hr.depth of1 rfl L.co L.gen rfl ⟨c', oc, vs, t, rfl, hoc, hdc, hvc⟩ ?_
    refine hbind s1 (fun b o e n nf => I1.base.keep b o e n nf (fun z => nomatch (show b ∈ ([] : List Addr) from z))) _ _ _ _ ?_
    refine wpAny_newFunctionEnv (fun y hy => (L.own y hy).1) (fun y hy => L.loc _ (List.mem_map.mpr ⟨y, hy, rfl⟩)) (fun h₁ hns hsb => ⟨I1.nolimit.fresh _ hsb, ?_⟩) L.kind
    show codeAny _ _ (.expr body (lamEnv X scope s1.heap.objs.size f c')) _ _
    have kp : ∀ b o, s1.heap.get? b = some o → h₁.get? b = some o := fun b o e => hsb.extBut b o (Nat.ne_of_lt (Heap.lt_size e)) (Heap.get?_push_of_some _ e)
    have J : Inv (lamCx X (X.A.deeper (envOfC qg sg s.heap.objs.size g cdg)) (envOfC qg sg s.heap.objs.size g cdg :: X.stack) s1 HZ E scope f c') [] σ HZ { s1 with heap := h₁, toks := s1.toks + bs.length } :=
      lam_startD I L I1.env0 hr.hd un hns kp
    refine PySem.W.kla_codeExpr (wpAny_mono ((hbody _ _ s1 HZ (hr.deeper _)).run [] _ _ HZ Q J ht) (fun v s' hq => ?_) fun e s' hq => hq)
    obtain ⟨w', H', J', rv, q⟩ := hq
    exact ⟨w', H', J'.os, J'.bare, J'.base, J'.hok, rv, q⟩
  have hx : Passes (L2.CX X.prog X.w) ((cxOf CXg X.prog X.w X.K X.mg X.base Ng qg sg g cdg X.A X.stack s H Eg).tr pn xe) E := passes_call tk hW
  refine wpAny_call (codeAny_mono rc fun r s' hq => ?_)
  cases r with
  | error e => exact hx pinsZ σZ HZ s1 e s' I1 hq
  | ok fl =>
    cases fl with
    | ret u => exact I1.after hq
    | next => exact False.elim hq
    | brk => exact False.elim hq
    | cont => exact False.elim hq
end
end LamD

set_option maxHeartbeats 4000000
namespace LamD
open PySem PySem.Spec PyProof.Rows L2 LamX L2.Lmp
/-- no parameter, or one that has 0 as its default -/
def lamA (d : Option (Str × Pos × Pos × Nat)) : Arguments := match d with
  | none => { posonlyargs := [], args := [], vararg := none, kwonlyargs := [], kw_defaults := [], kwarg := none, defaults := [] }
  | some (a, p, q, j) => { posonlyargs := [], args := [{ arg := a, annotation := none, pos := p }], vararg := none, kwonlyargs := [], kw_defaults := [], kwarg := none, defaults := [.Constant (.int 0) j q] }
def lamB (d : Option (Str × Pos × Pos × Nat)) : List Str := match d with
  | none => []
  | some (a, _, _, _) => [a]
section
variable {X : Cx} {pins : List (Addr × Obj)} {σ : L2.St} {H : Hp} {s : Shared}
theorem makeFn0 {M : Model} {A : Around} {E : Value → Shared → Prop} {Q : Value → Shared → Prop} {name qual : Str} {params : Arguments} {body : Expr} {scope : Scope} {env : Env} {pos : Pos} {l : Nat} (h : wpAny M A (makeTail name qual params (.expr body) scope env .none .none none pos l) Q E s) :
    wpAny M A (makeFunction name qual params (.expr body) scope env [] [] [] pos l) Q E s := by
  rw [makeFunction_eq]
  simp only [List.zip_nil_right, List.filterMap_nil, List.isEmpty_nil, if_true, pure_bind]
  exact h
theorem makeFn1 {M : Model} {A : Around} {E : Value → Shared → Prop} {Q : Value → Shared → Prop} {name qual : Str} {params : Arguments} {body : Expr} {scope : Scope} {env : Env} {pos : Pos} {l : Nat} {v : Value}
    (h : wpAny M A (makeTail name qual params (.expr body) scope env (.ref s.heap.objs.size) .none none pos l) Q E { s with heap := s.heap.push (PySem.W.kdv_tup [v]) }) : wpAny M A (makeFunction name qual params (.expr body) scope env [v] [] [] pos l) Q E s := by
  rw [makeFunction_eq]
  simp only [List.zip_nil_right, List.filterMap_nil, List.isEmpty_nil, List.isEmpty_cons, if_true, pure_bind, Bool.false_eq_true, if_false]
  exact wpAny_bind (wpAny_newTextTuple h)
/-- the lambda is made; what it binds when it is called without arguments -/
def lamOk (d : Option (Str × Pos × Pos × Nat)) : Prop := ∀ z, d = some z → z.1 = "_law_a" ∨ z.1 = "_law_b" ∨ z.1 = "_law_c"
theorem lam_made {d : Option (Str × Pos × Pos × Nat)} (dOk : lamOk d) {c P : Addr} {ps : Array Value} {body : Expr} {scope : Scope} {pos : Pos} {E : Value → Shared → Prop} {Q : Value → Shared → Prop} (I : Inv X pins σ H s) (TB : TabB X.base X.mg c P) (hcode : X.env.code = .ref c)
    (hP : H P = some (.tbl ps)) (ht : TriplesOk ps.toList) (ha : ∀ (pos : Pos) (cv : Value), codeAmong pos ps.toList = some cv → ∃ c, cv = .ref c ∧ H c = some (CodeO c (X.env.qual ++ "<lambda>"))) (hfree : ∀ y ∈ scope.names, y.2 = .free → ∃ c, X.env.cells.lookup y.1 = some c)
    (h : ∀ (f c' : Addr) (dV doc pm ctv : Value) (H1 : Hp) (s' : Shared) (bs : List (Str × Value)), bs.map (·.1) = lamB d → Inv X pins σ H1 s' → (H1 = H ∨ (H c' = none ∧ H1 = upd (upd H P (.tbl (ps ++ #[rawInt pos.line, rawInt pos.col, .ref c']))) c' (CodeO c' (X.env.qual ++ "<lambda>")))) →
      s'.heap.get? f = some (PySem.W.kdv_obj "<lambda>" (X.env.qual ++ "<lambda>") (lamA d) (.expr body) scope (cloFrom X.env.cells scope.names []) dV doc pm c' ctv) → H1 f = none → f ∉ frs X.stack → H1 c' = some (CodeO c' (X.env.qual ++ "<lambda>")) →
      (∀ s1 : Shared, (∀ b o, s'.heap.get? b = some o → H1 b = none → b ∉ frs X.stack → s1.heap.get? b = some o) → BindsTo s1 (PySem.W.kdv_fn "<lambda>" (X.env.qual ++ "<lambda>") (lamA d) (.expr body) scope (cloFrom X.env.cells scope.names []) dV doc pm (.ref c') ctv) ⟨[], []⟩ bs) → Q (.ref f) s') :
    wpAny (model X.prog X.w) X.A (eval (.Lambda (lamA d) body scope pos) X.env) Q E s := by
  cases d with
  | none =>
    refine PySem.W.kla_eval (by rfl) (makeFn0 ?_)
    exact lam_tail I TB hcode hP ht ha hfree fun f c' doc pm ctv H1 s' I1 hH hk hn hf hfn hfr hco => h f c' .none doc pm ctv H1 s' [] rfl I1 hH hf hfn hfr hco fun s1 _ => .of_eq (by first | rfl | with_unfolding_all rfl)
  | some z =>
    obtain ⟨a, p, q, j⟩ := z
    have aOk := dOk _ rfl
    simp only at aOk
    refine PySem.W.kdv_lam (by rfl) (by rfl) (PySem.W.kdv_all1 ?_)
    refine wpAny_Constant_int (PySem.W.kdv_all0 ?_)
    refine makeFn1 ?_
    have nofr : ∀ f, s.heap.objs.size ≤ f → f ∉ frs X.stack := fun f hf z => by
      rcases List.mem_cons.mp (I.stkSub _ z) with e | e
      · have h1 := I.lt
        rw [← e] at h1
        exact Nat.lt_irrefl _ (Nat.lt_of_lt_of_le h1 hf)
      · exact I.nofs hf e
    have hT : H s.heap.objs.size = none := I.hok.fresh (Nat.le_refl _)
    refine lam_tail (I.kept (t' := _) fun b o e => Heap.get?_push_of_some _ e) TB hcode hP ht ha hfree fun f c' doc pm ctv H1 s' I1 hH hk hn hf hfn hfr hco => ?_
    have hget : (s.heap.push (PySem.W.kdv_tup [.int 0 s.toks])).get? s.heap.objs.size = some (PySem.W.kdv_tup [.int 0 s.toks]) := Heap.get?_push_size _ rfl
    have hg' := hk s.heap.objs.size _ (fun ps z => by rw [hT] at z; cases z) hget
    have hn' := hn s.heap.objs.size _ hget hT
    refine h f c' _ doc pm ctv H1 s' [(a, .int 0 s.toks)] rfl I1 hH hf hfn hfr hco fun s1 kp => ?_
    have key := kp _ _ hg' hn' (nofr _ (Nat.le_refl _))
    rcases aOk with e | e | e <;> subst e <;>
    exact BindsTo.of_defaults (T := s.heap.objs.size) rfl key rfl (by first | rfl | with_unfolding_all rfl) (by first | rfl | with_unfolding_all rfl)
end
end LamD

set_option maxHeartbeats 4000000
namespace LamD
open PySem PySem.Spec PyProof.Rows L2 LamX L2.Lmp
/-- try: a() / the clauses / return "" -/
def TTerr (mg : Str → Option Value) (hs : Hds) : (XK → Hp → VK → Prop) → Hp → VK → Prop := fun tl H Q => tl (wHs mg hs Q) H fun _ H' => Q (.str "") H'
theorem err_gives {X : Cx} {Ng ns : List Str} {x a q : Str} {sg : Scope} {g : Addr} {cdg : Value} {j : Nat} {hds : List ExceptHandler} {h₀ : ExceptHandler} {hs : Hds} {p1 p2 p3 p4 p5 p6 : Pos} (hn : ∀ p r, hs.lookup p = some r → p ∈ ns) (h0 : ∀ f : Addr, (L2.start Ng [V.ref f])[0]? = some (some (V.ref f)))
    (hsw : ∀ env : Env, swapsWith (.Call (.Name a p1) [] [] p2) none p3.line env = pure false)
    (hc : ∀ s H, Cls (cxOf C8.CX0 X.prog X.w X.K X.mg X.base Ng x sg g cdg X.A X.stack s H C8.E0).nox ns (h₀ :: hds) hs) :
    GivesTo X Ng x sg g cdg [.Try [.Expr (.Call (.Name a p1) [] [] p2) p3] (h₀ :: hds) [] [] p4, .Return (some (.Constant (.str "") j p5)) p6] a q (TTerr X.mg hs) := by
  intro f c' s H Q tl act hcc h
  obtain ⟨l, hl, hw⟩ := (hc s H).ex
  refine ⟨_, pss_cons (ps_try_mix (X := (cxOf C8.CX0 X.prog X.w X.K X.mg X.base Ng x sg g cdg X.A X.stack s H C8.E0).nox)
      (tb := fun W D σ H => ∃ Ech : XK, (∀ cls d σ' H', Ech cls d H' → W cls d σ' H') ∧ σ[0]? = some (some (.ref f)) ∧ H c' = some (CodeO c' q) ∧ tl Ech H fun _ H' => D.nx σ H')
      rfl rfl LamX.takes0 (fun W pn xe tk _ => ?_) hl) (pss_one (ps_ret pe_str)), ?_⟩
  · refine ⟨fun pins s' σ H' D I h' => ?_⟩
    obtain ⟨Ech, hW, h1, h2, h3⟩ := h'
    have hp := act W pn xe Ech p1 p2 tk hW
    have hq := pss_one (ps_expr (pos := p3) hp (hsw _))
    exact hq.run pins s' σ H' D I ⟨h1, h2, h3⟩
  · exact ⟨wHs X.mg hs Q, fun cls d σ' H' ⟨y, C, r, el, m, ec, q⟩ => hw _ cls d σ' H' y C r el (hn y r el) m ec q, h0 f, hcc, h⟩
/-- the def that tells the error of what it calls -/
structure ErrD (c : Cc) (base : Heap) (x : Str) (hs : Hds) : Prop where
  ex : ∃ (g : Addr) (pg : Arguments) (bg : List Stmt) (sg : Scope) (dV kV doc pm cdv ct oc : Value) (an od : Option Addr) (osl : Array (Option Value)) (Ng : List Str) (a : Str),
    c.mg x = some (.ref g) ∧ PySem.W.keepIn c.K (.ref g) = true ∧ c.K.lookup g = some ⟨oc, od, .func (PySem.W.fnOf x x pg bg sg dV kV doc pm an cdv ct), osl⟩ ∧ PySem.W.codeIn c.K cdv x = true ∧ L2.Binds c.K (PySem.W.fnOf x x pg bg sg dV kV doc pm an cdv ct) [a] [] ∧
    FnScope Ng [a] sg ∧ Ng[0]? = some a ∧ Vis sg a ∧ (a == ("__debug__" : Str)) = false ∧ (a == ("__classdict__" : Str)) = false ∧ ∀ X : Cx, X.c = c → X.base = base → ∀ q, GivesTo X Ng x sg g cdv bg a q (TTerr c.mg hs)
section
variable {X : Cx}
def tErrV (P : Addr) (q : Str) (mg : Str → Option Value) (hs : Hds) (t : XK → TE) : TE := fun σ H Q => ∃ ps, H P = some (.tbl ps) ∧ TriplesOk ps.toList ∧ (∀ (pos : Pos) (cv : Value), codeAmong pos ps.toList = some cv → ∃ c, cv = .ref c ∧ H c = some (CodeO c q)) ∧
  ∀ (c' : Addr) (H1 : Hp), (H1 = H ∨ (H c' = none ∧ ∃ pos : Pos, H1 = upd (upd H P (.tbl (ps ++ #[rawInt pos.line, rawInt pos.col, .ref c']))) c' (CodeO c' q))) → t (wHs mg hs Q) σ H1 fun _ H' => Q (.str "") H'
theorem pe_err {d : Option (Str × Pos × Pos × Nat)} {x : Str} {hs : Hds} {c P : Addr} {k : Nat} {body : Expr} {scope : Scope} {t : XK → TE} {p lpos pos : Pos} (D : ErrD X.c X.base x hs) (hg : Gl X x) (dOk : lamOk d) (TB : TabB X.base X.mg c P) (hcode : X.env.code = .ref c) (hr : Room (k + 2) X.A) (L : LamSD X.N X.env.scope scope (lamB d))
    (hbody : ∀ (A : Around) (outer : List Env) (s : Shared) (H : Hp) (E : XK) (f c' : Addr), Room k (A.deeper (lamEnv X scope s.heap.objs.size f c')) → PE (lamCx X A outer s H E scope f c') body (t E)) (hdb : (x == ("__debug__" : Str)) = false := by decide) :
    PE X (.Call (.Name x p) [.Lambda (lamA d) body scope lpos] [] pos) (tErrV P (X.env.qual ++ "<lambda>") X.mg hs t) := by
  obtain ⟨g, pg, bg, sg, dV, kV, doc, pm, cdv, ct, oc, an, od, osl, Ng, a, hm, hk, lk, hcg, hb, Sg, hNg, hva, hd, hcd, hG⟩ := D.ex
  refine ⟨fun pins s σ H Q I h => ?_⟩
  obtain ⟨ps, hP, ht, ha, h⟩ := h
  refine wpAny_Call_Name_kw (ld_glob I hg hm ?_ hdb)
  refine PySem.W.callWith_K (h₀ := X.base) I.ok.mod.kin hk ?_ (by rfl) (by rfl)
  show wpAny _ _ (spliced ((false, eval (.Lambda (lamA d) body scope lpos) X.env) :: backTo pos (starEach [] X.env))) _ _ s
  refine Calls.spliced_cons (lam_made dOk I TB hcode hP ht ha (L.has I.ok) fun f c' dV' doc' pm' ctv H1 s' bs hbs I1 hH hf hfn hfr hco hbind => ?_)
  refine Calls.spliced_nil ⟨I1.kIn, ?_⟩
  have L' : LamSD X.N X.env.scope scope (bs.map (·.1)) := by rw [hbs]; exact L
  have rc : codeAny (model X.prog X.w) X.A (.call (.ref g) ⟨[.ref f], []⟩) (CR C8.CX0 X.stack X.prog X.w H1 s' Q C8.E0) s' := by
    refine run_ofS (N := Ng) (ps := [a]) (us := [.ref f]) (vs := [.ref f]) lk hcg Sg hr I1.env0 (hb s' [.ref f] I1.kIn rfl) (.cons rfl .nil) rfl fun hr' => ?_
    obtain ⟨t', ht', hq'⟩ := hG X rfl rfl (X.env.qual ++ "<lambda>") f c' s' H1 Q (fun E H' Q' => t E σ H' Q') (fun W pn xe E p1 p2 tk hW => pe_actD (i := 0) I1 L' hf hfn hfr hbind tk hW hr' (fun A outer s H hr2 => hbody A outer s H E f c' hr2) hNg hva hd hcd) hco (h c' H1 (hH.imp id fun z => ⟨z.1, lpos, z.2⟩))
    exact ⟨t', ht'.nox, hq'⟩
  refine wpAny_call (codeAny_mono rc fun r s2 hq => ?_)
  cases r with
  | error e => exact (show False from hq).elim
  | ok fl =>
    cases fl with
    | ret u => exact I1.after hq
    | next => exact False.elim hq
    | brk => exact False.elim hq
    | cont => exact False.elim hq
end
end LamD
namespace L2.Lmp
open PySem PySem.Spec PyProof.Rows LamX LamD
variable {R : Addr → Prop} {c : Cc} {h h' h1 h2 : DH} {H H' H1 H2 : Hp} {W : WX} {X : Cx}
/-- _law_error(lambda: body) -/
def mErr (P : Addr) (q : Str) (hs : Hds) (mb : DM) : DM := fun e h _ Q => h P = some (.tbl q) ∧ mb e h (hdE hs Q) fun _ h' => Q (.str "") h'
abbrev WEr (E : XK) : WX := fun cls d _ H => E cls d H
theorem tbl_ext {P c' : Addr} {q : Str} {ps : Array Value} {pos : Pos} (rs : RS c R h H) (hP : h P = some (.tbl q)) (hc : H c' = none) (eP : H P = some (.tbl ps)) (tr : TriplesOk ps.toList)
    (al : ∀ (pos : Pos) (cv : Value), codeAmong pos ps.toList = some cv → ∃ c, cv = .ref c ∧ Free R h c ∧ H c = some (CodeO c q)) :
    Ext R h H h (upd (upd H P (.tbl (ps ++ #[rawInt pos.line, rawInt pos.col, .ref c']))) c' (CodeO c' q)) ∧ RS c R h (upd (upd H P (.tbl (ps ++ #[rawInt pos.line, rawInt pos.col, .ref c']))) c' (CodeO c' q)) := by
  have nPc : P ≠ c' := ne_of_none eP hc
  have at_ : ∀ b, b ≠ P → b ≠ c' → upd (upd H P (.tbl (ps ++ #[rawInt pos.line, rawInt pos.col, .ref c']))) c' (CodeO c' q) b = H b := fun b x y => by rw [upd_ne y, upd_ne x]
  have x1 : Ext R h H h (upd (upd H P (.tbl (ps ++ #[rawInt pos.line, rawInt pos.col, .ref c']))) c' (CodeO c' q)) := .mk' (fun b o f e _ => ⟨by
    rw [at_ b (fun z => by rw [z] at f; rw [f.1] at hP; cases hP) (ne_of_none e hc)]; exact e, f⟩) (fun b z => by
    obtain ⟨n, u, e⟩ := rs.rs b z
    exact at_ b (fun y => by rw [y, hP] at n; cases n) (ne_of_none e hc))
  refine ⟨x1, ⟨fun b o e => ?_, fun b z => ?_⟩⟩
  · by_cases hb : b = P
    · subst hb
      rw [hP] at e
      cases e
      refine ⟨_, by rw [upd_ne nPc, upd_same], ?_, fun p' cv hcv => ?_⟩
      · have eL : (ps ++ #[rawInt pos.line, rawInt pos.col, .ref c']).toList = ps.toList ++ [rawInt pos.line, rawInt pos.col, .ref c'] := by simp
        rw [eL]
        exact PySem.TriplesOk_snoc _ _ _ _ tr
      · have eL : (ps ++ #[rawInt pos.line, rawInt pos.col, .ref c']).toList = ps.toList ++ [rawInt pos.line, rawInt pos.col, .ref c'] := by simp
        rw [eL] at hcv
        rcases among_app _ tr hcv with z | z
        · obtain ⟨c0, e1, f, e2⟩ := al p' cv z
          refine ⟨c0, e1, f, ?_⟩
          rw [at_ c0 (fun y => by rw [y, eP] at e2; exact codeO_ne _ (Option.some.inj e2).symm) (ne_of_none e2 hc)]
          exact e2
        · exact ⟨c', z, rs.free hc, upd_same⟩
    · obtain ⟨u, z⟩ := (rs.ob b o e).some
      exact (rs.ob b o e).ext x1 (at_ b hb (ne_of_none z hc))
  · obtain ⟨n, u, e⟩ := rs.rs b z
    exact ⟨n, u, by rw [x1.res b z]; exact e⟩
theorem de_err {d : Option (Str × Pos × Pos × Nat)} {x q : Str} {hs : Hds} {cd P : Addr} {k : Nat} {body : Expr} {scope : Scope} {mb : DM} {p lpos pos : Pos} (D : ErrD X.c X.base x hs) (hg : Gl X x) (dOk : lamOk d) (TB : TabB X.base X.mg cd P) (hcode : X.env.code = .ref cd) (hr : Room (k + 2) X.A) (L : LamSD X.N X.env.scope scope (lamB d)) (hq : X.env.qual ++ "<lambda>" = q)
    (hbody : ∀ (A : Around) (outer : List Env) (s : Shared) (H : Hp) (E : XK) (f c' : Addr), Room k (A.deeper (lamEnv X scope s.heap.objs.size f c')) → DE (lamCx X A outer s H E scope f c') (WEr E) body mb) (hdb : (x == ("__debug__" : Str)) = false := by decide) :
    DE X W (.Call (.Name x p) [.Lambda (lamA d) body scope lpos] [] pos) (mErr P q hs mb) := by
  refine (pe_err (t := fun E => tD X.c (WEr E) mb) D hg dOk TB hcode hr L hbody hdb).wk fun σ H Q ⟨R, env, h, Pk, EP, r⟩ => ?_
  rw [hq]
  obtain ⟨hP, run⟩ := r.run
  obtain ⟨ps, e1, tr, al⟩ := r.rs.ob P _ hP
  refine ⟨ps, e1, tr, fun pos cv k => let ⟨c, z, _, y⟩ := al pos cv k; ⟨c, z, y⟩, fun c' H1 hH => ?_⟩
  have key : Ext R h H h H1 ∧ RS X.c R h H1 := by
    rcases hH with rfl | ⟨hc, pos, rfl⟩
    · exact ⟨.refl, r.rs⟩
    · exact tbl_ext r.rs hP hc e1 tr al
  obtain ⟨x1, rs1⟩ := key
  exact ⟨R, env, h, (fun _ h' => Pk (.str "") h'), hdE hs Pk, rs1, r.re.ext x1, run, fun d h' v H' pd e rs rv => r.fin (.str "") h' (.str "") H' pd (x1.trans e) rs (.str _),
    fun y h' cls od H' pe e rs rx => wHs_of (fun d h' v H' pd e rs rv => r.fin d h' v H' pd e rs rv) pe (x1.trans e) rs rx⟩
end L2.Lmp

set_option maxHeartbeats 2000000
namespace L2.Lmp
open PySem PySem.Spec PyProof.Rows LamX LamD
variable {R : Addr → Prop} {c : Cc} {h h' h1 h2 : DH} {H H' H1 H2 : Hp} {W : WX} {X : Cx}
theorem tk_lam {A : Around} {outer : List Env} {s : Shared} {H : Hp} {E : XK} {scope : Scope} {f c' : Addr} : Takes (lamCx X A outer s H E scope f c') (WEr E) := takes_of rfl rfl rfl rfl
/-- the defs that a name may hold -/
abbrev FTab := List (Str × Nat × Fn)
def mCallV (T : FTab) (i : Nat) (da : DA) : DM := fun e h E Q => ∃ x n F, slot e i = some (.fn x) ∧ T.lookup x = some (n, F) ∧ da e h E fun ds h1 => ds.length = n ∧ F ds h1 E Q
section
variable {a : Expr} {es : List Expr} {da : DA} {pos pp : Pos} {x : Str} {k i : Nat} {T : FTab}
end
end L2.Lmp

set_option maxHeartbeats 4000000
namespace L2.Lmp
open PySem PySem.Spec PyProof.Rows LamX LamD
variable {c : Cc}
/-! ### the end of a law that makes lambdas -/
theorem fn_okC {P : Program} {w : World} {K : PySem.W.Frag} {mg : Str → Option Value} {base : Heap} {x qual : Str} {st : Stmt} {f : Addr} {N ps : List Str} {k n : Nat} {body : DS} {kV doc pm cdv ct oc : Value} {an od : Option Addr} {osl : Array (Option Value)}
    (lk : K.lookup f = some ⟨oc, od, .func (PySem.W.fnOf x qual (defArgs st) (defBody st) (defScope st) .none kV doc pm an cdv ct), osl⟩) (hcd : PySem.W.codeIn K cdv qual = true) (S : FnScope N ps (defScope st)) (hn : ps.length = n)
    (hb : ∀ (A : Around) (outer : List Env) (s : Shared) (H : Hp) (E : XK), Room k (A.deeper (envOfC qual (defScope st) s.heap.objs.size f cdv)) →
      DSs (cxOf (L2.CX P w) P w K mg base N qual (defScope st) f cdv A outer s H E) (fun cls d _ H => E cls d H) (defBody st) body) :
    FnOk P w K mg base (L2.CX P w) (k + 1) f (PySem.W.fnOf x qual (defArgs st) (defBody st) (defScope st) .none kV doc pm an cdv ct) ps (spD ⟨P, w, K, mg⟩ n (mkFn N.length body)) := by
  refine fn_of lk hcd S (fun vs H Q E h => h.1.trans hn.symm) fun A outer s H vs Q E hr ⟨hl, R, h, ds, P', EP, rs, rv, run, fin, exc⟩ => ⟨_, hb A outer s H E hr, R, _, h, _, EP, rs, ⟨?_, fun i d q => ?_⟩, run, fun e h' σ' H' q x rs' _ => ?_, fun d h' v H' q x rs' rv' => ?_, fun _ _ _ _ z => z.elim, fun _ _ _ _ z => z.elim, fun y h' cls od H' σ' a b d e => exc y h' cls od H' a b d e⟩
  · unfold start
    simp [rv.length]
  · unfold start
    by_cases hi : i < ds.length
    · rw [List.getElem?_append_left (by simpa using hi), List.getElem?_map] at q
      cases z : ds[i]? with
      | none => rw [z] at q; cases q
      | some d' =>
        rw [z] at q
        cases q
        obtain ⟨v, e, r⟩ := rv.get z
        exact ⟨v, by rw [List.getElem?_append_left (by simpa [rv.length] using hi), List.getElem?_map, e]; rfl, r⟩
    · rw [List.getElem?_append_right (by simpa using hi), List.getElem?_replicate] at q
      split at q <;> cases q
  · obtain ⟨d2, h2, a, b, e, r⟩ := q.use x rs' .non
    exact fin d2 h2 .non H' a b e r
  · obtain ⟨d2, h2, a, b, e, r⟩ := q.use x rs' rv'
    exact fin d2 h2 v H' a b e r
/-- what a law with lambdas is asked: its code's table stands at T, empty -/
def spLawT (K : PySem.W.Frag) (T : Addr) : Sp := fun vs H Q E => ∃ (a : Addr) (ns : List Int), vs = [.ref a] ∧ SqL K H a (ns.map V.int) ∧ ns.length ≤ 63 ∧ H T = some (.tbl #[]) ∧ ∀ H', Q (.bl true) H'
theorem law_ofT {base : Heap} {k : Nat} {f T : Addr} {fd : FuncData} {ps : List Str} {F : Fn} {q : Str} (G : FnOk c.P c.w c.K c.mg base (L2.CX c.P c.w) k f fd ps (spD c 1 F)) (h : ∀ (ns : List Int) (h : DH) (E : EK) (Q : DK), ns.length ≤ 63 → h T = some (.tbl q) → (∀ h', Q (.bl true) h') → F [.scr ns] h E Q) :
    FnOk c.P c.w c.K c.mg base (L2.CX c.P c.w) k f fd ps (spLawT c.K T) := G.imp fun vs H Q E ⟨a, ns, e, s, l, t, q'⟩ => by
  subst e
  have ob : ∀ b o, upO (fun _ => none) T (.tbl q) b = some o → RO c (fun _ => False) (upO (fun _ => none) T (.tbl q)) H b o := fun b o z => by
    by_cases hb : b = T
    · subst hb
      rw [upO_same] at z
      cases z
      refine ⟨#[], t, True.intro, fun pos cv hc => ?_⟩
      have z : codeAmong pos [] = some cv := hc
      simp [codeAmong] at z
    · rw [upO_ne hb] at z
      exact nomatch z
  have rs : RS c (fun _ => False) (upO (fun _ => none) T (.tbl q)) H := ⟨ob, fun _ z => False.elim z⟩
  refine ⟨rfl, fun _ => False, upO (fun _ => none) T (.tbl q), [.scr ns], fun d _ => d = .bl true, fun _ _ => False, rs, .cons ?_ .nil, h ns _ _ _ l upO_same fun _ => rfl, fun d h' v H' e _ _ rv => ?_, fun _ _ _ _ _ z => False.elim z⟩
  · rcases s with s | ⟨o, its, n, a1, a2, a3, a4, a5, a6⟩
    · refine .scrR ⟨upO_ne fun z => ?_, id⟩ s
      rw [z] at s
      rcases s with s | ⟨u, s⟩
      · rw [t] at s; cases s
      · rw [t] at s; cases s
    · exact .scrK a1 a2 a3 a4 a5 a6
  · subst e
    cases rv
    exact q' _
theorem walk_ofT2 {l : PySem.W.OpenLaw} {n k : Nat} {q : Program} {loose : List Str} {XP : (Str → Option Value) → Heap → Prop} {YP : World → Heap → Prop} {d : DefRec} {K : Params → PySem.W.Frag} {CX : World → CXT} {x : Str}
    (hn : l.most = some n) (hn2 : n ≤ sizeLine) (hdf : d.params.defaults = []) (hr : Room k callerA) (hY : ∀ (w : World) (h : Heap), YP w h → (K w.params).In h)
    (F : ∀ (w : World) (mg mb : Str → Option Value) (fa : Addr) (h : Heap) (lo : List Str) (me : ExcName → Option Value), (K w.params).In h → Top q lo me mg mb h → mg d.name = some (.ref fa) → LawAtS l w (K w.params) (CX w) k n x mg fa h)
    (hCX : ∀ (w : World) (H : Hp) (s : Shared) (e : Value) (s' : Shared), CX w [] H s (fun _ _ _ => False) e s' → False) :
    PySem.W.WalkO q loose XP YP l.row.toRowW d [] (fun f vs => PySem.call f vs) := by
  refine Att.attach_callB hn hdf fun w s₀ s₁ mg mb fa o pm cd doc a vs ns G Y ho hd hcd hmg hobj hints hlen hbits hg => ?_
  have KX := hY w _ Y
  obtain ⟨fd, cs, sp, hT, nT, C, hb, hsp, hF⟩ := F w mg mb fa _ _ _ KX G.T hmg
  exact law_callTs KX G.T.g G.T.b G.T.builtins G.T.nolimit hg hT nT C G.T.bmain hobj hints (Nat.le_trans hlen hn2) hr hF hb (fun H hH hS => hsp H a ns hlen hbits hH hS) fun H e s' => hCX w H s₁ e s'
theorem no_tab {K : PySem.W.Frag} {h : Heap} {P : Addr} (X : K.In h) (nt : PySem.W.noTabs K = true) (hP : h.get? P = some (PySem.W.tabObj #[])) : K.lookup P = none := by
  cases e : K.lookup P with
  | none => rfl
  | some o =>
    have z := X _ _ e
    rw [hP] at z
    cases z
    have h2 := List.all_eq_true.mp nt (P, _) (PySem.W.mem_of_lookupK e)
    cases h2
end L2.Lmp

set_option maxHeartbeats 2000000
namespace L2.Lmp
open PySem PySem.Spec PyProof.Rows LamX LamD
/-! ### facts of the written part, put together -/
theorem kit_ve {K : PySem.W.Frag} {C : Addr} (h : PySem.W.subIn K (.ref C) (.type "ValueError") = some true) : PySem.W.kitOne K (.ref C) (.type "ValueError") = some true := by
  have hm : PySem.W.kitMeta "ValueError" = true := by decide +kernel
  have e : PySem.W.kitCls K (.ref C) (.type "ValueError") = some true := by
    show (if PySem.W.kitMeta "ValueError" = true then PySem.W.subIn K (.ref C) (.type "ValueError") else none) = some true
    rw [if_pos hm, h]
  unfold PySem.W.kitOne
  split
  · rfl
  · exact e
/-- an own class without an own __init__ -/
theorem xc0_mk {K : PySem.W.Frag} {mg : Str → Option Value} {x : Str} {C : Addr} (gC : mg x = some (.ref C)) (e : PySem.W.excIn K C [.type "ValueError", .type "Exception", .type "BaseException", .type "object"] "ValueError.__new__" = true) (kC : PySem.W.keepIn K (.ref C) = true)
    (sB : PySem.W.subIn K (.ref C) (.type "BaseException") = some true) (tC : PySem.W.typeIn K (.ref C) = some (.type "type")) : Xc0 K mg x C := ⟨gC, ⟨_, _, _, _, F.excBase_ValueError, e⟩, kC, sB, tC⟩
theorem exm_self {K : PySem.W.Frag} {C : Addr} (h1 : PySem.W.subIn K (.ref C) (.type "BaseException") = some true) (hd : PySem.W.hasDictIn K C = true) (t : PySem.W.typeIn K (.ref C) = some (.type "type")) (s : PySem.W.subIn K (.ref C) (.ref C) = some true) : PySem.W.exmOne K (.ref C) (.ref C) = some true := PySem.W.exm_ref h1 hd t s
/-- the classes told apart, by pairs -/
def ExPairs (K : PySem.W.Frag) (cs : List (Str × Addr)) : Prop := ∀ p ∈ cs, ∀ q ∈ cs, PySem.W.exmOne K (.ref p.2) (.ref q.2) = some (p.1 == q.1)
theorem ext_of {K : PySem.W.Frag} {mg : Str → Option Value} {cs : List (Str × Addr)} (g : ∀ p ∈ cs, mg p.1 = some (.ref p.2)) (h : ExPairs K cs) : ExT K mg (cs.map (·.1)) := fun x mx y my C D hC hD => by
  obtain ⟨p, mp, rfl⟩ := List.mem_map.mp mx
  obtain ⟨q, mq, rfl⟩ := List.mem_map.mp my
  have e1 := (g p mp).symm.trans hC
  have e2 := (g q mq).symm.trans hD
  cases e1
  cases e2
  exact h p mp q mq
theorem lawT_mk {l : PySem.W.OpenLaw} {w : World} {K : PySem.W.Frag} {q : Program} {mg mb : Str → Option Value} {fa : Addr} {h : Heap} {lo : List Str} {me : ExcName → Option Value} {k : Nat} {d : DefRec} (X : K.In h) (T : Top q lo me mg mb h)
    (hr : (recsOf q).find? (fun e => e.name == PySem.Str.ofString "law") = some d) (hs : (PySem.W.tabIn K "law").isSome = true) (nt : PySem.W.noTabs K = true)
    (F : ∀ c0 P0, PySem.W.tabIn K "law" = some (c0, P0) → ∃ fd : FuncData, (∀ (s : Shared) (v : Value), BindsTo s fd ⟨[v], []⟩ [("_law_script", v)]) ∧ ∀ base : Heap, TabB base mg c0 P0 → FnOk l.prog w K mg base (L2.CX l.prog w) k fa fd ["_law_script"] (spLawT K P0)) :
    LawAtS l w K (L2.CX l.prog w) k 63 "_law_script" mg fa h := by
  obtain ⟨⟨c0, P0⟩, ht⟩ := Option.isSome_iff_exists.mp hs
  obtain ⟨fd, hb, hF⟩ := F c0 P0 ht
  obtain ⟨C, hP⟩ := PySem.W.tab_of T X hr ht
  refine ⟨fd, [(c0, P0)], spLawT K P0, fun p hp => ?_, fun p hp => ?_, fun p hp => ?_, hb, fun H a ns hl _ hT hS => ⟨a, ns, rfl, hS, hl, hT (c0, P0) (List.mem_singleton.mpr rfl), fun _ => rfl⟩, fun base _ _ hTB => hF base (hTB (c0, P0) (List.mem_singleton.mpr rfl))⟩
  · rw [List.mem_singleton.mp hp]; exact hP
  · rw [List.mem_singleton.mp hp]; exact no_tab X nt hP
  · rw [List.mem_singleton.mp hp]; exact C
theorem hds_mem {p : Str} {r : Option Str} : ∀ {hs : Hds}, hs.lookup p = some r → p ∈ hs.map (·.1)
  | [], e => by cases e
  | (x, y) :: t, e => by
    rw [lookup_cons] at e
    by_cases b : (p == x) = true
    · rw [eq_of_beq b]; exact List.mem_cons_self
    · rw [if_neg b] at e
      exact List.mem_cons_of_mem _ (hds_mem e)
end L2.Lmp

set_option maxHeartbeats 2000000
namespace L2.Lmp
open PySem PySem.Spec PyProof.Rows
variable {R : Addr → Prop} {c : Cc} {h h' h1 h2 : DH} {H H' H1 H2 : Hp} {W : WX} {X : Cx}
/-! ### any, all of a list or tuple of whole numbers -/
theorem ints_inj : ∀ {ns ms : List Int}, ns.map D.int = ms.map D.int → ns = ms
  | [], [], _ => rfl
  | n :: ns, m :: ms, e => by
    obtain ⟨e1, e2⟩ := List.cons.inj e
    cases e1
    rw [ints_inj e2]
  | [], _ :: _, e => nomatch e
  | _ :: _, [], e => nomatch e
end L2.Lmp

set_option maxHeartbeats 2000000
namespace L2.Lmp
open PySem PySem.Spec PyProof.Rows
variable {X : Cx} {W : WX} {a b : Expr} {ma mb : DM} {rest : List Expr} {pos : Pos}
/-! ### or, and as values, by truth -/
def mAndT (a b : DM) : DM := fun e h E Q => a e h E fun x h1 => truP h1 x fun k => if k = true then b e h1 E Q else Q x h1
def mOrT (a b : DM) : DM := fun e h E Q => a e h E fun x h1 => truP h1 x fun k => if k = true then Q x h1 else b e h1 E Q
theorem e_mAndT {a b : DM} {e : En} {h : DH} {E : EK} {Q : DK} : mAndT a b e h E Q = (a e h E fun x h1 => truP h1 x fun k => if k = true then b e h1 E Q else Q x h1) := id rfl
theorem e_mOrT {a b : DM} {e : En} {h : DH} {E : EK} {Q : DK} : mOrT a b e h E Q = (a e h E fun x h1 => truP h1 x fun k => if k = true then Q x h1 else b e h1 E Q) := id rfl
theorem truP_lc {h : DH} {x : D} {xs : List D} {Q : Bool → Prop} : truP h (.lst (x :: xs)) Q = Q true := id rfl
end L2.Lmp

set_option maxHeartbeats 2000000
namespace L2.Lmp
open PySem PySem.Spec PyProof.Rows
variable {R : Addr → Prop} {c : Cc} {h h' h1 h2 : DH} {H H' H1 H2 : Hp}
/-! ### xs[::-1] of a list -/
section
variable {X : Cx} {W : WX} {e st : Expr} {te ts : TE} {pos p2 : Pos}
end
def revP : DH → D → (D → Prop) → Prop := fun h x Q => match rs h x with
  | .lst xs => Q (.lst xs.reverse)
  | _ => False
def mRev (m ms : DM) : DM := fun e h E Q => m e h E fun x h1 => ms e h1 E fun s h2 => s = .int (-1) ∧ revP h2 x fun z => Q z h2
theorem e_mRev {m ms : DM} {e : En} {h : DH} {E : EK} {Q : DK} : mRev m ms e h E Q = (m e h E fun x h1 => ms e h1 E fun s h2 => s = .int (-1) ∧ revP h2 x fun z => Q z h2) := id rfl
theorem revP_l {xs : List D} {Q : D → Prop} : revP h (.lst xs) Q = Q (.lst xs.reverse) := id rfl
end L2.Lmp

set_option maxHeartbeats 2000000
namespace L2.Lmp
open PySem PySem.Spec PyProof.Rows
variable {R : Addr → Prop} {c : Cc} {h h' h1 h2 : DH} {H H' H1 H2 : Hp}
/-! ### own classes: facts -/
structure ClsT (c : Cc) (x : Str) (C : Addr) : Prop where
  mg : c.mg x = some (.ref C)
  cl : L2.Cls c.K C
/-- a def that stands at f (a method's) -/
def DefA (c : Cc) (base : Heap) (k : Nat) (f : Addr) (n : Nat) (F : Fn) : Prop :=
  ∃ fd ps, FnOk c.P c.w c.K c.mg base (L2.CX c.P c.w) k f fd ps (spD c n F) ∧ Binds c.K fd ps []
theorem DefA.mono {base : Heap} {j k : Nat} {f : Addr} {n : Nat} {F : Fn} (d : DefA c base j f n F) (l : j ≤ k) : DefA c base k f n F := by
  obtain ⟨fd, ps, a, b⟩ := d
  exact ⟨fd, ps, a.mono l, b⟩
/-! ### fields -/
def putFD (f : Str) (v : D) : List (Str × D) → List (Str × D)
  | [] => [(f, v)]
  | (g, x) :: r => if g = f then (g, v) :: r else (g, x) :: putFD f v r
theorem RF.look : ∀ {vs : List (Str × V)} {ds : List (Str × D)}, RF c R h H vs ds → ∀ {f : Str} {d : D}, ds.lookup f = some d → ∃ v, vs.lookup f = some v ∧ RV c R h H v d
  | _, _, .nil, f, d, e => by cases e
  | _, _, .cons (x := x) a b, f, d, e => by
    rw [List.lookup_cons] at e ⊢
    cases q : (f == x) with
    | true => rw [q] at e; cases e; exact ⟨_, rfl, a⟩
    | false => rw [q] at e; exact RF.look b e
theorem RF.look0 : ∀ {vs : List (Str × V)} {ds : List (Str × D)}, RF c R h H vs ds → ∀ {f : Str}, ds.lookup f = none → vs.lookup f = none
  | _, _, .nil, f, e => rfl
  | _, _, .cons (x := x) a b, f, e => by
    rw [List.lookup_cons] at e ⊢
    cases q : (f == x) with
    | true => rw [q] at e; cases e
    | false => rw [q] at e; exact RF.look0 b e
theorem RF.put {f : Str} {v : V} {d : D} (rv : RV c R h H v d) : ∀ {vs : List (Str × V)} {ds : List (Str × D)}, RF c R h H vs ds → RF c R h H (putF f v vs) (putFD f d ds)
  | _, _, .nil => .cons rv .nil
  | _, _, .cons (x := x) a b => by
    unfold putF putFD
    by_cases q : x = f
    · rw [if_pos q, if_pos q]; exact .cons rv b
    · rw [if_neg q, if_neg q]; exact .cons a (b.put rv)
theorem RF.length : ∀ {vs : List (Str × V)} {ds : List (Str × D)}, RF c R h H vs ds → vs.length = ds.length
  | _, _, .nil => rfl
  | _, _, .cons _ b => congrArg (· + 1) b.length
/-- the instance at x, of the class cl -/
def insAt (h : DH) (cl : Str) (x : D) (Q : Addr → List (Str × D) → Prop) : Prop := match x with
  | .ref a => match h a with
    | some (.ins c fs) => c = cl ∧ Q a fs
    | _ => False
  | _ => False
theorem insAt_elim {cl : Str} {x : D} {Q : Addr → List (Str × D) → Prop} (q : insAt h cl x Q) : ∃ a fs, x = .ref a ∧ h a = some (.ins cl fs) ∧ Q a fs := by
  unfold insAt at q
  split at q
  · split at q
    · rename_i e
      obtain ⟨rfl, q⟩ := q
      exact ⟨_, _, rfl, e, q⟩
    · exact q.elim
  · exact q.elim
theorem insAt_r {cl : Str} {a : Addr} {fs : List (Str × D)} {Q : Addr → List (Str × D) → Prop} (e : h a = some (.ins cl fs)) : insAt h cl (.ref a) Q = Q a fs := by
  simp only [insAt, e, true_and]
def mFld (cl : Str) (m : DM) (f : Str) : DM := fun e h E Q => m e h E fun x h1 => insAt h1 cl x fun _ fs => Oc (fs.lookup f) fun d => Q d h1
def sFldD (cl : Str) (mo : DM) (f : Str) (mv : DM) : DS := fun e h E D => mv e h E fun y h1 => mo e h1 E fun x h2 => insAt h2 cl x fun a fs => fs.length < 1000 ∧ D.nx e (upO h2 a (.ins cl (putFD f y fs)))
def mMeth (cl m : Str) (n : Nat) (F : Fn) (mo : DM) (da : DA) : DM := fun e h E Q => mo e h E fun x h1 => insAt h1 cl x fun _ fs => fs.lookup m = none ∧ da e h1 E fun ds h2 => ds.length + 1 = n ∧ F (x :: ds) h2 E Q
def mMake (cl : Str) (n : Nat) (F : Fn) (da : DA) : DM := fun e h E Q => da e h E fun ds h1 => ds.length + 1 = n ∧ ∀ r, h1 r = none → F (.ref r :: ds) (upO h1 r (.ins cl [])) E fun d h2 => d = .non ∧ Q (.ref r) h2
section
variable {X : Cx} {W : WX} {cl : Str} {C : Addr} {o a : Expr} {mo mv : DM} {da : DA} {f m : Str} {pos pos' apos pp : Pos} {k n : Nat} {F : Fn} {es : List Expr} {fa : Addr} {x : Str}
theorem ins_of (T : ClsT c cl C) (rs : RS c R h H) {v : V} {x : D} (rv : RV c R h H v x) {a : Addr} {fs : List (Str × D)} (ex : x = .ref a) (ea : h a = some (.ins cl fs)) : ∃ dx vs, v = .ref a ∧ H a = some (.ins C dx vs) ∧ RF c R h H vs fs := by
  subst ex
  cases rv
  obtain ⟨C', dx, vs, mg, e, rf⟩ := rs.ob _ _ ea
  rw [T.mg] at mg
  cases mg
  exact ⟨dx, vs, rfl, e, rf⟩
theorem de_fld (T : ClsT X.c cl C) (n : L2.NoAttr X.K C f) (ha : DE X W o mo) (hb : attributeBase o f X.env (eval o X.env) = eval o X.env := by rfl) : DE X W (.Attribute o f pos) (mFld cl mo f) := (pe_fld ha hb).wk fun σ H Q ⟨R, env, h, P, EP, r⟩ =>
  ⟨R, env, h, _, EP, r.rs, r.re, r.run, fun x h1 v H1 q e rs rv => by
    obtain ⟨a, fs, ex, ea, q⟩ := insAt_elim q
    obtain ⟨dx, vs, ev, eH, rf⟩ := ins_of T rs rv ex ea
    obtain ⟨d, ed, q⟩ := Oc_elim q
    obtain ⟨u, eu, ru⟩ := rf.look ed
    exact ⟨a, C, dx, vs, u, ev, eH, T.cl, n, eu, r.fin d h1 u H1 q e rs ru⟩, r.exc⟩
theorem ds_fld (T : ClsT X.c cl C) (n : L2.NoAttr X.K C f) (ha : DE X W o mo) (hv : DE X W a mv) (hs : swapsWith a (some (.Attribute o f pos')) pos.line X.env = pure false := by rfl) : DSt X W (.Assign [.Attribute o f pos'] a pos) (sFldD cl mo f mv) := (ps_fld ha hv hs).wk fun D σ H ⟨R, env, h, P, EP, r⟩ =>
  ⟨R, env, h, _, EP, r.rs, r.re, r.run, fun y h1 u H1 q e rs ru => ⟨R, env, h1, _, EP, rs, r.re.ext e, q, fun x h2 v H2 q2 e2 rs2 rv => by
    obtain ⟨b, fs, ex, ea, l, q2⟩ := insAt_elim q2
    obtain ⟨dx, vs, ev, eH, rf⟩ := ins_of T rs2 rv ex ea
    have ru2 := ru.ext e2
    have ee : Ext R h2 H2 (upO h2 b (.ins cl (putFD f y fs))) (upd H2 b (.ins C dx (putF f u vs))) := Ext.setO rs2 ea
    exact ⟨b, C, dx, vs, ev, eH, T.cl, n, by rw [rf.length]; exact l, r.nx _ _ _ _ q2 (e.trans (e2.trans ee)) (rs2.setO ea ⟨C, dx, _, T.mg, upd_same, (rf.put ru2).ext ee⟩) ((r.re.ext (e.trans e2)).ext ee)⟩, r.exc.at.ext e⟩, r.exc.at⟩
/-! ### methods -/
def tMethS (C : Addr) (m : Str) (sp : Sp) (dvs : List V) (E : St → XK) (ta : TE) (t : TA) : TE := fun σ H Q => ta σ H fun x H1 => ∃ a dx fs, x = .ref a ∧ H1 a = some (.ins C dx fs) ∧ fs.lookup m = none ∧
  t σ H1 fun vs H2 => sp (x :: (vs ++ dvs)) H2 Q (E σ)
theorem pe_methS {CX : CXT} {fd : FuncData} {ps : List Str} {sp : Sp} {dvs : List V} {ds : List Value} {E : St → XK} {ta : TE} {t : TA} {pl : Sem Bool} (he : PE X o ta) (c : L2.Cls X.K C) (hm : L2.Meth X.K C m fa) (F : FnOk X.prog X.w X.K X.mg X.base CX k fa fd ps sp) (hr : Room k X.A) (hb : Binds X.K fd ps ds) (hd : Vals dvs ds) (hx : ∀ σ, PassesAt CX X σ (E σ)) (ha : PA X (a :: es) t)
    (hst : starEach (a :: es) X.env = (false, eval a X.env) :: starEach es X.env) (hpl : (backTo pos (starEach es X.env)).any (·.1) = false)
    (ht : eval (.Call (.Attribute o m apos) (a :: es) [] pos) X.env = (do
      let ov ← eval o X.env
      standAt apos.atName
      let (f, first) ← holding [ov] (getMethod ov m pl)
      callWith pos f first (backTo pos (starEach (a :: es) X.env)) (backToKw pos (keywordEach [] X.env)))) :
    PE X (.Call (.Attribute o m apos) (a :: es) [] pos) (tMethS C m sp dvs E ta t) := by
  refine ⟨fun pins s σ H Q I h => ?_⟩
  refine PySem.W.methodCall_KW (pl := pl) (thn (he.run pins s σ H _ I h) fun u s1 ⟨x, H1, I1, rx, a, dx, fs, ex, ea, l, q⟩ => ?_) ht
  subst ex
  obtain rfl : u = Value.ref a := rx
  refine getmeth_ok I1 ea c hm l ?_
  refine PySem.W.callWith_K (first := [.ref a]) (h₀ := X.base) I.ok.mod.kin hm.kp (thn (ha.run pos pins s1 σ H1 _ I1 q) fun us s2 ⟨vs, H2, I2, r, q2⟩ => ⟨I2.kIn, ?_⟩) hst hpl
  exact run_fnSD (us := .ref a :: us) (vs := .ref a :: vs) F hr hb hd (hx σ) I2 (.cons rfl r) q2
theorem de_meth {pl : Sem Bool} (T : ClsT X.c cl C) (M : L2.Meth X.K C m fa) (G : DefA X.c X.base k fa n F) (hr : Room k X.A) (tk : Takes X W) (ho : DE X W o mo) (ha : DAs X W (a :: es) da)
    (hst : starEach (a :: es) X.env = (false, eval a X.env) :: starEach es X.env := by rfl) (hpl : (backTo pos (starEach es X.env)).any (·.1) = false := by rfl)
    (ht : eval (.Call (.Attribute o m apos) (a :: es) [] pos) X.env = (do
      let ov ← eval o X.env
      standAt apos.atName
      let (f, first) ← holding [ov] (getMethod ov m pl)
      callWith pos f first (backTo pos (starEach (a :: es) X.env)) (backToKw pos (keywordEach [] X.env))) := by rfl) :
    DE X W (.Call (.Attribute o m apos) (a :: es) [] pos) (mMeth cl m n F mo da) := by
  obtain ⟨fd, ps, G, hb⟩ := G
  exact (pe_methS (dvs := []) ho T.cl M G hr hb .nil (fun σ => passAt tk σ) ha hst hpl ht).wk fun σ H Q ⟨R, env, h, P, EP, r⟩ =>
    ⟨R, env, h, _, EP, r.rs, r.re, r.run, fun x h1 v H1 q e rs rv => by
      obtain ⟨b, fs, ex, ea, l, q⟩ := insAt_elim q
      obtain ⟨dx, vs, ev, eH, rf⟩ := ins_of T rs rv ex ea
      refine ⟨b, dx, vs, ev, eH, rf.look0 l, R, env, h1, _, EP, rs, r.re.ext e, q, fun ds h2 us H2 ⟨z, q2⟩ e2 rs2 rus => ?_, r.exc.ext e⟩
      rw [List.append_nil]
      refine ⟨by rw [List.length_cons, rus.length]; exact z, R, h2, x :: ds, P, EP, rs2, .cons (rv.ext e2) rus, q2, fun d h' v H' pd e3 rs3 rv3 => r.fin d h' v H' pd (e.trans (e2.trans e3)) rs3 rv3, fun y h' cls od H' q3 e3 rs3 rx => r.exc y h' cls od H' q3 (e.trans (e2.trans e3)) rs3 rx⟩, r.exc⟩
end
end L2.Lmp

set_option maxHeartbeats 2000000
namespace L2.Lmp
open PySem PySem.Spec PyProof.Rows
variable {R : Addr → Prop} {c : Cc} {h h' h1 h2 : DH} {H H' H1 H2 : Hp}
variable {X : Cx} {W : WX} {cl : Str} {C : Addr} {a : Expr} {da : DA} {f : Addr} {x : Str} {pos pp : Pos} {k n : Nat} {F : Fn} {es : List Expr}
/-! ### C(..) -/
def tMakeS (C : Addr) (sp : Sp) (dvs : List V) (E : St → XK) (t : TA) : TE := fun σ H Q => t σ H fun vs H1 => ∀ x dx, H1 x = none → H1 dx = none → dx ≠ x →
  sp (.ref x :: (vs ++ dvs)) (upd (upd H1 dx (.own x)) x (.ins C dx [])) (fun v H2 => v = .non ∧ Q (.ref x) H2) (E σ)
section
variable {CX : CXT} {fd : FuncData} {ps : List Str} {sp : Sp} {dvs : List V} {ds : List Value} {E : St → XK} {t : TA}
theorem run_makeS {pins : List (Addr × Obj)} {σ : St} {H : Hp} {s : Shared} {Q : VK} {us : List Value} {vs : List V} (M : L2.Mk X.K C f) (F : FnOk X.prog X.w X.K X.mg X.base CX k f fd ps sp) (hr : Room (k + 1) X.A) (hb : Binds X.K fd ps ds) (hd : Vals dvs ds)
    (hx : PassesAt CX X σ (E σ)) (I : Inv X pins σ H s) (r : Vals vs us)
    (h : ∀ x dx, H x = none → H dx = none → dx ≠ x → sp (.ref x :: (vs ++ dvs)) (upd (upd H dx (.own x)) x (.ins C dx [])) (fun v H2 => v = .non ∧ Q (.ref x) H2) (E σ)) :
    wpAny (model X.prog X.w) X.A (call (.ref C) us) (EP X pins σ Q) X.xe s := by
  have hq := h (s.heap.objs.size + 1) s.heap.objs.size (I.hok.fresh (Nat.le_succ _)) (I.hok.fresh (Nat.le_refl _)) (Nat.ne_of_lt (Nat.lt_succ_self _))
  have I2 := Inv.made (C := C) I
  have r2 : Vals (V.ref (s.heap.objs.size + 1) :: (vs ++ dvs)) (Value.ref (s.heap.objs.size + 1) :: (us ++ ds)) := .cons rfl (r.append hd)
  have hl : (Value.ref (s.heap.objs.size + 1) :: us ++ ds).length = ps.length := by
    have e := r2.length
    rw [F.len _ _ _ _ hq] at e
    exact e.symm
  refine wpAny_call (make_map (f := f) I.kIn M.makes M.init (beq_iff_eq.mp M.fn) (codeAny_mono (F.run _ X.stack _ _ ⟨Value.ref (s.heap.objs.size + 1) :: us, []⟩ (Value.ref (s.heap.objs.size + 1) :: (us ++ ds)) _ _ (E σ) (hr.make C us [])
    (I2.env0.make C us []) (hb _ (Value.ref (s.heap.objs.size + 1) :: us) I2.kIn hl) r2 hq) fun r s' hq' => ?_))
  cases r with
  | error e => exact hx pins _ _ e s' I2 hq'
  | ok fl =>
    cases fl with
    | ret u =>
      obtain ⟨v, H', I3, rv, ev, q3⟩ := I2.after hq'
      subst ev
      exact ⟨rv, ⟨V.ref (s.heap.objs.size + 1), H', I3, rfl, q3⟩⟩
    | next => exact False.elim hq'
    | brk => exact False.elim hq'
    | cont => exact False.elim hq'
theorem pe_makeS (M : L2.Mk X.K C f) (F : FnOk X.prog X.w X.K X.mg X.base CX k f fd ps sp) (hr : Room (k + 1) X.A) (hg : Gl X x) (hm : X.mg x = some (.ref C)) (hb : Binds X.K fd ps ds) (hd : Vals dvs ds) (hx : ∀ σ, PassesAt CX X σ (E σ))
    (ha : PA X (a :: es) t) (hdb : (x == ("__debug__" : Str)) = false := by decide) (he : starEach (a :: es) X.env = (false, eval a X.env) :: starEach es X.env := by rfl) (hpl : (backTo pos (starEach es X.env)).any (·.1) = false := by rfl) :
    PE X (.Call (.Name x pp) (a :: es) [] pos) (tMakeS C sp dvs E t) := by
  refine ⟨fun pins s σ H Q I h => ?_⟩
  refine wpAny_Call_Name_kw (ld_glob I hg hm ?_ hdb)
  refine PySem.W.callWith_K (h₀ := X.base) I.ok.mod.kin M.kp (thn (ha.run pos pins s σ H _ I h) fun us s1 ⟨vs, H1, I1, r, q⟩ => ⟨I1.kIn, ?_⟩) he hpl
  exact run_makeS M F hr hb hd (hx σ) I1 r q
end
theorem RS.made (T : ClsT c cl C) {p dx : Addr} (r : RS c R h H) (e : H p = none) (ed : H dx = none) (ne : dx ≠ p) :
    Ext R h H (upO h p (.ins cl [])) (upd (upd H dx (.own p)) p (.ins C dx [])) ∧ RS c R (upO h p (.ins cl [])) (upd (upd H dx (.own p)) p (.ins C dx [])) := by
  have r1 := RS.fresh (o := HO.own p) r ed
  have e1 : Ext R h H h (upd H dx (.own p)) := Ext.fresh r ed
  have hp : (upd H dx (.own p)) p = none := by rw [upd_ne (Ne.symm ne)]; exact e
  exact ⟨e1.trans (Ext.newO r1 hp), r1.newO hp ⟨C, dx, [], T.mg, upd_same, .nil⟩⟩
theorem de_make (T : ClsT X.c x C) (M : L2.Mk X.K C f) (G : DefA X.c X.base k f n F) (hr : Room (k + 1) X.A) (hg : Gl X x) (tk : Takes X W) (ha : DAs X W (a :: es) da) (hdb : (x == ("__debug__" : Str)) = false := by decide)
    (he : starEach (a :: es) X.env = (false, eval a X.env) :: starEach es X.env := by rfl) (hpl : (backTo pos (starEach es X.env)).any (·.1) = false := by rfl) :
    DE X W (.Call (.Name x pp) (a :: es) [] pos) (mMake x n F da) := by
  obtain ⟨fd, ps, G, hb⟩ := G
  exact (pe_makeS (dvs := []) M G hr hg T.mg hb .nil (fun σ => passAt tk σ) ha hdb he hpl).wk fun σ H Q ⟨R, env, h, P, EP, r⟩ =>
    ⟨R, env, h, _, EP, r.rs, r.re, r.run, fun xs h1 vs H1 ⟨z, q⟩ e rs rv p dx hp hd ne => by
      rw [List.append_nil]
      obtain ⟨em, rm⟩ := RS.made T rs hp hd ne
      have hpn : h1 p = none := rs.no hp
      refine ⟨by rw [List.length_cons, rv.length]; exact z, R, _, .ref p :: xs, _, EP, rm, .cons (.ref _) (rv.ext em), q p hpn, fun d h' v H' ⟨ed, pd⟩ e2 rs2 rv2 => ?_, fun y h' cls od H' q2 e2 rs2 rx => r.exc y h' cls od H' q2 (e.trans (em.trans e2)) rs2 rx⟩
      subst ed
      cases rv2
      exact ⟨rfl, r.fin _ h' _ H' pd (e.trans (em.trans e2)) rs2 (.ref _)⟩, r.exc⟩
theorem e_mFld {cl : Str} {m : DM} {f : Str} {e : En} {h : DH} {E : EK} {Q : DK} : mFld cl m f e h E Q = (m e h E fun x h1 => insAt h1 cl x fun _ fs => Oc (fs.lookup f) fun d => Q d h1) := id rfl
theorem e_sFldD {cl : Str} {mo mv : DM} {f : Str} {e : En} {h : DH} {E : EK} {D : Fl} : sFldD cl mo f mv e h E D = (mv e h E fun y h1 => mo e h1 E fun x h2 => insAt h2 cl x fun a fs => fs.length < 1000 ∧ D.nx e (upO h2 a (.ins cl (putFD f y fs)))) := id rfl
theorem e_mMeth {cl m : Str} {n : Nat} {F : Fn} {mo : DM} {da : DA} {e : En} {h : DH} {E : EK} {Q : DK} : mMeth cl m n F mo da e h E Q = (mo e h E fun x h1 => insAt h1 cl x fun _ fs => fs.lookup m = none ∧ da e h1 E fun ds h2 => ds.length + 1 = n ∧ F (x :: ds) h2 E Q) := id rfl
theorem e_mMake {cl : Str} {n : Nat} {F : Fn} {da : DA} {e : En} {h : DH} {E : EK} {Q : DK} : mMake cl n F da e h E Q = (da e h E fun ds h1 => ds.length + 1 = n ∧ ∀ r, h1 r = none → F (.ref r :: ds) (upO h1 r (.ins cl [])) E fun d h2 => d = .non ∧ Q (.ref r) h2) := id rfl
end L2.Lmp

set_option maxHeartbeats 2000000
namespace L2.Lmp
open PySem PySem.Spec PyProof.Rows
variable {c : Cc}
/-- a method that calls itself -/
theorem defA_rec {base : Heap} {ps : List Str} {f : Addr} {fd : FuncData} {n k : Nat} {F : Nat → Fn} (hl : ps.length = n) (h0 : ∀ ds h E Q, ¬ F 0 ds h E Q)
    (G : ∀ j, DefA c base (k + j) f n (F j) → FnOk c.P c.w c.K c.mg base (L2.CX c.P c.w) (k + j + 1) f fd ps (spD c n (F (j + 1)))) (b : Binds c.K fd ps []) : ∀ j, DefA c base (k + j) f n (F j)
  | 0 => ⟨fd, ps, ⟨fun vs H Q E h => h.1.trans hl.symm, fun A outer s H args us vs Q E _ _ _ _ ⟨_, R, h, ds, P, EP, rs, rv, run, _⟩ => (h0 _ _ _ _ run).elim⟩, b⟩
  | j + 1 => ⟨fd, ps, G j (defA_rec hl h0 G b j), b⟩
end L2.Lmp

set_option maxHeartbeats 4000000
namespace L2.Lmp
open PySem PySem.Spec PyProof.Rows

/-! ### values by kinds -/
def kd : D → Bool
  | .non => true
  | .bl _ => true
  | .int _ => true
  | .str _ => true
  | .tup _ => true
  | .lst _ => true
  | _ => false
theorem kd_non : kd .non = true := by unfold kd; exact (fun z => z) rfl
theorem kd_bl {b : Bool} : kd (.bl b) = true := by unfold kd; exact (fun z => z) rfl
theorem kd_int {b : Int} : kd (.int b) = true := by unfold kd; exact (fun z => z) rfl
theorem kd_str {b : Str} : kd (.str b) = true := by unfold kd; exact (fun z => z) rfl
theorem kd_tup {b : List D} : kd (.tup b) = true := by unfold kd; exact (fun z => z) rfl
theorem kd_lst {b : List D} : kd (.lst b) = true := by unfold kd; exact (fun z => z) rfl
def isTup : D → Bool
  | .tup _ => true
  | _ => false
def isLst : D → Bool
  | .lst _ => true
  | _ => false
def isStr : D → Bool
  | .str _ => true
  | _ => false
def isBl : D → Bool
  | .bl _ => true
  | _ => false
def isInt : D → Bool
  | .bl _ => true
  | .int _ => true
  | _ => false
section
variable {h : DH} {x : D} {Q : D → Prop}
theorem isiP_tup (k : kd x = true) : isiP h [x, .ty "tuple"] Q = Q (.bl (isTup x)) := by
  cases x <;> first | rfl | cases k
theorem isiP_lst (k : kd x = true) : isiP h [x, .ty "list"] Q = Q (.bl (isLst x)) := by
  cases x <;> first | rfl | cases k
theorem isiP_str (k : kd x = true) : isiP h [x, .ty "str"] Q = Q (.bl (isStr x)) := by
  cases x <;> first | rfl | cases k
theorem isiP_bl (k : kd x = true) : isiP h [x, .ty "bool"] Q = Q (.bl (isBl x)) := by
  cases x <;> first | rfl | cases k
theorem isiP_int (k : kd x = true) : isiP h [x, .ty "int"] Q = Q (.bl (isInt x)) := by
  cases x <;> first | rfl | cases k
theorem isiP_tl (k : kd x = true) : isiP h [x, .tup [.ty "tuple", .ty "list"]] Q = Q (.bl (isTup x || isLst x)) := by
  cases x <;> first | rfl | cases k
end
/-! ### the denotations, applied -/
theorem e_mVar {i : Nat} {e : En} {h : DH} {v_2 : EK} {Q : DK} : mVar i e h v_2 Q = (Oc (slot e i) fun d => Q d h) := id rfl
theorem e_mK {d : D} {v_0 : En} {h : DH} {v_2 : EK} {Q : DK} : mK d v_0 h v_2 Q = (Q d h) := id rfl
theorem e_mOp1 {p : P1} {a : DM} {e : En} {h : DH} {E : EK} {Q : DK} : mOp1 p a e h E Q = (a e h E fun x h1 => p h1 x fun z => Q z h1) := id rfl
theorem e_mOp2 {p : P2} {a b : DM} {e : En} {h : DH} {E : EK} {Q : DK} : mOp2 p a b e h E Q = (a e h E fun x h1 => b e h1 E fun y h2 => p h2 x y fun z => Q z h2) := id rfl
theorem e_aNil  {v_0 : En} {h : DH} {v_2 : EK} {Q : (List D → DH → Prop)} : aNil  v_0 h v_2 Q = (Q [] h) := id rfl
theorem e_aCons {m : DM} {r : DA} {e : En} {h : DH} {E : EK} {Q : (List D → DH → Prop)} : aCons m r e h E Q = (m e h E fun x h1 => r e h1 E fun xs h2 => Q (x :: xs) h2) := id rfl
theorem e_mTup {a : DA} {e : En} {h : DH} {E : EK} {Q : DK} : mTup a e h E Q = (a e h E fun xs h1 => xs.length ≤ 1000 ∧ Q (.tup xs) h1) := id rfl
theorem e_mLst {a : DA} {e : En} {h : DH} {E : EK} {Q : DK} : mLst a e h E Q = (a e h E fun xs h1 => xs.length ≤ 1000 ∧ Q (.lst xs) h1) := id rfl
theorem e_mLstM {a : DA} {e : En} {h : DH} {E : EK} {Q : DK} : mLstM a e h E Q = (a e h E fun xs h1 => xs.length ≤ 1000 ∧ ∀ p, h1 p = none → Q (.ref p) (upO h1 p (.lst xs))) := id rfl
theorem e_mIf {t : DT} {a b : DM} {e : En} {h : DH} {E : EK} {Q : DK} : mIf t a b e h E Q = (t e h E fun k h1 => if k = true then a e h1 E Q else b e h1 E Q) := id rfl
theorem e_tTru {p : DH → D → (Bool → Prop) → Prop} {m : DM} {e : En} {h : DH} {E : EK} {Q : (Bool → DH → Prop)} : tTru p m e h E Q = (m e h E fun x h1 => p h1 x fun k => Q k h1) := id rfl
theorem e_tNt {t : DT} {e : En} {h : DH} {E : EK} {Q : (Bool → DH → Prop)} : tNt t e h E Q = (t e h E fun k h1 => Q (!k) h1) := id rfl
theorem e_tAnd2 {a b : DT} {e : En} {h : DH} {E : EK} {Q : (Bool → DH → Prop)} : tAnd2 a b e h E Q = (a e h E fun k h1 => if k = true then b e h1 E Q else Q false h1) := id rfl
theorem e_tOr2 {a b : DT} {e : En} {h : DH} {E : EK} {Q : (Bool → DH → Prop)} : tOr2 a b e h E Q = (a e h E fun k h1 => if k = true then Q true h1 else b e h1 E Q) := id rfl
theorem e_tOp2 {p : P2} {a b : DM} {e : En} {h : DH} {E : EK} {Q : (Bool → DH → Prop)} : tOp2 p a b e h E Q = (a e h E fun x h1 => b e h1 E fun y h2 => p h2 x y fun z => ∃ k, z = .bl k ∧ Q k h2) := id rfl
theorem e_mChain {p q : P2} {a b d : DM} {e : En} {h : DH} {E : EK} {Q : DK} : mChain p q a b d e h E Q = (a e h E fun x h1 => b e h1 E fun y h2 => p h2 x y fun z => ∃ k, z = .bl k ∧ if k = true then d e h2 E fun w h3 => q h3 y w fun u => Q u h3 else Q (.bl false) h2) := id rfl
theorem e_tChain' {p q : P2} {a b d : DM} {e : En} {h : DH} {E : EK} {Q : (Bool → DH → Prop)} : tChain' p q a b d e h E Q = (a e h E fun x h1 => b e h1 E fun y h2 => p h2 x y fun z => ∃ k, z = .bl k ∧ if k = true then d e h2 E fun w h3 => q h3 y w fun u => ∃ k, u = .bl k ∧ Q k h3 else Q false h2) := id rfl
theorem e_mAnd {a b : DM} {e : En} {h : DH} {E : EK} {Q : DK} : mAnd a b e h E Q = (a e h E fun x h1 => ∃ k, x = .bl k ∧ if k = true then b e h1 E Q else Q (.bl false) h1) := id rfl
theorem e_mOr {a b : DM} {e : En} {h : DH} {E : EK} {Q : DK} : mOr a b e h E Q = (a e h E fun x h1 => ∃ k, x = .bl k ∧ if k = true then Q (.bl true) h1 else b e h1 E Q) := id rfl
theorem e_mNot {a : DM} {e : En} {h : DH} {E : EK} {Q : DK} : mNot a e h E Q = (a e h E fun x h1 => ∃ k, x = .bl k ∧ Q (.bl (!k)) h1) := id rfl
theorem e_mCall {n : Nat} {F : Fn} {a : DA} {e : En} {h : DH} {E : EK} {Q : DK} : mCall n F a e h E Q = (a e h E fun ds h1 => ds.length = n ∧ F ds h1 E Q) := id rfl
theorem e_mBlt {p : DH → List D → (D → Prop) → Prop} {a : DA} {e : En} {h : DH} {E : EK} {Q : DK} : mBlt p a e h E Q = (a e h E fun ds h1 => p h1 ds fun z => Q z h1) := id rfl
theorem e_oNo  {v_0 : En} {h : DH} {v_2 : EK} {Q : (Option Int → DH → Prop)} : oNo  v_0 h v_2 Q = (Q none h) := id rfl
theorem e_oSo {m : DM} {e : En} {h : DH} {E : EK} {Q : (Option Int → DH → Prop)} : oSo m e h E Q = (m e h E fun x h1 => ∃ i, x = .int i ∧ Q (some i) h1) := id rfl
theorem e_mSl {p : DH → D → Option Int → Option Int → (D → Prop) → Prop} {m : DM} {lo hi : DO} {e : En} {h : DH} {E : EK} {Q : DK} : mSl p m lo hi e h E Q = (m e h E fun x h1 => lo e h1 E fun l h2 => hi e h2 E fun u h3 => p h3 x l u fun z => Q z h3) := id rfl
theorem e_sPass  {e : En} {h : DH} {v_2 : EK} {D : Fl} : sPass  e h v_2 D = (D.nx e h) := id rfl
theorem e_sBrk  {e : En} {h : DH} {v_2 : EK} {D : Fl} : sBrk  e h v_2 D = (D.bk e h) := id rfl
theorem e_sCnt  {e : En} {h : DH} {v_2 : EK} {D : Fl} : sCnt  e h v_2 D = (D.ct e h) := id rfl
theorem e_sNever  {v_0 : En} {v_1 : DH} {v_2 : EK} {v_3 : Fl} : sNever  v_0 v_1 v_2 v_3 = (False) := id rfl
theorem e_sSeq {a b : DS} {e : En} {h : DH} {E : EK} {D : Fl} : sSeq a b e h E D = (a e h E { D with nx := fun e h => b e h E D }) := id rfl
theorem e_sAsg {m : DM} {g : DG} {e : En} {h : DH} {E : EK} {D : Fl} : sAsg m g e h E D = (m e h E fun d h1 => g d e h1 E D.nx) := id rfl
theorem e_gNm {i : Nat} {d : D} {e : En} {h : DH} {v_3 : EK} {Q : (En → DH → Prop)} : gNm i d e h v_3 Q = (Q (e.set i (some d)) h) := id rfl
theorem e_gTu {n : Nat} {g : DGs} {d : D} {e : En} {h : DH} {E : EK} {Q : (En → DH → Prop)} : gTu n g d e h E Q = (∃ xs, d = .tup xs ∧ xs.length = n ∧ g xs e h E Q) := id rfl
theorem e_gsNil  {xs : List D} {e : En} {h : DH} {v_3 : EK} {Q : (En → DH → Prop)} : gsNil  xs e h v_3 Q = (xs = [] ∧ Q e h) := id rfl
theorem e_gsCons {g : DG} {r : DGs} {xs : List D} {e : En} {h : DH} {E : EK} {Q : (En → DH → Prop)} : gsCons g r xs e h E Q = (∃ x ys, xs = x :: ys ∧ g x e h E fun e1 h1 => r ys e1 h1 E Q) := id rfl
theorem e_gSb {p : DH → D → D → D → (DH → Prop) → Prop} {mo mi : DM} {d : D} {e : En} {h : DH} {E : EK} {Q : (En → DH → Prop)} : gSb p mo mi d e h E Q = (mo e h E fun o h1 => mi e h1 E fun i h2 => p h2 o i d fun h3 => Q e h3) := id rfl
theorem e_sPar {i j : Nat} {a : DA} {e : En} {h : DH} {E : EK} {D : Fl} : sPar i j a e h E D = (a e h E fun ds h1 => ∃ x y, ds = [x, y] ∧ D.nx ((e.set i (some x)).set j (some y)) h1) := id rfl
theorem e_sExp {m : DM} {e : En} {h : DH} {E : EK} {D : Fl} : sExp m e h E D = (m e h E fun _ h1 => D.nx e h1) := id rfl
theorem e_sRt {m : DM} {e : En} {h : DH} {E : EK} {D : Fl} : sRt m e h E D = (m e h E D.rt) := id rfl
theorem e_sRtN  {v_0 : En} {h : DH} {v_2 : EK} {D : Fl} : sRtN  v_0 h v_2 D = (D.rt .non h) := id rfl
theorem e_sIf {t : DT} {a b : DS} {e : En} {h : DH} {E : EK} {D : Fl} : sIf t a b e h E D = (t e h E fun k h1 => if k = true then a e h1 E D else b e h1 E D) := id rfl
theorem e_sAug {i : Nat} {m : DM} {p : P2} {e : En} {h : DH} {E : EK} {D : Fl} : sAug i m p e h E D = (Oc (slot e i) fun x => m e h E fun y h1 => p h1 x y fun z => D.nx (e.set i (some z)) h1) := id rfl
theorem e_sFor {it : DIt} {g : DG} {body : DS} {e : En} {h : DH} {E : EK} {D : Fl} : sFor it g body e h E D = (it e h E fun xs gd h1 => forL g body gd xs e h1 E D) := id rfl
theorem e_sWh {t : DT} {body : DS} {e : En} {h : DH} {E : EK} {D : Fl} : sWh t body e h E D = (∃ n, whL t body n e h E D) := id rfl
theorem e_mComp {it : DIt} {own : List Nat} {g : DG} {t : DT} {m : DM} {e : En} {h : DH} {E : EK} {Q : DK} : mComp it own g t m e h E Q = (it e h E fun xs gd h1 => compL g t m gd (wipeE e own) xs h1 [] fun ys h2 => Q (.lst ys) h2) := id rfl
theorem e_mCompM {it : DIt} {own : List Nat} {g : DG} {t : DT} {m : DM} {e : En} {h : DH} {E : EK} {Q : DK} : mCompM it own g t m e h E Q = (it e h E fun xs gd h1 => compL g t m gd (wipeE e own) xs h1 [] fun ys h2 => ∀ p, h2 p = none → Q (.ref p) (upO h2 p (.lst ys))) := id rfl
theorem e_tYs  {v_0 : En} {h : DH} {v_2 : EK} {Q : (Bool → DH → Prop)} : tYs  v_0 h v_2 Q = (Q true h) := id rfl
theorem e_mkFn {n : Nat} {body : DS} {ds : List D} {h : DH} {E : EK} {Q : DK} : mkFn n body ds h E Q = (body (ds.map some ++ List.replicate (n - ds.length) none) h E ⟨fun _ h' => Ret .non h' Q, fun d h' => Ret d h' Q, fun _ _ => False, fun _ _ => False⟩) := id rfl
theorem e_mApp {o m : DM} {e : En} {h : DH} {E : EK} {Q : DK} : mApp o m e h E Q = (o e h E fun x h1 => (∃ ds, rs h1 x = .lst ds) ∧ m e h1 E fun y h2 => appK x y h2 Q) := id rfl
theorem e_itSeq {m : DM} {e : En} {h : DH} {E : EK} {Q : (List D → (DH → Prop) → DH → Prop)} : itSeq m e h E Q = (m e h E fun x h1 => seqP h1 x fun xs gd => Q xs gd h1) := id rfl
theorem e_itScr {m : DM} {e : En} {h : DH} {E : EK} {Q : (List D → (DH → Prop) → DH → Prop)} : itScr m e h E Q = (m e h E fun x h1 => ∃ ns, x = .scr ns ∧ Q (ns.map D.int) (fun _ => True) h1) := id rfl
theorem e_itEnum {m : DM} {e : En} {h : DH} {E : EK} {Q : (List D → (DH → Prop) → DH → Prop)} : itEnum m e h E Q = (m e h E fun x h1 => seqP h1 x fun xs gd => Q (enumD 0 xs) gd h1) := id rfl
theorem e_itZip {a b : DM} {e : En} {h : DH} {E : EK} {Q : (List D → (DH → Prop) → DH → Prop)} : itZip a b e h E Q = (a e h E fun x h1 => b e h1 E fun y h2 => seqP h2 x fun xs g1 => seqP h2 y fun ys g2 => Q (zipD xs ys) (fun h => g1 h ∧ g2 h) h2) := id rfl
theorem e_itZip3 {a b d : DM} {e : En} {h : DH} {E : EK} {Q : (List D → (DH → Prop) → DH → Prop)} : itZip3 a b d e h E Q = (a e h E fun x h1 => b e h1 E fun y h2 => d e h2 E fun z h3 => seqP h3 x fun xs g1 => seqP h3 y fun ys g2 => seqP h3 z fun zs g3 => Q (zip3D xs ys zs) (fun h => g1 h ∧ g2 h ∧ g3 h) h3) := id rfl
theorem e_itR1 {m : DM} {e : En} {h : DH} {E : EK} {Q : (List D → (DH → Prop) → DH → Prop)} : itR1 m e h E Q = (m e h E fun x h1 => ∃ j, x = .int j ∧ -1000000 ≤ j ∧ j ≤ 1000000 ∧ Q (rngD 0 j.toNat) (fun _ => True) h1) := id rfl
theorem e_itR2 {a b : DM} {e : En} {h : DH} {E : EK} {Q : (List D → (DH → Prop) → DH → Prop)} : itR2 a b e h E Q = (a e h E fun x h1 => b e h1 E fun y h2 => ∃ i j, x = .int i ∧ y = .int j ∧ (-1000000 ≤ i ∧ i ≤ 1000000 ∧ -1000000 ≤ j ∧ j ≤ 1000000) ∧ Q (rngD i (j - i).toNat) (fun _ => True) h2) := id rfl
theorem e_itR3 {a b d : DM} {e : En} {h : DH} {E : EK} {Q : (List D → (DH → Prop) → DH → Prop)} : itR3 a b d e h E Q = (a e h E fun x h1 => b e h1 E fun y h2 => d e h2 E fun z h3 => ∃ i j s, x = .int i ∧ y = .int j ∧ z = .int s ∧ (-1000000 ≤ i ∧ i ≤ 1000000 ∧ -1000000 ≤ j ∧ j ≤ 1000000) ∧ ((s = -1 ∧ Q (rngC i (-1) (i - j).toNat) (fun _ => True) h3) ∨ (s = 1 ∧ Q (rngC i 1 (j - i).toNat) (fun _ => True) h3))) := id rfl
theorem e_mDic0  {v_0 : En} {h : DH} {v_2 : EK} {Q : DK} : mDic0  v_0 h v_2 Q = (∀ p, h p = none → Q (.ref p) (upO h p (.dic []))) := id rfl
theorem e_mDic1 {mk mv : DM} {e : En} {h : DH} {E : EK} {Q : DK} : mDic1 mk mv e h E Q = (∀ p, h p = none → mk e (upO h p (.dic [])) E fun x h1 => mv e h1 E fun y h2 => h2 p = some (.dic []) ∧ KeyD x ∧ Q (.ref p) (upO h2 p (.dic [(x, y)]))) := id rfl
theorem e_sPar3 {i j l : Nat} {a : DA} {e : En} {h : DH} {E : EK} {D : Fl} : sPar3 i j l a e h E D = (a e h E fun ds h1 => ∃ x y z, ds = [x, y, z] ∧ D.nx (((e.set i (some x)).set j (some y)).set l (some z)) h1) := id rfl
theorem e_mAddM {a b : DM} {e : En} {h : DH} {E : EK} {Q : DK} : mAddM a b e h E Q = (a e h E fun x h1 => b e h1 E fun y h2 => ∃ xs ys, rs h2 x = .lst xs ∧ rs h2 y = .lst ys ∧ xs.length + ys.length ≤ 1000000 ∧ ∀ p, h2 p = none → Q (.ref p) (upO h2 p (.lst (xs ++ ys)))) := id rfl
theorem e_aStar {m : DM} {r : DA} {e : En} {h : DH} {E : EK} {Q : (List D → DH → Prop)} : aStar m r e h E Q = (m e h E fun x h1 => starP h1 x fun ys => r e h1 E fun xs h2 => Q (ys ++ xs) h2) := id rfl
theorem e_mMulM {a b : DM} {e : En} {h : DH} {E : EK} {Q : DK} : mMulM a b e h E Q = (a e h E fun x h1 => b e h1 E fun y h2 => ∃ xs k, rs h2 x = .lst xs ∧ y = .int k ∧ (-1000000 ≤ k ∧ k ≤ 1000000 ∧ xs.length * k.toNat ≤ 1000000) ∧ ∀ p, h2 p = none → Q (.ref p) (upO h2 p (.lst (repD xs k)))) := id rfl
theorem e_sRaise0 {x : Str} {e : En} {h : DH} {E : EK} {D : Fl} : sRaise0 x e h E D = E ⟨x, none⟩ h := id rfl
theorem e_sRaise1 {x f : Str} {m : DM} {e : En} {h : DH} {E : EK} {D : Fl} : sRaise1 x f m e h E D = (m e h E fun d h1 => E ⟨x, some (f, d)⟩ h1) := id rfl
theorem e_mErr {P : Addr} {q : Str} {hs : Hds} {mb : DM} {e : En} {h : DH} {E : EK} {Q : DK} : mErr P q hs mb e h E Q = (h P = some (.tbl q) ∧ mb e h (hdE hs Q) fun _ h' => Q (.str "") h') := id rfl
theorem e_mCallV {T : FTab} {i : Nat} {da : DA} {e : En} {h : DH} {E : EK} {Q : DK} : mCallV T i da e h E Q = (∃ x n F, slot e i = some (.fn x) ∧ T.lookup x = some (n, F) ∧ da e h E fun ds h1 => ds.length = n ∧ F ds h1 E Q) := id rfl
/-! ### what is reckoned by simp -/
section
variable {a0 a1 a2 a3 a4 a5 a6 a7 a8 a9 a10 a11 a12 a13 a14 a15 a16 a17 a18 a19 a20 a21 a22 a23 a24 a25 a26 a27 a28 a29 a30 : Option D} {e : En}
theorem slot_0 : slot (a0 :: e) 0 = a0 := id rfl
theorem slot_1 : slot (a0 :: a1 :: e) 1 = a1 := id rfl
theorem slot_2 : slot (a0 :: a1 :: a2 :: e) 2 = a2 := id rfl
theorem slot_3 : slot (a0 :: a1 :: a2 :: a3 :: e) 3 = a3 := id rfl
theorem slot_4 : slot (a0 :: a1 :: a2 :: a3 :: a4 :: e) 4 = a4 := id rfl
theorem slot_5 : slot (a0 :: a1 :: a2 :: a3 :: a4 :: a5 :: e) 5 = a5 := id rfl
theorem slot_6 : slot (a0 :: a1 :: a2 :: a3 :: a4 :: a5 :: a6 :: e) 6 = a6 := id rfl
theorem slot_7 : slot (a0 :: a1 :: a2 :: a3 :: a4 :: a5 :: a6 :: a7 :: e) 7 = a7 := id rfl
theorem slot_8 : slot (a0 :: a1 :: a2 :: a3 :: a4 :: a5 :: a6 :: a7 :: a8 :: e) 8 = a8 := id rfl
theorem slot_9 : slot (a0 :: a1 :: a2 :: a3 :: a4 :: a5 :: a6 :: a7 :: a8 :: a9 :: e) 9 = a9 := id rfl
theorem slot_10 : slot (a0 :: a1 :: a2 :: a3 :: a4 :: a5 :: a6 :: a7 :: a8 :: a9 :: a10 :: e) 10 = a10 := id rfl
theorem slot_11 : slot (a0 :: a1 :: a2 :: a3 :: a4 :: a5 :: a6 :: a7 :: a8 :: a9 :: a10 :: a11 :: e) 11 = a11 := id rfl
theorem slot_12 : slot (a0 :: a1 :: a2 :: a3 :: a4 :: a5 :: a6 :: a7 :: a8 :: a9 :: a10 :: a11 :: a12 :: e) 12 = a12 := id rfl
theorem slot_13 : slot (a0 :: a1 :: a2 :: a3 :: a4 :: a5 :: a6 :: a7 :: a8 :: a9 :: a10 :: a11 :: a12 :: a13 :: e) 13 = a13 := id rfl
theorem slot_14 : slot (a0 :: a1 :: a2 :: a3 :: a4 :: a5 :: a6 :: a7 :: a8 :: a9 :: a10 :: a11 :: a12 :: a13 :: a14 :: e) 14 = a14 := id rfl
theorem slot_15 : slot (a0 :: a1 :: a2 :: a3 :: a4 :: a5 :: a6 :: a7 :: a8 :: a9 :: a10 :: a11 :: a12 :: a13 :: a14 :: a15 :: e) 15 = a15 := id rfl
theorem slot_16 : slot (a0 :: a1 :: a2 :: a3 :: a4 :: a5 :: a6 :: a7 :: a8 :: a9 :: a10 :: a11 :: a12 :: a13 :: a14 :: a15 :: a16 :: e) 16 = a16 := id rfl
theorem slot_17 : slot (a0 :: a1 :: a2 :: a3 :: a4 :: a5 :: a6 :: a7 :: a8 :: a9 :: a10 :: a11 :: a12 :: a13 :: a14 :: a15 :: a16 :: a17 :: e) 17 = a17 := id rfl
theorem slot_18 : slot (a0 :: a1 :: a2 :: a3 :: a4 :: a5 :: a6 :: a7 :: a8 :: a9 :: a10 :: a11 :: a12 :: a13 :: a14 :: a15 :: a16 :: a17 :: a18 :: e) 18 = a18 := id rfl
theorem slot_19 : slot (a0 :: a1 :: a2 :: a3 :: a4 :: a5 :: a6 :: a7 :: a8 :: a9 :: a10 :: a11 :: a12 :: a13 :: a14 :: a15 :: a16 :: a17 :: a18 :: a19 :: e) 19 = a19 := id rfl
theorem slot_20 : slot (a0 :: a1 :: a2 :: a3 :: a4 :: a5 :: a6 :: a7 :: a8 :: a9 :: a10 :: a11 :: a12 :: a13 :: a14 :: a15 :: a16 :: a17 :: a18 :: a19 :: a20 :: e) 20 = a20 := id rfl
theorem slot_21 : slot (a0 :: a1 :: a2 :: a3 :: a4 :: a5 :: a6 :: a7 :: a8 :: a9 :: a10 :: a11 :: a12 :: a13 :: a14 :: a15 :: a16 :: a17 :: a18 :: a19 :: a20 :: a21 :: e) 21 = a21 := id rfl
theorem slot_22 : slot (a0 :: a1 :: a2 :: a3 :: a4 :: a5 :: a6 :: a7 :: a8 :: a9 :: a10 :: a11 :: a12 :: a13 :: a14 :: a15 :: a16 :: a17 :: a18 :: a19 :: a20 :: a21 :: a22 :: e) 22 = a22 := id rfl
theorem slot_23 : slot (a0 :: a1 :: a2 :: a3 :: a4 :: a5 :: a6 :: a7 :: a8 :: a9 :: a10 :: a11 :: a12 :: a13 :: a14 :: a15 :: a16 :: a17 :: a18 :: a19 :: a20 :: a21 :: a22 :: a23 :: e) 23 = a23 := id rfl
theorem slot_24 : slot (a0 :: a1 :: a2 :: a3 :: a4 :: a5 :: a6 :: a7 :: a8 :: a9 :: a10 :: a11 :: a12 :: a13 :: a14 :: a15 :: a16 :: a17 :: a18 :: a19 :: a20 :: a21 :: a22 :: a23 :: a24 :: e) 24 = a24 := id rfl
theorem slot_25 : slot (a0 :: a1 :: a2 :: a3 :: a4 :: a5 :: a6 :: a7 :: a8 :: a9 :: a10 :: a11 :: a12 :: a13 :: a14 :: a15 :: a16 :: a17 :: a18 :: a19 :: a20 :: a21 :: a22 :: a23 :: a24 :: a25 :: e) 25 = a25 := id rfl
theorem slot_26 : slot (a0 :: a1 :: a2 :: a3 :: a4 :: a5 :: a6 :: a7 :: a8 :: a9 :: a10 :: a11 :: a12 :: a13 :: a14 :: a15 :: a16 :: a17 :: a18 :: a19 :: a20 :: a21 :: a22 :: a23 :: a24 :: a25 :: a26 :: e) 26 = a26 := id rfl
theorem slot_27 : slot (a0 :: a1 :: a2 :: a3 :: a4 :: a5 :: a6 :: a7 :: a8 :: a9 :: a10 :: a11 :: a12 :: a13 :: a14 :: a15 :: a16 :: a17 :: a18 :: a19 :: a20 :: a21 :: a22 :: a23 :: a24 :: a25 :: a26 :: a27 :: e) 27 = a27 := id rfl
theorem slot_28 : slot (a0 :: a1 :: a2 :: a3 :: a4 :: a5 :: a6 :: a7 :: a8 :: a9 :: a10 :: a11 :: a12 :: a13 :: a14 :: a15 :: a16 :: a17 :: a18 :: a19 :: a20 :: a21 :: a22 :: a23 :: a24 :: a25 :: a26 :: a27 :: a28 :: e) 28 = a28 := id rfl
theorem slot_29 : slot (a0 :: a1 :: a2 :: a3 :: a4 :: a5 :: a6 :: a7 :: a8 :: a9 :: a10 :: a11 :: a12 :: a13 :: a14 :: a15 :: a16 :: a17 :: a18 :: a19 :: a20 :: a21 :: a22 :: a23 :: a24 :: a25 :: a26 :: a27 :: a28 :: a29 :: e) 29 = a29 := id rfl
theorem slot_30 : slot (a0 :: a1 :: a2 :: a3 :: a4 :: a5 :: a6 :: a7 :: a8 :: a9 :: a10 :: a11 :: a12 :: a13 :: a14 :: a15 :: a16 :: a17 :: a18 :: a19 :: a20 :: a21 :: a22 :: a23 :: a24 :: a25 :: a26 :: a27 :: a28 :: a29 :: a30 :: e) 30 = a30 := id rfl
end
section
variable {h : DH} {i j : Int} {Q : D → Prop}
theorem addP_ii : addP h (.int i) (.int j) Q = Q (.int (i + j)) := id rfl
theorem subP_ii : subP h (.int i) (.int j) Q = Q (.int (i - j)) := id rfl
theorem mulP_ii : mulP h (.int i) (.int j) Q = ((i.natAbs < 2 ^ 4000 ∧ j.natAbs < 2 ^ 4000) ∧ Q (.int (i * j))) := id rfl
theorem iaddP_ii : iaddP h (.int i) (.int j) Q = Q (.int (i + j)) := id rfl
theorem leP_ii {i j : Int} : cmpP (fun i j => decide (i ≤ j)) h (.int i) (.int j) Q = Q (.bl (decide (i ≤ j))) := id rfl
theorem gtP_ii : cmpP (fun i j => decide (j < i)) h (.int i) (.int j) Q = Q (.bl (decide (j < i))) := id rfl
theorem geP_ii : cmpP (fun i j => decide (j ≤ i)) h (.int i) (.int j) Q = Q (.bl (decide (j ≤ i))) := id rfl
theorem ltP_ii : ltP h (.int i) (.int j) Q = Q (.bl (decide (i < j))) := id rfl
theorem intP_i : intP h [.int i] Q = Q (.int i) := id rfl
theorem modP_ii : modP h (.int i) (.int j) Q = (0 < j ∧ Q (.int (i % j))) := id rfl
theorem divP_ii : divP h (.int i) (.int j) Q = ((0 < j ∧ j.natAbs < 2 ^ 4000) ∧ Q (.int (i / j))) := id rfl
end
section
variable {h : DH} {i j : Int} {b : Bool} {xs ys : List D} {Q : D → Prop} {Q2 : List D → (DH → Prop) → Prop} {Q3 : Bool → Prop} {lo hi : Option Int}
theorem eqP_ii : eqP h (.int i) (.int j) Q = Q (.bl (decide (i = j))) := by
  simp only [eqP, rs, shN, eqB, and_self, true_and]
  rfl
theorem neP_ii : neP h (.int i) (.int j) Q = Q (.bl (!decide (i = j))) := by
  simp only [neP, rs, shN, eqB, and_self, true_and]
  rfl
theorem lenP_t : lenP h [.tup xs] Q = Q (.int xs.length) := id rfl
theorem lenP_l : lenP h [.lst xs] Q = Q (.int xs.length) := id rfl
theorem lenP_s {ns : List Int} : lenP h [.scr ns] Q = Q (.int ns.length) := id rfl
theorem seqP_t : seqP h (.tup xs) Q2 = Q2 xs fun _ => True := id rfl
theorem seqP_l : seqP h (.lst xs) Q2 = Q2 xs fun _ => True := id rfl
theorem truP_b : truP h (.bl b) Q3 = Q3 b := id rfl
theorem ixP_t : ixP h (.tup xs) (.int i) Q = Oc (atI xs i) Q := id rfl
theorem ixP_l : ixP h (.lst xs) (.int i) Q = Oc (atI xs i) Q := id rfl
theorem slP_t : slP h (.tup xs) lo hi Q = Q (.tup (cutD xs lo hi)) := id rfl
theorem slP_l : slP h (.lst xs) lo hi Q = Q (.lst (cutD xs lo hi)) := id rfl
theorem tupleP_l : tupleP h [.lst xs] Q = Q (.tup xs) := id rfl
theorem tupleP_t : tupleP h [.tup xs] Q = Q (.tup xs) := id rfl
theorem addP_tt : addP h (.tup xs) (.tup ys) Q = (xs.length + ys.length ≤ 1000000 ∧ Q (.tup (xs ++ ys))) := id rfl
theorem exb {P : Bool → Prop} : (∃ k, D.bl b = D.bl k ∧ P k) = P b := by
  simp only [D.bl.injEq, exists_eq_left']
end
theorem negP_i {h : DH} {i : Int} {Q : D → Prop} : negP h (.int i) Q = Q (.int (-i)) := id rfl
theorem addLP_ll {h : DH} {xs ys : List D} {Q : D → Prop} : addLP h (.lst xs) (.lst ys) Q = (xs.length + ys.length ≤ 1000000 ∧ Q (.lst (xs ++ ys))) := by
  apply propext
  constructor
  · rintro ⟨a, b, e1, e2, q⟩
    cases e1; cases e2
    exact q
  · exact fun q => ⟨_, _, rfl, rfl, q⟩
theorem min2_ii {h : DH} {i j : Int} {Q : D → Prop} : min2P h [.int i, .int j] Q = Q (.int (if j < i then j else i)) := id rfl
theorem max2_ii {h : DH} {i j : Int} {Q : D → Prop} : max2P h [.int i, .int j] Q = Q (.int (if j > i then j else i)) := id rfl
theorem exTup {ys : List D} {P : List D → Prop} : (∃ xs, D.tup ys = D.tup xs ∧ P xs) = P ys := by
  simp only [D.tup.injEq, exists_eq_left']
theorem exCons {a : D} {b : List D} {P : D → List D → Prop} : (∃ x ys, a :: b = x :: ys ∧ P x ys) = P a b := by
  apply propext
  constructor
  · rintro ⟨x, ys, e, p⟩
    cases e
    exact p
  · intro p
    exact ⟨a, b, rfl, p⟩
theorem ex3 {a b d : D} {P : D → D → D → Prop} : (∃ x y z, [a, b, d] = [x, y, z] ∧ P x y z) = P a b d := by
  apply propext
  constructor
  · rintro ⟨x, y, z, e, p⟩
    cases e
    exact p
  · exact fun p => ⟨_, _, _, rfl, p⟩
theorem ex2 {a b : D} {P : D → D → Prop} : (∃ x y, [a, b] = [x, y] ∧ P x y) = P a b := by
  apply propext
  constructor
  · rintro ⟨x, y, e, p⟩
    cases e
    exact p
  · exact fun p => ⟨_, _, rfl, p⟩
theorem exInt {i : Int} {P : Int → Prop} : (∃ j, D.int i = D.int j ∧ P j) = P i := by
  simp only [D.int.injEq, exists_eq_left']
/-! ### loops -/
theorem for_ind {g : DG} {body : DS} {gd : DH → Prop} {E : EK} {D' : Fl} (xs : List D) (I : Nat → En → DH → Prop) {e : En} {h : DH} (h0 : I 0 e h) (hg : ∀ i e h, I i e h → gd h)
    (hs : ∀ i x e h (K : En → DH → Prop), I i e h → xs[i]? = some x → (∀ e h, I (i + 1) e h → K e h) → g x e h E fun e1 h1 => body e1 h1 E ⟨fun e h => Wk e h K, D'.rt, D'.nx, fun e h => Wk e h K⟩)
    (hf : ∀ e h, I xs.length e h → D'.nx e h) : forL g body gd xs e h E D' := by
  suffices hh : ∀ (ys : List D) (i : Nat) (e : En) (h : DH), xs.drop i = ys → i ≤ xs.length → I i e h → forL g body gd ys e h E D' from hh xs 0 e h rfl (Nat.zero_le _) h0
  intro ys
  induction ys with
  | nil =>
    intro i e h q l w
    have : i = xs.length := by
      have := List.drop_eq_nil_iff.mp q
      omega
    subst this
    exact ⟨hg _ _ _ w, hf _ _ w⟩
  | cons y ys ih =>
    intro i e h q l w
    have l2 : i < xs.length := by
      rcases Nat.lt_or_ge i xs.length with z | z
      · exact z
      · rw [List.drop_eq_nil_iff.mpr z] at q; cases q
    rw [List.drop_eq_getElem_cons l2] at q
    injection q with q1 q2
    exact ⟨hg _ _ _ w, hs i y e h _ w (by rw [List.getElem?_eq_getElem l2, q1]) fun e h w2 => ih (i + 1) e h q2 l2 w2⟩
theorem wh_ind {t : DT} {body : DS} {E : EK} {D' : Fl} (I : Nat → En → DH → Prop) {n : Nat} {e : En} {h : DH} (h0 : I n e h)
    (hs : ∀ n e h (K : En → DH → Prop), I n e h → (∀ m e h, m < n → I m e h → K e h) → t e h E fun k h1 => if k = true then body e h1 E ⟨fun e h => Wk e h K, D'.rt, D'.nx, fun e h => Wk e h K⟩ else D'.nx e h1) : sWh t body e h E D' := by
  suffices hh : ∀ (N m : Nat) (e : En) (h : DH), m < N → I m e h → whL t body N e h E D' from ⟨n + 1, hh _ n e h (Nat.lt_succ_self n) h0⟩
  intro N
  induction N with
  | zero => intro m e h l; omega
  | succ N ih =>
    intro m e h l w
    exact hs m e h (fun e h => whL t body N e h E D') w fun k e h lk wk => ih k e h (by omega) wk
theorem comp_ind {g : DG} {t : DT} {m : DM} {gd : DH → Prop} {e : En} {Q : List D → DH → Prop} (xs : List D) (I : Nat → List D → DH → Prop) {h : DH} (h0 : I 0 [] h) (hl : xs.length < 16777216) (hg : ∀ i acc h, I i acc h → gd h ∧ acc.length ≤ i)
    (hs : ∀ i x acc h (K : List D → DH → Prop), I i acc h → xs[i]? = some x → (∀ acc h, I (i + 1) acc h → K acc h) → g x e h E0 fun e1 h1 => t e1 h1 E0 fun k h2 => if k = true then m e1 h2 E0 fun y h3 => ∃ h4, Le h4 h3 ∧ K (acc ++ [y]) h4 else ∃ h4, Le h4 h2 ∧ K acc h4)
    (hf : ∀ acc h, I xs.length acc h → Q acc h) : compL g t m gd e xs h [] Q := by
  suffices hh : ∀ (ys : List D) (i : Nat) (acc : List D) (h : DH), xs.drop i = ys → i ≤ xs.length → I i acc h → compL g t m gd e ys h acc Q from hh xs 0 [] h rfl (Nat.zero_le _) h0
  intro ys
  induction ys with
  | nil =>
    intro i acc h q l w
    have : i = xs.length := by
      have := List.drop_eq_nil_iff.mp q
      omega
    subst this
    exact ⟨(hg _ _ _ w).1, hf _ _ w⟩
  | cons y ys ih =>
    intro i acc h q l w
    have l2 : i < xs.length := by
      rcases Nat.lt_or_ge i xs.length with z | z
      · exact z
      · rw [List.drop_eq_nil_iff.mpr z] at q; cases q
    rw [List.drop_eq_getElem_cons l2] at q
    injection q with q1 q2
    have := (hg _ _ _ w).2
    exact ⟨(hg _ _ _ w).1, by omega, hs i y acc h _ w (by rw [List.getElem?_eq_getElem l2, q1]) fun acc h w2 => ih (i + 1) acc h q2 l2 w2⟩
/-- a comprehension that keeps the heap: what it makes of each item -/
theorem comp_fm {g : DG} {t : DT} {m : DM} {gd : DH → Prop} {e : En} {Q : List D → DH → Prop} (xs : List D) (f : D → Option D) {h : DH} (hg : gd h) (hl : xs.length < 16777216)
    (hs : ∀ (x : D) (K : DK) (K2 : DH → Prop), x ∈ xs → (∀ y, f x = some y → K y h) → (f x = none → K2 h) → g x e h E0 fun e1 h1 => t e1 h1 E0 fun k h2 => if k = true then m e1 h2 E0 K else K2 h2)
    (hf : Q (xs.filterMap f) h) : compL g t m gd e xs h [] Q := by
  suffices hh : ∀ (ys acc : List D), acc.length + ys.length ≤ xs.length → (∀ y ∈ ys, y ∈ xs) → Q (acc ++ ys.filterMap f) h → compL g t m gd e ys h acc Q from hh xs [] (by simp) (fun _ z => z) hf
  intro ys
  induction ys with
  | nil => intro acc l _ q; exact ⟨hg, by simpa using q⟩
  | cons y ys ih =>
    intro acc l mm q
    simp only [List.length_cons] at l
    refine ⟨hg, by omega, hs y _ _ (mm y List.mem_cons_self) (fun z ez => ⟨h, .refl h, ih (acc ++ [z]) (by simp; omega) (fun y q => mm y (List.mem_cons_of_mem _ q)) ?_⟩) (fun en => ⟨h, .refl h, ih acc (by omega) (fun y q => mm y (List.mem_cons_of_mem _ q)) ?_⟩)⟩
    · rw [List.filterMap_cons_some ez] at q
      rw [List.append_assoc]; exact q
    · rw [List.filterMap_cons_none en] at q
      exact q
theorem comp_map {g : DG} {t : DT} {m : DM} {gd : DH → Prop} {e : En} {Q : List D → DH → Prop} (xs : List D) (f : D → D) {h : DH} (hg : gd h) (hl : xs.length < 16777216)
    (hs : ∀ (x : D) (K : DK) (K2 : DH → Prop), x ∈ xs → K (f x) h → g x e h E0 fun e1 h1 => t e1 h1 E0 fun k h2 => if k = true then m e1 h2 E0 K else K2 h2)
    (hf : Q (xs.map f) h) : compL g t m gd e xs h [] Q := by
  refine comp_fm xs (fun x => some (f x)) hg hl (fun x K K2 mx k1 k2 => hs x K K2 mx (k1 _ rfl)) ?_
  rw [List.filterMap_eq_map']
  exact hf
end L2.Lmp

set_option maxHeartbeats 4000000
namespace L2.Lmp
open PySem PySem.Spec PyProof.Rows
def b_is_int : DS :=
    (sRt (mAnd (mBlt isiP (aCons (mVar 0) (aCons (mK (.ty "int")) aNil))) (mNot (mBlt isiP (aCons (mVar 0) (aCons (mK (.ty "bool")) aNil))))))
def F_is_int : Fn := mkFn 1 b_is_int

theorem e_is_int {ds : List D} {h : DH} {E : EK} {Q : DK} : F_is_int ds h E Q = mkFn 1 ((sRt (mAnd (mBlt isiP (aCons (mVar 0) (aCons (mK (.ty "int")) aNil))) (mNot (mBlt isiP (aCons (mVar 0) (aCons (mK (.ty "bool")) aNil))))))) ds h E Q := id rfl

def b_is_in : DS :=
    (sRt (mAnd (mCall 1 F_is_int (aCons (mVar 0) aNil)) (mChain leP leP (mVar 1) (mVar 0) (mVar 2))))
def F_is_in : Fn := mkFn 3 b_is_in

theorem e_is_in {ds : List D} {h : DH} {E : EK} {Q : DK} : F_is_in ds h E Q = mkFn 3 ((sRt (mAnd (mCall 1 F_is_int (aCons (mVar 0) aNil)) (mChain leP leP (mVar 1) (mVar 0) (mVar 2))))) ds h E Q := id rfl

def b_settings_of : DS :=
    (sRt (mBlt tupleP (aCons (mComp (itSeq (mVar 0)) [1] (gNm 1) tYs (mOp2 addP (mBlt lenP (aCons (mVar 1) aNil)) (mK (.int 1)))) aNil)))
def F_settings_of : Fn := mkFn 2 b_settings_of

theorem e_settings_of {ds : List D} {h : DH} {E : EK} {Q : DK} : F_settings_of ds h E Q = mkFn 2 ((sRt (mBlt tupleP (aCons (mComp (itSeq (mVar 0)) [1] (gNm 1) tYs (mOp2 addP (mBlt lenP (aCons (mVar 1) aNil)) (mK (.int 1)))) aNil)))) ds h E Q := id rfl

def b_is_word : DS :=
    (sSeq (sIf (tOr2 (tNt (tTru truP (mBlt isiP (aCons (mVar 1) (aCons (mK (.ty "tuple")) aNil))))) (tOp2 neP (mBlt lenP (aCons (mVar 1) aNil)) (mBlt lenP (aCons (mVar 0) aNil)))) (sRt (mK (.bl false))) sPass)
    (sRt (mBlt allP (aCons (mComp (itZip (mVar 1) (mVar 0)) [2, 3] (gTu 2 (gsCons (gNm 2) (gsCons (gNm 3) gsNil))) tYs (mCall 3 F_is_in (aCons (mVar 2) (aCons (mK (.int 0)) (aCons (mOp2 subP (mVar 3) (mK (.int 1))) aNil))))) aNil))))
def F_is_word : Fn := mkFn 4 b_is_word

def b_need_puzzle : DS :=
    (sSeq (sIf (tOr2 (tNt (tTru truP (mBlt isiP (aCons (mVar 0) (aCons (mK (.ty "tuple")) aNil))))) (tNt (tChain' leP leP (mK (.int 1)) (mBlt lenP (aCons (mVar 0) aNil)) (mK (.int 30))))) (sRaise1 "BadPuzzle" "index" (mK .non)) sPass)
    (sSeq (sAsg (mTup aNil) (gNm 1))
    (sFor (itEnum (mVar 0)) (gTu 2 (gsCons (gNm 2) (gsCons (gNm 3) gsNil))) (sSeq (sIf (tOr2 (tNt (tTru truP (mBlt isiP (aCons (mVar 3) (aCons (mK (.ty "tuple")) aNil))))) (tNt (tChain' leP ltP (mOp2 subP (mK (.int 2)) (mK (.int 1))) (mBlt lenP (aCons (mVar 3) aNil)) (mK (.int 4))))) (sRaise1 "BadPuzzle" "index" (mVar 2)) sPass)
    (sSeq (sIf (tNt (tTru truP (mBlt allP (aCons (mComp (itSeq (mVar 3)) [4] (gNm 4) tYs (mCall 2 F_is_word (aCons (mVar 1) (aCons (mVar 4) aNil)))) aNil)))) (sRaise1 "BadPuzzle" "index" (mVar 2)) sPass)
    (sAsg (mOp2 addP (mVar 1) (mTup (aCons (mOp2 addP (mBlt lenP (aCons (mVar 3) aNil)) (mK (.int 1))) aNil))) (gNm 1)))))))
def F_need_puzzle : Fn := mkFn 5 b_need_puzzle

theorem e_need_puzzle {ds : List D} {h : DH} {E : EK} {Q : DK} : F_need_puzzle ds h E Q = mkFn 5 ((sSeq (sIf (tOr2 (tNt (tTru truP (mBlt isiP (aCons (mVar 0) (aCons (mK (.ty "tuple")) aNil))))) (tNt (tChain' leP leP (mK (.int 1)) (mBlt lenP (aCons (mVar 0) aNil)) (mK (.int 30))))) (sRaise1 "BadPuzzle" "index" (mK .non)) sPass)
    (sSeq (sAsg (mTup aNil) (gNm 1))
    (sFor (itEnum (mVar 0)) (gTu 2 (gsCons (gNm 2) (gsCons (gNm 3) gsNil))) (sSeq (sIf (tOr2 (tNt (tTru truP (mBlt isiP (aCons (mVar 3) (aCons (mK (.ty "tuple")) aNil))))) (tNt (tChain' leP ltP (mOp2 subP (mK (.int 2)) (mK (.int 1))) (mBlt lenP (aCons (mVar 3) aNil)) (mK (.int 4))))) (sRaise1 "BadPuzzle" "index" (mVar 2)) sPass)
    (sSeq (sIf (tNt (tTru truP (mBlt allP (aCons (mComp (itSeq (mVar 3)) [4] (gNm 4) tYs (mCall 2 F_is_word (aCons (mVar 1) (aCons (mVar 4) aNil)))) aNil)))) (sRaise1 "BadPuzzle" "index" (mVar 2)) sPass)
    (sAsg (mOp2 addP (mVar 1) (mTup (aCons (mOp2 addP (mBlt lenP (aCons (mVar 3) aNil)) (mK (.int 1))) aNil))) (gNm 1)))))))) ds h E Q := id rfl

def b_need_state : DS :=
    (sIf (tNt (tTru truP (mCall 2 F_is_word (aCons (mCall 1 F_settings_of (aCons (mVar 0) aNil)) (aCons (mVar 1) aNil))))) (sRaise0 "BadState") sPass)
def F_need_state : Fn := mkFn 2 b_need_state

theorem e_need_state {ds : List D} {h : DH} {E : EK} {Q : DK} : F_need_state ds h E Q = mkFn 2 ((sIf (tNt (tTru truP (mCall 2 F_is_word (aCons (mCall 1 F_settings_of (aCons (mVar 0) aNil)) (aCons (mVar 1) aNil))))) (sRaise0 "BadState") sPass)) ds h E Q := id rfl

def b_need_two : DS :=
    (sSeq (sExp (mCall 1 F_need_puzzle (aCons (mVar 0) aNil)))
    (sSeq (sExp (mCall 2 F_need_state (aCons (mVar 0) (aCons (mVar 1) aNil))))
    (sExp (mCall 2 F_need_state (aCons (mVar 0) (aCons (mVar 2) aNil))))))
def F_need_two : Fn := mkFn 3 b_need_two

theorem e_need_two {ds : List D} {h : DH} {E : EK} {Q : DK} : F_need_two ds h E Q = mkFn 3 ((sSeq (sExp (mCall 1 F_need_puzzle (aCons (mVar 0) aNil)))
    (sSeq (sExp (mCall 2 F_need_state (aCons (mVar 0) (aCons (mVar 1) aNil))))
    (sExp (mCall 2 F_need_state (aCons (mVar 0) (aCons (mVar 2) aNil))))))) ds h E Q := id rfl

def b_product : DS :=
    (sSeq (sAsg (mK (.int 1)) (gNm 1))
    (sSeq (sFor (itSeq (mVar 0)) (gNm 2) (sAsg (mOp2 mulP (mVar 1) (mVar 2)) (gNm 1)))
    (sRt (mVar 1))))
def F_product : Fn := mkFn 3 b_product

def t_parts_of_1 : DS :=
    (sSeq (sExp (mApp (mVar 5) (mTup (aCons (mVar 7) (aCons (mVar 6) (aCons (mVar 8) aNil))))))
    (sAsg (mVar 8) (gNm 6)))
def t_parts_of_2 : DS :=
    (sSeq (sPar 5 6 (aCons (mLstM aNil) (aCons (mSl slP (mVar 1) oNo (oSo (mOp1 negP (mK (.int 1))))) aNil)))
    (sSeq (sFor (itR3 (mOp2 ixP (mVar 1) (mOp1 negP (mK (.int 1)))) (mOp2 ixP (mVar 2) (mOp1 negP (mK (.int 1)))) (mVar 4)) (gNm 7) (sSeq (sAsg (mIf (tOp2 gtP (mVar 4) (mK (.int 0))) (mOp2 ixP (mVar 3) (mVar 7)) (mOp2 ixP (mVar 3) (mOp2 subP (mVar 7) (mK (.int 1))))) (gNm 8))
    t_parts_of_1))
    (sSeq (sExp (mApp (mVar 5) (mTup (aCons (mOp2 ixP (mVar 2) (mOp1 negP (mK (.int 1)))) (aCons (mVar 6) (aCons (mSl slP (mVar 2) oNo (oSo (mOp1 negP (mK (.int 1))))) aNil))))))
    (sRt (mVar 5)))))
def b_parts_of : DS :=
    (sSeq (sPar 3 4 (aCons (mOp2 ixP (mVar 0) (mOp2 subP (mBlt lenP (aCons (mVar 1) aNil)) (mK (.int 1)))) (aCons (mIf (tOp2 leP (mOp2 ixP (mVar 1) (mOp1 negP (mK (.int 1)))) (mOp2 ixP (mVar 2) (mOp1 negP (mK (.int 1))))) (mK (.int 1)) (mOp1 negP (mK (.int 1)))) aNil)))
    t_parts_of_2)
def F_parts_of : Fn := mkFn 9 b_parts_of

def t_uses_of_1 (S : Fn) : DS :=
    (sRt (mOp2 ixDP (mVar 1) (mTup (aCons (mVar 2) (aCons (mVar 3) aNil)))))
def b_uses_of (S : Fn) : DS :=
    (sSeq (sIf (tOp2 eqP (mVar 2) (mVar 3)) (sRt (mOp2 mulP (mTup (aCons (mK (.int 0)) aNil)) (mBlt lenP (aCons (mVar 2) aNil)))) sPass)
    (sSeq (sIf (tOp2 ninDP (mTup (aCons (mVar 2) (aCons (mVar 3) aNil))) (mVar 1)) (sSeq (sAsg (mOp2 mulLP (mLst (aCons (mK (.int 0)) aNil)) (mOp2 subP (mBlt lenP (aCons (mVar 2) aNil)) (mK (.int 1)))) (gNm 4))
    (sSeq (sFor (itSeq (mCall 3 F_parts_of (aCons (mVar 0) (aCons (mVar 2) (aCons (mVar 3) aNil))))) (gTu 3 (gsCons (gNm 5) (gsCons (gNm 6) (gsCons (gNm 7) gsNil)))) (sAsg (mComp (itZip (mVar 4) (mCall 4 S (aCons (mVar 0) (aCons (mVar 1) (aCons (mVar 6) (aCons (mVar 7) aNil)))))) [8, 9] (gTu 2 (gsCons (gNm 8) (gsCons (gNm 9) gsNil))) tYs (mOp2 addP (mVar 8) (mVar 9))) (gNm 4)))
    (sAsg (mTup (aStar (mVar 4) (aCons (mBlt absP (aCons (mOp2 subP (mOp2 ixP (mVar 2) (mOp1 negP (mK (.int 1)))) (mOp2 ixP (mVar 3) (mOp1 negP (mK (.int 1))))) aNil)) aNil))) (gSb setDP (mVar 1) (mTup (aCons (mVar 2) (aCons (mVar 3) aNil))))))) sPass)
    (t_uses_of_1 S)))
def F_uses_of : Nat → Fn
  | 0 => fun _ _ _ _ => False
  | n + 1 => mkFn 10 (b_uses_of (F_uses_of n))

theorem e_uses_of {n : Nat} {ds : List D} {h : DH} {E : EK} {Q : DK} : F_uses_of (n + 1) ds h E Q = mkFn 10 ((sSeq (sIf (tOp2 eqP (mVar 2) (mVar 3)) (sRt (mOp2 mulP (mTup (aCons (mK (.int 0)) aNil)) (mBlt lenP (aCons (mVar 2) aNil)))) sPass)
    (sSeq (sIf (tOp2 ninDP (mTup (aCons (mVar 2) (aCons (mVar 3) aNil))) (mVar 1)) (sSeq (sAsg (mOp2 mulLP (mLst (aCons (mK (.int 0)) aNil)) (mOp2 subP (mBlt lenP (aCons (mVar 2) aNil)) (mK (.int 1)))) (gNm 4))
    (sSeq (sFor (itSeq (mCall 3 F_parts_of (aCons (mVar 0) (aCons (mVar 2) (aCons (mVar 3) aNil))))) (gTu 3 (gsCons (gNm 5) (gsCons (gNm 6) (gsCons (gNm 7) gsNil)))) (sAsg (mComp (itZip (mVar 4) (mCall 4 (F_uses_of n) (aCons (mVar 0) (aCons (mVar 1) (aCons (mVar 6) (aCons (mVar 7) aNil)))))) [8, 9] (gTu 2 (gsCons (gNm 8) (gsCons (gNm 9) gsNil))) tYs (mOp2 addP (mVar 8) (mVar 9))) (gNm 4)))
    (sAsg (mTup (aStar (mVar 4) (aCons (mBlt absP (aCons (mOp2 subP (mOp2 ixP (mVar 2) (mOp1 negP (mK (.int 1)))) (mOp2 ixP (mVar 3) (mOp1 negP (mK (.int 1))))) aNil)) aNil))) (gSb setDP (mVar 1) (mTup (aCons (mVar 2) (aCons (mVar 3) aNil))))))) sPass)
    (t_uses_of_1 (F_uses_of n))))) ds h E Q := id rfl

def t_need_held_1 : DS :=
    (sIf (tNt (tTru truP (mBlt allP (aCons (mComp (itZip (mVar 1) (mSl slP (mVar 1) (oSo (mK (.int 1))) oNo)) [3, 4] (gTu 2 (gsCons (gNm 3) (gsCons (gNm 4) gsNil))) tYs (mOp2 ltP (mVar 3) (mVar 4))) aNil)))) (sRaise0 "BadHeld") sPass)
theorem u_t_need_held_1 {e : En} {h : DH} {E : EK} {D : Fl} : t_need_held_1 e h E D = ((sIf (tNt (tTru truP (mBlt allP (aCons (mComp (itZip (mVar 1) (mSl slP (mVar 1) (oSo (mK (.int 1))) oNo)) [3, 4] (gTu 2 (gsCons (gNm 3) (gsCons (gNm 4) gsNil))) tYs (mOp2 ltP (mVar 3) (mVar 4))) aNil)))) (sRaise0 "BadHeld") sPass)) e h E D := id rfl
def b_need_held : DS :=
    (sSeq (sIf (tOr2 (tNt (tTru truP (mBlt isiP (aCons (mVar 1) (aCons (mK (.ty "tuple")) aNil))))) (tNt (tTru truP (mBlt allP (aCons (mComp (itSeq (mVar 1)) [2] (gNm 2) tYs (mCall 3 F_is_in (aCons (mVar 2) (aCons (mK (.int 0)) (aCons (mOp2 subP (mBlt lenP (aCons (mVar 0) aNil)) (mK (.int 1))) aNil))))) aNil))))) (sRaise0 "BadHeld") sPass)
    t_need_held_1)
def F_need_held : Fn := mkFn 5 b_need_held

theorem e_need_held {ds : List D} {h : DH} {E : EK} {Q : DK} : F_need_held ds h E Q = mkFn 5 ((sSeq (sIf (tOr2 (tNt (tTru truP (mBlt isiP (aCons (mVar 1) (aCons (mK (.ty "tuple")) aNil))))) (tNt (tTru truP (mBlt allP (aCons (mComp (itSeq (mVar 1)) [2] (gNm 2) tYs (mCall 3 F_is_in (aCons (mVar 2) (aCons (mK (.int 0)) (aCons (mOp2 subP (mBlt lenP (aCons (mVar 0) aNil)) (mK (.int 1))) aNil))))) aNil))))) (sRaise0 "BadHeld") sPass)
    t_need_held_1)) ds h E Q := id rfl

def b_count_parts : DS :=
    (sSeq (sExp (mCall 1 F_need_puzzle (aCons (mVar 0) aNil)))
    (sSeq (sExp (mCall 2 F_need_held (aCons (mVar 0) (aCons (mVar 1) aNil))))
    (sSeq (sAsg (mCall 1 F_settings_of (aCons (mVar 0) aNil)) (gNm 2))
    (sSeq (sAsg (mCall 1 F_product (aCons (mVar 2) aNil)) (gNm 3))
    (sSeq (sFor (itEnum (mVar 2)) (gTu 2 (gsCons (gNm 4) (gsCons (gNm 5) gsNil))) (sIf (tOp2 ninP (mVar 4) (mVar 1)) (sAug 3 (mOp2 mulP (mOp2 subP (mVar 5) (mK (.int 1))) (mCall 1 F_product (aCons (mSl slP (mVar 2) (oSo (mOp2 addP (mVar 4) (mK (.int 1)))) oNo) aNil))) subP) sPass))
    (sRt (mVar 3)))))))
def F_count_parts : Fn := mkFn 6 b_count_parts

theorem e_count_parts {ds : List D} {h : DH} {E : EK} {Q : DK} : F_count_parts ds h E Q = mkFn 6 ((sSeq (sExp (mCall 1 F_need_puzzle (aCons (mVar 0) aNil)))
    (sSeq (sExp (mCall 2 F_need_held (aCons (mVar 0) (aCons (mVar 1) aNil))))
    (sSeq (sAsg (mCall 1 F_settings_of (aCons (mVar 0) aNil)) (gNm 2))
    (sSeq (sAsg (mCall 1 F_product (aCons (mVar 2) aNil)) (gNm 3))
    (sSeq (sFor (itEnum (mVar 2)) (gTu 2 (gsCons (gNm 4) (gsCons (gNm 5) gsNil))) (sIf (tOp2 ninP (mVar 4) (mVar 1)) (sAug 3 (mOp2 mulP (mOp2 subP (mVar 5) (mK (.int 1))) (mCall 1 F_product (aCons (mSl slP (mVar 2) (oSo (mOp2 addP (mVar 4) (mK (.int 1)))) oNo) aNil))) subP) sPass))
    (sRt (mVar 3)))))))) ds h E Q := id rfl

def b_Held_init : DS :=
    (sSeq (sFldD "Held" (mVar 0) "puzzle" (mVar 1))
    (sSeq (sFldD "Held" (mVar 0) "lamps" (mVar 2))
    (sSeq (sFldD "Held" (mVar 0) "known" mDic0)
    (sFldD "Held" (mVar 0) "sizes" (mDic1 (mTup aNil) (mK (.int 1)))))))
def F_Held_init : Fn := mkFn 3 b_Held_init

theorem e_Held_init {ds : List D} {h : DH} {E : EK} {Q : DK} : F_Held_init ds h E Q = mkFn 3 ((sSeq (sFldD "Held" (mVar 0) "puzzle" (mVar 1))
    (sSeq (sFldD "Held" (mVar 0) "lamps" (mVar 2))
    (sSeq (sFldD "Held" (mVar 0) "known" mDic0)
    (sFldD "Held" (mVar 0) "sizes" (mDic1 (mTup aNil) (mK (.int 1)))))))) ds h E Q := id rfl

def b_Held_is_open : DS :=
    (sSeq (sAsg (mCall 4 (F_uses_of 40) (aCons (mFld "Held" (mVar 0) "puzzle") (aCons (mFld "Held" (mVar 0) "known") (aCons (mVar 1) (aCons (mVar 2) aNil))))) (gNm 3))
    (sRt (mNot (mBlt anyP (aCons (mComp (itSeq (mFld "Held" (mVar 0) "lamps")) [4] (gNm 4) (tOp2 ltP (mVar 4) (mBlt lenP (aCons (mVar 3) aNil))) (mOp2 gtP (mOp2 ixP (mVar 3) (mVar 4)) (mK (.int 0)))) aNil)))))
def F_Held_is_open : Fn := mkFn 5 b_Held_is_open

theorem e_Held_is_open {ds : List D} {h : DH} {E : EK} {Q : DK} : F_Held_is_open ds h E Q = mkFn 5 ((sSeq (sAsg (mCall 4 (F_uses_of 40) (aCons (mFld "Held" (mVar 0) "puzzle") (aCons (mFld "Held" (mVar 0) "known") (aCons (mVar 1) (aCons (mVar 2) aNil))))) (gNm 3))
    (sRt (mNot (mBlt anyP (aCons (mComp (itSeq (mFld "Held" (mVar 0) "lamps")) [4] (gNm 4) (tOp2 ltP (mVar 4) (mBlt lenP (aCons (mVar 3) aNil))) (mOp2 gtP (mOp2 ixP (mVar 3) (mVar 4)) (mK (.int 0)))) aNil)))))) ds h E Q := id rfl

def t_Held_size_1 (S : Fn) : DS :=
    (sAsg (mVar 4) (gSb setDP (mFld "Held" (mVar 0) "sizes") (mVar 1)))
def t_Held_size_2 (S : Fn) : DS :=
    (sRt (mOp2 ixDP (mFld "Held" (mVar 0) "sizes") (mVar 1)))
def b_Held_size (S : Fn) : DS :=
    (sSeq (sIf (tOp2 ninDP (mVar 1) (mFld "Held" (mVar 0) "sizes")) (sSeq (sPar3 2 3 4 (aCons (mOp2 ixP (mFld "Held" (mVar 0) "puzzle") (mOp2 subP (mBlt lenP (aCons (mVar 1) aNil)) (mK (.int 1)))) (aCons (mOp2 ixP (mVar 1) (mOp1 negP (mK (.int 1)))) (aCons (mMeth "Held" "size" 2 S (mVar 0) (aCons (mSl slP (mVar 1) oNo (oSo (mOp1 negP (mK (.int 1))))) aNil)) aNil))))
    (sSeq (sIf (tOp2 ninP (mOp2 subP (mBlt lenP (aCons (mVar 1) aNil)) (mK (.int 1))) (mFld "Held" (mVar 0) "lamps")) (sSeq (sAsg (mSl slP (mVar 1) oNo (oSo (mOp1 negP (mK (.int 1))))) (gNm 5))
    (sSeq (sFor (itR2 (mVar 3) (mBlt lenP (aCons (mVar 2) aNil))) (gNm 6) (sSeq (sIf (tNt (tTru truP (mMeth "Held" "is_open" 3 F_Held_is_open (mVar 0) (aCons (mVar 5) (aCons (mOp2 ixP (mVar 2) (mVar 6)) aNil))))) sBrk sPass)
    (sSeq (sAsg (mOp2 ixP (mVar 2) (mVar 6)) (gNm 5))
    (sAug 4 (mMeth "Held" "size" 2 S (mVar 0) (aCons (mVar 5) aNil)) iaddP))))
    (sSeq (sAsg (mSl slP (mVar 1) oNo (oSo (mOp1 negP (mK (.int 1))))) (gNm 5))
    (sFor (itR3 (mVar 3) (mK (.int 0)) (mOp1 negP (mK (.int 1)))) (gNm 6) (sSeq (sIf (tNt (tTru truP (mMeth "Held" "is_open" 3 F_Held_is_open (mVar 0) (aCons (mVar 5) (aCons (mOp2 ixP (mVar 2) (mOp2 subP (mVar 6) (mK (.int 1)))) aNil))))) sBrk sPass)
    (sSeq (sAsg (mOp2 ixP (mVar 2) (mOp2 subP (mVar 6) (mK (.int 1)))) (gNm 5))
    (sAug 4 (mMeth "Held" "size" 2 S (mVar 0) (aCons (mVar 5) aNil)) iaddP))))))) sPass)
    (t_Held_size_1 S))) sPass)
    (t_Held_size_2 S))
def F_Held_size : Nat → Fn
  | 0 => fun _ _ _ _ => False
  | n + 1 => mkFn 7 (b_Held_size (F_Held_size n))

def b_part_size : DS :=
    (sSeq (sExp (mCall 1 F_need_puzzle (aCons (mVar 0) aNil)))
    (sSeq (sExp (mCall 2 F_need_held (aCons (mVar 0) (aCons (mVar 1) aNil))))
    (sSeq (sExp (mCall 2 F_need_state (aCons (mVar 0) (aCons (mVar 2) aNil))))
    (sRt (mMeth "Held" "size" 2 (F_Held_size 40) (mMake "Held" 3 F_Held_init (aCons (mVar 0) (aCons (mVar 1) aNil))) (aCons (mVar 2) aNil))))))
def F_part_size : Fn := mkFn 3 b_part_size

theorem e_part_size {ds : List D} {h : DH} {E : EK} {Q : DK} : F_part_size ds h E Q = mkFn 3 ((sSeq (sExp (mCall 1 F_need_puzzle (aCons (mVar 0) aNil)))
    (sSeq (sExp (mCall 2 F_need_held (aCons (mVar 0) (aCons (mVar 1) aNil))))
    (sSeq (sExp (mCall 2 F_need_state (aCons (mVar 0) (aCons (mVar 2) aNil))))
    (sRt (mMeth "Held" "size" 2 (F_Held_size 40) (mMake "Held" 3 F_Held_init (aCons (mVar 0) (aCons (mVar 1) aNil))) (aCons (mVar 2) aNil))))))) ds h E Q := id rfl

def b_can_come : DS :=
    (sSeq (sExp (mCall 1 F_need_puzzle (aCons (mVar 0) aNil)))
    (sSeq (sExp (mCall 2 F_need_held (aCons (mVar 0) (aCons (mVar 1) aNil))))
    (sSeq (sExp (mCall 2 F_need_state (aCons (mVar 0) (aCons (mVar 2) aNil))))
    (sSeq (sExp (mCall 2 F_need_state (aCons (mVar 0) (aCons (mVar 3) aNil))))
    (sRt (mMeth "Held" "is_open" 3 F_Held_is_open (mMake "Held" 3 F_Held_init (aCons (mVar 0) (aCons (mVar 1) aNil))) (aCons (mVar 2) (aCons (mVar 3) aNil))))))))
def F_can_come : Fn := mkFn 4 b_can_come

theorem e_can_come {ds : List D} {h : DH} {E : EK} {Q : DK} : F_can_come ds h E Q = mkFn 4 ((sSeq (sExp (mCall 1 F_need_puzzle (aCons (mVar 0) aNil)))
    (sSeq (sExp (mCall 2 F_need_held (aCons (mVar 0) (aCons (mVar 1) aNil))))
    (sSeq (sExp (mCall 2 F_need_state (aCons (mVar 0) (aCons (mVar 2) aNil))))
    (sSeq (sExp (mCall 2 F_need_state (aCons (mVar 0) (aCons (mVar 3) aNil))))
    (sRt (mMeth "Held" "is_open" 3 F_Held_is_open (mMake "Held" 3 F_Held_init (aCons (mVar 0) (aCons (mVar 1) aNil))) (aCons (mVar 2) (aCons (mVar 3) aNil))))))))) ds h E Q := id rfl

def b_least_free : DS :=
    (sSeq (sExp (mCall 3 F_need_two (aCons (mVar 0) (aCons (mVar 1) (aCons (mVar 2) aNil)))))
    (sRt (mBlt tupleP (aCons (mComp (itEnum (mCall 4 (F_uses_of 40) (aCons (mVar 0) (aCons mDic0 (aCons (mVar 1) (aCons (mVar 2) aNil)))))) [3, 4] (gTu 2 (gsCons (gNm 3) (gsCons (gNm 4) gsNil))) (tOp2 gtP (mVar 4) (mK (.int 0))) (mVar 3)) aNil))))
def F_least_free : Fn := mkFn 5 b_least_free

theorem e_least_free {ds : List D} {h : DH} {E : EK} {Q : DK} : F_least_free ds h E Q = mkFn 5 ((sSeq (sExp (mCall 3 F_need_two (aCons (mVar 0) (aCons (mVar 1) (aCons (mVar 2) aNil)))))
    (sRt (mBlt tupleP (aCons (mComp (itEnum (mCall 4 (F_uses_of 40) (aCons (mVar 0) (aCons mDic0 (aCons (mVar 1) (aCons (mVar 2) aNil)))))) [3, 4] (gTu 2 (gsCons (gNm 3) (gsCons (gNm 4) gsNil))) (tOp2 gtP (mVar 4) (mK (.int 0))) (mVar 3)) aNil))))) ds h E Q := id rfl

def b_edge_counts : DS :=
    (sSeq (sExp (mCall 1 F_need_puzzle (aCons (mVar 0) aNil)))
    (sSeq (sAsg (mCall 1 F_settings_of (aCons (mVar 0) aNil)) (gNm 1))
    (sRt (mBlt tupleP (aCons (mComp (itEnum (mVar 1)) [2, 3] (gTu 2 (gsCons (gNm 2) (gsCons (gNm 3) gsNil))) tYs (mOp2 mulP (mOp2 subP (mVar 3) (mK (.int 1))) (mCall 1 F_product (aCons (mSl slP (mVar 1) (oSo (mOp2 addP (mVar 2) (mK (.int 1)))) oNo) aNil)))) aNil)))))
def F_edge_counts : Fn := mkFn 4 b_edge_counts

theorem e_edge_counts {ds : List D} {h : DH} {E : EK} {Q : DK} : F_edge_counts ds h E Q = mkFn 4 ((sSeq (sExp (mCall 1 F_need_puzzle (aCons (mVar 0) aNil)))
    (sSeq (sAsg (mCall 1 F_settings_of (aCons (mVar 0) aNil)) (gNm 1))
    (sRt (mBlt tupleP (aCons (mComp (itEnum (mVar 1)) [2, 3] (gTu 2 (gsCons (gNm 2) (gsCons (gNm 3) gsNil))) tYs (mOp2 mulP (mOp2 subP (mVar 3) (mK (.int 1))) (mCall 1 F_product (aCons (mSl slP (mVar 1) (oSo (mOp2 addP (mVar 2) (mK (.int 1)))) oNo) aNil)))) aNil)))))) ds h E Q := id rfl

def b_law_taken : DS :=
    (sSeq (sIf (tOp2 gtP (mOp2 ixP (mVar 0) (mK (.int 3))) (mK (.int 0))) (sSeq (sAsg (mOp2 modP (mBlt intP (aCons (mOp2 ixP (mVar 0) (mK (.int 3))) aNil)) (mVar 1)) (gNm 2))
    (sSeq (sAsg (mOp2 divP (mOp2 ixP (mVar 0) (mK (.int 3))) (mVar 1)) (gSb setLP (mVar 0) (mK (.int 3))))
    (sRt (mVar 2)))) sPass)
    (sSeq (sAsg (mOp2 addP (mOp2 ixP (mVar 0) (mK (.int 1))) (mK (.int 1))) (gSb setLP (mVar 0) (mK (.int 1))))
    (sSeq (sIf (tOp2 gtP (mOp2 ixP (mVar 0) (mK (.int 1))) (mBlt lenP (aCons (mOp2 ixP (mVar 0) (mK (.int 0))) aNil))) (sSeq (sAsg (mOp2 modP (mBlt intP (aCons (mOp2 addP (mOp2 mulP (mOp2 ixP (mVar 0) (mK (.int 2))) (mK (.int 48271))) (mK (.int 11))) aNil)) (mK (.int 2147483647))) (gSb setLP (mVar 0) (mK (.int 2))))
    (sRt (mOp2 modP (mBlt intP (aCons (mOp2 divP (mOp2 ixP (mVar 0) (mK (.int 2))) (mK (.int 7))) aNil)) (mVar 1)))) sPass)
    (sSeq (sAsg (mOp2 ixP (mOp2 ixP (mVar 0) (mK (.int 0))) (mOp2 subP (mOp2 ixP (mVar 0) (mK (.int 1))) (mK (.int 1)))) (gNm 3))
    (sSeq (sAsg (mOp2 modP (mBlt intP (aCons (mOp2 addP (mOp2 addP (mOp2 mulP (mOp2 ixP (mVar 0) (mK (.int 2))) (mK (.int 48271))) (mVar 3)) (mK (.int 11))) aNil)) (mK (.int 2147483647))) (gSb setLP (mVar 0) (mK (.int 2))))
    (sSeq (sIf (tOp2 geP (mVar 3) (mOp2 powP (mK (.int 10)) (mK (.int 18)))) (sAsg (mOp2 divP (mVar 3) (mVar 1)) (gSb setLP (mVar 0) (mK (.int 3)))) sPass)
    (sRt (mOp2 modP (mBlt intP (aCons (mVar 3) aNil)) (mVar 1)))))))))
def F_law_taken : Fn := mkFn 4 b_law_taken

theorem e_law_taken {ds : List D} {h : DH} {E : EK} {Q : DK} : F_law_taken ds h E Q = mkFn 4 ((sSeq (sIf (tOp2 gtP (mOp2 ixP (mVar 0) (mK (.int 3))) (mK (.int 0))) (sSeq (sAsg (mOp2 modP (mBlt intP (aCons (mOp2 ixP (mVar 0) (mK (.int 3))) aNil)) (mVar 1)) (gNm 2))
    (sSeq (sAsg (mOp2 divP (mOp2 ixP (mVar 0) (mK (.int 3))) (mVar 1)) (gSb setLP (mVar 0) (mK (.int 3))))
    (sRt (mVar 2)))) sPass)
    (sSeq (sAsg (mOp2 addP (mOp2 ixP (mVar 0) (mK (.int 1))) (mK (.int 1))) (gSb setLP (mVar 0) (mK (.int 1))))
    (sSeq (sIf (tOp2 gtP (mOp2 ixP (mVar 0) (mK (.int 1))) (mBlt lenP (aCons (mOp2 ixP (mVar 0) (mK (.int 0))) aNil))) (sSeq (sAsg (mOp2 modP (mBlt intP (aCons (mOp2 addP (mOp2 mulP (mOp2 ixP (mVar 0) (mK (.int 2))) (mK (.int 48271))) (mK (.int 11))) aNil)) (mK (.int 2147483647))) (gSb setLP (mVar 0) (mK (.int 2))))
    (sRt (mOp2 modP (mBlt intP (aCons (mOp2 divP (mOp2 ixP (mVar 0) (mK (.int 2))) (mK (.int 7))) aNil)) (mVar 1)))) sPass)
    (sSeq (sAsg (mOp2 ixP (mOp2 ixP (mVar 0) (mK (.int 0))) (mOp2 subP (mOp2 ixP (mVar 0) (mK (.int 1))) (mK (.int 1)))) (gNm 3))
    (sSeq (sAsg (mOp2 modP (mBlt intP (aCons (mOp2 addP (mOp2 addP (mOp2 mulP (mOp2 ixP (mVar 0) (mK (.int 2))) (mK (.int 48271))) (mVar 3)) (mK (.int 11))) aNil)) (mK (.int 2147483647))) (gSb setLP (mVar 0) (mK (.int 2))))
    (sSeq (sIf (tOp2 geP (mVar 3) (mOp2 powP (mK (.int 10)) (mK (.int 18)))) (sAsg (mOp2 divP (mVar 3) (mVar 1)) (gSb setLP (mVar 0) (mK (.int 3)))) sPass)
    (sRt (mOp2 modP (mBlt intP (aCons (mVar 3) aNil)) (mVar 1)))))))))) ds h E Q := id rfl

def b_law_pick : DS :=
    (sRt (mOp2 ixP (mVar 1) (mCall 2 F_law_taken (aCons (mVar 0) (aCons (mBlt lenP (aCons (mVar 1) aNil)) aNil)))))
def F_law_pick : Fn := mkFn 2 b_law_pick

theorem e_law_pick {ds : List D} {h : DH} {E : EK} {Q : DK} : F_law_pick ds h E Q = mkFn 2 ((sRt (mOp2 ixP (mVar 1) (mCall 2 F_law_taken (aCons (mVar 0) (aCons (mBlt lenP (aCons (mVar 1) aNil)) aNil)))))) ds h E Q := id rfl

def b_law_product : DS :=
    (sSeq (sAsg (mK (.int 1)) (gNm 1))
    (sSeq (sFor (itSeq (mVar 0)) (gNm 2) (sAsg (mOp2 mulP (mVar 1) (mVar 2)) (gNm 1)))
    (sRt (mVar 1))))
def F_law_product : Fn := mkFn 3 b_law_product

theorem e_law_product {ds : List D} {h : DH} {E : EK} {Q : DK} : F_law_product ds h E Q = mkFn 3 ((sSeq (sAsg (mK (.int 1)) (gNm 1))
    (sSeq (sFor (itSeq (mVar 0)) (gNm 2) (sAsg (mOp2 mulP (mVar 1) (mVar 2)) (gNm 1)))
    (sRt (mVar 1))))) ds h E Q := id rfl

def b_law_settings : DS :=
    (sSeq (sAsg (mLstM (aCons (mOp2 addP (mK (.int 2)) (mCall 2 F_law_taken (aCons (mVar 0) (aCons (mK (.int 3)) aNil)))) aNil)) (gNm 2))
    (sWh (tTru truP (mK (.bl true))) (sSeq (sAsg (mCall 2 F_law_pick (aCons (mVar 0) (aCons (mLst (aCons (mK (.int 2)) (aCons (mK (.int 2)) (aCons (mK (.int 3)) (aCons (mK (.int 4)) aNil))))) aNil))) (gNm 3))
    (sSeq (sIf (tOr2 (tOp2 gtP (mOp2 mulP (mCall 1 F_law_product (aCons (mVar 2) aNil)) (mVar 3)) (mVar 1)) (tOp2 eqP (mCall 2 F_law_taken (aCons (mVar 0) (aCons (mK (.int 6)) aNil))) (mK (.int 0)))) (sRt (mBlt tupleP (aCons (mVar 2) aNil))) sPass)
    (sExp (mApp (mVar 2) (mVar 3)))))))
def F_law_settings : Fn := mkFn 4 b_law_settings

theorem e_law_settings {ds : List D} {h : DH} {E : EK} {Q : DK} : F_law_settings ds h E Q = mkFn 4 ((sSeq (sAsg (mLstM (aCons (mOp2 addP (mK (.int 2)) (mCall 2 F_law_taken (aCons (mVar 0) (aCons (mK (.int 3)) aNil)))) aNil)) (gNm 2))
    (sWh (tTru truP (mK (.bl true))) (sSeq (sAsg (mCall 2 F_law_pick (aCons (mVar 0) (aCons (mLst (aCons (mK (.int 2)) (aCons (mK (.int 2)) (aCons (mK (.int 3)) (aCons (mK (.int 4)) aNil))))) aNil))) (gNm 3))
    (sSeq (sIf (tOr2 (tOp2 gtP (mOp2 mulP (mCall 1 F_law_product (aCons (mVar 2) aNil)) (mVar 3)) (mVar 1)) (tOp2 eqP (mCall 2 F_law_taken (aCons (mVar 0) (aCons (mK (.int 6)) aNil))) (mK (.int 0)))) (sRt (mBlt tupleP (aCons (mVar 2) aNil))) sPass)
    (sExp (mApp (mVar 2) (mVar 3)))))))) ds h E Q := id rfl

def b_law_of : DS :=
    (sSeq (sPar 2 3 (aCons (mLstM aNil) (aCons (mCall 2 F_law_taken (aCons (mVar 0) (aCons (mK (.int 4)) aNil))) aNil)))
    (sSeq (sFor (itR1 (mBlt lenP (aCons (mVar 1) aNil))) (gNm 4) (sSeq (sAsg (mLstM aNil) (gNm 5))
    (sSeq (sFor (itR1 (mOp2 subP (mOp2 ixP (mVar 1) (mVar 4)) (mK (.int 1)))) (gNm 6) (sSeq (sAsg (mBlt tupleP (aCons (mComp (itSeq (mSl slP (mVar 1) oNo (oSo (mVar 4)))) [8] (gNm 8) tYs (mCall 2 F_law_taken (aCons (mVar 0) (aCons (mVar 8) aNil)))) aNil)) (gNm 7))
    (sSeq (sIf (tOp2 eqP (mVar 3) (mK (.int 0))) (sAsg (mOp2 mulP (mTup (aCons (mK (.int 0)) aNil)) (mVar 4)) (gNm 7)) sPass)
    (sSeq (sIf (tAnd2 (tOp2 eqP (mVar 3) (mK (.int 1))) (tOp2 neP (mVar 5) (mLst aNil))) (sAsg (mOp2 ixP (mVar 5) (mOp1 negP (mK (.int 1)))) (gNm 7)) sPass)
    (sExp (mApp (mVar 5) (mVar 7)))))))
    (sExp (mApp (mVar 2) (mBlt tupleP (aCons (mVar 5) aNil)))))))
    (sRt (mBlt tupleP (aCons (mVar 2) aNil)))))
def F_law_of : Fn := mkFn 9 b_law_of

theorem e_law_of {ds : List D} {h : DH} {E : EK} {Q : DK} : F_law_of ds h E Q = mkFn 9 ((sSeq (sPar 2 3 (aCons (mLstM aNil) (aCons (mCall 2 F_law_taken (aCons (mVar 0) (aCons (mK (.int 4)) aNil))) aNil)))
    (sSeq (sFor (itR1 (mBlt lenP (aCons (mVar 1) aNil))) (gNm 4) (sSeq (sAsg (mLstM aNil) (gNm 5))
    (sSeq (sFor (itR1 (mOp2 subP (mOp2 ixP (mVar 1) (mVar 4)) (mK (.int 1)))) (gNm 6) (sSeq (sAsg (mBlt tupleP (aCons (mComp (itSeq (mSl slP (mVar 1) oNo (oSo (mVar 4)))) [8] (gNm 8) tYs (mCall 2 F_law_taken (aCons (mVar 0) (aCons (mVar 8) aNil)))) aNil)) (gNm 7))
    (sSeq (sIf (tOp2 eqP (mVar 3) (mK (.int 0))) (sAsg (mOp2 mulP (mTup (aCons (mK (.int 0)) aNil)) (mVar 4)) (gNm 7)) sPass)
    (sSeq (sIf (tAnd2 (tOp2 eqP (mVar 3) (mK (.int 1))) (tOp2 neP (mVar 5) (mLst aNil))) (sAsg (mOp2 ixP (mVar 5) (mOp1 negP (mK (.int 1)))) (gNm 7)) sPass)
    (sExp (mApp (mVar 5) (mVar 7)))))))
    (sExp (mApp (mVar 2) (mBlt tupleP (aCons (mVar 5) aNil)))))))
    (sRt (mBlt tupleP (aCons (mVar 2) aNil)))))) ds h E Q := id rfl

def b_law_puzzle : DS :=
    (sRt (mCall 2 F_law_of (aCons (mVar 0) (aCons (mCall 2 F_law_settings (aCons (mVar 0) (aCons (mVar 1) aNil))) aNil))))
def F_law_puzzle : Fn := mkFn 2 b_law_puzzle

theorem e_law_puzzle {ds : List D} {h : DH} {E : EK} {Q : DK} : F_law_puzzle ds h E Q = mkFn 2 ((sRt (mCall 2 F_law_of (aCons (mVar 0) (aCons (mCall 2 F_law_settings (aCons (mVar 0) (aCons (mVar 1) aNil))) aNil))))) ds h E Q := id rfl

def b_law_state : DS :=
    (sRt (mBlt tupleP (aCons (mComp (itSeq (mVar 1)) [2] (gNm 2) tYs (mCall 2 F_law_taken (aCons (mVar 0) (aCons (mOp2 addP (mBlt lenP (aCons (mVar 2) aNil)) (mK (.int 1))) aNil)))) aNil)))
def F_law_state : Fn := mkFn 3 b_law_state

theorem e_law_state {ds : List D} {h : DH} {E : EK} {Q : DK} : F_law_state ds h E Q = mkFn 3 ((sRt (mBlt tupleP (aCons (mComp (itSeq (mVar 1)) [2] (gNm 2) tYs (mCall 2 F_law_taken (aCons (mVar 0) (aCons (mOp2 addP (mBlt lenP (aCons (mVar 2) aNil)) (mK (.int 1))) aNil)))) aNil)))) ds h E Q := id rfl

abbrev hs_law : Hds := [("BadPuzzle", some "index"), ("BadState", none), ("BadHeld", none)]
def t_law_1 (P : Addr) : DS :=
    (sSeq (sAsg (mLst (aCons (mTup (aCons (mK (.str "BadPuzzle")) (aCons (mVar 6) aNil))) (aCons (mK (.str "BadHeld")) (aCons (mK (.str "BadHeld")) (aCons (mK (.str "BadState")) (aCons (mK (.str "BadHeld")) (aCons (mK (.str "BadState")) (aCons (mK (.str "BadState")) (aCons (mTup (aCons (mK (.str "BadPuzzle")) (aCons (mVar 6) aNil))) (aCons (mK (.str "BadState")) (aCons (mK (.str "BadState")) aNil))))))))))) (gNm 10))
    (sIf (tOp2 neP (mVar 9) (mVar 10)) (sRt (mK (.bl false))) sPass))
theorem u_t_law_1 {P : Addr} {e : En} {h : DH} {E : EK} {D : Fl} : t_law_1 P e h E D = ((sSeq (sAsg (mLst (aCons (mTup (aCons (mK (.str "BadPuzzle")) (aCons (mVar 6) aNil))) (aCons (mK (.str "BadHeld")) (aCons (mK (.str "BadHeld")) (aCons (mK (.str "BadState")) (aCons (mK (.str "BadHeld")) (aCons (mK (.str "BadState")) (aCons (mK (.str "BadState")) (aCons (mTup (aCons (mK (.str "BadPuzzle")) (aCons (mVar 6) aNil))) (aCons (mK (.str "BadState")) (aCons (mK (.str "BadState")) aNil))))))))))) (gNm 10))
    (sIf (tOp2 neP (mVar 9) (mVar 10)) (sRt (mK (.bl false))) sPass))) e h E D := id rfl

def t_law_2 (P : Addr) : DS :=
    (sSeq (sAsg (mOp2 addLP (mVar 9) (mLst (aCons (mErr P "law.<locals>.<lambda>" hs_law (mCall 1 F_edge_counts (aCons (mVar 5) aNil))) (aCons (mErr P "law.<locals>.<lambda>" hs_law (mCall 3 F_least_free (aCons (mVar 3) (aCons (mVar 8) (aCons (mK .non) aNil))))) (aCons (mErr P "law.<locals>.<lambda>" hs_law (mCall 3 F_least_free (aCons (mVar 3) (aCons (mVar 4) (aCons (mVar 8) aNil))))) aNil))))) (gNm 9))
    (t_law_1 P))
theorem u_t_law_2 {P : Addr} {e : En} {h : DH} {E : EK} {D : Fl} : t_law_2 P e h E D = ((sSeq (sAsg (mOp2 addLP (mVar 9) (mLst (aCons (mErr P "law.<locals>.<lambda>" hs_law (mCall 1 F_edge_counts (aCons (mVar 5) aNil))) (aCons (mErr P "law.<locals>.<lambda>" hs_law (mCall 3 F_least_free (aCons (mVar 3) (aCons (mVar 8) (aCons (mK .non) aNil))))) (aCons (mErr P "law.<locals>.<lambda>" hs_law (mCall 3 F_least_free (aCons (mVar 3) (aCons (mVar 4) (aCons (mVar 8) aNil))))) aNil))))) (gNm 9))
    (t_law_1 P))) e h E D := id rfl

def t_law_3 (P : Addr) : DS :=
    (sSeq (sAsg (mOp2 addLP (mVar 9) (mLst (aCons (mErr P "law.<locals>.<lambda>" hs_law (mCall 4 F_can_come (aCons (mVar 3) (aCons (mTup (aCons (mK (.int 0)) aNil)) (aCons (mVar 8) (aCons (mK .non) aNil)))))) (aCons (mErr P "law.<locals>.<lambda>" hs_law (mCall 4 F_can_come (aCons (mVar 3) (aCons (mTup (aCons (mK (.int 0)) aNil)) (aCons (mVar 4) (aCons (mVar 8) aNil)))))) aNil)))) (gNm 9))
    (t_law_2 P))
theorem u_t_law_3 {P : Addr} {e : En} {h : DH} {E : EK} {D : Fl} : t_law_3 P e h E D = ((sSeq (sAsg (mOp2 addLP (mVar 9) (mLst (aCons (mErr P "law.<locals>.<lambda>" hs_law (mCall 4 F_can_come (aCons (mVar 3) (aCons (mTup (aCons (mK (.int 0)) aNil)) (aCons (mVar 8) (aCons (mK .non) aNil)))))) (aCons (mErr P "law.<locals>.<lambda>" hs_law (mCall 4 F_can_come (aCons (mVar 3) (aCons (mTup (aCons (mK (.int 0)) aNil)) (aCons (mVar 4) (aCons (mVar 8) aNil)))))) aNil)))) (gNm 9))
    (t_law_2 P))) e h E D := id rfl

def t_law_4 (P : Addr) : DS :=
    (sSeq (sAsg (mOp2 addLP (mVar 9) (mLst (aCons (mErr P "law.<locals>.<lambda>" hs_law (mCall 3 F_part_size (aCons (mVar 3) (aCons (mTup aNil) (aCons (mVar 8) aNil))))) (aCons (mErr P "law.<locals>.<lambda>" hs_law (mCall 4 F_can_come (aCons (mVar 3) (aCons (mVar 7) (aCons (mK .non) (aCons (mK .non) aNil)))))) aNil)))) (gNm 9))
    (t_law_3 P))
theorem u_t_law_4 {P : Addr} {e : En} {h : DH} {E : EK} {D : Fl} : t_law_4 P e h E D = ((sSeq (sAsg (mOp2 addLP (mVar 9) (mLst (aCons (mErr P "law.<locals>.<lambda>" hs_law (mCall 3 F_part_size (aCons (mVar 3) (aCons (mTup aNil) (aCons (mVar 8) aNil))))) (aCons (mErr P "law.<locals>.<lambda>" hs_law (mCall 4 F_can_come (aCons (mVar 3) (aCons (mVar 7) (aCons (mK .non) (aCons (mK .non) aNil)))))) aNil)))) (gNm 9))
    (t_law_3 P))) e h E D := id rfl

def t_law_5 (P : Addr) : DS :=
    (sRt (mAnd (mOp2 isP (mCall 4 F_can_come (aCons (mVar 3) (aCons (mTup (aCons (mK (.int 0)) aNil)) (aCons (mVar 4) (aCons (mVar 4) aNil))))) (mK (.bl true))) (mOp2 eqP (mCall 3 F_least_free (aCons (mVar 3) (aCons (mVar 4) (aCons (mVar 4) aNil)))) (mTup aNil))))
theorem u_t_law_5 {P : Addr} {e : En} {h : DH} {E : EK} {D : Fl} : t_law_5 P e h E D = ((sRt (mAnd (mOp2 isP (mCall 4 F_can_come (aCons (mVar 3) (aCons (mTup (aCons (mK (.int 0)) aNil)) (aCons (mVar 4) (aCons (mVar 4) aNil))))) (mK (.bl true))) (mOp2 eqP (mCall 3 F_least_free (aCons (mVar 3) (aCons (mVar 4) (aCons (mVar 4) aNil)))) (mTup aNil))))) e h E D := id rfl
def b_law (P : Addr) : DS :=
    (sSeq (sAsg (mLstM (aCons (mVar 0) (aCons (mK (.int 0)) (aCons (mK (.int 4551)) (aCons (mK (.int 0)) aNil))))) (gNm 1))
    (sSeq (sFor (itR1 (mK (.int 3))) (gNm 2) (sSeq (sAsg (mCall 2 F_law_puzzle (aCons (mVar 1) (aCons (mK (.int 60)) aNil))) (gNm 3))
    (sSeq (sAsg (mCall 2 F_law_state (aCons (mVar 1) (aCons (mVar 3) aNil))) (gNm 4))
    (sSeq (sAsg (mCall 2 F_law_pick (aCons (mVar 1) (aCons (mLst (aCons (mTup (aCons (mK .non) (aCons (mK .non) aNil))) (aCons (mTup (aCons (mTup aNil) (aCons (mK .non) aNil))) (aCons (mTup (aCons (mTup (aCons (mK .non) aNil)) (aCons (mK (.int 0)) aNil))) (aCons (mTup (aCons (mLst (aCons (mTup (aCons (mTup aNil) aNil)) aNil)) (aCons (mK .non) aNil))) (aCons (mTup (aCons (mTup (aCons (mTup (aCons (mTup aNil) aNil)) (aCons (mTup (aCons (mTup (aCons (mK (.int 2)) aNil)) aNil)) aNil))) (aCons (mK (.int 1)) aNil))) aNil)))))) aNil))) (gTu 2 (gsCons (gNm 5) (gsCons (gNm 6) gsNil))))
    (sSeq (sAsg (mCall 2 F_law_pick (aCons (mVar 1) (aCons (mLst (aCons (mK .non) (aCons (mLst (aCons (mK (.int 0)) aNil)) (aCons (mTup (aCons (mK (.int 0)) (aCons (mK (.int 0)) aNil))) (aCons (mTup (aCons (mBlt lenP (aCons (mVar 3) aNil)) aNil)) (aCons (mTup (aCons (mOp1 negP (mK (.int 1))) aNil)) (aCons (mTup (aCons (mK (.int 1)) (aCons (mK (.int 0)) aNil))) (aCons (mTup (aCons (mK (.bl true)) aNil)) (aCons (mTup (aCons (mK .non) aNil)) (aCons (mK (.str "0")) (aCons (mK (.int 0)) aNil))))))))))) aNil))) (gNm 7))
    (sSeq (sAsg (mCall 2 F_law_pick (aCons (mVar 1) (aCons (mLst (aCons (mK .non) (aCons (mTup aNil) (aCons (mBlt listP (aCons (mVar 4) aNil)) (aCons (mOp2 addP (mVar 4) (mTup (aCons (mK (.int 0)) aNil))) (aCons (mOp2 addP (mSl slP (mVar 4) oNo (oSo (mOp1 negP (mK (.int 1))))) (mTup (aCons (mK (.int 9)) aNil))) (aCons (mOp2 addP (mSl slP (mVar 4) oNo (oSo (mOp1 negP (mK (.int 1))))) (mTup (aCons (mK .non) aNil))) aNil))))))) aNil))) (gNm 8))
    (sSeq (sAsg (mLst (aCons (mErr P "law.<locals>.<lambda>" hs_law (mCall 2 F_count_parts (aCons (mVar 5) (aCons (mK .non) aNil)))) (aCons (mErr P "law.<locals>.<lambda>" hs_law (mCall 2 F_count_parts (aCons (mVar 3) (aCons (mVar 7) aNil)))) (aCons (mErr P "law.<locals>.<lambda>" hs_law (mCall 3 F_part_size (aCons (mVar 3) (aCons (mVar 7) (aCons (mK .non) aNil))))) aNil)))) (gNm 9))
    (t_law_4 P))))))))
    (t_law_5 P)))
def F_law (P : Addr) : Fn := mkFn 11 (b_law P)

theorem e_law {P : Addr} {ds : List D} {h : DH} {E : EK} {Q : DK} : F_law P ds h E Q = mkFn 11 ((sSeq (sAsg (mLstM (aCons (mVar 0) (aCons (mK (.int 0)) (aCons (mK (.int 4551)) (aCons (mK (.int 0)) aNil))))) (gNm 1))
    (sSeq (sFor (itR1 (mK (.int 3))) (gNm 2) (sSeq (sAsg (mCall 2 F_law_puzzle (aCons (mVar 1) (aCons (mK (.int 60)) aNil))) (gNm 3))
    (sSeq (sAsg (mCall 2 F_law_state (aCons (mVar 1) (aCons (mVar 3) aNil))) (gNm 4))
    (sSeq (sAsg (mCall 2 F_law_pick (aCons (mVar 1) (aCons (mLst (aCons (mTup (aCons (mK .non) (aCons (mK .non) aNil))) (aCons (mTup (aCons (mTup aNil) (aCons (mK .non) aNil))) (aCons (mTup (aCons (mTup (aCons (mK .non) aNil)) (aCons (mK (.int 0)) aNil))) (aCons (mTup (aCons (mLst (aCons (mTup (aCons (mTup aNil) aNil)) aNil)) (aCons (mK .non) aNil))) (aCons (mTup (aCons (mTup (aCons (mTup (aCons (mTup aNil) aNil)) (aCons (mTup (aCons (mTup (aCons (mK (.int 2)) aNil)) aNil)) aNil))) (aCons (mK (.int 1)) aNil))) aNil)))))) aNil))) (gTu 2 (gsCons (gNm 5) (gsCons (gNm 6) gsNil))))
    (sSeq (sAsg (mCall 2 F_law_pick (aCons (mVar 1) (aCons (mLst (aCons (mK .non) (aCons (mLst (aCons (mK (.int 0)) aNil)) (aCons (mTup (aCons (mK (.int 0)) (aCons (mK (.int 0)) aNil))) (aCons (mTup (aCons (mBlt lenP (aCons (mVar 3) aNil)) aNil)) (aCons (mTup (aCons (mOp1 negP (mK (.int 1))) aNil)) (aCons (mTup (aCons (mK (.int 1)) (aCons (mK (.int 0)) aNil))) (aCons (mTup (aCons (mK (.bl true)) aNil)) (aCons (mTup (aCons (mK .non) aNil)) (aCons (mK (.str "0")) (aCons (mK (.int 0)) aNil))))))))))) aNil))) (gNm 7))
    (sSeq (sAsg (mCall 2 F_law_pick (aCons (mVar 1) (aCons (mLst (aCons (mK .non) (aCons (mTup aNil) (aCons (mBlt listP (aCons (mVar 4) aNil)) (aCons (mOp2 addP (mVar 4) (mTup (aCons (mK (.int 0)) aNil))) (aCons (mOp2 addP (mSl slP (mVar 4) oNo (oSo (mOp1 negP (mK (.int 1))))) (mTup (aCons (mK (.int 9)) aNil))) (aCons (mOp2 addP (mSl slP (mVar 4) oNo (oSo (mOp1 negP (mK (.int 1))))) (mTup (aCons (mK .non) aNil))) aNil))))))) aNil))) (gNm 8))
    (sSeq (sAsg (mLst (aCons (mErr P "law.<locals>.<lambda>" hs_law (mCall 2 F_count_parts (aCons (mVar 5) (aCons (mK .non) aNil)))) (aCons (mErr P "law.<locals>.<lambda>" hs_law (mCall 2 F_count_parts (aCons (mVar 3) (aCons (mVar 7) aNil)))) (aCons (mErr P "law.<locals>.<lambda>" hs_law (mCall 3 F_part_size (aCons (mVar 3) (aCons (mVar 7) (aCons (mK .non) aNil))))) aNil)))) (gNm 9))
    (t_law_4 P))))))))
    (t_law_5 P)))) ds h E Q := id rfl

end L2.Lmp

set_option maxHeartbeats 4000000
namespace L2.Lmp
open PySem PySem.Spec PyProof.Rows
def isI : D → Bool
  | .int _ => true
  | _ => false
def inB (x : D) (lo hi : Int) : Bool := match x with
  | .int i => decide (lo ≤ i) && decide (i ≤ hi)
  | _ => false
theorem c_is_int {x : D} {h : DH} {E : EK} {Q : DK} (k : kd x = true) (q : Q (.bl (isI x)) h) : F_is_int [x] h E Q := by
  simp only [↓e_is_int, ↓e_mVar, ↓e_mK, ↓e_mOp1, ↓e_mOp2, ↓e_aNil, ↓e_aCons, ↓e_mTup, ↓e_mLst, ↓e_mLstM, ↓e_mIf, ↓e_tTru, ↓e_tNt, ↓e_tAnd2, ↓e_tOr2, ↓e_tOp2, ↓e_mChain, ↓e_tChain', ↓e_mAnd, ↓e_mOr, ↓e_mFld, ↓e_sFldD, ↓e_mMeth, ↓e_mMake, ↓e_mRev, revP_l, ↓e_mAndT, ↓e_mOrT, truP_lc, ↓e_mNot, ↓e_mCall, ↓e_mBlt, ↓e_oNo, ↓e_oSo, ↓e_mSl, ↓e_sPass, ↓e_sBrk, ↓e_sCnt, ↓e_sNever, ↓e_sSeq, ↓e_sAsg, ↓e_gNm, ↓e_gTu, ↓e_gsNil, ↓e_gsCons, ↓e_gSb, ↓e_sPar, ↓e_sExp, ↓e_sRt, ↓e_sRtN, ↓e_sIf, ↓e_sAug, ↓e_sFor, ↓e_sWh, ↓e_mComp, ↓e_mCompM, ↓e_tYs, ↓e_mkFn, ↓e_mApp, ↓e_itSeq, ↓e_itScr, ↓e_itEnum, ↓e_itZip, ↓e_itZip3, ↓e_itR1, ↓e_itR2, ↓e_itR3, ↓e_mDic0, ↓e_mDic1, ↓e_sPar3, ↓e_mAddM, ↓e_aStar, ↓e_mMulM, ↓e_sRaise0, ↓e_sRaise1, ↓e_mErr, ↓e_mCallV, starP_t, starP_l, slot_0, slot_1, slot_2, slot_3, slot_4, slot_5, slot_6, slot_7, slot_8, slot_9, slot_10, slot_11, slot_12, slot_13, slot_14, slot_15, slot_16, slot_17, slot_18, slot_19, slot_20, slot_21, slot_22, slot_23, slot_24, slot_25, slot_26, slot_27, slot_28, slot_29, slot_30, negP_i, ex3, ex2, wipeE, List.map_cons, List.map_nil, List.cons_append, List.nil_append, List.append_nil, List.length_cons, List.length_nil, List.replicate_succ, List.replicate_zero, List.set_cons_zero, List.set_cons_succ, Oc_some, Nat.reduceAdd, Nat.reduceSub, Nat.reduceLeDiff, Nat.zero_le, Int.toNat_natCast, Bool.or_false, Bool.or_true, Bool.or_self, Bool.false_or, Bool.true_or, decide_true, decide_false, Nat.zero_add, Nat.sub_self, Bool.true_eq_false, Bool.false_eq_true, if_true, if_false, ite_true, ite_false, true_and, and_true, addP_ii, subP_ii, mulP_ii, isiP_tup, isiP_lst, isiP_str, isiP_bl, isiP_int, isiP_tl, kd_non, kd_bl, kd_int, kd_str, kd_tup, kd_lst, isTup, isLst, isStr, isBl, isInt, eqP_ii, neP_ii, lenP_t, lenP_l, lenP_s, seqP_t, seqP_l, truP_b, ixP_t, ixP_l, slP_t, slP_l, tupleP_l, tupleP_t, addP_tt, modP_ii, divP_ii, exb, addLP_ll, min2_ii, max2_ii, exTup, exCons, exInt, iaddP_ii, leP_ii, gtP_ii, geP_ii, ltP_ii, intP_i, decide_eq_true_eq, Bool.not_eq_true', decide_eq_false_iff_not, Bool.not_true, Bool.not_false, List.cons_ne_nil, Nat.succ_ne_zero, reduceCtorEq]
  cases x <;> first | (simp only [↓e_mVar, ↓e_mK, ↓e_mOp1, ↓e_mOp2, ↓e_aNil, ↓e_aCons, ↓e_mTup, ↓e_mLst, ↓e_mLstM, ↓e_mIf, ↓e_tTru, ↓e_tNt, ↓e_tAnd2, ↓e_tOr2, ↓e_tOp2, ↓e_mChain, ↓e_tChain', ↓e_mAnd, ↓e_mOr, ↓e_mFld, ↓e_sFldD, ↓e_mMeth, ↓e_mMake, ↓e_mRev, revP_l, ↓e_mAndT, ↓e_mOrT, truP_lc, ↓e_mNot, ↓e_mCall, ↓e_mBlt, ↓e_oNo, ↓e_oSo, ↓e_mSl, ↓e_sPass, ↓e_sBrk, ↓e_sCnt, ↓e_sNever, ↓e_sSeq, ↓e_sAsg, ↓e_gNm, ↓e_gTu, ↓e_gsNil, ↓e_gsCons, ↓e_gSb, ↓e_sPar, ↓e_sExp, ↓e_sRt, ↓e_sRtN, ↓e_sIf, ↓e_sAug, ↓e_sFor, ↓e_sWh, ↓e_mComp, ↓e_mCompM, ↓e_tYs, ↓e_mkFn, ↓e_mApp, ↓e_itSeq, ↓e_itScr, ↓e_itEnum, ↓e_itZip, ↓e_itZip3, ↓e_itR1, ↓e_itR2, ↓e_itR3, ↓e_mDic0, ↓e_mDic1, ↓e_sPar3, ↓e_mAddM, ↓e_aStar, ↓e_mMulM, ↓e_sRaise0, ↓e_sRaise1, ↓e_mErr, ↓e_mCallV, starP_t, starP_l, slot_0, slot_1, slot_2, slot_3, slot_4, slot_5, slot_6, slot_7, slot_8, slot_9, slot_10, slot_11, slot_12, slot_13, slot_14, slot_15, slot_16, slot_17, slot_18, slot_19, slot_20, slot_21, slot_22, slot_23, slot_24, slot_25, slot_26, slot_27, slot_28, slot_29, slot_30, negP_i, ex3, ex2, wipeE, List.map_cons, List.map_nil, List.cons_append, List.nil_append, List.append_nil, List.length_cons, List.length_nil, List.replicate_succ, List.replicate_zero, List.set_cons_zero, List.set_cons_succ, Oc_some, Nat.reduceAdd, Nat.reduceSub, Nat.reduceLeDiff, Nat.zero_le, Int.toNat_natCast, Bool.or_false, Bool.or_true, Bool.or_self, Bool.false_or, Bool.true_or, decide_true, decide_false, Nat.zero_add, Nat.sub_self, Bool.true_eq_false, Bool.false_eq_true, if_true, if_false, ite_true, ite_false, true_and, and_true, addP_ii, subP_ii, mulP_ii, isiP_tup, isiP_lst, isiP_str, isiP_bl, isiP_int, isiP_tl, kd_non, kd_bl, kd_int, kd_str, kd_tup, kd_lst, isTup, isLst, isStr, isBl, isInt, eqP_ii, neP_ii, lenP_t, lenP_l, lenP_s, seqP_t, seqP_l, truP_b, ixP_t, ixP_l, slP_t, slP_l, tupleP_l, tupleP_t, addP_tt, modP_ii, divP_ii, exb, addLP_ll, min2_ii, max2_ii, exTup, exCons, exInt, iaddP_ii, leP_ii, gtP_ii, geP_ii, ltP_ii, intP_i, decide_eq_true_eq, Bool.not_eq_true', decide_eq_false_iff_not, Bool.not_true, Bool.not_false, List.cons_ne_nil, Nat.succ_ne_zero, reduceCtorEq]; exact .of q) | cases k
theorem c_is_in {x : D} {lo hi : Int} {h : DH} {E : EK} {Q : DK} (k : kd x = true) (q : Q (.bl (inB x lo hi)) h) : F_is_in [x, .int lo, .int hi] h E Q := by
  simp only [↓e_is_in, ↓e_mVar, ↓e_mK, ↓e_mOp1, ↓e_mOp2, ↓e_aNil, ↓e_aCons, ↓e_mTup, ↓e_mLst, ↓e_mLstM, ↓e_mIf, ↓e_tTru, ↓e_tNt, ↓e_tAnd2, ↓e_tOr2, ↓e_tOp2, ↓e_mChain, ↓e_tChain', ↓e_mAnd, ↓e_mOr, ↓e_mFld, ↓e_sFldD, ↓e_mMeth, ↓e_mMake, ↓e_mRev, revP_l, ↓e_mAndT, ↓e_mOrT, truP_lc, ↓e_mNot, ↓e_mCall, ↓e_mBlt, ↓e_oNo, ↓e_oSo, ↓e_mSl, ↓e_sPass, ↓e_sBrk, ↓e_sCnt, ↓e_sNever, ↓e_sSeq, ↓e_sAsg, ↓e_gNm, ↓e_gTu, ↓e_gsNil, ↓e_gsCons, ↓e_gSb, ↓e_sPar, ↓e_sExp, ↓e_sRt, ↓e_sRtN, ↓e_sIf, ↓e_sAug, ↓e_sFor, ↓e_sWh, ↓e_mComp, ↓e_mCompM, ↓e_tYs, ↓e_mkFn, ↓e_mApp, ↓e_itSeq, ↓e_itScr, ↓e_itEnum, ↓e_itZip, ↓e_itZip3, ↓e_itR1, ↓e_itR2, ↓e_itR3, ↓e_mDic0, ↓e_mDic1, ↓e_sPar3, ↓e_mAddM, ↓e_aStar, ↓e_mMulM, ↓e_sRaise0, ↓e_sRaise1, ↓e_mErr, ↓e_mCallV, starP_t, starP_l, slot_0, slot_1, slot_2, slot_3, slot_4, slot_5, slot_6, slot_7, slot_8, slot_9, slot_10, slot_11, slot_12, slot_13, slot_14, slot_15, slot_16, slot_17, slot_18, slot_19, slot_20, slot_21, slot_22, slot_23, slot_24, slot_25, slot_26, slot_27, slot_28, slot_29, slot_30, negP_i, ex3, ex2, wipeE, List.map_cons, List.map_nil, List.cons_append, List.nil_append, List.append_nil, List.length_cons, List.length_nil, List.replicate_succ, List.replicate_zero, List.set_cons_zero, List.set_cons_succ, Oc_some, Nat.reduceAdd, Nat.reduceSub, Nat.reduceLeDiff, Nat.zero_le, Int.toNat_natCast, Bool.or_false, Bool.or_true, Bool.or_self, Bool.false_or, Bool.true_or, decide_true, decide_false, Nat.zero_add, Nat.sub_self, Bool.true_eq_false, Bool.false_eq_true, if_true, if_false, ite_true, ite_false, true_and, and_true, addP_ii, subP_ii, mulP_ii, isiP_tup, isiP_lst, isiP_str, isiP_bl, isiP_int, isiP_tl, kd_non, kd_bl, kd_int, kd_str, kd_tup, kd_lst, isTup, isLst, isStr, isBl, isInt, eqP_ii, neP_ii, lenP_t, lenP_l, lenP_s, seqP_t, seqP_l, truP_b, ixP_t, ixP_l, slP_t, slP_l, tupleP_l, tupleP_t, addP_tt, modP_ii, divP_ii, exb, addLP_ll, min2_ii, max2_ii, exTup, exCons, exInt, iaddP_ii, leP_ii, gtP_ii, geP_ii, ltP_ii, intP_i, decide_eq_true_eq, Bool.not_eq_true', decide_eq_false_iff_not, Bool.not_true, Bool.not_false, List.cons_ne_nil, Nat.succ_ne_zero, reduceCtorEq]
  refine c_is_int k ?_
  cases x with
  | int i =>
    simp only [isI, ↓e_mVar, ↓e_mK, ↓e_mOp1, ↓e_mOp2, ↓e_aNil, ↓e_aCons, ↓e_mTup, ↓e_mLst, ↓e_mLstM, ↓e_mIf, ↓e_tTru, ↓e_tNt, ↓e_tAnd2, ↓e_tOr2, ↓e_tOp2, ↓e_mChain, ↓e_tChain', ↓e_mAnd, ↓e_mOr, ↓e_mFld, ↓e_sFldD, ↓e_mMeth, ↓e_mMake, ↓e_mRev, revP_l, ↓e_mAndT, ↓e_mOrT, truP_lc, ↓e_mNot, ↓e_mCall, ↓e_mBlt, ↓e_oNo, ↓e_oSo, ↓e_mSl, ↓e_sPass, ↓e_sBrk, ↓e_sCnt, ↓e_sNever, ↓e_sSeq, ↓e_sAsg, ↓e_gNm, ↓e_gTu, ↓e_gsNil, ↓e_gsCons, ↓e_gSb, ↓e_sPar, ↓e_sExp, ↓e_sRt, ↓e_sRtN, ↓e_sIf, ↓e_sAug, ↓e_sFor, ↓e_sWh, ↓e_mComp, ↓e_mCompM, ↓e_tYs, ↓e_mkFn, ↓e_mApp, ↓e_itSeq, ↓e_itScr, ↓e_itEnum, ↓e_itZip, ↓e_itZip3, ↓e_itR1, ↓e_itR2, ↓e_itR3, ↓e_mDic0, ↓e_mDic1, ↓e_sPar3, ↓e_mAddM, ↓e_aStar, ↓e_mMulM, ↓e_sRaise0, ↓e_sRaise1, ↓e_mErr, ↓e_mCallV, starP_t, starP_l, slot_0, slot_1, slot_2, slot_3, slot_4, slot_5, slot_6, slot_7, slot_8, slot_9, slot_10, slot_11, slot_12, slot_13, slot_14, slot_15, slot_16, slot_17, slot_18, slot_19, slot_20, slot_21, slot_22, slot_23, slot_24, slot_25, slot_26, slot_27, slot_28, slot_29, slot_30, negP_i, ex3, ex2, wipeE, List.map_cons, List.map_nil, List.cons_append, List.nil_append, List.append_nil, List.length_cons, List.length_nil, List.replicate_succ, List.replicate_zero, List.set_cons_zero, List.set_cons_succ, Oc_some, Nat.reduceAdd, Nat.reduceSub, Nat.reduceLeDiff, Nat.zero_le, Int.toNat_natCast, Bool.or_false, Bool.or_true, Bool.or_self, Bool.false_or, Bool.true_or, decide_true, decide_false, Nat.zero_add, Nat.sub_self, Bool.true_eq_false, Bool.false_eq_true, if_true, if_false, ite_true, ite_false, true_and, and_true, addP_ii, subP_ii, mulP_ii, isiP_tup, isiP_lst, isiP_str, isiP_bl, isiP_int, isiP_tl, kd_non, kd_bl, kd_int, kd_str, kd_tup, kd_lst, isTup, isLst, isStr, isBl, isInt, eqP_ii, neP_ii, lenP_t, lenP_l, lenP_s, seqP_t, seqP_l, truP_b, ixP_t, ixP_l, slP_t, slP_l, tupleP_l, tupleP_t, addP_tt, modP_ii, divP_ii, exb, addLP_ll, min2_ii, max2_ii, exTup, exCons, exInt, iaddP_ii, leP_ii, gtP_ii, geP_ii, ltP_ii, intP_i, decide_eq_true_eq, Bool.not_eq_true', decide_eq_false_iff_not, Bool.not_true, Bool.not_false, List.cons_ne_nil, Nat.succ_ne_zero, reduceCtorEq]
    have q : Q (.bl (decide (lo ≤ i) && decide (i ≤ hi))) h := q
    by_cases e : lo ≤ i
    · rw [if_pos (by simpa using e)]
      rw [decide_eq_true e, Bool.true_and] at q
      exact .of q
    · rw [if_neg (by simpa using e)]
      rw [decide_eq_false e, Bool.false_and] at q
      exact .of q
  | _ => first | (simp only [isI, ↓e_mVar, ↓e_mK, ↓e_mOp1, ↓e_mOp2, ↓e_aNil, ↓e_aCons, ↓e_mTup, ↓e_mLst, ↓e_mLstM, ↓e_mIf, ↓e_tTru, ↓e_tNt, ↓e_tAnd2, ↓e_tOr2, ↓e_tOp2, ↓e_mChain, ↓e_tChain', ↓e_mAnd, ↓e_mOr, ↓e_mFld, ↓e_sFldD, ↓e_mMeth, ↓e_mMake, ↓e_mRev, revP_l, ↓e_mAndT, ↓e_mOrT, truP_lc, ↓e_mNot, ↓e_mCall, ↓e_mBlt, ↓e_oNo, ↓e_oSo, ↓e_mSl, ↓e_sPass, ↓e_sBrk, ↓e_sCnt, ↓e_sNever, ↓e_sSeq, ↓e_sAsg, ↓e_gNm, ↓e_gTu, ↓e_gsNil, ↓e_gsCons, ↓e_gSb, ↓e_sPar, ↓e_sExp, ↓e_sRt, ↓e_sRtN, ↓e_sIf, ↓e_sAug, ↓e_sFor, ↓e_sWh, ↓e_mComp, ↓e_mCompM, ↓e_tYs, ↓e_mkFn, ↓e_mApp, ↓e_itSeq, ↓e_itScr, ↓e_itEnum, ↓e_itZip, ↓e_itZip3, ↓e_itR1, ↓e_itR2, ↓e_itR3, ↓e_mDic0, ↓e_mDic1, ↓e_sPar3, ↓e_mAddM, ↓e_aStar, ↓e_mMulM, ↓e_sRaise0, ↓e_sRaise1, ↓e_mErr, ↓e_mCallV, starP_t, starP_l, slot_0, slot_1, slot_2, slot_3, slot_4, slot_5, slot_6, slot_7, slot_8, slot_9, slot_10, slot_11, slot_12, slot_13, slot_14, slot_15, slot_16, slot_17, slot_18, slot_19, slot_20, slot_21, slot_22, slot_23, slot_24, slot_25, slot_26, slot_27, slot_28, slot_29, slot_30, negP_i, ex3, ex2, wipeE, List.map_cons, List.map_nil, List.cons_append, List.nil_append, List.append_nil, List.length_cons, List.length_nil, List.replicate_succ, List.replicate_zero, List.set_cons_zero, List.set_cons_succ, Oc_some, Nat.reduceAdd, Nat.reduceSub, Nat.reduceLeDiff, Nat.zero_le, Int.toNat_natCast, Bool.or_false, Bool.or_true, Bool.or_self, Bool.false_or, Bool.true_or, decide_true, decide_false, Nat.zero_add, Nat.sub_self, Bool.true_eq_false, Bool.false_eq_true, if_true, if_false, ite_true, ite_false, true_and, and_true, addP_ii, subP_ii, mulP_ii, isiP_tup, isiP_lst, isiP_str, isiP_bl, isiP_int, isiP_tl, kd_non, kd_bl, kd_int, kd_str, kd_tup, kd_lst, isTup, isLst, isStr, isBl, isInt, eqP_ii, neP_ii, lenP_t, lenP_l, lenP_s, seqP_t, seqP_l, truP_b, ixP_t, ixP_l, slP_t, slP_l, tupleP_l, tupleP_t, addP_tt, modP_ii, divP_ii, exb, addLP_ll, min2_ii, max2_ii, exTup, exCons, exInt, iaddP_ii, leP_ii, gtP_ii, geP_ii, ltP_ii, intP_i, decide_eq_true_eq, Bool.not_eq_true', decide_eq_false_iff_not, Bool.not_true, Bool.not_false, List.cons_ne_nil, Nat.succ_ne_zero, reduceCtorEq]; exact .of q) | cases k
/-! ### settings, words, puzzles -/
def tI (w : List Int) : D := .tup (w.map D.int)
def tL (l : List (List Int)) : D := .tup (l.map tI)
def tP (p : List (List (List Int))) : D := .tup (p.map tL)
def wordsB : List Int → List D → Bool
  | s :: ss, x :: xs => inB x 0 (s - 1) && wordsB ss xs
  | _, _ => true
def wordB (ss : List Int) : D → Bool
  | .tup xs => decide (xs.length = ss.length) && wordsB ss xs
  | _ => false
def kdW : D → Bool
  | .tup xs => xs.all kd
  | x => kd x
theorem zip_words : ∀ (xs : List D) (ss : List Int), ∃ bs : List Bool, (zipD xs (ss.map D.int)).map (fun z => match z with | .tup [x, .int s] => D.bl (inB x 0 (s - 1)) | _ => .non) = bs.map D.bl ∧ bs.all id = wordsB ss xs
  | [], [] => ⟨[], rfl, rfl⟩
  | [], _ :: _ => ⟨[], rfl, rfl⟩
  | _ :: _, [] => ⟨[], rfl, rfl⟩
  | x :: xs, s :: ss => by
    obtain ⟨bs, e1, e2⟩ := zip_words xs ss
    exact ⟨inB x 0 (s - 1) :: bs, congrArg (D.bl (inB x 0 (s - 1)) :: ·) e1, by rw [List.all_cons, e2]; rfl⟩
theorem mem_zipD : ∀ {xs ys : List D} {z : D}, z ∈ zipD xs ys → ∃ x y, z = .tup [x, y] ∧ x ∈ xs ∧ y ∈ ys
  | x :: xs, y :: ys, z, h => by
    rcases List.mem_cons.mp h with e | h
    · exact ⟨x, y, e, List.mem_cons_self, List.mem_cons_self⟩
    · obtain ⟨a, b, e, p, q⟩ := mem_zipD h
      exact ⟨a, b, e, List.mem_cons_of_mem _ p, List.mem_cons_of_mem _ q⟩
  | [], _, _, h => by cases h
  | _ :: _, [], _, h => by cases h
theorem zipD_length {xs ys : List D} : (zipD xs ys).length = min xs.length ys.length := List.length_zipWith
theorem c_is_word {ss : List Int} {x : D} {h : DH} {E : EK} {Q : DK} (k : kdW x = true) (hl : ss.length ≤ 1000) (q : Q (.bl (wordB ss x)) h) : F_is_word [tI ss, x] h E Q := by
  simp only [F_is_word, b_is_word, ↓e_mVar, ↓e_mK, ↓e_mOp1, ↓e_mOp2, ↓e_aNil, ↓e_aCons, ↓e_mTup, ↓e_mLst, ↓e_mLstM, ↓e_mIf, ↓e_tTru, ↓e_tNt, ↓e_tAnd2, ↓e_tOr2, ↓e_tOp2, ↓e_mChain, ↓e_tChain', ↓e_mAnd, ↓e_mOr, ↓e_mFld, ↓e_sFldD, ↓e_mMeth, ↓e_mMake, ↓e_mRev, revP_l, ↓e_mAndT, ↓e_mOrT, truP_lc, ↓e_mNot, ↓e_mCall, ↓e_mBlt, ↓e_oNo, ↓e_oSo, ↓e_mSl, ↓e_sPass, ↓e_sBrk, ↓e_sCnt, ↓e_sNever, ↓e_sSeq, ↓e_sAsg, ↓e_gNm, ↓e_gTu, ↓e_gsNil, ↓e_gsCons, ↓e_gSb, ↓e_sPar, ↓e_sExp, ↓e_sRt, ↓e_sRtN, ↓e_sIf, ↓e_sAug, ↓e_sFor, ↓e_sWh, ↓e_mComp, ↓e_mCompM, ↓e_tYs, ↓e_mkFn, ↓e_mApp, ↓e_itSeq, ↓e_itScr, ↓e_itEnum, ↓e_itZip, ↓e_itZip3, ↓e_itR1, ↓e_itR2, ↓e_itR3, ↓e_mDic0, ↓e_mDic1, ↓e_sPar3, ↓e_mAddM, ↓e_aStar, ↓e_mMulM, ↓e_sRaise0, ↓e_sRaise1, ↓e_mErr, ↓e_mCallV, starP_t, starP_l, slot_0, slot_1, slot_2, slot_3, slot_4, slot_5, slot_6, slot_7, slot_8, slot_9, slot_10, slot_11, slot_12, slot_13, slot_14, slot_15, slot_16, slot_17, slot_18, slot_19, slot_20, slot_21, slot_22, slot_23, slot_24, slot_25, slot_26, slot_27, slot_28, slot_29, slot_30, negP_i, ex3, ex2, wipeE, List.map_cons, List.map_nil, List.cons_append, List.nil_append, List.append_nil, List.length_cons, List.length_nil, List.replicate_succ, List.replicate_zero, List.set_cons_zero, List.set_cons_succ, Oc_some, Nat.reduceAdd, Nat.reduceSub, Nat.reduceLeDiff, Nat.zero_le, Int.toNat_natCast, Bool.or_false, Bool.or_true, Bool.or_self, Bool.false_or, Bool.true_or, decide_true, decide_false, Nat.zero_add, Nat.sub_self, Bool.true_eq_false, Bool.false_eq_true, if_true, if_false, ite_true, ite_false, true_and, and_true, addP_ii, subP_ii, mulP_ii, isiP_tup, isiP_lst, isiP_str, isiP_bl, isiP_int, isiP_tl, kd_non, kd_bl, kd_int, kd_str, kd_tup, kd_lst, isTup, isLst, isStr, isBl, isInt, eqP_ii, neP_ii, lenP_t, lenP_l, lenP_s, seqP_t, seqP_l, truP_b, ixP_t, ixP_l, slP_t, slP_l, tupleP_l, tupleP_t, addP_tt, modP_ii, divP_ii, exb, addLP_ll, min2_ii, max2_ii, exTup, exCons, exInt, iaddP_ii, leP_ii, gtP_ii, geP_ii, ltP_ii, intP_i, decide_eq_true_eq, Bool.not_eq_true', decide_eq_false_iff_not, Bool.not_true, Bool.not_false, List.cons_ne_nil, Nat.succ_ne_zero, reduceCtorEq, tI]
  cases x with
  | tup xs =>
    (try simp only [↓e_mVar, ↓e_mK, ↓e_mOp1, ↓e_mOp2, ↓e_aNil, ↓e_aCons, ↓e_mTup, ↓e_mLst, ↓e_mLstM, ↓e_mIf, ↓e_tTru, ↓e_tNt, ↓e_tAnd2, ↓e_tOr2, ↓e_tOp2, ↓e_mChain, ↓e_tChain', ↓e_mAnd, ↓e_mOr, ↓e_mFld, ↓e_sFldD, ↓e_mMeth, ↓e_mMake, ↓e_mRev, revP_l, ↓e_mAndT, ↓e_mOrT, truP_lc, ↓e_mNot, ↓e_mCall, ↓e_mBlt, ↓e_oNo, ↓e_oSo, ↓e_mSl, ↓e_sPass, ↓e_sBrk, ↓e_sCnt, ↓e_sNever, ↓e_sSeq, ↓e_sAsg, ↓e_gNm, ↓e_gTu, ↓e_gsNil, ↓e_gsCons, ↓e_gSb, ↓e_sPar, ↓e_sExp, ↓e_sRt, ↓e_sRtN, ↓e_sIf, ↓e_sAug, ↓e_sFor, ↓e_sWh, ↓e_mComp, ↓e_mCompM, ↓e_tYs, ↓e_mkFn, ↓e_mApp, ↓e_itSeq, ↓e_itScr, ↓e_itEnum, ↓e_itZip, ↓e_itZip3, ↓e_itR1, ↓e_itR2, ↓e_itR3, ↓e_mDic0, ↓e_mDic1, ↓e_sPar3, ↓e_mAddM, ↓e_aStar, ↓e_mMulM, ↓e_sRaise0, ↓e_sRaise1, ↓e_mErr, ↓e_mCallV, starP_t, starP_l, slot_0, slot_1, slot_2, slot_3, slot_4, slot_5, slot_6, slot_7, slot_8, slot_9, slot_10, slot_11, slot_12, slot_13, slot_14, slot_15, slot_16, slot_17, slot_18, slot_19, slot_20, slot_21, slot_22, slot_23, slot_24, slot_25, slot_26, slot_27, slot_28, slot_29, slot_30, negP_i, ex3, ex2, wipeE, List.map_cons, List.map_nil, List.cons_append, List.nil_append, List.append_nil, List.length_cons, List.length_nil, List.replicate_succ, List.replicate_zero, List.set_cons_zero, List.set_cons_succ, Oc_some, Nat.reduceAdd, Nat.reduceSub, Nat.reduceLeDiff, Nat.zero_le, Int.toNat_natCast, Bool.or_false, Bool.or_true, Bool.or_self, Bool.false_or, Bool.true_or, decide_true, decide_false, Nat.zero_add, Nat.sub_self, Bool.true_eq_false, Bool.false_eq_true, if_true, if_false, ite_true, ite_false, true_and, and_true, addP_ii, subP_ii, mulP_ii, isiP_tup, isiP_lst, isiP_str, isiP_bl, isiP_int, isiP_tl, kd_non, kd_bl, kd_int, kd_str, kd_tup, kd_lst, isTup, isLst, isStr, isBl, isInt, eqP_ii, neP_ii, lenP_t, lenP_l, lenP_s, seqP_t, seqP_l, truP_b, ixP_t, ixP_l, slP_t, slP_l, tupleP_l, tupleP_t, addP_tt, modP_ii, divP_ii, exb, addLP_ll, min2_ii, max2_ii, exTup, exCons, exInt, iaddP_ii, leP_ii, gtP_ii, geP_ii, ltP_ii, intP_i, decide_eq_true_eq, Bool.not_eq_true', decide_eq_false_iff_not, Bool.not_true, Bool.not_false, List.cons_ne_nil, Nat.succ_ne_zero, reduceCtorEq])
    have q : Q (.bl (decide (xs.length = ss.length) && wordsB ss xs)) h := q
    simp only [List.length_map]
    by_cases e : xs.length = ss.length
    · rw [decide_eq_true e, Bool.true_and] at q
      rw [if_neg (by omega)]
      obtain ⟨bs, b1, b2⟩ := zip_words xs ss
      refine comp_map (zipD xs (ss.map D.int)) (fun z => match z with | .tup [x, .int s] => D.bl (inB x 0 (s - 1)) | _ => .non) trivial (by rw [zipD_length]; omega) (fun z K K2 mz kz => ?_) ?_
      · obtain ⟨x, y, rfl, mx, my⟩ := mem_zipD mz
        obtain ⟨s, ms, rfl⟩ := List.mem_map.mp my
        (try simp only [↓e_mVar, ↓e_mK, ↓e_mOp1, ↓e_mOp2, ↓e_aNil, ↓e_aCons, ↓e_mTup, ↓e_mLst, ↓e_mLstM, ↓e_mIf, ↓e_tTru, ↓e_tNt, ↓e_tAnd2, ↓e_tOr2, ↓e_tOp2, ↓e_mChain, ↓e_tChain', ↓e_mAnd, ↓e_mOr, ↓e_mFld, ↓e_sFldD, ↓e_mMeth, ↓e_mMake, ↓e_mRev, revP_l, ↓e_mAndT, ↓e_mOrT, truP_lc, ↓e_mNot, ↓e_mCall, ↓e_mBlt, ↓e_oNo, ↓e_oSo, ↓e_mSl, ↓e_sPass, ↓e_sBrk, ↓e_sCnt, ↓e_sNever, ↓e_sSeq, ↓e_sAsg, ↓e_gNm, ↓e_gTu, ↓e_gsNil, ↓e_gsCons, ↓e_gSb, ↓e_sPar, ↓e_sExp, ↓e_sRt, ↓e_sRtN, ↓e_sIf, ↓e_sAug, ↓e_sFor, ↓e_sWh, ↓e_mComp, ↓e_mCompM, ↓e_tYs, ↓e_mkFn, ↓e_mApp, ↓e_itSeq, ↓e_itScr, ↓e_itEnum, ↓e_itZip, ↓e_itZip3, ↓e_itR1, ↓e_itR2, ↓e_itR3, ↓e_mDic0, ↓e_mDic1, ↓e_sPar3, ↓e_mAddM, ↓e_aStar, ↓e_mMulM, ↓e_sRaise0, ↓e_sRaise1, ↓e_mErr, ↓e_mCallV, starP_t, starP_l, slot_0, slot_1, slot_2, slot_3, slot_4, slot_5, slot_6, slot_7, slot_8, slot_9, slot_10, slot_11, slot_12, slot_13, slot_14, slot_15, slot_16, slot_17, slot_18, slot_19, slot_20, slot_21, slot_22, slot_23, slot_24, slot_25, slot_26, slot_27, slot_28, slot_29, slot_30, negP_i, ex3, ex2, wipeE, List.map_cons, List.map_nil, List.cons_append, List.nil_append, List.append_nil, List.length_cons, List.length_nil, List.replicate_succ, List.replicate_zero, List.set_cons_zero, List.set_cons_succ, Oc_some, Nat.reduceAdd, Nat.reduceSub, Nat.reduceLeDiff, Nat.zero_le, Int.toNat_natCast, Bool.or_false, Bool.or_true, Bool.or_self, Bool.false_or, Bool.true_or, decide_true, decide_false, Nat.zero_add, Nat.sub_self, Bool.true_eq_false, Bool.false_eq_true, if_true, if_false, ite_true, ite_false, true_and, and_true, addP_ii, subP_ii, mulP_ii, isiP_tup, isiP_lst, isiP_str, isiP_bl, isiP_int, isiP_tl, kd_non, kd_bl, kd_int, kd_str, kd_tup, kd_lst, isTup, isLst, isStr, isBl, isInt, eqP_ii, neP_ii, lenP_t, lenP_l, lenP_s, seqP_t, seqP_l, truP_b, ixP_t, ixP_l, slP_t, slP_l, tupleP_l, tupleP_t, addP_tt, modP_ii, divP_ii, exb, addLP_ll, min2_ii, max2_ii, exTup, exCons, exInt, iaddP_ii, leP_ii, gtP_ii, geP_ii, ltP_ii, intP_i, decide_eq_true_eq, Bool.not_eq_true', decide_eq_false_iff_not, Bool.not_true, Bool.not_false, List.cons_ne_nil, Nat.succ_ne_zero, reduceCtorEq])
        exact c_is_in (List.all_eq_true.mp k x mx) kz
      · exact ⟨bs, congrArg D.lst b1, by rw [b2]; exact .of q⟩
    · rw [decide_eq_false e, Bool.false_and] at q
      rw [if_pos (by omega)]
      exact .of q
  | _ => first | (simp only [↓e_mVar, ↓e_mK, ↓e_mOp1, ↓e_mOp2, ↓e_aNil, ↓e_aCons, ↓e_mTup, ↓e_mLst, ↓e_mLstM, ↓e_mIf, ↓e_tTru, ↓e_tNt, ↓e_tAnd2, ↓e_tOr2, ↓e_tOp2, ↓e_mChain, ↓e_tChain', ↓e_mAnd, ↓e_mOr, ↓e_mFld, ↓e_sFldD, ↓e_mMeth, ↓e_mMake, ↓e_mRev, revP_l, ↓e_mAndT, ↓e_mOrT, truP_lc, ↓e_mNot, ↓e_mCall, ↓e_mBlt, ↓e_oNo, ↓e_oSo, ↓e_mSl, ↓e_sPass, ↓e_sBrk, ↓e_sCnt, ↓e_sNever, ↓e_sSeq, ↓e_sAsg, ↓e_gNm, ↓e_gTu, ↓e_gsNil, ↓e_gsCons, ↓e_gSb, ↓e_sPar, ↓e_sExp, ↓e_sRt, ↓e_sRtN, ↓e_sIf, ↓e_sAug, ↓e_sFor, ↓e_sWh, ↓e_mComp, ↓e_mCompM, ↓e_tYs, ↓e_mkFn, ↓e_mApp, ↓e_itSeq, ↓e_itScr, ↓e_itEnum, ↓e_itZip, ↓e_itZip3, ↓e_itR1, ↓e_itR2, ↓e_itR3, ↓e_mDic0, ↓e_mDic1, ↓e_sPar3, ↓e_mAddM, ↓e_aStar, ↓e_mMulM, ↓e_sRaise0, ↓e_sRaise1, ↓e_mErr, ↓e_mCallV, starP_t, starP_l, slot_0, slot_1, slot_2, slot_3, slot_4, slot_5, slot_6, slot_7, slot_8, slot_9, slot_10, slot_11, slot_12, slot_13, slot_14, slot_15, slot_16, slot_17, slot_18, slot_19, slot_20, slot_21, slot_22, slot_23, slot_24, slot_25, slot_26, slot_27, slot_28, slot_29, slot_30, negP_i, ex3, ex2, wipeE, List.map_cons, List.map_nil, List.cons_append, List.nil_append, List.append_nil, List.length_cons, List.length_nil, List.replicate_succ, List.replicate_zero, List.set_cons_zero, List.set_cons_succ, Oc_some, Nat.reduceAdd, Nat.reduceSub, Nat.reduceLeDiff, Nat.zero_le, Int.toNat_natCast, Bool.or_false, Bool.or_true, Bool.or_self, Bool.false_or, Bool.true_or, decide_true, decide_false, Nat.zero_add, Nat.sub_self, Bool.true_eq_false, Bool.false_eq_true, if_true, if_false, ite_true, ite_false, true_and, and_true, addP_ii, subP_ii, mulP_ii, isiP_tup, isiP_lst, isiP_str, isiP_bl, isiP_int, isiP_tl, kd_non, kd_bl, kd_int, kd_str, kd_tup, kd_lst, isTup, isLst, isStr, isBl, isInt, eqP_ii, neP_ii, lenP_t, lenP_l, lenP_s, seqP_t, seqP_l, truP_b, ixP_t, ixP_l, slP_t, slP_l, tupleP_l, tupleP_t, addP_tt, modP_ii, divP_ii, exb, addLP_ll, min2_ii, max2_ii, exTup, exCons, exInt, iaddP_ii, leP_ii, gtP_ii, geP_ii, ltP_ii, intP_i, decide_eq_true_eq, Bool.not_eq_true', decide_eq_false_iff_not, Bool.not_true, Bool.not_false, List.cons_ne_nil, Nat.succ_ne_zero, reduceCtorEq]; exact .of q) | cases k
/-- a puzzle behind some settings -/
def OkF : List Int → List (List (List Int)) → Prop
  | _, [] => True
  | ss, l :: p => (1 ≤ l.length ∧ l.length ≤ 3) ∧ (∀ w ∈ l, wordB ss (tI w) = true) ∧ OkF (ss ++ [(l.length : Int) + 1]) p
def OkP (p : List (List (List Int))) : Prop := OkF [] p ∧ 1 ≤ p.length ∧ p.length ≤ 30
def setsP (p : List (List (List Int))) : List Int := p.map fun l => (l.length : Int) + 1
theorem kdW_tI {w : List Int} : kdW (tI w) = true := by
  unfold tI kdW
  rw [List.all_eq_true]
  intro x hx
  obtain ⟨i, _, rfl⟩ := List.mem_map.mp hx
  rfl
theorem all_true {α : Type} {f : α → Bool} {xs : List α} (h : ∀ x ∈ xs, f x = true) : ∃ bs : List Bool, xs.map (fun x => D.bl (f x)) = bs.map D.bl ∧ bs.all id = true := ⟨xs.map f, by rw [List.map_map]; rfl, by
  rw [List.all_eq_true]
  intro b hb
  obtain ⟨x, hx, rfl⟩ := List.mem_map.mp hb
  exact h x hx⟩
theorem c_need_puzzle {p : List (List (List Int))} {h : DH} {E : EK} {Q : DK} (k : OkP p) (q : Q .non h) : F_need_puzzle [tP p] h E Q := by
  obtain ⟨k, k1, k2⟩ := k
  simp only [↓e_need_puzzle, tP, ↓e_mVar, ↓e_mK, ↓e_mOp1, ↓e_mOp2, ↓e_aNil, ↓e_aCons, ↓e_mTup, ↓e_mLst, ↓e_mLstM, ↓e_mIf, ↓e_tTru, ↓e_tNt, ↓e_tAnd2, ↓e_tOr2, ↓e_tOp2, ↓e_mChain, ↓e_tChain', ↓e_mAnd, ↓e_mOr, ↓e_mFld, ↓e_sFldD, ↓e_mMeth, ↓e_mMake, ↓e_mRev, revP_l, ↓e_mAndT, ↓e_mOrT, truP_lc, ↓e_mNot, ↓e_mCall, ↓e_mBlt, ↓e_oNo, ↓e_oSo, ↓e_mSl, ↓e_sPass, ↓e_sBrk, ↓e_sCnt, ↓e_sNever, ↓e_sSeq, ↓e_sAsg, ↓e_gNm, ↓e_gTu, ↓e_gsNil, ↓e_gsCons, ↓e_gSb, ↓e_sPar, ↓e_sExp, ↓e_sRt, ↓e_sRtN, ↓e_sIf, ↓e_sAug, ↓e_sFor, ↓e_sWh, ↓e_mComp, ↓e_mCompM, ↓e_tYs, ↓e_mkFn, ↓e_mApp, ↓e_itSeq, ↓e_itScr, ↓e_itEnum, ↓e_itZip, ↓e_itZip3, ↓e_itR1, ↓e_itR2, ↓e_itR3, ↓e_mDic0, ↓e_mDic1, ↓e_sPar3, ↓e_mAddM, ↓e_aStar, ↓e_mMulM, ↓e_sRaise0, ↓e_sRaise1, ↓e_mErr, ↓e_mCallV, starP_t, starP_l, slot_0, slot_1, slot_2, slot_3, slot_4, slot_5, slot_6, slot_7, slot_8, slot_9, slot_10, slot_11, slot_12, slot_13, slot_14, slot_15, slot_16, slot_17, slot_18, slot_19, slot_20, slot_21, slot_22, slot_23, slot_24, slot_25, slot_26, slot_27, slot_28, slot_29, slot_30, negP_i, ex3, ex2, wipeE, List.map_cons, List.map_nil, List.cons_append, List.nil_append, List.append_nil, List.length_cons, List.length_nil, List.replicate_succ, List.replicate_zero, List.set_cons_zero, List.set_cons_succ, Oc_some, Nat.reduceAdd, Nat.reduceSub, Nat.reduceLeDiff, Nat.zero_le, Int.toNat_natCast, Bool.or_false, Bool.or_true, Bool.or_self, Bool.false_or, Bool.true_or, decide_true, decide_false, Nat.zero_add, Nat.sub_self, Bool.true_eq_false, Bool.false_eq_true, if_true, if_false, ite_true, ite_false, true_and, and_true, addP_ii, subP_ii, mulP_ii, isiP_tup, isiP_lst, isiP_str, isiP_bl, isiP_int, isiP_tl, kd_non, kd_bl, kd_int, kd_str, kd_tup, kd_lst, isTup, isLst, isStr, isBl, isInt, eqP_ii, neP_ii, lenP_t, lenP_l, lenP_s, seqP_t, seqP_l, truP_b, ixP_t, ixP_l, slP_t, slP_l, tupleP_l, tupleP_t, addP_tt, modP_ii, divP_ii, exb, addLP_ll, min2_ii, max2_ii, exTup, exCons, exInt, iaddP_ii, leP_ii, gtP_ii, geP_ii, ltP_ii, intP_i, decide_eq_true_eq, Bool.not_eq_true', decide_eq_false_iff_not, Bool.not_true, Bool.not_false, List.cons_ne_nil, Nat.succ_ne_zero, reduceCtorEq, List.length_map]
  rw [if_pos (by omega)]
  (try simp only [↓e_mVar, ↓e_mK, ↓e_mOp1, ↓e_mOp2, ↓e_aNil, ↓e_aCons, ↓e_mTup, ↓e_mLst, ↓e_mLstM, ↓e_mIf, ↓e_tTru, ↓e_tNt, ↓e_tAnd2, ↓e_tOr2, ↓e_tOp2, ↓e_mChain, ↓e_tChain', ↓e_mAnd, ↓e_mOr, ↓e_mFld, ↓e_sFldD, ↓e_mMeth, ↓e_mMake, ↓e_mRev, revP_l, ↓e_mAndT, ↓e_mOrT, truP_lc, ↓e_mNot, ↓e_mCall, ↓e_mBlt, ↓e_oNo, ↓e_oSo, ↓e_mSl, ↓e_sPass, ↓e_sBrk, ↓e_sCnt, ↓e_sNever, ↓e_sSeq, ↓e_sAsg, ↓e_gNm, ↓e_gTu, ↓e_gsNil, ↓e_gsCons, ↓e_gSb, ↓e_sPar, ↓e_sExp, ↓e_sRt, ↓e_sRtN, ↓e_sIf, ↓e_sAug, ↓e_sFor, ↓e_sWh, ↓e_mComp, ↓e_mCompM, ↓e_tYs, ↓e_mkFn, ↓e_mApp, ↓e_itSeq, ↓e_itScr, ↓e_itEnum, ↓e_itZip, ↓e_itZip3, ↓e_itR1, ↓e_itR2, ↓e_itR3, ↓e_mDic0, ↓e_mDic1, ↓e_sPar3, ↓e_mAddM, ↓e_aStar, ↓e_mMulM, ↓e_sRaise0, ↓e_sRaise1, ↓e_mErr, ↓e_mCallV, starP_t, starP_l, slot_0, slot_1, slot_2, slot_3, slot_4, slot_5, slot_6, slot_7, slot_8, slot_9, slot_10, slot_11, slot_12, slot_13, slot_14, slot_15, slot_16, slot_17, slot_18, slot_19, slot_20, slot_21, slot_22, slot_23, slot_24, slot_25, slot_26, slot_27, slot_28, slot_29, slot_30, negP_i, ex3, ex2, wipeE, List.map_cons, List.map_nil, List.cons_append, List.nil_append, List.append_nil, List.length_cons, List.length_nil, List.replicate_succ, List.replicate_zero, List.set_cons_zero, List.set_cons_succ, Oc_some, Nat.reduceAdd, Nat.reduceSub, Nat.reduceLeDiff, Nat.zero_le, Int.toNat_natCast, Bool.or_false, Bool.or_true, Bool.or_self, Bool.false_or, Bool.true_or, decide_true, decide_false, Nat.zero_add, Nat.sub_self, Bool.true_eq_false, Bool.false_eq_true, if_true, if_false, ite_true, ite_false, true_and, and_true, addP_ii, subP_ii, mulP_ii, isiP_tup, isiP_lst, isiP_str, isiP_bl, isiP_int, isiP_tl, kd_non, kd_bl, kd_int, kd_str, kd_tup, kd_lst, isTup, isLst, isStr, isBl, isInt, eqP_ii, neP_ii, lenP_t, lenP_l, lenP_s, seqP_t, seqP_l, truP_b, ixP_t, ixP_l, slP_t, slP_l, tupleP_l, tupleP_t, addP_tt, modP_ii, divP_ii, exb, addLP_ll, min2_ii, max2_ii, exTup, exCons, exInt, iaddP_ii, leP_ii, gtP_ii, geP_ii, ltP_ii, intP_i, decide_eq_true_eq, Bool.not_eq_true', decide_eq_false_iff_not, Bool.not_true, Bool.not_false, List.cons_ne_nil, Nat.succ_ne_zero, reduceCtorEq])
  rw [if_neg (by omega)]
  refine for_ind (enumD 0 (p.map tL)) (fun i e h' => h' = h ∧ ∃ ss a b, ss.length = i ∧ i ≤ p.length ∧ OkF ss (p.drop i) ∧ e = [some (tP p), some (tI ss), a, b, none]) ⟨rfl, [], _, _, rfl, Nat.zero_le _, k, rfl⟩ (fun _ _ _ _ => trivial) ?_ ?_
  · rintro i x e h' K ⟨rfl, ss, a, b, ls, li, ok, rfl⟩ hx hK
    rw [enumD_get, List.getElem?_map] at hx
    cases hp : p[i]? with
    | none => rw [hp] at hx; cases hx
    | some l =>
      rw [hp] at hx
      cases hx
      have li2 : i < p.length := (List.getElem?_eq_some_iff.mp hp).1
      rw [List.drop_eq_getElem_cons li2] at ok
      have el : p[i] = l := (List.getElem?_eq_some_iff.mp hp).2
      rw [el] at ok
      obtain ⟨⟨l1, l3⟩, ow, ok⟩ := ok
      simp only [tL, ↓e_mVar, ↓e_mK, ↓e_mOp1, ↓e_mOp2, ↓e_aNil, ↓e_aCons, ↓e_mTup, ↓e_mLst, ↓e_mLstM, ↓e_mIf, ↓e_tTru, ↓e_tNt, ↓e_tAnd2, ↓e_tOr2, ↓e_tOp2, ↓e_mChain, ↓e_tChain', ↓e_mAnd, ↓e_mOr, ↓e_mFld, ↓e_sFldD, ↓e_mMeth, ↓e_mMake, ↓e_mRev, revP_l, ↓e_mAndT, ↓e_mOrT, truP_lc, ↓e_mNot, ↓e_mCall, ↓e_mBlt, ↓e_oNo, ↓e_oSo, ↓e_mSl, ↓e_sPass, ↓e_sBrk, ↓e_sCnt, ↓e_sNever, ↓e_sSeq, ↓e_sAsg, ↓e_gNm, ↓e_gTu, ↓e_gsNil, ↓e_gsCons, ↓e_gSb, ↓e_sPar, ↓e_sExp, ↓e_sRt, ↓e_sRtN, ↓e_sIf, ↓e_sAug, ↓e_sFor, ↓e_sWh, ↓e_mComp, ↓e_mCompM, ↓e_tYs, ↓e_mkFn, ↓e_mApp, ↓e_itSeq, ↓e_itScr, ↓e_itEnum, ↓e_itZip, ↓e_itZip3, ↓e_itR1, ↓e_itR2, ↓e_itR3, ↓e_mDic0, ↓e_mDic1, ↓e_sPar3, ↓e_mAddM, ↓e_aStar, ↓e_mMulM, ↓e_sRaise0, ↓e_sRaise1, ↓e_mErr, ↓e_mCallV, starP_t, starP_l, slot_0, slot_1, slot_2, slot_3, slot_4, slot_5, slot_6, slot_7, slot_8, slot_9, slot_10, slot_11, slot_12, slot_13, slot_14, slot_15, slot_16, slot_17, slot_18, slot_19, slot_20, slot_21, slot_22, slot_23, slot_24, slot_25, slot_26, slot_27, slot_28, slot_29, slot_30, negP_i, ex3, ex2, wipeE, List.map_cons, List.map_nil, List.cons_append, List.nil_append, List.append_nil, List.length_cons, List.length_nil, List.replicate_succ, List.replicate_zero, List.set_cons_zero, List.set_cons_succ, Oc_some, Nat.reduceAdd, Nat.reduceSub, Nat.reduceLeDiff, Nat.zero_le, Int.toNat_natCast, Bool.or_false, Bool.or_true, Bool.or_self, Bool.false_or, Bool.true_or, decide_true, decide_false, Nat.zero_add, Nat.sub_self, Bool.true_eq_false, Bool.false_eq_true, if_true, if_false, ite_true, ite_false, true_and, and_true, addP_ii, subP_ii, mulP_ii, isiP_tup, isiP_lst, isiP_str, isiP_bl, isiP_int, isiP_tl, kd_non, kd_bl, kd_int, kd_str, kd_tup, kd_lst, isTup, isLst, isStr, isBl, isInt, eqP_ii, neP_ii, lenP_t, lenP_l, lenP_s, seqP_t, seqP_l, truP_b, ixP_t, ixP_l, slP_t, slP_l, tupleP_l, tupleP_t, addP_tt, modP_ii, divP_ii, exb, addLP_ll, min2_ii, max2_ii, exTup, exCons, exInt, iaddP_ii, leP_ii, gtP_ii, geP_ii, ltP_ii, intP_i, decide_eq_true_eq, Bool.not_eq_true', decide_eq_false_iff_not, Bool.not_true, Bool.not_false, List.cons_ne_nil, Nat.succ_ne_zero, reduceCtorEq, List.length_map]
      rw [if_pos (by omega)]
      (try simp only [↓e_mVar, ↓e_mK, ↓e_mOp1, ↓e_mOp2, ↓e_aNil, ↓e_aCons, ↓e_mTup, ↓e_mLst, ↓e_mLstM, ↓e_mIf, ↓e_tTru, ↓e_tNt, ↓e_tAnd2, ↓e_tOr2, ↓e_tOp2, ↓e_mChain, ↓e_tChain', ↓e_mAnd, ↓e_mOr, ↓e_mFld, ↓e_sFldD, ↓e_mMeth, ↓e_mMake, ↓e_mRev, revP_l, ↓e_mAndT, ↓e_mOrT, truP_lc, ↓e_mNot, ↓e_mCall, ↓e_mBlt, ↓e_oNo, ↓e_oSo, ↓e_mSl, ↓e_sPass, ↓e_sBrk, ↓e_sCnt, ↓e_sNever, ↓e_sSeq, ↓e_sAsg, ↓e_gNm, ↓e_gTu, ↓e_gsNil, ↓e_gsCons, ↓e_gSb, ↓e_sPar, ↓e_sExp, ↓e_sRt, ↓e_sRtN, ↓e_sIf, ↓e_sAug, ↓e_sFor, ↓e_sWh, ↓e_mComp, ↓e_mCompM, ↓e_tYs, ↓e_mkFn, ↓e_mApp, ↓e_itSeq, ↓e_itScr, ↓e_itEnum, ↓e_itZip, ↓e_itZip3, ↓e_itR1, ↓e_itR2, ↓e_itR3, ↓e_mDic0, ↓e_mDic1, ↓e_sPar3, ↓e_mAddM, ↓e_aStar, ↓e_mMulM, ↓e_sRaise0, ↓e_sRaise1, ↓e_mErr, ↓e_mCallV, starP_t, starP_l, slot_0, slot_1, slot_2, slot_3, slot_4, slot_5, slot_6, slot_7, slot_8, slot_9, slot_10, slot_11, slot_12, slot_13, slot_14, slot_15, slot_16, slot_17, slot_18, slot_19, slot_20, slot_21, slot_22, slot_23, slot_24, slot_25, slot_26, slot_27, slot_28, slot_29, slot_30, negP_i, ex3, ex2, wipeE, List.map_cons, List.map_nil, List.cons_append, List.nil_append, List.append_nil, List.length_cons, List.length_nil, List.replicate_succ, List.replicate_zero, List.set_cons_zero, List.set_cons_succ, Oc_some, Nat.reduceAdd, Nat.reduceSub, Nat.reduceLeDiff, Nat.zero_le, Int.toNat_natCast, Bool.or_false, Bool.or_true, Bool.or_self, Bool.false_or, Bool.true_or, decide_true, decide_false, Nat.zero_add, Nat.sub_self, Bool.true_eq_false, Bool.false_eq_true, if_true, if_false, ite_true, ite_false, true_and, and_true, addP_ii, subP_ii, mulP_ii, isiP_tup, isiP_lst, isiP_str, isiP_bl, isiP_int, isiP_tl, kd_non, kd_bl, kd_int, kd_str, kd_tup, kd_lst, isTup, isLst, isStr, isBl, isInt, eqP_ii, neP_ii, lenP_t, lenP_l, lenP_s, seqP_t, seqP_l, truP_b, ixP_t, ixP_l, slP_t, slP_l, tupleP_l, tupleP_t, addP_tt, modP_ii, divP_ii, exb, addLP_ll, min2_ii, max2_ii, exTup, exCons, exInt, iaddP_ii, leP_ii, gtP_ii, geP_ii, ltP_ii, intP_i, decide_eq_true_eq, Bool.not_eq_true', decide_eq_false_iff_not, Bool.not_true, Bool.not_false, List.cons_ne_nil, Nat.succ_ne_zero, reduceCtorEq])
      rw [if_neg (by omega)]
      obtain ⟨bs, b1, b2⟩ := all_true (f := fun w => wordB ss (tI w)) ow
      refine comp_map (l.map tI) (fun x => D.bl (wordB ss x)) trivial (by rw [List.length_map]; omega) (fun x K K2 mx kx => ?_) ?_
      · obtain ⟨w, mw, rfl⟩ := List.mem_map.mp mx
        (try simp only [↓e_mVar, ↓e_mK, ↓e_mOp1, ↓e_mOp2, ↓e_aNil, ↓e_aCons, ↓e_mTup, ↓e_mLst, ↓e_mLstM, ↓e_mIf, ↓e_tTru, ↓e_tNt, ↓e_tAnd2, ↓e_tOr2, ↓e_tOp2, ↓e_mChain, ↓e_tChain', ↓e_mAnd, ↓e_mOr, ↓e_mFld, ↓e_sFldD, ↓e_mMeth, ↓e_mMake, ↓e_mRev, revP_l, ↓e_mAndT, ↓e_mOrT, truP_lc, ↓e_mNot, ↓e_mCall, ↓e_mBlt, ↓e_oNo, ↓e_oSo, ↓e_mSl, ↓e_sPass, ↓e_sBrk, ↓e_sCnt, ↓e_sNever, ↓e_sSeq, ↓e_sAsg, ↓e_gNm, ↓e_gTu, ↓e_gsNil, ↓e_gsCons, ↓e_gSb, ↓e_sPar, ↓e_sExp, ↓e_sRt, ↓e_sRtN, ↓e_sIf, ↓e_sAug, ↓e_sFor, ↓e_sWh, ↓e_mComp, ↓e_mCompM, ↓e_tYs, ↓e_mkFn, ↓e_mApp, ↓e_itSeq, ↓e_itScr, ↓e_itEnum, ↓e_itZip, ↓e_itZip3, ↓e_itR1, ↓e_itR2, ↓e_itR3, ↓e_mDic0, ↓e_mDic1, ↓e_sPar3, ↓e_mAddM, ↓e_aStar, ↓e_mMulM, ↓e_sRaise0, ↓e_sRaise1, ↓e_mErr, ↓e_mCallV, starP_t, starP_l, slot_0, slot_1, slot_2, slot_3, slot_4, slot_5, slot_6, slot_7, slot_8, slot_9, slot_10, slot_11, slot_12, slot_13, slot_14, slot_15, slot_16, slot_17, slot_18, slot_19, slot_20, slot_21, slot_22, slot_23, slot_24, slot_25, slot_26, slot_27, slot_28, slot_29, slot_30, negP_i, ex3, ex2, wipeE, List.map_cons, List.map_nil, List.cons_append, List.nil_append, List.append_nil, List.length_cons, List.length_nil, List.replicate_succ, List.replicate_zero, List.set_cons_zero, List.set_cons_succ, Oc_some, Nat.reduceAdd, Nat.reduceSub, Nat.reduceLeDiff, Nat.zero_le, Int.toNat_natCast, Bool.or_false, Bool.or_true, Bool.or_self, Bool.false_or, Bool.true_or, decide_true, decide_false, Nat.zero_add, Nat.sub_self, Bool.true_eq_false, Bool.false_eq_true, if_true, if_false, ite_true, ite_false, true_and, and_true, addP_ii, subP_ii, mulP_ii, isiP_tup, isiP_lst, isiP_str, isiP_bl, isiP_int, isiP_tl, kd_non, kd_bl, kd_int, kd_str, kd_tup, kd_lst, isTup, isLst, isStr, isBl, isInt, eqP_ii, neP_ii, lenP_t, lenP_l, lenP_s, seqP_t, seqP_l, truP_b, ixP_t, ixP_l, slP_t, slP_l, tupleP_l, tupleP_t, addP_tt, modP_ii, divP_ii, exb, addLP_ll, min2_ii, max2_ii, exTup, exCons, exInt, iaddP_ii, leP_ii, gtP_ii, geP_ii, ltP_ii, intP_i, decide_eq_true_eq, Bool.not_eq_true', decide_eq_false_iff_not, Bool.not_true, Bool.not_false, List.cons_ne_nil, Nat.succ_ne_zero, reduceCtorEq])
        exact c_is_word kdW_tI (by omega) kx
      · refine ⟨bs, by rw [List.map_map]; exact congrArg D.lst b1, ?_⟩
        rw [b2]
        simp only [tI, ↓e_mVar, ↓e_mK, ↓e_mOp1, ↓e_mOp2, ↓e_aNil, ↓e_aCons, ↓e_mTup, ↓e_mLst, ↓e_mLstM, ↓e_mIf, ↓e_tTru, ↓e_tNt, ↓e_tAnd2, ↓e_tOr2, ↓e_tOp2, ↓e_mChain, ↓e_tChain', ↓e_mAnd, ↓e_mOr, ↓e_mFld, ↓e_sFldD, ↓e_mMeth, ↓e_mMake, ↓e_mRev, revP_l, ↓e_mAndT, ↓e_mOrT, truP_lc, ↓e_mNot, ↓e_mCall, ↓e_mBlt, ↓e_oNo, ↓e_oSo, ↓e_mSl, ↓e_sPass, ↓e_sBrk, ↓e_sCnt, ↓e_sNever, ↓e_sSeq, ↓e_sAsg, ↓e_gNm, ↓e_gTu, ↓e_gsNil, ↓e_gsCons, ↓e_gSb, ↓e_sPar, ↓e_sExp, ↓e_sRt, ↓e_sRtN, ↓e_sIf, ↓e_sAug, ↓e_sFor, ↓e_sWh, ↓e_mComp, ↓e_mCompM, ↓e_tYs, ↓e_mkFn, ↓e_mApp, ↓e_itSeq, ↓e_itScr, ↓e_itEnum, ↓e_itZip, ↓e_itZip3, ↓e_itR1, ↓e_itR2, ↓e_itR3, ↓e_mDic0, ↓e_mDic1, ↓e_sPar3, ↓e_mAddM, ↓e_aStar, ↓e_mMulM, ↓e_sRaise0, ↓e_sRaise1, ↓e_mErr, ↓e_mCallV, starP_t, starP_l, slot_0, slot_1, slot_2, slot_3, slot_4, slot_5, slot_6, slot_7, slot_8, slot_9, slot_10, slot_11, slot_12, slot_13, slot_14, slot_15, slot_16, slot_17, slot_18, slot_19, slot_20, slot_21, slot_22, slot_23, slot_24, slot_25, slot_26, slot_27, slot_28, slot_29, slot_30, negP_i, ex3, ex2, wipeE, List.map_cons, List.map_nil, List.cons_append, List.nil_append, List.append_nil, List.length_cons, List.length_nil, List.replicate_succ, List.replicate_zero, List.set_cons_zero, List.set_cons_succ, Oc_some, Nat.reduceAdd, Nat.reduceSub, Nat.reduceLeDiff, Nat.zero_le, Int.toNat_natCast, Bool.or_false, Bool.or_true, Bool.or_self, Bool.false_or, Bool.true_or, decide_true, decide_false, Nat.zero_add, Nat.sub_self, Bool.true_eq_false, Bool.false_eq_true, if_true, if_false, ite_true, ite_false, true_and, and_true, addP_ii, subP_ii, mulP_ii, isiP_tup, isiP_lst, isiP_str, isiP_bl, isiP_int, isiP_tl, kd_non, kd_bl, kd_int, kd_str, kd_tup, kd_lst, isTup, isLst, isStr, isBl, isInt, eqP_ii, neP_ii, lenP_t, lenP_l, lenP_s, seqP_t, seqP_l, truP_b, ixP_t, ixP_l, slP_t, slP_l, tupleP_l, tupleP_t, addP_tt, modP_ii, divP_ii, exb, addLP_ll, min2_ii, max2_ii, exTup, exCons, exInt, iaddP_ii, leP_ii, gtP_ii, geP_ii, ltP_ii, intP_i, decide_eq_true_eq, Bool.not_eq_true', decide_eq_false_iff_not, Bool.not_true, Bool.not_false, List.cons_ne_nil, Nat.succ_ne_zero, reduceCtorEq]
        refine ⟨by simp; omega, .of (hK _ _ ⟨rfl, ss ++ [(l.length : Int) + 1], some (.int i), some (tL l), by simp [ls], li2, ok, ?_⟩)⟩
        simp [tI, tP, tL]
  · rintro e h' ⟨rfl, _⟩
    exact .of q
end L2.Lmp

set_option maxHeartbeats 4000000
namespace L2.Lmp
open PySem PySem.Spec PyProof.Rows
/-! ### products -/
def prodI : List Int → Int
  | [] => 1
  | x :: xs => x * prodI xs
theorem four_small : (4 : Nat) ^ 1000 < 2 ^ 4000 := by decide +kernel
theorem small_of {n : Int} {i : Nat} (a : 0 ≤ n) (b : n ≤ 4 ^ i) (l : i ≤ 1000) : n.natAbs < 2 ^ 4000 := by
  have e : (n.natAbs : Int) = n := Int.natAbs_of_nonneg a
  have h1 : (n.natAbs : Int) ≤ ((4 ^ i : Nat) : Int) := by rw [e]; simpa using b
  have h2 : n.natAbs ≤ 4 ^ i := by exact_mod_cast h1
  have h3 : (4 : Nat) ^ i ≤ 4 ^ 1000 := Nat.pow_le_pow_right (by decide) l
  exact Nat.lt_of_le_of_lt (Nat.le_trans h2 h3) four_small
theorem prodI_le : ∀ (ns : List Int), (∀ x ∈ ns, 0 ≤ x ∧ x ≤ 4) → 0 ≤ prodI ns ∧ prodI ns ≤ 4 ^ ns.length
  | [], _ => ⟨by decide, by decide⟩
  | x :: xs, h => by
    obtain ⟨a, b⟩ := prodI_le xs fun y hy => h y (List.mem_cons_of_mem _ hy)
    obtain ⟨c, d⟩ := h x List.mem_cons_self
    refine ⟨Int.mul_nonneg c a, ?_⟩
    have : x * prodI xs ≤ 4 * 4 ^ xs.length := Int.mul_le_mul d b a (by decide)
    show x * prodI xs ≤ 4 ^ (xs.length + 1)
    rw [Int.pow_succ, Int.mul_comm (4 ^ xs.length) 4]
    exact this
theorem prod_loop {b : DS} (hb : b = sAsg (mOp2 mulP (mVar 1) (mVar 2)) (gNm 1)) {ns : List Int} (bd : ∀ x ∈ ns, 0 ≤ x ∧ x ≤ 4) (hl : ns.length ≤ 1000) {x0 : Option D} {h : DH} {E : EK} {D' : Fl} {gd : DH → Prop} (hg : gd h)
    (q : ∀ a, D'.nx [x0, some (.int (prodI ns)), a] h) : forL (gNm 2) b gd (ns.map D.int) [x0, some (.int 1), none] h E D' := by
  subst hb
  refine for_ind _ (fun i e h' => h' = h ∧ i ≤ ns.length ∧ ∃ f a, e = [x0, some (.int f), a] ∧ f * prodI (ns.drop i) = prodI ns ∧ 0 ≤ f ∧ f ≤ 4 ^ i) ⟨rfl, Nat.zero_le _, 1, none, rfl, by simp, by decide, by decide⟩ (fun _ _ _ w => w.1 ▸ hg) ?_ ?_
  · rintro i x e h' K ⟨rfl, li, f, a, rfl, e1, e2, e3⟩ hx hK
    rw [List.getElem?_map] at hx
    cases hp : ns[i]? with
    | none => rw [hp] at hx; cases hx
    | some l =>
      rw [hp] at hx
      cases hx
      obtain ⟨li2, el⟩ := List.getElem?_eq_some_iff.mp hp
      rw [List.drop_eq_getElem_cons li2, el] at e1
      obtain ⟨b1, b2⟩ := bd l (List.mem_of_getElem? hp)
      simp only [↓e_mVar, ↓e_mK, ↓e_mOp1, ↓e_mOp2, ↓e_aNil, ↓e_aCons, ↓e_mTup, ↓e_mLst, ↓e_mLstM, ↓e_mIf, ↓e_tTru, ↓e_tNt, ↓e_tAnd2, ↓e_tOr2, ↓e_tOp2, ↓e_mChain, ↓e_tChain', ↓e_mAnd, ↓e_mOr, ↓e_mFld, ↓e_sFldD, ↓e_mMeth, ↓e_mMake, ↓e_mRev, revP_l, ↓e_mAndT, ↓e_mOrT, truP_lc, ↓e_mNot, ↓e_mCall, ↓e_mBlt, ↓e_oNo, ↓e_oSo, ↓e_mSl, ↓e_sPass, ↓e_sBrk, ↓e_sCnt, ↓e_sNever, ↓e_sSeq, ↓e_sAsg, ↓e_gNm, ↓e_gTu, ↓e_gsNil, ↓e_gsCons, ↓e_gSb, ↓e_sPar, ↓e_sExp, ↓e_sRt, ↓e_sRtN, ↓e_sIf, ↓e_sAug, ↓e_sFor, ↓e_sWh, ↓e_mComp, ↓e_mCompM, ↓e_tYs, ↓e_mkFn, ↓e_mApp, ↓e_itSeq, ↓e_itScr, ↓e_itEnum, ↓e_itZip, ↓e_itZip3, ↓e_itR1, ↓e_itR2, ↓e_itR3, ↓e_mDic0, ↓e_mDic1, ↓e_sPar3, ↓e_mAddM, ↓e_aStar, ↓e_mMulM, ↓e_sRaise0, ↓e_sRaise1, ↓e_mErr, ↓e_mCallV, starP_t, starP_l, slot_0, slot_1, slot_2, slot_3, slot_4, slot_5, slot_6, slot_7, slot_8, slot_9, slot_10, slot_11, slot_12, slot_13, slot_14, slot_15, slot_16, slot_17, slot_18, slot_19, slot_20, slot_21, slot_22, slot_23, slot_24, slot_25, slot_26, slot_27, slot_28, slot_29, slot_30, negP_i, ex3, ex2, wipeE, List.map_cons, List.map_nil, List.cons_append, List.nil_append, List.append_nil, List.length_cons, List.length_nil, List.replicate_succ, List.replicate_zero, List.set_cons_zero, List.set_cons_succ, Oc_some, Nat.reduceAdd, Nat.reduceSub, Nat.reduceLeDiff, Nat.zero_le, Int.toNat_natCast, Bool.or_false, Bool.or_true, Bool.or_self, Bool.false_or, Bool.true_or, decide_true, decide_false, Nat.zero_add, Nat.sub_self, Bool.true_eq_false, Bool.false_eq_true, if_true, if_false, ite_true, ite_false, true_and, and_true, addP_ii, subP_ii, mulP_ii, isiP_tup, isiP_lst, isiP_str, isiP_bl, isiP_int, isiP_tl, kd_non, kd_bl, kd_int, kd_str, kd_tup, kd_lst, isTup, isLst, isStr, isBl, isInt, eqP_ii, neP_ii, lenP_t, lenP_l, lenP_s, seqP_t, seqP_l, truP_b, ixP_t, ixP_l, slP_t, slP_l, tupleP_l, tupleP_t, addP_tt, modP_ii, divP_ii, exb, addLP_ll, min2_ii, max2_ii, exTup, exCons, exInt, iaddP_ii, leP_ii, gtP_ii, geP_ii, ltP_ii, intP_i, decide_eq_true_eq, Bool.not_eq_true', decide_eq_false_iff_not, Bool.not_true, Bool.not_false, List.cons_ne_nil, Nat.succ_ne_zero, reduceCtorEq]
      refine ⟨⟨small_of e2 e3 (by omega), by omega⟩, .of (hK _ _ ⟨rfl, li2, f * l, _, rfl, ?_, Int.mul_nonneg e2 b1, ?_⟩)⟩
      · rw [← e1]
        show f * l * prodI (ns.drop (i + 1)) = f * (l * prodI (ns.drop (i + 1)))
        rw [Int.mul_assoc]
      · rw [Int.pow_succ]
        exact Int.mul_le_mul e3 b2 b1 (Int.pow_nonneg (by decide))
  · rintro e h' ⟨rfl, _, f, a, rfl, e1, _, _⟩
    rw [List.length_map, List.drop_length] at e1
    have : f = prodI ns := by rw [← e1]; exact (Int.mul_one f).symm
    rw [this]
    exact q a
theorem OkF.len : ∀ {ss : List Int} {p : List (List (List Int))}, OkF ss p → ∀ l ∈ p, 1 ≤ l.length ∧ l.length ≤ 3
  | _, [], _, _, m => by cases m
  | ss, l :: p, ⟨a, _, c⟩, l', m => by
    rcases List.mem_cons.mp m with e | m
    · rw [e]; exact a
    · exact OkF.len c l' m
/-- [len(lamp) + 1 for lamp in puzzle] -/
theorem sets_comp {i j : Nat} {e : En} {p : List (List (List Int))} {h : DH} {gd : DH → Prop} {Q : List D → DH → Prop} (hg : gd h) (hl : p.length ≤ 30) (hs : ∀ d, slot (e.set i (some d)) i = some d) (q : Q ((setsP p).map D.int) h) :
    compL (gNm i) tYs (mOp2 addP (mBlt lenP (aCons (mVar i) aNil)) (mK (.int 1))) gd e (p.map tL) h [] Q := by
  refine comp_map (p.map tL) (fun x => match x with | .tup l => .int (l.length + 1) | _ => .non) hg (by rw [List.length_map]; omega) (fun x K K2 mx kx => ?_) ?_
  · obtain ⟨l, ml, rfl⟩ := List.mem_map.mp mx
    simp only [↓e_mVar, ↓e_mK, ↓e_mOp1, ↓e_mOp2, ↓e_aNil, ↓e_aCons, ↓e_mTup, ↓e_mLst, ↓e_mLstM, ↓e_mIf, ↓e_tTru, ↓e_tNt, ↓e_tAnd2, ↓e_tOr2, ↓e_tOp2, ↓e_mChain, ↓e_tChain', ↓e_mAnd, ↓e_mOr, ↓e_mFld, ↓e_sFldD, ↓e_mMeth, ↓e_mMake, ↓e_mRev, revP_l, ↓e_mAndT, ↓e_mOrT, truP_lc, ↓e_mNot, ↓e_mCall, ↓e_mBlt, ↓e_oNo, ↓e_oSo, ↓e_mSl, ↓e_sPass, ↓e_sBrk, ↓e_sCnt, ↓e_sNever, ↓e_sSeq, ↓e_sAsg, ↓e_gNm, ↓e_gTu, ↓e_gsNil, ↓e_gsCons, ↓e_gSb, ↓e_sPar, ↓e_sExp, ↓e_sRt, ↓e_sRtN, ↓e_sIf, ↓e_sAug, ↓e_sFor, ↓e_sWh, ↓e_mComp, ↓e_mCompM, ↓e_tYs, ↓e_mkFn, ↓e_mApp, ↓e_itSeq, ↓e_itScr, ↓e_itEnum, ↓e_itZip, ↓e_itZip3, ↓e_itR1, ↓e_itR2, ↓e_itR3, ↓e_mDic0, ↓e_mDic1, ↓e_sPar3, ↓e_mAddM, ↓e_aStar, ↓e_mMulM, ↓e_sRaise0, ↓e_sRaise1, ↓e_mErr, ↓e_mCallV, starP_t, starP_l, slot_0, slot_1, slot_2, slot_3, slot_4, slot_5, slot_6, slot_7, slot_8, slot_9, slot_10, slot_11, slot_12, slot_13, slot_14, slot_15, slot_16, slot_17, slot_18, slot_19, slot_20, slot_21, slot_22, slot_23, slot_24, slot_25, slot_26, slot_27, slot_28, slot_29, slot_30, negP_i, ex3, ex2, wipeE, List.map_cons, List.map_nil, List.cons_append, List.nil_append, List.append_nil, List.length_cons, List.length_nil, List.replicate_succ, List.replicate_zero, List.set_cons_zero, List.set_cons_succ, Oc_some, Nat.reduceAdd, Nat.reduceSub, Nat.reduceLeDiff, Nat.zero_le, Int.toNat_natCast, Bool.or_false, Bool.or_true, Bool.or_self, Bool.false_or, Bool.true_or, decide_true, decide_false, Nat.zero_add, Nat.sub_self, Bool.true_eq_false, Bool.false_eq_true, if_true, if_false, ite_true, ite_false, true_and, and_true, addP_ii, subP_ii, mulP_ii, isiP_tup, isiP_lst, isiP_str, isiP_bl, isiP_int, isiP_tl, kd_non, kd_bl, kd_int, kd_str, kd_tup, kd_lst, isTup, isLst, isStr, isBl, isInt, eqP_ii, neP_ii, lenP_t, lenP_l, lenP_s, seqP_t, seqP_l, truP_b, ixP_t, ixP_l, slP_t, slP_l, tupleP_l, tupleP_t, addP_tt, modP_ii, divP_ii, exb, addLP_ll, min2_ii, max2_ii, exTup, exCons, exInt, iaddP_ii, leP_ii, gtP_ii, geP_ii, ltP_ii, intP_i, decide_eq_true_eq, Bool.not_eq_true', decide_eq_false_iff_not, Bool.not_true, Bool.not_false, List.cons_ne_nil, Nat.succ_ne_zero, reduceCtorEq, hs, tL]
    exact kx
  · rw [List.map_map]
    unfold setsP at q
    rw [List.map_map] at q
    have : (fun x => match x with | D.tup l => D.int (l.length + 1) | _ => .non) ∘ tL = D.int ∘ fun l : List (List Int) => (l.length : Int) + 1 := by
      funext l
      simp [tL]
    rw [this]
    exact q
theorem cut_take {xs : List D} {n : Nat} : cutD xs none (some (n : Int)) = xs.take n := by
  unfold cutD
  rw [HT.sIx_none, HT.sIx_nat]
  simp only [List.drop_zero, Nat.sub_zero]
  rw [Nat.min_def]
  split
  · rfl
  · rw [List.take_of_length_le (Nat.le_refl _), List.take_of_length_le (by omega)]
end L2.Lmp

set_option maxHeartbeats 4000000
namespace L2.Lmp
open PySem PySem.Spec PyProof.Rows
/-! ### what is drawn -/
section
variable {α : Type} {a b d e : α} {l : List α}
theorem at_0 : atI (a :: l) 0 = some a := atI_nat (j := 0) rfl
theorem at_1 : atI (a :: b :: l) 1 = some b := atI_nat (j := 1) rfl
theorem at_2 : atI (a :: b :: d :: l) 2 = some d := atI_nat (j := 2) rfl
theorem at_3 : atI (a :: b :: d :: e :: l) 3 = some e := atI_nat (j := 3) rfl
end
section
variable {h : DH} {a : Addr} {xs : List D} {i : Int} {Q : D → Prop} {Q1 : DH → Prop} {x0 x1 x2 x3 d : D} {ns : List Int}
theorem ixP_u : ixP (upO h a (.lst xs)) (.ref a) (.int i) Q = Oc (atI xs i) Q := by
  simp only [ixP, rs, upO_same]
theorem ixP_scr : ixP h (.scr ns) (.int i) Q = Oc (atI ns i) fun n => Q (.int n) := id rfl
theorem setL_1 : setLP (upO h a (.lst [x0, x1, x2, x3])) (.ref a) (.int 1) d Q1 = Q1 (upO h a (.lst [x0, d, x2, x3])) := by
  simp only [setLP, upO_same, upO_upO]
  exact id rfl
theorem setL_2 : setLP (upO h a (.lst [x0, x1, x2, x3])) (.ref a) (.int 2) d Q1 = Q1 (upO h a (.lst [x0, x1, d, x3])) := by
  simp only [setLP, upO_same, upO_upO]
  exact id rfl
theorem setL_3 : setLP (upO h a (.lst [x0, x1, x2, x3])) (.ref a) (.int 3) d Q1 = Q1 (upO h a (.lst [x0, x1, x2, d])) := by
  simp only [setLP, upO_same, upO_upO]
  exact id rfl
theorem pow_18 : powP h (.int 10) (.int 18) Q = Q (.int 1000000000000000000) := by
  apply propext
  constructor
  · exact fun q => q.2
  · exact fun q => ⟨⟨by decide, by decide, by decide⟩, q⟩
end
def RowO (ns : List Int) (o : O) : Prop := ∃ i s v : Int, o = .lst [.scr ns, .int i, .int s, .int v] ∧ 0 ≤ i ∧ (0 ≤ s ∧ s < 2147483647) ∧ 0 ≤ v
theorem c_taken {ns : List Int} {o : O} {a : Addr} {m : Int} {h : DH} {E : EK} {Q : DK} (ro : RowO ns o) (m1 : 0 < m) (m2 : m.natAbs < 2 ^ 4000) (q : ∀ r o', 0 ≤ r → r < m → RowO ns o' → Q (.int r) (upO h a o')) :
    F_law_taken [.ref a, .int m] (upO h a o) E Q := by
  obtain ⟨i, s, v, rfl, i0, ⟨s0, s1⟩, v0⟩ := ro
  have em : ∀ x : Int, 0 ≤ x % m ∧ x % m < m := fun x => ⟨Int.emod_nonneg _ (by omega), Int.emod_lt_of_pos _ m1⟩
  have e31 : ∀ x : Int, 0 ≤ x % 2147483647 ∧ x % 2147483647 < 2147483647 := fun x => ⟨Int.emod_nonneg _ (by decide), Int.emod_lt_of_pos _ (by decide)⟩
  have s2 : s.natAbs < 2 ^ 4000 := small_of (i := 31) s0 (by omega) (by decide)
  have ed : ∀ x : Int, 0 ≤ x → 0 ≤ x / m := fun x z => Int.ediv_nonneg z (by omega)
  simp only [↓e_law_taken, ↓e_mVar, ↓e_mK, ↓e_mOp1, ↓e_mOp2, ↓e_aNil, ↓e_aCons, ↓e_mTup, ↓e_mLst, ↓e_mLstM, ↓e_mIf, ↓e_tTru, ↓e_tNt, ↓e_tAnd2, ↓e_tOr2, ↓e_tOp2, ↓e_mChain, ↓e_tChain', ↓e_mAnd, ↓e_mOr, ↓e_mFld, ↓e_sFldD, ↓e_mMeth, ↓e_mMake, ↓e_mRev, revP_l, ↓e_mAndT, ↓e_mOrT, truP_lc, ↓e_mNot, ↓e_mCall, ↓e_mBlt, ↓e_oNo, ↓e_oSo, ↓e_mSl, ↓e_sPass, ↓e_sBrk, ↓e_sCnt, ↓e_sNever, ↓e_sSeq, ↓e_sAsg, ↓e_gNm, ↓e_gTu, ↓e_gsNil, ↓e_gsCons, ↓e_gSb, ↓e_sPar, ↓e_sExp, ↓e_sRt, ↓e_sRtN, ↓e_sIf, ↓e_sAug, ↓e_sFor, ↓e_sWh, ↓e_mComp, ↓e_mCompM, ↓e_tYs, ↓e_mkFn, ↓e_mApp, ↓e_itSeq, ↓e_itScr, ↓e_itEnum, ↓e_itZip, ↓e_itZip3, ↓e_itR1, ↓e_itR2, ↓e_itR3, ↓e_mDic0, ↓e_mDic1, ↓e_sPar3, ↓e_mAddM, ↓e_aStar, ↓e_mMulM, ↓e_sRaise0, ↓e_sRaise1, ↓e_mErr, ↓e_mCallV, starP_t, starP_l, slot_0, slot_1, slot_2, slot_3, slot_4, slot_5, slot_6, slot_7, slot_8, slot_9, slot_10, slot_11, slot_12, slot_13, slot_14, slot_15, slot_16, slot_17, slot_18, slot_19, slot_20, slot_21, slot_22, slot_23, slot_24, slot_25, slot_26, slot_27, slot_28, slot_29, slot_30, negP_i, ex3, ex2, wipeE, List.map_cons, List.map_nil, List.cons_append, List.nil_append, List.append_nil, List.length_cons, List.length_nil, List.replicate_succ, List.replicate_zero, List.set_cons_zero, List.set_cons_succ, Oc_some, Nat.reduceAdd, Nat.reduceSub, Nat.reduceLeDiff, Nat.zero_le, Int.toNat_natCast, Bool.or_false, Bool.or_true, Bool.or_self, Bool.false_or, Bool.true_or, decide_true, decide_false, Nat.zero_add, Nat.sub_self, Bool.true_eq_false, Bool.false_eq_true, if_true, if_false, ite_true, ite_false, true_and, and_true, addP_ii, subP_ii, mulP_ii, isiP_tup, isiP_lst, isiP_str, isiP_bl, isiP_int, isiP_tl, kd_non, kd_bl, kd_int, kd_str, kd_tup, kd_lst, isTup, isLst, isStr, isBl, isInt, eqP_ii, neP_ii, lenP_t, lenP_l, lenP_s, seqP_t, seqP_l, truP_b, ixP_t, ixP_l, slP_t, slP_l, tupleP_l, tupleP_t, addP_tt, modP_ii, divP_ii, exb, addLP_ll, min2_ii, max2_ii, exTup, exCons, exInt, iaddP_ii, leP_ii, gtP_ii, geP_ii, ltP_ii, intP_i, decide_eq_true_eq, Bool.not_eq_true', decide_eq_false_iff_not, Bool.not_true, Bool.not_false, List.cons_ne_nil, Nat.succ_ne_zero, reduceCtorEq, ixP_u, at_0, at_1, at_2, at_3, setL_1, setL_2, setL_3, ixP_scr, pow_18]
  by_cases hv : 0 < v
  · rw [if_pos hv]
    exact ⟨m1, ⟨m1, m2⟩, .of (q _ _ (em v).1 (em v).2 ⟨i, s, v / m, rfl, i0, ⟨s0, s1⟩, ed v v0⟩)⟩
  rw [if_neg hv]
  by_cases hi : (ns.length : Int) < i + 1
  · rw [if_pos hi]
    refine ⟨⟨s2, by decide⟩, by decide, ⟨by decide, by decide⟩, m1, .of (q _ _ (em _).1 (em _).2 ⟨i + 1, _, v, rfl, by omega, e31 _, v0⟩)⟩
  rw [if_neg hi]
  obtain ⟨j, rfl⟩ : ∃ j : Nat, i = j := ⟨i.toNat, by omega⟩
  have hj : j < ns.length := by omega
  have ea : atI ns ((j : Int) + 1 - 1) = some ns[j] := by
    rw [show ((j : Int) + 1 - 1) = (j : Int) by omega]
    exact atI_nat (List.getElem?_eq_getElem hj)
  rw [ea]
  simp only [↓e_mVar, ↓e_mK, ↓e_mOp1, ↓e_mOp2, ↓e_aNil, ↓e_aCons, ↓e_mTup, ↓e_mLst, ↓e_mLstM, ↓e_mIf, ↓e_tTru, ↓e_tNt, ↓e_tAnd2, ↓e_tOr2, ↓e_tOp2, ↓e_mChain, ↓e_tChain', ↓e_mAnd, ↓e_mOr, ↓e_mFld, ↓e_sFldD, ↓e_mMeth, ↓e_mMake, ↓e_mRev, revP_l, ↓e_mAndT, ↓e_mOrT, truP_lc, ↓e_mNot, ↓e_mCall, ↓e_mBlt, ↓e_oNo, ↓e_oSo, ↓e_mSl, ↓e_sPass, ↓e_sBrk, ↓e_sCnt, ↓e_sNever, ↓e_sSeq, ↓e_sAsg, ↓e_gNm, ↓e_gTu, ↓e_gsNil, ↓e_gsCons, ↓e_gSb, ↓e_sPar, ↓e_sExp, ↓e_sRt, ↓e_sRtN, ↓e_sIf, ↓e_sAug, ↓e_sFor, ↓e_sWh, ↓e_mComp, ↓e_mCompM, ↓e_tYs, ↓e_mkFn, ↓e_mApp, ↓e_itSeq, ↓e_itScr, ↓e_itEnum, ↓e_itZip, ↓e_itZip3, ↓e_itR1, ↓e_itR2, ↓e_itR3, ↓e_mDic0, ↓e_mDic1, ↓e_sPar3, ↓e_mAddM, ↓e_aStar, ↓e_mMulM, ↓e_sRaise0, ↓e_sRaise1, ↓e_mErr, ↓e_mCallV, starP_t, starP_l, slot_0, slot_1, slot_2, slot_3, slot_4, slot_5, slot_6, slot_7, slot_8, slot_9, slot_10, slot_11, slot_12, slot_13, slot_14, slot_15, slot_16, slot_17, slot_18, slot_19, slot_20, slot_21, slot_22, slot_23, slot_24, slot_25, slot_26, slot_27, slot_28, slot_29, slot_30, negP_i, ex3, ex2, wipeE, List.map_cons, List.map_nil, List.cons_append, List.nil_append, List.append_nil, List.length_cons, List.length_nil, List.replicate_succ, List.replicate_zero, List.set_cons_zero, List.set_cons_succ, Oc_some, Nat.reduceAdd, Nat.reduceSub, Nat.reduceLeDiff, Nat.zero_le, Int.toNat_natCast, Bool.or_false, Bool.or_true, Bool.or_self, Bool.false_or, Bool.true_or, decide_true, decide_false, Nat.zero_add, Nat.sub_self, Bool.true_eq_false, Bool.false_eq_true, if_true, if_false, ite_true, ite_false, true_and, and_true, addP_ii, subP_ii, mulP_ii, isiP_tup, isiP_lst, isiP_str, isiP_bl, isiP_int, isiP_tl, kd_non, kd_bl, kd_int, kd_str, kd_tup, kd_lst, isTup, isLst, isStr, isBl, isInt, eqP_ii, neP_ii, lenP_t, lenP_l, lenP_s, seqP_t, seqP_l, truP_b, ixP_t, ixP_l, slP_t, slP_l, tupleP_l, tupleP_t, addP_tt, modP_ii, divP_ii, exb, addLP_ll, min2_ii, max2_ii, exTup, exCons, exInt, iaddP_ii, leP_ii, gtP_ii, geP_ii, ltP_ii, intP_i, decide_eq_true_eq, Bool.not_eq_true', decide_eq_false_iff_not, Bool.not_true, Bool.not_false, List.cons_ne_nil, Nat.succ_ne_zero, reduceCtorEq, ixP_u, at_0, at_1, at_2, at_3, setL_1, setL_2, setL_3, ixP_scr, pow_18]
  refine ⟨⟨s2, by decide⟩, by decide, ?_⟩
  by_cases hc : (1000000000000000000 : Int) ≤ ns[j]
  · rw [if_pos hc]
    exact ⟨⟨m1, m2⟩, m1, .of (q _ _ (em _).1 (em _).2 ⟨_, _, _, rfl, by omega, e31 _, ed _ (by omega)⟩)⟩
  · rw [if_neg hc]
    exact ⟨m1, .of (q _ _ (em _).1 (em _).2 ⟨_, _, _, rfl, by omega, e31 _, v0⟩)⟩
end L2.Lmp

set_option maxHeartbeats 4000000
namespace L2.Lmp
open PySem PySem.Spec PyProof.Rows
/-! ### the same values are alike -/
/-- plain data of a depth below n -/
def pl : Nat → D → Prop
  | _, .non => True
  | _, .bl _ => True
  | _, .int _ => True
  | _, .str x => PyData.strOk x = true
  | n + 1, .tup xs => xs.length ≤ 1000000 ∧ ∀ x ∈ xs, pl n x
  | n + 1, .lst xs => xs.length ≤ 1000000 ∧ ∀ x ∈ xs, pl n x
  | _, _ => False
theorem pl_sh : ∀ (n k : Nat) (d : D), n ≤ k → pl n d → shN k d
  | n, k, .non, _, _ => by cases k <;> trivial
  | n, k, .bl _, _, _ => by cases k <;> trivial
  | n, k, .int _, _, _ => by cases k <;> trivial
  | n, k, .str x, _, q => by cases n <;> cases k <;> exact q
  | n + 1, 0, .tup xs, l, q => by omega
  | n + 1, 0, .lst xs, l, q => by omega
  | n + 1, k + 1, .tup xs, l, q => fun x hx => pl_sh n k x (by omega) (q.2 x hx)
  | n + 1, k + 1, .lst xs, l, q => fun x hx => pl_sh n k x (by omega) (q.2 x hx)
  | 0, _, .tup _, _, q => q.elim
  | 0, _, .lst _, _, q => q.elim
  | 0, _, .ref _, _, q => q.elim
  | 0, _, .fn _, _, q => q.elim
  | 0, _, .scr _, _, q => q.elim
  | 0, _, .ty _, _, q => q.elim
  | _ + 1, _, .ref _, _, q => q.elim
  | _ + 1, _, .fn _, _, q => q.elim
  | _ + 1, _, .scr _, _, q => q.elim
  | _ + 1, _, .ty _, _, q => q.elim
mutual
theorem eqB_refl : ∀ (n : Nat) (d : D), pl n d → eqB d d = true
  | _, .non, _ => rfl
  | _, .bl b, _ => by simp [eqB]
  | _, .int i, _ => by simp [eqB]
  | _, .str x, _ => by simp [eqB]
  | n + 1, .tup xs, q => eqBs_refl n xs q.2
  | n + 1, .lst xs, q => eqBs_refl n xs q.2
  | 0, .tup _, q => q.elim
  | 0, .lst _, q => q.elim
  | 0, .ref _, q => q.elim
  | 0, .fn _, q => q.elim
  | 0, .scr _, q => q.elim
  | 0, .ty _, q => q.elim
  | _ + 1, .ref _, q => q.elim
  | _ + 1, .fn _, q => q.elim
  | _ + 1, .scr _, q => q.elim
  | _ + 1, .ty _, q => q.elim
theorem eqBs_refl : ∀ (n : Nat) (xs : List D), (∀ x ∈ xs, pl n x) → eqBs xs xs = true
  | _, [], _ => rfl
  | n, x :: xs, q => by
    unfold eqBs
    rw [eqB_refl n x (q x List.mem_cons_self), eqBs_refl n xs fun y z => q y (List.mem_cons_of_mem _ z)]
    rfl
end
theorem rs_pl {h : DH} : ∀ {n : Nat} {d : D}, pl n d → rs h d = d
  | n, .ref _, q => by cases n <;> exact q.elim
  | _, .non, _ => rfl
  | _, .bl _, _ => rfl
  | _, .int _, _ => rfl
  | _, .str _, _ => rfl
  | _, .tup _, _ => rfl
  | _, .lst _, _ => rfl
  | _, .fn _, _ => rfl
  | _, .scr _, _ => rfl
  | _, .ty _, _ => rfl
theorem eqP_pl {h : DH} {n : Nat} {d : D} {Q : D → Prop} (l : n ≤ 60) (q : pl n d) : eqP h d d Q = Q (.bl true) := by
  have a := pl_sh n 60 d l q
  have e := eqB_refl n d q
  simp only [eqP, rs_pl q, e, a, and_self, true_and]
end L2.Lmp

set_option maxHeartbeats 4000000
namespace L2.Lmp
open PySem PySem.Spec PyProof.Rows
theorem upO_comm {h : DH} {a b : Addr} {x y : O} (e : a ≠ b) : upO (upO h a x) b y = upO (upO h b y) a x := by
  funext d
  by_cases z : d = a
  · subst z
    rw [upO_ne e, upO_same, upO_same]
  · by_cases w : d = b
    · subst w
      rw [upO_same, upO_ne z, upO_same]
    · rw [upO_ne w, upO_ne z, upO_ne z, upO_ne w]
theorem app_ref {h : DH} {q : Addr} {ds : List D} {y : D} {Q : DK} (e : h q = some (.lst ds)) : appK (.ref q) y h Q = (ds.length < 1000000 ∧ Q .non (upO h q (.lst (ds ++ [y])))) := by
  simp only [appK, e]
theorem rs_is {h : DH} {q : Addr} {ds : List D} (e : h q = some (.lst ds)) : (∃ xs, rs h (.ref q) = .lst xs) = True := by
  rw [rs_ref e]
  exact eq_true ⟨_, rfl⟩
theorem neP_nil {h : DH} {w : Addr} {xs : List D} {Q : D → Prop} (e : h w = some (.lst xs)) (hx : ∀ x ∈ xs, shN 59 x) : neP h (.ref w) (.lst []) Q = Q (.bl (!xs.isEmpty)) := by
  have e2 : eqB (.lst xs) (.lst []) = xs.isEmpty := by cases xs <;> rfl
  have e3 : shN 60 (.lst xs) = True := eq_true hx
  have e4 : shN 60 (.lst []) = True := eq_true fun _ z => (List.not_mem_nil z).elim
  show ((shN 60 (rs h (.ref w)) ∧ shN 60 (.lst [])) ∧ Q (.bl (!eqB (rs h (.ref w)) (.lst [])))) = _
  rw [rs_ref e, e2, e3, e4]
  simp only [and_self, true_and]
theorem ixP_r {h : DH} {a : Addr} {xs : List D} {i : Int} {Q : D → Prop} (e : h a = some (.lst xs)) : ixP h (.ref a) (.int i) Q = Oc (atI xs i) Q := by
  simp only [ixP, rs, e]
theorem at_lastm {f : List Int → D} {ws : List (List Int)} (ne : ws ≠ []) : ∃ v, v ∈ ws ∧ atI (ws.map f) (-1) = some (f v) := by
  obtain ⟨i, x, rfl⟩ : ∃ i x, ws = i ++ [x] := ⟨ws.dropLast, ws.getLast ne, (List.dropLast_concat_getLast ne).symm⟩
  exact ⟨x, by simp, by rw [List.map_append]; exact atI_last _ _⟩
theorem tupleP_r {h : DH} {a : Addr} {xs : List D} {Q : D → Prop} (e : h a = some (.lst xs)) : tupleP h [.ref a] Q = Q (.tup xs) := by
  simp only [tupleP, rs_ref e]
theorem sh_tI {w : List Int} {n : Nat} : shN (n + 1) (tI w) := fun x hx => by
  obtain ⟨i, _, rfl⟩ := List.mem_map.mp hx
  cases n <;> trivial
theorem mul_zeros {h : DH} {n : Nat} {Q : D → Prop} (l : n ≤ 1000) (q : Q (tI (List.replicate n 0))) : mulP h (.tup [.int 0]) (.int n) Q := by
  refine ⟨⟨by simp, by omega, by omega, by decide⟩, ?_⟩
  have : (List.replicate (n : Int).toNat [D.int 0]).flatten = (List.replicate n (0 : Int)).map D.int := by
    rw [Int.toNat_natCast, List.map_replicate, List.flatten_replicate_singleton]
  rw [this]
  exact q
theorem c_law_pick {ns : List Int} {o : O} {a : Addr} {xs : List D} {b : Bool} {h : DH} {E : EK} {Q : DK} (ro : RowO ns o) (m1 : 0 < xs.length) (m2 : xs.length < 1000000) (q : ∀ x o', x ∈ xs → RowO ns o' → Q x (upO h a o')) :
    F_law_pick [.ref a, if b then .tup xs else .lst xs] (upO h a o) E Q := by
  have hm : (xs.length : Int).natAbs < 2 ^ 4000 := small_of (i := 20) (by omega) (by omega) (by decide)
  cases b with
  | true =>
    simp only [↓e_law_pick, ↓e_mVar, ↓e_mK, ↓e_mOp1, ↓e_mOp2, ↓e_aNil, ↓e_aCons, ↓e_mTup, ↓e_mLst, ↓e_mLstM, ↓e_mIf, ↓e_tTru, ↓e_tNt, ↓e_tAnd2, ↓e_tOr2, ↓e_tOp2, ↓e_mChain, ↓e_tChain', ↓e_mAnd, ↓e_mOr, ↓e_mFld, ↓e_sFldD, ↓e_mMeth, ↓e_mMake, ↓e_mRev, revP_l, ↓e_mAndT, ↓e_mOrT, truP_lc, ↓e_mNot, ↓e_mCall, ↓e_mBlt, ↓e_oNo, ↓e_oSo, ↓e_mSl, ↓e_sPass, ↓e_sBrk, ↓e_sCnt, ↓e_sNever, ↓e_sSeq, ↓e_sAsg, ↓e_gNm, ↓e_gTu, ↓e_gsNil, ↓e_gsCons, ↓e_gSb, ↓e_sPar, ↓e_sExp, ↓e_sRt, ↓e_sRtN, ↓e_sIf, ↓e_sAug, ↓e_sFor, ↓e_sWh, ↓e_mComp, ↓e_mCompM, ↓e_tYs, ↓e_mkFn, ↓e_mApp, ↓e_itSeq, ↓e_itScr, ↓e_itEnum, ↓e_itZip, ↓e_itZip3, ↓e_itR1, ↓e_itR2, ↓e_itR3, ↓e_mDic0, ↓e_mDic1, ↓e_sPar3, ↓e_mAddM, ↓e_aStar, ↓e_mMulM, ↓e_sRaise0, ↓e_sRaise1, ↓e_mErr, ↓e_mCallV, starP_t, starP_l, slot_0, slot_1, slot_2, slot_3, slot_4, slot_5, slot_6, slot_7, slot_8, slot_9, slot_10, slot_11, slot_12, slot_13, slot_14, slot_15, slot_16, slot_17, slot_18, slot_19, slot_20, slot_21, slot_22, slot_23, slot_24, slot_25, slot_26, slot_27, slot_28, slot_29, slot_30, negP_i, ex3, ex2, wipeE, List.map_cons, List.map_nil, List.cons_append, List.nil_append, List.append_nil, List.length_cons, List.length_nil, List.replicate_succ, List.replicate_zero, List.set_cons_zero, List.set_cons_succ, Oc_some, Nat.reduceAdd, Nat.reduceSub, Nat.reduceLeDiff, Nat.zero_le, Int.toNat_natCast, Bool.or_false, Bool.or_true, Bool.or_self, Bool.false_or, Bool.true_or, decide_true, decide_false, Nat.zero_add, Nat.sub_self, Bool.true_eq_false, Bool.false_eq_true, if_true, if_false, ite_true, ite_false, true_and, and_true, addP_ii, subP_ii, mulP_ii, isiP_tup, isiP_lst, isiP_str, isiP_bl, isiP_int, isiP_tl, kd_non, kd_bl, kd_int, kd_str, kd_tup, kd_lst, isTup, isLst, isStr, isBl, isInt, eqP_ii, neP_ii, lenP_t, lenP_l, lenP_s, seqP_t, seqP_l, truP_b, ixP_t, ixP_l, slP_t, slP_l, tupleP_l, tupleP_t, addP_tt, modP_ii, divP_ii, exb, addLP_ll, min2_ii, max2_ii, exTup, exCons, exInt, iaddP_ii, leP_ii, gtP_ii, geP_ii, ltP_ii, intP_i, decide_eq_true_eq, Bool.not_eq_true', decide_eq_false_iff_not, Bool.not_true, Bool.not_false, List.cons_ne_nil, Nat.succ_ne_zero, reduceCtorEq]
    refine c_taken ro (by omega) hm fun r o' r0 r1 ro' => ?_
    obtain ⟨j, rfl⟩ : ∃ j : Nat, r = j := ⟨r.toNat, by omega⟩
    have hj : j < xs.length := by omega
    simp only [↓e_mVar, ↓e_mK, ↓e_mOp1, ↓e_mOp2, ↓e_aNil, ↓e_aCons, ↓e_mTup, ↓e_mLst, ↓e_mLstM, ↓e_mIf, ↓e_tTru, ↓e_tNt, ↓e_tAnd2, ↓e_tOr2, ↓e_tOp2, ↓e_mChain, ↓e_tChain', ↓e_mAnd, ↓e_mOr, ↓e_mFld, ↓e_sFldD, ↓e_mMeth, ↓e_mMake, ↓e_mRev, revP_l, ↓e_mAndT, ↓e_mOrT, truP_lc, ↓e_mNot, ↓e_mCall, ↓e_mBlt, ↓e_oNo, ↓e_oSo, ↓e_mSl, ↓e_sPass, ↓e_sBrk, ↓e_sCnt, ↓e_sNever, ↓e_sSeq, ↓e_sAsg, ↓e_gNm, ↓e_gTu, ↓e_gsNil, ↓e_gsCons, ↓e_gSb, ↓e_sPar, ↓e_sExp, ↓e_sRt, ↓e_sRtN, ↓e_sIf, ↓e_sAug, ↓e_sFor, ↓e_sWh, ↓e_mComp, ↓e_mCompM, ↓e_tYs, ↓e_mkFn, ↓e_mApp, ↓e_itSeq, ↓e_itScr, ↓e_itEnum, ↓e_itZip, ↓e_itZip3, ↓e_itR1, ↓e_itR2, ↓e_itR3, ↓e_mDic0, ↓e_mDic1, ↓e_sPar3, ↓e_mAddM, ↓e_aStar, ↓e_mMulM, ↓e_sRaise0, ↓e_sRaise1, ↓e_mErr, ↓e_mCallV, starP_t, starP_l, slot_0, slot_1, slot_2, slot_3, slot_4, slot_5, slot_6, slot_7, slot_8, slot_9, slot_10, slot_11, slot_12, slot_13, slot_14, slot_15, slot_16, slot_17, slot_18, slot_19, slot_20, slot_21, slot_22, slot_23, slot_24, slot_25, slot_26, slot_27, slot_28, slot_29, slot_30, negP_i, ex3, ex2, wipeE, List.map_cons, List.map_nil, List.cons_append, List.nil_append, List.append_nil, List.length_cons, List.length_nil, List.replicate_succ, List.replicate_zero, List.set_cons_zero, List.set_cons_succ, Oc_some, Nat.reduceAdd, Nat.reduceSub, Nat.reduceLeDiff, Nat.zero_le, Int.toNat_natCast, Bool.or_false, Bool.or_true, Bool.or_self, Bool.false_or, Bool.true_or, decide_true, decide_false, Nat.zero_add, Nat.sub_self, Bool.true_eq_false, Bool.false_eq_true, if_true, if_false, ite_true, ite_false, true_and, and_true, addP_ii, subP_ii, mulP_ii, isiP_tup, isiP_lst, isiP_str, isiP_bl, isiP_int, isiP_tl, kd_non, kd_bl, kd_int, kd_str, kd_tup, kd_lst, isTup, isLst, isStr, isBl, isInt, eqP_ii, neP_ii, lenP_t, lenP_l, lenP_s, seqP_t, seqP_l, truP_b, ixP_t, ixP_l, slP_t, slP_l, tupleP_l, tupleP_t, addP_tt, modP_ii, divP_ii, exb, addLP_ll, min2_ii, max2_ii, exTup, exCons, exInt, iaddP_ii, leP_ii, gtP_ii, geP_ii, ltP_ii, intP_i, decide_eq_true_eq, Bool.not_eq_true', decide_eq_false_iff_not, Bool.not_true, Bool.not_false, List.cons_ne_nil, Nat.succ_ne_zero, reduceCtorEq, atI_nat (List.getElem?_eq_getElem hj)]
    exact .of (q _ _ (List.getElem_mem hj) ro')
  | false =>
    simp only [↓e_law_pick, ↓e_mVar, ↓e_mK, ↓e_mOp1, ↓e_mOp2, ↓e_aNil, ↓e_aCons, ↓e_mTup, ↓e_mLst, ↓e_mLstM, ↓e_mIf, ↓e_tTru, ↓e_tNt, ↓e_tAnd2, ↓e_tOr2, ↓e_tOp2, ↓e_mChain, ↓e_tChain', ↓e_mAnd, ↓e_mOr, ↓e_mFld, ↓e_sFldD, ↓e_mMeth, ↓e_mMake, ↓e_mRev, revP_l, ↓e_mAndT, ↓e_mOrT, truP_lc, ↓e_mNot, ↓e_mCall, ↓e_mBlt, ↓e_oNo, ↓e_oSo, ↓e_mSl, ↓e_sPass, ↓e_sBrk, ↓e_sCnt, ↓e_sNever, ↓e_sSeq, ↓e_sAsg, ↓e_gNm, ↓e_gTu, ↓e_gsNil, ↓e_gsCons, ↓e_gSb, ↓e_sPar, ↓e_sExp, ↓e_sRt, ↓e_sRtN, ↓e_sIf, ↓e_sAug, ↓e_sFor, ↓e_sWh, ↓e_mComp, ↓e_mCompM, ↓e_tYs, ↓e_mkFn, ↓e_mApp, ↓e_itSeq, ↓e_itScr, ↓e_itEnum, ↓e_itZip, ↓e_itZip3, ↓e_itR1, ↓e_itR2, ↓e_itR3, ↓e_mDic0, ↓e_mDic1, ↓e_sPar3, ↓e_mAddM, ↓e_aStar, ↓e_mMulM, ↓e_sRaise0, ↓e_sRaise1, ↓e_mErr, ↓e_mCallV, starP_t, starP_l, slot_0, slot_1, slot_2, slot_3, slot_4, slot_5, slot_6, slot_7, slot_8, slot_9, slot_10, slot_11, slot_12, slot_13, slot_14, slot_15, slot_16, slot_17, slot_18, slot_19, slot_20, slot_21, slot_22, slot_23, slot_24, slot_25, slot_26, slot_27, slot_28, slot_29, slot_30, negP_i, ex3, ex2, wipeE, List.map_cons, List.map_nil, List.cons_append, List.nil_append, List.append_nil, List.length_cons, List.length_nil, List.replicate_succ, List.replicate_zero, List.set_cons_zero, List.set_cons_succ, Oc_some, Nat.reduceAdd, Nat.reduceSub, Nat.reduceLeDiff, Nat.zero_le, Int.toNat_natCast, Bool.or_false, Bool.or_true, Bool.or_self, Bool.false_or, Bool.true_or, decide_true, decide_false, Nat.zero_add, Nat.sub_self, Bool.true_eq_false, Bool.false_eq_true, if_true, if_false, ite_true, ite_false, true_and, and_true, addP_ii, subP_ii, mulP_ii, isiP_tup, isiP_lst, isiP_str, isiP_bl, isiP_int, isiP_tl, kd_non, kd_bl, kd_int, kd_str, kd_tup, kd_lst, isTup, isLst, isStr, isBl, isInt, eqP_ii, neP_ii, lenP_t, lenP_l, lenP_s, seqP_t, seqP_l, truP_b, ixP_t, ixP_l, slP_t, slP_l, tupleP_l, tupleP_t, addP_tt, modP_ii, divP_ii, exb, addLP_ll, min2_ii, max2_ii, exTup, exCons, exInt, iaddP_ii, leP_ii, gtP_ii, geP_ii, ltP_ii, intP_i, decide_eq_true_eq, Bool.not_eq_true', decide_eq_false_iff_not, Bool.not_true, Bool.not_false, List.cons_ne_nil, Nat.succ_ne_zero, reduceCtorEq]
    refine c_taken ro (by omega) hm fun r o' r0 r1 ro' => ?_
    obtain ⟨j, rfl⟩ : ∃ j : Nat, r = j := ⟨r.toNat, by omega⟩
    have hj : j < xs.length := by omega
    simp only [↓e_mVar, ↓e_mK, ↓e_mOp1, ↓e_mOp2, ↓e_aNil, ↓e_aCons, ↓e_mTup, ↓e_mLst, ↓e_mLstM, ↓e_mIf, ↓e_tTru, ↓e_tNt, ↓e_tAnd2, ↓e_tOr2, ↓e_tOp2, ↓e_mChain, ↓e_tChain', ↓e_mAnd, ↓e_mOr, ↓e_mFld, ↓e_sFldD, ↓e_mMeth, ↓e_mMake, ↓e_mRev, revP_l, ↓e_mAndT, ↓e_mOrT, truP_lc, ↓e_mNot, ↓e_mCall, ↓e_mBlt, ↓e_oNo, ↓e_oSo, ↓e_mSl, ↓e_sPass, ↓e_sBrk, ↓e_sCnt, ↓e_sNever, ↓e_sSeq, ↓e_sAsg, ↓e_gNm, ↓e_gTu, ↓e_gsNil, ↓e_gsCons, ↓e_gSb, ↓e_sPar, ↓e_sExp, ↓e_sRt, ↓e_sRtN, ↓e_sIf, ↓e_sAug, ↓e_sFor, ↓e_sWh, ↓e_mComp, ↓e_mCompM, ↓e_tYs, ↓e_mkFn, ↓e_mApp, ↓e_itSeq, ↓e_itScr, ↓e_itEnum, ↓e_itZip, ↓e_itZip3, ↓e_itR1, ↓e_itR2, ↓e_itR3, ↓e_mDic0, ↓e_mDic1, ↓e_sPar3, ↓e_mAddM, ↓e_aStar, ↓e_mMulM, ↓e_sRaise0, ↓e_sRaise1, ↓e_mErr, ↓e_mCallV, starP_t, starP_l, slot_0, slot_1, slot_2, slot_3, slot_4, slot_5, slot_6, slot_7, slot_8, slot_9, slot_10, slot_11, slot_12, slot_13, slot_14, slot_15, slot_16, slot_17, slot_18, slot_19, slot_20, slot_21, slot_22, slot_23, slot_24, slot_25, slot_26, slot_27, slot_28, slot_29, slot_30, negP_i, ex3, ex2, wipeE, List.map_cons, List.map_nil, List.cons_append, List.nil_append, List.append_nil, List.length_cons, List.length_nil, List.replicate_succ, List.replicate_zero, List.set_cons_zero, List.set_cons_succ, Oc_some, Nat.reduceAdd, Nat.reduceSub, Nat.reduceLeDiff, Nat.zero_le, Int.toNat_natCast, Bool.or_false, Bool.or_true, Bool.or_self, Bool.false_or, Bool.true_or, decide_true, decide_false, Nat.zero_add, Nat.sub_self, Bool.true_eq_false, Bool.false_eq_true, if_true, if_false, ite_true, ite_false, true_and, and_true, addP_ii, subP_ii, mulP_ii, isiP_tup, isiP_lst, isiP_str, isiP_bl, isiP_int, isiP_tl, kd_non, kd_bl, kd_int, kd_str, kd_tup, kd_lst, isTup, isLst, isStr, isBl, isInt, eqP_ii, neP_ii, lenP_t, lenP_l, lenP_s, seqP_t, seqP_l, truP_b, ixP_t, ixP_l, slP_t, slP_l, tupleP_l, tupleP_t, addP_tt, modP_ii, divP_ii, exb, addLP_ll, min2_ii, max2_ii, exTup, exCons, exInt, iaddP_ii, leP_ii, gtP_ii, geP_ii, ltP_ii, intP_i, decide_eq_true_eq, Bool.not_eq_true', decide_eq_false_iff_not, Bool.not_true, Bool.not_false, List.cons_ne_nil, Nat.succ_ne_zero, reduceCtorEq, atI_nat (List.getElem?_eq_getElem hj)]
    exact .of (q _ _ (List.getElem_mem hj) ro')
/-! ### words and puzzles that grow -/
theorem wordsB_snoc : ∀ {ss : List Int} {xs : List D} {s : Int} {x : D}, ss.length = xs.length → wordsB (ss ++ [s]) (xs ++ [x]) = (wordsB ss xs && inB x 0 (s - 1))
  | [], [], s, x, _ => by simp [wordsB]
  | s :: ss, x :: xs, s', x', h => by
    have h : ss.length = xs.length := by simpa using h
    show (inB x 0 (s - 1) && wordsB (ss ++ [s']) (xs ++ [x'])) = ((inB x 0 (s - 1) && wordsB ss xs) && inB x' 0 (s' - 1))
    rw [wordsB_snoc h, Bool.and_assoc]
  | [], _ :: _, _, _, h => by simp at h
  | _ :: _, [], _, _, h => by simp at h
theorem wordB_tI {ss w : List Int} : wordB ss (tI w) = (decide (w.length = ss.length) && wordsB ss (w.map D.int)) := by
  show (decide ((w.map D.int).length = ss.length) && _) = _
  rw [List.length_map]
theorem inB_of {i s : Int} (a : 0 ≤ i) (b : i < s) : inB (.int i) 0 (s - 1) = true := by
  unfold inB
  simp
  omega
theorem wordsB_zero : ∀ {ss : List Int} {n : Nat}, (∀ s ∈ ss, 1 ≤ s) → wordsB ss ((List.replicate n (0 : Int)).map D.int) = true
  | [], _, _ => by simp [wordsB]
  | s :: ss, 0, _ => by simp [wordsB]
  | s :: ss, n + 1, h => by
    show (inB (.int 0) 0 (s - 1) && wordsB ss ((List.replicate n (0 : Int)).map D.int)) = true
    rw [inB_of (by decide) (by have := h s List.mem_cons_self; omega), wordsB_zero fun s m => h s (List.mem_cons_of_mem _ m)]
    rfl
theorem OkF_snoc : ∀ {p : List (List (List Int))} {ss : List Int} {l : List (List Int)}, OkF ss p → 1 ≤ l.length ∧ l.length ≤ 3 → (∀ w ∈ l, wordB (ss ++ setsP p) (tI w) = true) → OkF ss (p ++ [l])
  | [], ss, l, _, a, b => ⟨a, by simpa [setsP] using b, trivial⟩
  | x :: p, ss, l, ⟨c, d, e⟩, a, b => ⟨c, d, OkF_snoc e a (by simpa [setsP] using b)⟩
theorem Wk_le {e : En} {h h' : DH} {K : En → DH → Prop} (l : Le h' h) (k : K e h') : Wk e h K := ⟨e, h', .refl e, l, k⟩
theorem c_law_of {ns ss : List Int} {o : O} {a : Addr} {h : DH} {E : EK} {Q : DK} (ro : RowO ns o) (hs : ∀ s ∈ ss, 2 ≤ s ∧ s ≤ 4) (hl : ss.length ≤ 1000)
    (q : ∀ p o', OkF [] p → setsP p = ss → RowO ns o' → Q (tP p) (upO h a o')) : F_law_of [.ref a, tI ss] (upO h a o) E Q := by
  simp only [↓e_law_of, tI, ↓e_mVar, ↓e_mK, ↓e_mOp1, ↓e_mOp2, ↓e_aNil, ↓e_aCons, ↓e_mTup, ↓e_mLst, ↓e_mLstM, ↓e_mIf, ↓e_tTru, ↓e_tNt, ↓e_tAnd2, ↓e_tOr2, ↓e_tOp2, ↓e_mChain, ↓e_tChain', ↓e_mAnd, ↓e_mOr, ↓e_mFld, ↓e_sFldD, ↓e_mMeth, ↓e_mMake, ↓e_mRev, revP_l, ↓e_mAndT, ↓e_mOrT, truP_lc, ↓e_mNot, ↓e_mCall, ↓e_mBlt, ↓e_oNo, ↓e_oSo, ↓e_mSl, ↓e_sPass, ↓e_sBrk, ↓e_sCnt, ↓e_sNever, ↓e_sSeq, ↓e_sAsg, ↓e_gNm, ↓e_gTu, ↓e_gsNil, ↓e_gsCons, ↓e_gSb, ↓e_sPar, ↓e_sExp, ↓e_sRt, ↓e_sRtN, ↓e_sIf, ↓e_sAug, ↓e_sFor, ↓e_sWh, ↓e_mComp, ↓e_mCompM, ↓e_tYs, ↓e_mkFn, ↓e_mApp, ↓e_itSeq, ↓e_itScr, ↓e_itEnum, ↓e_itZip, ↓e_itZip3, ↓e_itR1, ↓e_itR2, ↓e_itR3, ↓e_mDic0, ↓e_mDic1, ↓e_sPar3, ↓e_mAddM, ↓e_aStar, ↓e_mMulM, ↓e_sRaise0, ↓e_sRaise1, ↓e_mErr, ↓e_mCallV, starP_t, starP_l, slot_0, slot_1, slot_2, slot_3, slot_4, slot_5, slot_6, slot_7, slot_8, slot_9, slot_10, slot_11, slot_12, slot_13, slot_14, slot_15, slot_16, slot_17, slot_18, slot_19, slot_20, slot_21, slot_22, slot_23, slot_24, slot_25, slot_26, slot_27, slot_28, slot_29, slot_30, negP_i, ex3, ex2, wipeE, List.map_cons, List.map_nil, List.cons_append, List.nil_append, List.append_nil, List.length_cons, List.length_nil, List.replicate_succ, List.replicate_zero, List.set_cons_zero, List.set_cons_succ, Oc_some, Nat.reduceAdd, Nat.reduceSub, Nat.reduceLeDiff, Nat.zero_le, Int.toNat_natCast, Bool.or_false, Bool.or_true, Bool.or_self, Bool.false_or, Bool.true_or, decide_true, decide_false, Nat.zero_add, Nat.sub_self, Bool.true_eq_false, Bool.false_eq_true, if_true, if_false, ite_true, ite_false, true_and, and_true, addP_ii, subP_ii, mulP_ii, isiP_tup, isiP_lst, isiP_str, isiP_bl, isiP_int, isiP_tl, kd_non, kd_bl, kd_int, kd_str, kd_tup, kd_lst, isTup, isLst, isStr, isBl, isInt, eqP_ii, neP_ii, lenP_t, lenP_l, lenP_s, seqP_t, seqP_l, truP_b, ixP_t, ixP_l, slP_t, slP_l, tupleP_l, tupleP_t, addP_tt, modP_ii, divP_ii, exb, addLP_ll, min2_ii, max2_ii, exTup, exCons, exInt, iaddP_ii, leP_ii, gtP_ii, geP_ii, ltP_ii, intP_i, decide_eq_true_eq, Bool.not_eq_true', decide_eq_false_iff_not, Bool.not_true, Bool.not_false, List.cons_ne_nil, Nat.succ_ne_zero, reduceCtorEq]
  intro p hp
  have pa : p ≠ a := by rintro rfl; rw [upO_same] at hp; cases hp
  have hp0 : h p = none := by rw [upO_ne pa] at hp; exact hp
  rw [upO_comm (Ne.symm pa)]
  refine c_taken ro (by decide) (by decide) fun kind o1 _ _ ro1 => ?_
  simp only [↓e_mVar, ↓e_mK, ↓e_mOp1, ↓e_mOp2, ↓e_aNil, ↓e_aCons, ↓e_mTup, ↓e_mLst, ↓e_mLstM, ↓e_mIf, ↓e_tTru, ↓e_tNt, ↓e_tAnd2, ↓e_tOr2, ↓e_tOp2, ↓e_mChain, ↓e_tChain', ↓e_mAnd, ↓e_mOr, ↓e_mFld, ↓e_sFldD, ↓e_mMeth, ↓e_mMake, ↓e_mRev, revP_l, ↓e_mAndT, ↓e_mOrT, truP_lc, ↓e_mNot, ↓e_mCall, ↓e_mBlt, ↓e_oNo, ↓e_oSo, ↓e_mSl, ↓e_sPass, ↓e_sBrk, ↓e_sCnt, ↓e_sNever, ↓e_sSeq, ↓e_sAsg, ↓e_gNm, ↓e_gTu, ↓e_gsNil, ↓e_gsCons, ↓e_gSb, ↓e_sPar, ↓e_sExp, ↓e_sRt, ↓e_sRtN, ↓e_sIf, ↓e_sAug, ↓e_sFor, ↓e_sWh, ↓e_mComp, ↓e_mCompM, ↓e_tYs, ↓e_mkFn, ↓e_mApp, ↓e_itSeq, ↓e_itScr, ↓e_itEnum, ↓e_itZip, ↓e_itZip3, ↓e_itR1, ↓e_itR2, ↓e_itR3, ↓e_mDic0, ↓e_mDic1, ↓e_sPar3, ↓e_mAddM, ↓e_aStar, ↓e_mMulM, ↓e_sRaise0, ↓e_sRaise1, ↓e_mErr, ↓e_mCallV, starP_t, starP_l, slot_0, slot_1, slot_2, slot_3, slot_4, slot_5, slot_6, slot_7, slot_8, slot_9, slot_10, slot_11, slot_12, slot_13, slot_14, slot_15, slot_16, slot_17, slot_18, slot_19, slot_20, slot_21, slot_22, slot_23, slot_24, slot_25, slot_26, slot_27, slot_28, slot_29, slot_30, negP_i, ex3, ex2, wipeE, List.map_cons, List.map_nil, List.cons_append, List.nil_append, List.append_nil, List.length_cons, List.length_nil, List.replicate_succ, List.replicate_zero, List.set_cons_zero, List.set_cons_succ, Oc_some, Nat.reduceAdd, Nat.reduceSub, Nat.reduceLeDiff, Nat.zero_le, Int.toNat_natCast, Bool.or_false, Bool.or_true, Bool.or_self, Bool.false_or, Bool.true_or, decide_true, decide_false, Nat.zero_add, Nat.sub_self, Bool.true_eq_false, Bool.false_eq_true, if_true, if_false, ite_true, ite_false, true_and, and_true, addP_ii, subP_ii, mulP_ii, isiP_tup, isiP_lst, isiP_str, isiP_bl, isiP_int, isiP_tl, kd_non, kd_bl, kd_int, kd_str, kd_tup, kd_lst, isTup, isLst, isStr, isBl, isInt, eqP_ii, neP_ii, lenP_t, lenP_l, lenP_s, seqP_t, seqP_l, truP_b, ixP_t, ixP_l, slP_t, slP_l, tupleP_l, tupleP_t, addP_tt, modP_ii, divP_ii, exb, addLP_ll, min2_ii, max2_ii, exTup, exCons, exInt, iaddP_ii, leP_ii, gtP_ii, geP_ii, ltP_ii, intP_i, decide_eq_true_eq, Bool.not_eq_true', decide_eq_false_iff_not, Bool.not_true, Bool.not_false, List.cons_ne_nil, Nat.succ_ne_zero, reduceCtorEq, List.length_map]
  refine ⟨by omega, by omega, ?_⟩
  refine for_ind _ (fun i e h' => ∃ o' ps x4 x5 x6 x7, RowO ns o' ∧ OkF [] ps ∧ setsP ps = ss.take i ∧ ps.length = i ∧ i ≤ ss.length ∧ h' = upO (upO h p (.lst (ps.map tL))) a o' ∧ e = [some (.ref a), some (tI ss), some (.ref p), some (.int kind), x4, x5, x6, x7, none])
    ⟨o1, [], none, none, none, none, ro1, trivial, by simp [setsP], rfl, Nat.zero_le _, rfl, rfl⟩ (fun _ _ _ _ => trivial) ?_ ?_
  · rintro i x e h' K ⟨o', ps, x4, x5, x6, x7, ro', okp, esp, lp, li, rfl, rfl⟩ hx hK
    obtain ⟨li2, rfl⟩ := rngD_get _ _ _ _ hx
    rw [Int.zero_add]
    simp only [↓e_mVar, ↓e_mK, ↓e_mOp1, ↓e_mOp2, ↓e_aNil, ↓e_aCons, ↓e_mTup, ↓e_mLst, ↓e_mLstM, ↓e_mIf, ↓e_tTru, ↓e_tNt, ↓e_tAnd2, ↓e_tOr2, ↓e_tOp2, ↓e_mChain, ↓e_tChain', ↓e_mAnd, ↓e_mOr, ↓e_mFld, ↓e_sFldD, ↓e_mMeth, ↓e_mMake, ↓e_mRev, revP_l, ↓e_mAndT, ↓e_mOrT, truP_lc, ↓e_mNot, ↓e_mCall, ↓e_mBlt, ↓e_oNo, ↓e_oSo, ↓e_mSl, ↓e_sPass, ↓e_sBrk, ↓e_sCnt, ↓e_sNever, ↓e_sSeq, ↓e_sAsg, ↓e_gNm, ↓e_gTu, ↓e_gsNil, ↓e_gsCons, ↓e_gSb, ↓e_sPar, ↓e_sExp, ↓e_sRt, ↓e_sRtN, ↓e_sIf, ↓e_sAug, ↓e_sFor, ↓e_sWh, ↓e_mComp, ↓e_mCompM, ↓e_tYs, ↓e_mkFn, ↓e_mApp, ↓e_itSeq, ↓e_itScr, ↓e_itEnum, ↓e_itZip, ↓e_itZip3, ↓e_itR1, ↓e_itR2, ↓e_itR3, ↓e_mDic0, ↓e_mDic1, ↓e_sPar3, ↓e_mAddM, ↓e_aStar, ↓e_mMulM, ↓e_sRaise0, ↓e_sRaise1, ↓e_mErr, ↓e_mCallV, starP_t, starP_l, slot_0, slot_1, slot_2, slot_3, slot_4, slot_5, slot_6, slot_7, slot_8, slot_9, slot_10, slot_11, slot_12, slot_13, slot_14, slot_15, slot_16, slot_17, slot_18, slot_19, slot_20, slot_21, slot_22, slot_23, slot_24, slot_25, slot_26, slot_27, slot_28, slot_29, slot_30, negP_i, ex3, ex2, wipeE, List.map_cons, List.map_nil, List.cons_append, List.nil_append, List.append_nil, List.length_cons, List.length_nil, List.replicate_succ, List.replicate_zero, List.set_cons_zero, List.set_cons_succ, Oc_some, Nat.reduceAdd, Nat.reduceSub, Nat.reduceLeDiff, Nat.zero_le, Int.toNat_natCast, Bool.or_false, Bool.or_true, Bool.or_self, Bool.false_or, Bool.true_or, decide_true, decide_false, Nat.zero_add, Nat.sub_self, Bool.true_eq_false, Bool.false_eq_true, if_true, if_false, ite_true, ite_false, true_and, and_true, addP_ii, subP_ii, mulP_ii, isiP_tup, isiP_lst, isiP_str, isiP_bl, isiP_int, isiP_tl, kd_non, kd_bl, kd_int, kd_str, kd_tup, kd_lst, isTup, isLst, isStr, isBl, isInt, eqP_ii, neP_ii, lenP_t, lenP_l, lenP_s, seqP_t, seqP_l, truP_b, ixP_t, ixP_l, slP_t, slP_l, tupleP_l, tupleP_t, addP_tt, modP_ii, divP_ii, exb, addLP_ll, min2_ii, max2_ii, exTup, exCons, exInt, iaddP_ii, leP_ii, gtP_ii, geP_ii, ltP_ii, intP_i, decide_eq_true_eq, Bool.not_eq_true', decide_eq_false_iff_not, Bool.not_true, Bool.not_false, List.cons_ne_nil, Nat.succ_ne_zero, reduceCtorEq]
    intro w hw
    have wa : w ≠ a := by rintro rfl; rw [upO_same] at hw; cases hw
    rw [upO_ne wa] at hw
    have wp : w ≠ p := by rintro rfl; rw [upO_same] at hw; cases hw
    have hw0 : h w = none := by rw [upO_ne wp] at hw; exact hw
    rw [upO_comm (Ne.symm wa)]
    simp only [tI, ↓e_mVar, ↓e_mK, ↓e_mOp1, ↓e_mOp2, ↓e_aNil, ↓e_aCons, ↓e_mTup, ↓e_mLst, ↓e_mLstM, ↓e_mIf, ↓e_tTru, ↓e_tNt, ↓e_tAnd2, ↓e_tOr2, ↓e_tOp2, ↓e_mChain, ↓e_tChain', ↓e_mAnd, ↓e_mOr, ↓e_mFld, ↓e_sFldD, ↓e_mMeth, ↓e_mMake, ↓e_mRev, revP_l, ↓e_mAndT, ↓e_mOrT, truP_lc, ↓e_mNot, ↓e_mCall, ↓e_mBlt, ↓e_oNo, ↓e_oSo, ↓e_mSl, ↓e_sPass, ↓e_sBrk, ↓e_sCnt, ↓e_sNever, ↓e_sSeq, ↓e_sAsg, ↓e_gNm, ↓e_gTu, ↓e_gsNil, ↓e_gsCons, ↓e_gSb, ↓e_sPar, ↓e_sExp, ↓e_sRt, ↓e_sRtN, ↓e_sIf, ↓e_sAug, ↓e_sFor, ↓e_sWh, ↓e_mComp, ↓e_mCompM, ↓e_tYs, ↓e_mkFn, ↓e_mApp, ↓e_itSeq, ↓e_itScr, ↓e_itEnum, ↓e_itZip, ↓e_itZip3, ↓e_itR1, ↓e_itR2, ↓e_itR3, ↓e_mDic0, ↓e_mDic1, ↓e_sPar3, ↓e_mAddM, ↓e_aStar, ↓e_mMulM, ↓e_sRaise0, ↓e_sRaise1, ↓e_mErr, ↓e_mCallV, starP_t, starP_l, slot_0, slot_1, slot_2, slot_3, slot_4, slot_5, slot_6, slot_7, slot_8, slot_9, slot_10, slot_11, slot_12, slot_13, slot_14, slot_15, slot_16, slot_17, slot_18, slot_19, slot_20, slot_21, slot_22, slot_23, slot_24, slot_25, slot_26, slot_27, slot_28, slot_29, slot_30, negP_i, ex3, ex2, wipeE, List.map_cons, List.map_nil, List.cons_append, List.nil_append, List.append_nil, List.length_cons, List.length_nil, List.replicate_succ, List.replicate_zero, List.set_cons_zero, List.set_cons_succ, Oc_some, Nat.reduceAdd, Nat.reduceSub, Nat.reduceLeDiff, Nat.zero_le, Int.toNat_natCast, Bool.or_false, Bool.or_true, Bool.or_self, Bool.false_or, Bool.true_or, decide_true, decide_false, Nat.zero_add, Nat.sub_self, Bool.true_eq_false, Bool.false_eq_true, if_true, if_false, ite_true, ite_false, true_and, and_true, addP_ii, subP_ii, mulP_ii, isiP_tup, isiP_lst, isiP_str, isiP_bl, isiP_int, isiP_tl, kd_non, kd_bl, kd_int, kd_str, kd_tup, kd_lst, isTup, isLst, isStr, isBl, isInt, eqP_ii, neP_ii, lenP_t, lenP_l, lenP_s, seqP_t, seqP_l, truP_b, ixP_t, ixP_l, slP_t, slP_l, tupleP_l, tupleP_t, addP_tt, modP_ii, divP_ii, exb, addLP_ll, min2_ii, max2_ii, exTup, exCons, exInt, iaddP_ii, leP_ii, gtP_ii, geP_ii, ltP_ii, intP_i, decide_eq_true_eq, Bool.not_eq_true', decide_eq_false_iff_not, Bool.not_true, Bool.not_false, List.cons_ne_nil, Nat.succ_ne_zero, reduceCtorEq]
    have es : ss[i]? = some ss[i] := List.getElem?_eq_getElem li2
    have ea : atI (ss.map D.int) (i : Int) = some (.int ss[i]) := atI_nat (by rw [List.getElem?_map, es]; rfl)
    obtain ⟨s2, s4⟩ := hs _ (List.getElem_mem li2)
    rw [ea]
    simp only [↓e_mVar, ↓e_mK, ↓e_mOp1, ↓e_mOp2, ↓e_aNil, ↓e_aCons, ↓e_mTup, ↓e_mLst, ↓e_mLstM, ↓e_mIf, ↓e_tTru, ↓e_tNt, ↓e_tAnd2, ↓e_tOr2, ↓e_tOp2, ↓e_mChain, ↓e_tChain', ↓e_mAnd, ↓e_mOr, ↓e_mFld, ↓e_sFldD, ↓e_mMeth, ↓e_mMake, ↓e_mRev, revP_l, ↓e_mAndT, ↓e_mOrT, truP_lc, ↓e_mNot, ↓e_mCall, ↓e_mBlt, ↓e_oNo, ↓e_oSo, ↓e_mSl, ↓e_sPass, ↓e_sBrk, ↓e_sCnt, ↓e_sNever, ↓e_sSeq, ↓e_sAsg, ↓e_gNm, ↓e_gTu, ↓e_gsNil, ↓e_gsCons, ↓e_gSb, ↓e_sPar, ↓e_sExp, ↓e_sRt, ↓e_sRtN, ↓e_sIf, ↓e_sAug, ↓e_sFor, ↓e_sWh, ↓e_mComp, ↓e_mCompM, ↓e_tYs, ↓e_mkFn, ↓e_mApp, ↓e_itSeq, ↓e_itScr, ↓e_itEnum, ↓e_itZip, ↓e_itZip3, ↓e_itR1, ↓e_itR2, ↓e_itR3, ↓e_mDic0, ↓e_mDic1, ↓e_sPar3, ↓e_mAddM, ↓e_aStar, ↓e_mMulM, ↓e_sRaise0, ↓e_sRaise1, ↓e_mErr, ↓e_mCallV, starP_t, starP_l, slot_0, slot_1, slot_2, slot_3, slot_4, slot_5, slot_6, slot_7, slot_8, slot_9, slot_10, slot_11, slot_12, slot_13, slot_14, slot_15, slot_16, slot_17, slot_18, slot_19, slot_20, slot_21, slot_22, slot_23, slot_24, slot_25, slot_26, slot_27, slot_28, slot_29, slot_30, negP_i, ex3, ex2, wipeE, List.map_cons, List.map_nil, List.cons_append, List.nil_append, List.append_nil, List.length_cons, List.length_nil, List.replicate_succ, List.replicate_zero, List.set_cons_zero, List.set_cons_succ, Oc_some, Nat.reduceAdd, Nat.reduceSub, Nat.reduceLeDiff, Nat.zero_le, Int.toNat_natCast, Bool.or_false, Bool.or_true, Bool.or_self, Bool.false_or, Bool.true_or, decide_true, decide_false, Nat.zero_add, Nat.sub_self, Bool.true_eq_false, Bool.false_eq_true, if_true, if_false, ite_true, ite_false, true_and, and_true, addP_ii, subP_ii, mulP_ii, isiP_tup, isiP_lst, isiP_str, isiP_bl, isiP_int, isiP_tl, kd_non, kd_bl, kd_int, kd_str, kd_tup, kd_lst, isTup, isLst, isStr, isBl, isInt, eqP_ii, neP_ii, lenP_t, lenP_l, lenP_s, seqP_t, seqP_l, truP_b, ixP_t, ixP_l, slP_t, slP_l, tupleP_l, tupleP_t, addP_tt, modP_ii, divP_ii, exb, addLP_ll, min2_ii, max2_ii, exTup, exCons, exInt, iaddP_ii, leP_ii, gtP_ii, geP_ii, ltP_ii, intP_i, decide_eq_true_eq, Bool.not_eq_true', decide_eq_false_iff_not, Bool.not_true, Bool.not_false, List.cons_ne_nil, Nat.succ_ne_zero, reduceCtorEq]
    refine ⟨by omega, by omega, ?_⟩
    refine for_ind _ (fun j e h' => ∃ o' ws x6 x7, RowO ns o' ∧ (∀ v ∈ ws, wordB (ss.take i) (tI v) = true) ∧ ws.length = j ∧ (j : Int) ≤ ss[i] - 1 ∧ h' = upO (upO (upO h p (.lst (ps.map tL))) w (.lst (ws.map tI))) a o' ∧ e = [some (.ref a), some (tI ss), some (.ref p), some (.int kind), some (.int i), some (.ref w), x6, x7, none])
      ⟨o', [], x6, x7, ro', (fun _ z => (List.not_mem_nil z).elim), rfl, by omega, rfl, rfl⟩ (fun _ _ _ _ => trivial) ?_ ?_
    · rintro j x e h' K2 ⟨o', ws, x6, x7, ro', okw, lw, lj, rfl, rfl⟩ hx hK2
      obtain ⟨lj2, rfl⟩ := rngD_get _ _ _ _ hx
      simp only [tI, ↓e_mVar, ↓e_mK, ↓e_mOp1, ↓e_mOp2, ↓e_aNil, ↓e_aCons, ↓e_mTup, ↓e_mLst, ↓e_mLstM, ↓e_mIf, ↓e_tTru, ↓e_tNt, ↓e_tAnd2, ↓e_tOr2, ↓e_tOp2, ↓e_mChain, ↓e_tChain', ↓e_mAnd, ↓e_mOr, ↓e_mFld, ↓e_sFldD, ↓e_mMeth, ↓e_mMake, ↓e_mRev, revP_l, ↓e_mAndT, ↓e_mOrT, truP_lc, ↓e_mNot, ↓e_mCall, ↓e_mBlt, ↓e_oNo, ↓e_oSo, ↓e_mSl, ↓e_sPass, ↓e_sBrk, ↓e_sCnt, ↓e_sNever, ↓e_sSeq, ↓e_sAsg, ↓e_gNm, ↓e_gTu, ↓e_gsNil, ↓e_gsCons, ↓e_gSb, ↓e_sPar, ↓e_sExp, ↓e_sRt, ↓e_sRtN, ↓e_sIf, ↓e_sAug, ↓e_sFor, ↓e_sWh, ↓e_mComp, ↓e_mCompM, ↓e_tYs, ↓e_mkFn, ↓e_mApp, ↓e_itSeq, ↓e_itScr, ↓e_itEnum, ↓e_itZip, ↓e_itZip3, ↓e_itR1, ↓e_itR2, ↓e_itR3, ↓e_mDic0, ↓e_mDic1, ↓e_sPar3, ↓e_mAddM, ↓e_aStar, ↓e_mMulM, ↓e_sRaise0, ↓e_sRaise1, ↓e_mErr, ↓e_mCallV, starP_t, starP_l, slot_0, slot_1, slot_2, slot_3, slot_4, slot_5, slot_6, slot_7, slot_8, slot_9, slot_10, slot_11, slot_12, slot_13, slot_14, slot_15, slot_16, slot_17, slot_18, slot_19, slot_20, slot_21, slot_22, slot_23, slot_24, slot_25, slot_26, slot_27, slot_28, slot_29, slot_30, negP_i, ex3, ex2, wipeE, List.map_cons, List.map_nil, List.cons_append, List.nil_append, List.append_nil, List.length_cons, List.length_nil, List.replicate_succ, List.replicate_zero, List.set_cons_zero, List.set_cons_succ, Oc_some, Nat.reduceAdd, Nat.reduceSub, Nat.reduceLeDiff, Nat.zero_le, Int.toNat_natCast, Bool.or_false, Bool.or_true, Bool.or_self, Bool.false_or, Bool.true_or, decide_true, decide_false, Nat.zero_add, Nat.sub_self, Bool.true_eq_false, Bool.false_eq_true, if_true, if_false, ite_true, ite_false, true_and, and_true, addP_ii, subP_ii, mulP_ii, isiP_tup, isiP_lst, isiP_str, isiP_bl, isiP_int, isiP_tl, kd_non, kd_bl, kd_int, kd_str, kd_tup, kd_lst, isTup, isLst, isStr, isBl, isInt, eqP_ii, neP_ii, lenP_t, lenP_l, lenP_s, seqP_t, seqP_l, truP_b, ixP_t, ixP_l, slP_t, slP_l, tupleP_l, tupleP_t, addP_tt, modP_ii, divP_ii, exb, addLP_ll, min2_ii, max2_ii, exTup, exCons, exInt, iaddP_ii, leP_ii, gtP_ii, geP_ii, ltP_ii, intP_i, decide_eq_true_eq, Bool.not_eq_true', decide_eq_false_iff_not, Bool.not_true, Bool.not_false, List.cons_ne_nil, Nat.succ_ne_zero, reduceCtorEq]
      rw [cut_take]
      -- the drawn ward
      have main : ∀ (v : List Int) (o' : O), RowO ns o' → wordB (ss.take i) (tI v) = true → v.length = i → ∀ x6, Wk [some (.ref a), some (tI ss), some (.ref p), some (.int kind), some (.int i), some (.ref w), x6, some (tI v), none] (upO (upO (upO h p (.lst (ps.map tL))) w (.lst (ws.map tI ++ [tI v]))) a o') K2 := fun v o' ro' hv lv x6 =>
        .of (hK2 _ _ ⟨o', ws ++ [v], _, _, ro', fun u mu => by
          rcases List.mem_append.mp mu with mu | mu
          · exact okw u mu
          · rw [List.mem_singleton.mp mu]; exact hv, by simp [lw], by omega, by simp, rfl⟩)
      have rw1 : ∀ o', (upO (upO (upO h p (.lst (ps.map tL))) w (.lst (ws.map tI))) a o') w = some (.lst (ws.map tI)) := fun o' => by rw [upO_ne wa, upO_same]
      have up1 : ∀ o' v, upO (upO (upO (upO h p (.lst (ps.map tL))) w (.lst (ws.map tI))) a o') w (.lst (ws.map tI ++ [tI v])) = upO (upO (upO h p (.lst (ps.map tL))) w (.lst (ws.map tI ++ [tI v]))) a o' := fun o' v => by
        rw [upO_comm (Ne.symm wa), upO_upO]
      have lw2 : ws.length < 1000000 := by omega
      refine comp_ind _ (fun k acc h' => ∃ o' v, RowO ns o' ∧ h' = upO (upO (upO h p (.lst (ps.map tL))) w (.lst (ws.map tI))) a o' ∧ acc = v.map D.int ∧ v.length = k ∧ k ≤ i ∧ wordsB (ss.take k) (v.map D.int) = true) ⟨o', [], ro', rfl, rfl, rfl, Nat.zero_le _, by simp [wordsB]⟩
        (by rw [List.length_take, List.length_map]; omega) ?_ ?_ ?_
      · rintro k acc h' ⟨o', v, _, _, rfl, lv, _, _⟩
        exact ⟨trivial, by rw [List.length_map]; omega⟩
      · rintro k x acc h' K3 ⟨o', v, ro', rfl, rfl, lv, lk, wv⟩ hx hK3
        rw [← List.map_take, List.getElem?_map] at hx
        cases hq : (ss.take i)[k]? with
        | none => rw [hq] at hx; cases hx
        | some s =>
          rw [hq] at hx
          cases hx
          have hk : k < i ∧ k < ss.length := by
            have := (List.getElem?_eq_some_iff.mp hq).1
            rw [List.length_take] at this
            omega
          have hs1 : ss[k]? = some s := by
            rw [List.getElem?_take_of_lt hk.1] at hq
            exact hq
          obtain ⟨t2, t4⟩ := hs _ (List.mem_of_getElem? hs1)
          simp only [↓e_mVar, ↓e_mK, ↓e_mOp1, ↓e_mOp2, ↓e_aNil, ↓e_aCons, ↓e_mTup, ↓e_mLst, ↓e_mLstM, ↓e_mIf, ↓e_tTru, ↓e_tNt, ↓e_tAnd2, ↓e_tOr2, ↓e_tOp2, ↓e_mChain, ↓e_tChain', ↓e_mAnd, ↓e_mOr, ↓e_mFld, ↓e_sFldD, ↓e_mMeth, ↓e_mMake, ↓e_mRev, revP_l, ↓e_mAndT, ↓e_mOrT, truP_lc, ↓e_mNot, ↓e_mCall, ↓e_mBlt, ↓e_oNo, ↓e_oSo, ↓e_mSl, ↓e_sPass, ↓e_sBrk, ↓e_sCnt, ↓e_sNever, ↓e_sSeq, ↓e_sAsg, ↓e_gNm, ↓e_gTu, ↓e_gsNil, ↓e_gsCons, ↓e_gSb, ↓e_sPar, ↓e_sExp, ↓e_sRt, ↓e_sRtN, ↓e_sIf, ↓e_sAug, ↓e_sFor, ↓e_sWh, ↓e_mComp, ↓e_mCompM, ↓e_tYs, ↓e_mkFn, ↓e_mApp, ↓e_itSeq, ↓e_itScr, ↓e_itEnum, ↓e_itZip, ↓e_itZip3, ↓e_itR1, ↓e_itR2, ↓e_itR3, ↓e_mDic0, ↓e_mDic1, ↓e_sPar3, ↓e_mAddM, ↓e_aStar, ↓e_mMulM, ↓e_sRaise0, ↓e_sRaise1, ↓e_mErr, ↓e_mCallV, starP_t, starP_l, slot_0, slot_1, slot_2, slot_3, slot_4, slot_5, slot_6, slot_7, slot_8, slot_9, slot_10, slot_11, slot_12, slot_13, slot_14, slot_15, slot_16, slot_17, slot_18, slot_19, slot_20, slot_21, slot_22, slot_23, slot_24, slot_25, slot_26, slot_27, slot_28, slot_29, slot_30, negP_i, ex3, ex2, wipeE, List.map_cons, List.map_nil, List.cons_append, List.nil_append, List.append_nil, List.length_cons, List.length_nil, List.replicate_succ, List.replicate_zero, List.set_cons_zero, List.set_cons_succ, Oc_some, Nat.reduceAdd, Nat.reduceSub, Nat.reduceLeDiff, Nat.zero_le, Int.toNat_natCast, Bool.or_false, Bool.or_true, Bool.or_self, Bool.false_or, Bool.true_or, decide_true, decide_false, Nat.zero_add, Nat.sub_self, Bool.true_eq_false, Bool.false_eq_true, if_true, if_false, ite_true, ite_false, true_and, and_true, addP_ii, subP_ii, mulP_ii, isiP_tup, isiP_lst, isiP_str, isiP_bl, isiP_int, isiP_tl, kd_non, kd_bl, kd_int, kd_str, kd_tup, kd_lst, isTup, isLst, isStr, isBl, isInt, eqP_ii, neP_ii, lenP_t, lenP_l, lenP_s, seqP_t, seqP_l, truP_b, ixP_t, ixP_l, slP_t, slP_l, tupleP_l, tupleP_t, addP_tt, modP_ii, divP_ii, exb, addLP_ll, min2_ii, max2_ii, exTup, exCons, exInt, iaddP_ii, leP_ii, gtP_ii, geP_ii, ltP_ii, intP_i, decide_eq_true_eq, Bool.not_eq_true', decide_eq_false_iff_not, Bool.not_true, Bool.not_false, List.cons_ne_nil, Nat.succ_ne_zero, reduceCtorEq]
          refine c_taken ro' (by omega) (small_of (i := 1) (by omega) (by omega) (by decide)) fun r o2 r0 r1 ro2 => ⟨_, .refl _, hK3 _ _ ⟨o2, v ++ [r], ro2, rfl, by simp, by simp [lv], by omega, ?_⟩⟩
          rw [List.take_add_one, hs1]
          simp only [Option.toList, List.map_append, List.map_cons, List.map_nil]
          rw [wordsB_snoc (by rw [List.length_take, List.length_map]; omega), wv, inB_of r0 r1]
          rfl
      · rintro acc h' ⟨o', v, ro', rfl, rfl, lv, lk, wv⟩
        have lv : v.length = i := by
          rw [lv, List.length_take, List.length_map]
          omega
        have wv : wordB (ss.take i) (tI v) = true := by
          rw [List.length_take, List.length_map, Nat.min_eq_left (by omega)] at wv
          rw [wordB_tI, wv, decide_eq_true (by rw [List.length_take]; omega)]
          rfl
        have wz : wordB (ss.take i) (tI (List.replicate i 0)) = true := by
          rw [wordB_tI, wordsB_zero (fun s m => by have := hs s (List.mem_of_mem_take m); omega), decide_eq_true (by rw [List.length_replicate, List.length_take]; omega)]
          rfl
        (try simp only [↓e_mVar, ↓e_mK, ↓e_mOp1, ↓e_mOp2, ↓e_aNil, ↓e_aCons, ↓e_mTup, ↓e_mLst, ↓e_mLstM, ↓e_mIf, ↓e_tTru, ↓e_tNt, ↓e_tAnd2, ↓e_tOr2, ↓e_tOp2, ↓e_mChain, ↓e_tChain', ↓e_mAnd, ↓e_mOr, ↓e_mFld, ↓e_sFldD, ↓e_mMeth, ↓e_mMake, ↓e_mRev, revP_l, ↓e_mAndT, ↓e_mOrT, truP_lc, ↓e_mNot, ↓e_mCall, ↓e_mBlt, ↓e_oNo, ↓e_oSo, ↓e_mSl, ↓e_sPass, ↓e_sBrk, ↓e_sCnt, ↓e_sNever, ↓e_sSeq, ↓e_sAsg, ↓e_gNm, ↓e_gTu, ↓e_gsNil, ↓e_gsCons, ↓e_gSb, ↓e_sPar, ↓e_sExp, ↓e_sRt, ↓e_sRtN, ↓e_sIf, ↓e_sAug, ↓e_sFor, ↓e_sWh, ↓e_mComp, ↓e_mCompM, ↓e_tYs, ↓e_mkFn, ↓e_mApp, ↓e_itSeq, ↓e_itScr, ↓e_itEnum, ↓e_itZip, ↓e_itZip3, ↓e_itR1, ↓e_itR2, ↓e_itR3, ↓e_mDic0, ↓e_mDic1, ↓e_sPar3, ↓e_mAddM, ↓e_aStar, ↓e_mMulM, ↓e_sRaise0, ↓e_sRaise1, ↓e_mErr, ↓e_mCallV, starP_t, starP_l, slot_0, slot_1, slot_2, slot_3, slot_4, slot_5, slot_6, slot_7, slot_8, slot_9, slot_10, slot_11, slot_12, slot_13, slot_14, slot_15, slot_16, slot_17, slot_18, slot_19, slot_20, slot_21, slot_22, slot_23, slot_24, slot_25, slot_26, slot_27, slot_28, slot_29, slot_30, negP_i, ex3, ex2, wipeE, List.map_cons, List.map_nil, List.cons_append, List.nil_append, List.append_nil, List.length_cons, List.length_nil, List.replicate_succ, List.replicate_zero, List.set_cons_zero, List.set_cons_succ, Oc_some, Nat.reduceAdd, Nat.reduceSub, Nat.reduceLeDiff, Nat.zero_le, Int.toNat_natCast, Bool.or_false, Bool.or_true, Bool.or_self, Bool.false_or, Bool.true_or, decide_true, decide_false, Nat.zero_add, Nat.sub_self, Bool.true_eq_false, Bool.false_eq_true, if_true, if_false, ite_true, ite_false, true_and, and_true, addP_ii, subP_ii, mulP_ii, isiP_tup, isiP_lst, isiP_str, isiP_bl, isiP_int, isiP_tl, kd_non, kd_bl, kd_int, kd_str, kd_tup, kd_lst, isTup, isLst, isStr, isBl, isInt, eqP_ii, neP_ii, lenP_t, lenP_l, lenP_s, seqP_t, seqP_l, truP_b, ixP_t, ixP_l, slP_t, slP_l, tupleP_l, tupleP_t, addP_tt, modP_ii, divP_ii, exb, addLP_ll, min2_ii, max2_ii, exTup, exCons, exInt, iaddP_ii, leP_ii, gtP_ii, geP_ii, ltP_ii, intP_i, decide_eq_true_eq, Bool.not_eq_true', decide_eq_false_iff_not, Bool.not_true, Bool.not_false, List.cons_ne_nil, Nat.succ_ne_zero, reduceCtorEq])
        generalize hH : upO (upO (upO h p (O.lst (List.map tL ps))) w (O.lst (List.map tI ws))) a o' = H at *
        have rwH : H w = some (.lst (ws.map tI)) := by rw [← hH]; exact rw1 o'
        have fin : ∀ (v : List Int) (x6 : Option D), wordB (ss.take i) (tI v) = true → v.length = i → (∃ ds, rs H (.ref w) = .lst ds) ∧ appK (.ref w) (tI v) H fun _ h1 => Wk [some (.ref a), some (tI ss), some (.ref p), some (.int kind), some (.int i), some (.ref w), x6, some (tI v), none] h1 K2 := fun v x6 hv lv => by
          refine ⟨⟨_, rs_ref rwH⟩, ?_⟩
          rw [app_ref rwH, ← hH, up1]
          exact ⟨by rw [List.length_map]; omega, main v o' ro' hv lv x6⟩
        have second : ∀ (v : List Int), wordB (ss.take i) (tI v) = true → v.length = i → (if kind = 1 then neP H (.ref w) (.lst []) fun z_1 => ∃ k, z_1 = .bl k ∧ if k = true then ixP H (.ref w) (.int (-1)) fun z => (∃ ds, rs H (.ref w) = .lst ds) ∧ appK (.ref w) z H fun _ h1 => Wk [some (.ref a), some (tI ss), some (.ref p), some (.int kind), some (.int i), some (.ref w), some (.int (0 + (j : Int))), some z, none] h1 K2
            else (∃ ds, rs H (.ref w) = .lst ds) ∧ appK (.ref w) (tI v) H fun _ h1 => Wk [some (.ref a), some (tI ss), some (.ref p), some (.int kind), some (.int i), some (.ref w), some (.int (0 + (j : Int))), some (tI v), none] h1 K2
            else (∃ ds, rs H (.ref w) = .lst ds) ∧ appK (.ref w) (tI v) H fun _ h1 => Wk [some (.ref a), some (tI ss), some (.ref p), some (.int kind), some (.int i), some (.ref w), some (.int (0 + (j : Int))), some (tI v), none] h1 K2) := fun v hv lv => by
          by_cases k1 : kind = 1
          · rw [if_pos k1, neP_nil rwH (fun x m => by obtain ⟨u, _, rfl⟩ := List.mem_map.mp m; exact sh_tI)]
            refine ⟨_, rfl, ?_⟩
            cases hws : ws.map tI with
            | nil => exact fin v _ hv lv
            | cons y ys =>
              have ne : ws ≠ [] := by rintro rfl; simp at hws
              obtain ⟨u, mu, at1⟩ := at_lastm (f := tI) ne
              show ixP H (.ref w) (.int (-1)) _
              rw [ixP_r rwH, at1]
              have hl := okw _ mu
              refine fin _ _ hl ?_
              rw [wordB_tI, Bool.and_eq_true, decide_eq_true_eq, List.length_take] at hl
              omega
          · rw [if_neg k1]
            exact fin v _ hv lv
        by_cases k0 : kind = 0
        · rw [if_pos k0]
          exact mul_zeros (by omega) (second _ wz (by simp))
        · rw [if_neg k0]
          exact second v wv lv
    · rintro e h' ⟨o', ws, x6, x7, ro', okw, lw, lj, rfl, rfl⟩
      rw [rngD_length] at lw
      simp only [↓e_mVar, ↓e_mK, ↓e_mOp1, ↓e_mOp2, ↓e_aNil, ↓e_aCons, ↓e_mTup, ↓e_mLst, ↓e_mLstM, ↓e_mIf, ↓e_tTru, ↓e_tNt, ↓e_tAnd2, ↓e_tOr2, ↓e_tOp2, ↓e_mChain, ↓e_tChain', ↓e_mAnd, ↓e_mOr, ↓e_mFld, ↓e_sFldD, ↓e_mMeth, ↓e_mMake, ↓e_mRev, revP_l, ↓e_mAndT, ↓e_mOrT, truP_lc, ↓e_mNot, ↓e_mCall, ↓e_mBlt, ↓e_oNo, ↓e_oSo, ↓e_mSl, ↓e_sPass, ↓e_sBrk, ↓e_sCnt, ↓e_sNever, ↓e_sSeq, ↓e_sAsg, ↓e_gNm, ↓e_gTu, ↓e_gsNil, ↓e_gsCons, ↓e_gSb, ↓e_sPar, ↓e_sExp, ↓e_sRt, ↓e_sRtN, ↓e_sIf, ↓e_sAug, ↓e_sFor, ↓e_sWh, ↓e_mComp, ↓e_mCompM, ↓e_tYs, ↓e_mkFn, ↓e_mApp, ↓e_itSeq, ↓e_itScr, ↓e_itEnum, ↓e_itZip, ↓e_itZip3, ↓e_itR1, ↓e_itR2, ↓e_itR3, ↓e_mDic0, ↓e_mDic1, ↓e_sPar3, ↓e_mAddM, ↓e_aStar, ↓e_mMulM, ↓e_sRaise0, ↓e_sRaise1, ↓e_mErr, ↓e_mCallV, starP_t, starP_l, slot_0, slot_1, slot_2, slot_3, slot_4, slot_5, slot_6, slot_7, slot_8, slot_9, slot_10, slot_11, slot_12, slot_13, slot_14, slot_15, slot_16, slot_17, slot_18, slot_19, slot_20, slot_21, slot_22, slot_23, slot_24, slot_25, slot_26, slot_27, slot_28, slot_29, slot_30, negP_i, ex3, ex2, wipeE, List.map_cons, List.map_nil, List.cons_append, List.nil_append, List.append_nil, List.length_cons, List.length_nil, List.replicate_succ, List.replicate_zero, List.set_cons_zero, List.set_cons_succ, Oc_some, Nat.reduceAdd, Nat.reduceSub, Nat.reduceLeDiff, Nat.zero_le, Int.toNat_natCast, Bool.or_false, Bool.or_true, Bool.or_self, Bool.false_or, Bool.true_or, decide_true, decide_false, Nat.zero_add, Nat.sub_self, Bool.true_eq_false, Bool.false_eq_true, if_true, if_false, ite_true, ite_false, true_and, and_true, addP_ii, subP_ii, mulP_ii, isiP_tup, isiP_lst, isiP_str, isiP_bl, isiP_int, isiP_tl, kd_non, kd_bl, kd_int, kd_str, kd_tup, kd_lst, isTup, isLst, isStr, isBl, isInt, eqP_ii, neP_ii, lenP_t, lenP_l, lenP_s, seqP_t, seqP_l, truP_b, ixP_t, ixP_l, slP_t, slP_l, tupleP_l, tupleP_t, addP_tt, modP_ii, divP_ii, exb, addLP_ll, min2_ii, max2_ii, exTup, exCons, exInt, iaddP_ii, leP_ii, gtP_ii, geP_ii, ltP_ii, intP_i, decide_eq_true_eq, Bool.not_eq_true', decide_eq_false_iff_not, Bool.not_true, Bool.not_false, List.cons_ne_nil, Nat.succ_ne_zero, reduceCtorEq]
      have wH : (upO (upO (upO h p (O.lst (List.map tL ps))) w (O.lst (List.map tI ws))) a o') w = some (.lst (ws.map tI)) := by rw [upO_ne wa, upO_same]
      have pH : (upO (upO (upO h p (O.lst (List.map tL ps))) w (O.lst (List.map tI ws))) a o') p = some (.lst (ps.map tL)) := by rw [upO_ne pa, upO_ne (Ne.symm wp), upO_same]
      rw [rs_is pH]
      refine ⟨trivial, ?_⟩
      rw [tupleP_r wH]
      simp only [app_ref pH]
      refine ⟨by rw [List.length_map]; omega, Wk_le (h' := upO (upO h p (.lst ((ps ++ [ws]).map tL))) a o') ?_ (hK _ _ ⟨o', ps ++ [ws], _, _, _, _, ro', OkF_snoc okp (by omega) (by rw [esp]; exact okw), ?_, by simp [lp], li2, rfl, rfl⟩)⟩
      · rw [upO_comm (Ne.symm pa), upO_comm wp, upO_upO, List.map_append]
        refine Le.upUp (Le.up ?_)
        rw [upO_ne wp]
        exact hw0
      · rw [List.take_add_one, es, ← esp]
        simp only [setsP, List.map_append, List.map_cons, List.map_nil, Option.toList]
        rw [show ((ws.length : Int) + 1) = ss[i] by omega]
  · rintro e h' ⟨o', ps, x4, x5, x6, x7, ro', okp, esp, lp, li, rfl, rfl⟩
    rw [rngD_length, List.take_of_length_le (Nat.le_refl _)] at esp
    simp only [↓e_mVar, ↓e_mK, ↓e_mOp1, ↓e_mOp2, ↓e_aNil, ↓e_aCons, ↓e_mTup, ↓e_mLst, ↓e_mLstM, ↓e_mIf, ↓e_tTru, ↓e_tNt, ↓e_tAnd2, ↓e_tOr2, ↓e_tOp2, ↓e_mChain, ↓e_tChain', ↓e_mAnd, ↓e_mOr, ↓e_mFld, ↓e_sFldD, ↓e_mMeth, ↓e_mMake, ↓e_mRev, revP_l, ↓e_mAndT, ↓e_mOrT, truP_lc, ↓e_mNot, ↓e_mCall, ↓e_mBlt, ↓e_oNo, ↓e_oSo, ↓e_mSl, ↓e_sPass, ↓e_sBrk, ↓e_sCnt, ↓e_sNever, ↓e_sSeq, ↓e_sAsg, ↓e_gNm, ↓e_gTu, ↓e_gsNil, ↓e_gsCons, ↓e_gSb, ↓e_sPar, ↓e_sExp, ↓e_sRt, ↓e_sRtN, ↓e_sIf, ↓e_sAug, ↓e_sFor, ↓e_sWh, ↓e_mComp, ↓e_mCompM, ↓e_tYs, ↓e_mkFn, ↓e_mApp, ↓e_itSeq, ↓e_itScr, ↓e_itEnum, ↓e_itZip, ↓e_itZip3, ↓e_itR1, ↓e_itR2, ↓e_itR3, ↓e_mDic0, ↓e_mDic1, ↓e_sPar3, ↓e_mAddM, ↓e_aStar, ↓e_mMulM, ↓e_sRaise0, ↓e_sRaise1, ↓e_mErr, ↓e_mCallV, starP_t, starP_l, slot_0, slot_1, slot_2, slot_3, slot_4, slot_5, slot_6, slot_7, slot_8, slot_9, slot_10, slot_11, slot_12, slot_13, slot_14, slot_15, slot_16, slot_17, slot_18, slot_19, slot_20, slot_21, slot_22, slot_23, slot_24, slot_25, slot_26, slot_27, slot_28, slot_29, slot_30, negP_i, ex3, ex2, wipeE, List.map_cons, List.map_nil, List.cons_append, List.nil_append, List.append_nil, List.length_cons, List.length_nil, List.replicate_succ, List.replicate_zero, List.set_cons_zero, List.set_cons_succ, Oc_some, Nat.reduceAdd, Nat.reduceSub, Nat.reduceLeDiff, Nat.zero_le, Int.toNat_natCast, Bool.or_false, Bool.or_true, Bool.or_self, Bool.false_or, Bool.true_or, decide_true, decide_false, Nat.zero_add, Nat.sub_self, Bool.true_eq_false, Bool.false_eq_true, if_true, if_false, ite_true, ite_false, true_and, and_true, addP_ii, subP_ii, mulP_ii, isiP_tup, isiP_lst, isiP_str, isiP_bl, isiP_int, isiP_tl, kd_non, kd_bl, kd_int, kd_str, kd_tup, kd_lst, isTup, isLst, isStr, isBl, isInt, eqP_ii, neP_ii, lenP_t, lenP_l, lenP_s, seqP_t, seqP_l, truP_b, ixP_t, ixP_l, slP_t, slP_l, tupleP_l, tupleP_t, addP_tt, modP_ii, divP_ii, exb, addLP_ll, min2_ii, max2_ii, exTup, exCons, exInt, iaddP_ii, leP_ii, gtP_ii, geP_ii, ltP_ii, intP_i, decide_eq_true_eq, Bool.not_eq_true', decide_eq_false_iff_not, Bool.not_true, Bool.not_false, List.cons_ne_nil, Nat.succ_ne_zero, reduceCtorEq]
    have pH : (upO (upO h p (O.lst (List.map tL ps))) a o') p = some (.lst (ps.map tL)) := by rw [upO_ne pa, upO_same]
    rw [tupleP_r pH]
    exact .le (Le.upUp (Le.up hp0)) (q ps o' okp esp ro')
end L2.Lmp

set_option maxHeartbeats 4000000
namespace L2.Lmp
open PySem PySem.Spec PyProof.Rows
/-! ### words, tuples of ints -/
theorem word_len {ss w : List Int} (h : wordB ss (tI w) = true) : w.length = ss.length := by
  rw [wordB_tI, Bool.and_eq_true, decide_eq_true_eq] at h
  exact h.1
theorem eqBs_ints : ∀ w v : List Int, eqBs (w.map D.int) (v.map D.int) = decide (w = v)
  | [], [] => rfl
  | [], _ :: _ => rfl
  | _ :: _, [] => rfl
  | x :: w, y :: v => by
    show ((x == y) && eqBs (w.map D.int) (v.map D.int)) = _
    rw [eqBs_ints w v]
    by_cases e : x = y
    · subst e
      simp
    · have : (x == y) = false := by simpa using e
      rw [this]
      simp [e]
theorem eqB_tI {w v : List Int} : eqB (tI w) (tI v) = decide (w = v) := eqBs_ints w v
theorem eqP_tI {h : DH} {w v : List Int} {Q : D → Prop} : eqP h (tI w) (tI v) Q = Q (.bl (decide (w = v))) := by
  have a : shN 60 (tI w) = True := eq_true (sh_tI (n := 59))
  have b : shN 60 (tI v) = True := eq_true (sh_tI (n := 59))
  show ((shN 60 (tI w) ∧ shN 60 (tI v)) ∧ Q (.bl (eqB (tI w) (tI v)))) = _
  rw [a, b, eqB_tI]
  simp only [and_self, true_and]
theorem wordsB_at : ∀ {ss w : List Int}, wordsB ss (w.map D.int) = true → ∀ (i : Nat) (x s : Int), w[i]? = some x → ss[i]? = some s → 0 ≤ x ∧ x < s
  | [], _, _, i, _, _, _, h => by simp at h
  | _ :: _, [], _, i, _, _, h, _ => by simp at h
  | t :: ss, y :: w, q, i, x, s, h1, h2 => by
    have q : (inB (.int y) 0 (t - 1) && wordsB ss (w.map D.int)) = true := q
    rw [Bool.and_eq_true] at q
    cases i with
    | zero =>
      simp at h1 h2
      subst h1 h2
      have := q.1
      unfold inB at this
      simp at this
      omega
    | succ i => exact wordsB_at q.2 i x s (by simpa using h1) (by simpa using h2)
theorem word_at {ss w : List Int} (q : wordB ss (tI w) = true) (i : Nat) (x s : Int) (h1 : w[i]? = some x) (h2 : ss[i]? = some s) : 0 ≤ x ∧ x < s := by
  rw [wordB_tI, Bool.and_eq_true] at q
  exact wordsB_at q.2 i x s h1 h2
theorem cut_drop {xs : List D} {n : Nat} : cutD xs (some (n : Int)) none = xs.drop n := by
  unfold cutD
  rw [HT.sIx_none, HT.sIx_nat, Nat.min_def]
  split
  · rw [List.take_of_length_le (by rw [List.length_drop]; omega)]
  · rw [List.drop_of_length_le (Nat.le_refl _), List.drop_of_length_le (by omega)]
    simp
theorem seqP_r {h : DH} {a : Addr} {xs : List D} {Q : List D → (DH → Prop) → Prop} (e : h a = some (.lst xs)) : seqP h (.ref a) Q = Q xs fun h' => h' a = some (.lst xs) := by
  simp only [seqP, e]
theorem setsP_length {p : List (List (List Int))} : (setsP p).length = p.length := by unfold setsP; rw [List.length_map]
theorem c_settings_of {p : List (List (List Int))} {h : DH} {E : EK} {Q : DK} (k : p.length ≤ 30) (q : Q (tI (setsP p)) h) : F_settings_of [tP p] h E Q := by
  simp only [↓e_settings_of, tP, ↓e_mVar, ↓e_mK, ↓e_mOp1, ↓e_mOp2, ↓e_aNil, ↓e_aCons, ↓e_mTup, ↓e_mLst, ↓e_mLstM, ↓e_mIf, ↓e_tTru, ↓e_tNt, ↓e_tAnd2, ↓e_tOr2, ↓e_tOp2, ↓e_mChain, ↓e_tChain', ↓e_mAnd, ↓e_mOr, ↓e_mFld, ↓e_sFldD, ↓e_mMeth, ↓e_mMake, ↓e_mRev, revP_l, ↓e_mAndT, ↓e_mOrT, truP_lc, ↓e_mNot, ↓e_mCall, ↓e_mBlt, ↓e_oNo, ↓e_oSo, ↓e_mSl, ↓e_sPass, ↓e_sBrk, ↓e_sCnt, ↓e_sNever, ↓e_sSeq, ↓e_sAsg, ↓e_gNm, ↓e_gTu, ↓e_gsNil, ↓e_gsCons, ↓e_gSb, ↓e_sPar, ↓e_sExp, ↓e_sRt, ↓e_sRtN, ↓e_sIf, ↓e_sAug, ↓e_sFor, ↓e_sWh, ↓e_mComp, ↓e_mCompM, ↓e_tYs, ↓e_mkFn, ↓e_mApp, ↓e_itSeq, ↓e_itScr, ↓e_itEnum, ↓e_itZip, ↓e_itZip3, ↓e_itR1, ↓e_itR2, ↓e_itR3, ↓e_mDic0, ↓e_mDic1, ↓e_sPar3, ↓e_mAddM, ↓e_aStar, ↓e_mMulM, ↓e_sRaise0, ↓e_sRaise1, ↓e_mErr, ↓e_mCallV, starP_t, starP_l, slot_0, slot_1, slot_2, slot_3, slot_4, slot_5, slot_6, slot_7, slot_8, slot_9, slot_10, slot_11, slot_12, slot_13, slot_14, slot_15, slot_16, slot_17, slot_18, slot_19, slot_20, slot_21, slot_22, slot_23, slot_24, slot_25, slot_26, slot_27, slot_28, slot_29, slot_30, negP_i, ex3, ex2, wipeE, List.map_cons, List.map_nil, List.cons_append, List.nil_append, List.append_nil, List.length_cons, List.length_nil, List.replicate_succ, List.replicate_zero, List.set_cons_zero, List.set_cons_succ, Oc_some, Nat.reduceAdd, Nat.reduceSub, Nat.reduceLeDiff, Nat.zero_le, Int.toNat_natCast, Bool.or_false, Bool.or_true, Bool.or_self, Bool.false_or, Bool.true_or, decide_true, decide_false, Nat.zero_add, Nat.sub_self, Bool.true_eq_false, Bool.false_eq_true, if_true, if_false, ite_true, ite_false, true_and, and_true, addP_ii, subP_ii, mulP_ii, isiP_tup, isiP_lst, isiP_str, isiP_bl, isiP_int, isiP_tl, kd_non, kd_bl, kd_int, kd_str, kd_tup, kd_lst, isTup, isLst, isStr, isBl, isInt, eqP_ii, neP_ii, lenP_t, lenP_l, lenP_s, seqP_t, seqP_l, truP_b, ixP_t, ixP_l, slP_t, slP_l, tupleP_l, tupleP_t, addP_tt, modP_ii, divP_ii, exb, addLP_ll, min2_ii, max2_ii, exTup, exCons, exInt, iaddP_ii, leP_ii, gtP_ii, geP_ii, ltP_ii, intP_i, decide_eq_true_eq, Bool.not_eq_true', decide_eq_false_iff_not, Bool.not_true, Bool.not_false, List.cons_ne_nil, Nat.succ_ne_zero, reduceCtorEq]
  refine sets_comp (j := 0) trivial k (fun _ => rfl) ?_
  (try simp only [↓e_mVar, ↓e_mK, ↓e_mOp1, ↓e_mOp2, ↓e_aNil, ↓e_aCons, ↓e_mTup, ↓e_mLst, ↓e_mLstM, ↓e_mIf, ↓e_tTru, ↓e_tNt, ↓e_tAnd2, ↓e_tOr2, ↓e_tOp2, ↓e_mChain, ↓e_tChain', ↓e_mAnd, ↓e_mOr, ↓e_mFld, ↓e_sFldD, ↓e_mMeth, ↓e_mMake, ↓e_mRev, revP_l, ↓e_mAndT, ↓e_mOrT, truP_lc, ↓e_mNot, ↓e_mCall, ↓e_mBlt, ↓e_oNo, ↓e_oSo, ↓e_mSl, ↓e_sPass, ↓e_sBrk, ↓e_sCnt, ↓e_sNever, ↓e_sSeq, ↓e_sAsg, ↓e_gNm, ↓e_gTu, ↓e_gsNil, ↓e_gsCons, ↓e_gSb, ↓e_sPar, ↓e_sExp, ↓e_sRt, ↓e_sRtN, ↓e_sIf, ↓e_sAug, ↓e_sFor, ↓e_sWh, ↓e_mComp, ↓e_mCompM, ↓e_tYs, ↓e_mkFn, ↓e_mApp, ↓e_itSeq, ↓e_itScr, ↓e_itEnum, ↓e_itZip, ↓e_itZip3, ↓e_itR1, ↓e_itR2, ↓e_itR3, ↓e_mDic0, ↓e_mDic1, ↓e_sPar3, ↓e_mAddM, ↓e_aStar, ↓e_mMulM, ↓e_sRaise0, ↓e_sRaise1, ↓e_mErr, ↓e_mCallV, starP_t, starP_l, slot_0, slot_1, slot_2, slot_3, slot_4, slot_5, slot_6, slot_7, slot_8, slot_9, slot_10, slot_11, slot_12, slot_13, slot_14, slot_15, slot_16, slot_17, slot_18, slot_19, slot_20, slot_21, slot_22, slot_23, slot_24, slot_25, slot_26, slot_27, slot_28, slot_29, slot_30, negP_i, ex3, ex2, wipeE, List.map_cons, List.map_nil, List.cons_append, List.nil_append, List.append_nil, List.length_cons, List.length_nil, List.replicate_succ, List.replicate_zero, List.set_cons_zero, List.set_cons_succ, Oc_some, Nat.reduceAdd, Nat.reduceSub, Nat.reduceLeDiff, Nat.zero_le, Int.toNat_natCast, Bool.or_false, Bool.or_true, Bool.or_self, Bool.false_or, Bool.true_or, decide_true, decide_false, Nat.zero_add, Nat.sub_self, Bool.true_eq_false, Bool.false_eq_true, if_true, if_false, ite_true, ite_false, true_and, and_true, addP_ii, subP_ii, mulP_ii, isiP_tup, isiP_lst, isiP_str, isiP_bl, isiP_int, isiP_tl, kd_non, kd_bl, kd_int, kd_str, kd_tup, kd_lst, isTup, isLst, isStr, isBl, isInt, eqP_ii, neP_ii, lenP_t, lenP_l, lenP_s, seqP_t, seqP_l, truP_b, ixP_t, ixP_l, slP_t, slP_l, tupleP_l, tupleP_t, addP_tt, modP_ii, divP_ii, exb, addLP_ll, min2_ii, max2_ii, exTup, exCons, exInt, iaddP_ii, leP_ii, gtP_ii, geP_ii, ltP_ii, intP_i, decide_eq_true_eq, Bool.not_eq_true', decide_eq_false_iff_not, Bool.not_true, Bool.not_false, List.cons_ne_nil, Nat.succ_ne_zero, reduceCtorEq])
  exact .of q
theorem c_need_state {p : List (List (List Int))} {st : List Int} {h : DH} {E : EK} {Q : DK} (k : p.length ≤ 30) (g : wordB (setsP p) (tI st) = true) (q : Q .non h) : F_need_state [tP p, tI st] h E Q := by
  simp only [↓e_need_state, ↓e_mVar, ↓e_mK, ↓e_mOp1, ↓e_mOp2, ↓e_aNil, ↓e_aCons, ↓e_mTup, ↓e_mLst, ↓e_mLstM, ↓e_mIf, ↓e_tTru, ↓e_tNt, ↓e_tAnd2, ↓e_tOr2, ↓e_tOp2, ↓e_mChain, ↓e_tChain', ↓e_mAnd, ↓e_mOr, ↓e_mFld, ↓e_sFldD, ↓e_mMeth, ↓e_mMake, ↓e_mRev, revP_l, ↓e_mAndT, ↓e_mOrT, truP_lc, ↓e_mNot, ↓e_mCall, ↓e_mBlt, ↓e_oNo, ↓e_oSo, ↓e_mSl, ↓e_sPass, ↓e_sBrk, ↓e_sCnt, ↓e_sNever, ↓e_sSeq, ↓e_sAsg, ↓e_gNm, ↓e_gTu, ↓e_gsNil, ↓e_gsCons, ↓e_gSb, ↓e_sPar, ↓e_sExp, ↓e_sRt, ↓e_sRtN, ↓e_sIf, ↓e_sAug, ↓e_sFor, ↓e_sWh, ↓e_mComp, ↓e_mCompM, ↓e_tYs, ↓e_mkFn, ↓e_mApp, ↓e_itSeq, ↓e_itScr, ↓e_itEnum, ↓e_itZip, ↓e_itZip3, ↓e_itR1, ↓e_itR2, ↓e_itR3, ↓e_mDic0, ↓e_mDic1, ↓e_sPar3, ↓e_mAddM, ↓e_aStar, ↓e_mMulM, ↓e_sRaise0, ↓e_sRaise1, ↓e_mErr, ↓e_mCallV, starP_t, starP_l, slot_0, slot_1, slot_2, slot_3, slot_4, slot_5, slot_6, slot_7, slot_8, slot_9, slot_10, slot_11, slot_12, slot_13, slot_14, slot_15, slot_16, slot_17, slot_18, slot_19, slot_20, slot_21, slot_22, slot_23, slot_24, slot_25, slot_26, slot_27, slot_28, slot_29, slot_30, negP_i, ex3, ex2, wipeE, List.map_cons, List.map_nil, List.cons_append, List.nil_append, List.append_nil, List.length_cons, List.length_nil, List.replicate_succ, List.replicate_zero, List.set_cons_zero, List.set_cons_succ, Oc_some, Nat.reduceAdd, Nat.reduceSub, Nat.reduceLeDiff, Nat.zero_le, Int.toNat_natCast, Bool.or_false, Bool.or_true, Bool.or_self, Bool.false_or, Bool.true_or, decide_true, decide_false, Nat.zero_add, Nat.sub_self, Bool.true_eq_false, Bool.false_eq_true, if_true, if_false, ite_true, ite_false, true_and, and_true, addP_ii, subP_ii, mulP_ii, isiP_tup, isiP_lst, isiP_str, isiP_bl, isiP_int, isiP_tl, kd_non, kd_bl, kd_int, kd_str, kd_tup, kd_lst, isTup, isLst, isStr, isBl, isInt, eqP_ii, neP_ii, lenP_t, lenP_l, lenP_s, seqP_t, seqP_l, truP_b, ixP_t, ixP_l, slP_t, slP_l, tupleP_l, tupleP_t, addP_tt, modP_ii, divP_ii, exb, addLP_ll, min2_ii, max2_ii, exTup, exCons, exInt, iaddP_ii, leP_ii, gtP_ii, geP_ii, ltP_ii, intP_i, decide_eq_true_eq, Bool.not_eq_true', decide_eq_false_iff_not, Bool.not_true, Bool.not_false, List.cons_ne_nil, Nat.succ_ne_zero, reduceCtorEq]
  refine c_settings_of k ?_
  (try simp only [↓e_mVar, ↓e_mK, ↓e_mOp1, ↓e_mOp2, ↓e_aNil, ↓e_aCons, ↓e_mTup, ↓e_mLst, ↓e_mLstM, ↓e_mIf, ↓e_tTru, ↓e_tNt, ↓e_tAnd2, ↓e_tOr2, ↓e_tOp2, ↓e_mChain, ↓e_tChain', ↓e_mAnd, ↓e_mOr, ↓e_mFld, ↓e_sFldD, ↓e_mMeth, ↓e_mMake, ↓e_mRev, revP_l, ↓e_mAndT, ↓e_mOrT, truP_lc, ↓e_mNot, ↓e_mCall, ↓e_mBlt, ↓e_oNo, ↓e_oSo, ↓e_mSl, ↓e_sPass, ↓e_sBrk, ↓e_sCnt, ↓e_sNever, ↓e_sSeq, ↓e_sAsg, ↓e_gNm, ↓e_gTu, ↓e_gsNil, ↓e_gsCons, ↓e_gSb, ↓e_sPar, ↓e_sExp, ↓e_sRt, ↓e_sRtN, ↓e_sIf, ↓e_sAug, ↓e_sFor, ↓e_sWh, ↓e_mComp, ↓e_mCompM, ↓e_tYs, ↓e_mkFn, ↓e_mApp, ↓e_itSeq, ↓e_itScr, ↓e_itEnum, ↓e_itZip, ↓e_itZip3, ↓e_itR1, ↓e_itR2, ↓e_itR3, ↓e_mDic0, ↓e_mDic1, ↓e_sPar3, ↓e_mAddM, ↓e_aStar, ↓e_mMulM, ↓e_sRaise0, ↓e_sRaise1, ↓e_mErr, ↓e_mCallV, starP_t, starP_l, slot_0, slot_1, slot_2, slot_3, slot_4, slot_5, slot_6, slot_7, slot_8, slot_9, slot_10, slot_11, slot_12, slot_13, slot_14, slot_15, slot_16, slot_17, slot_18, slot_19, slot_20, slot_21, slot_22, slot_23, slot_24, slot_25, slot_26, slot_27, slot_28, slot_29, slot_30, negP_i, ex3, ex2, wipeE, List.map_cons, List.map_nil, List.cons_append, List.nil_append, List.append_nil, List.length_cons, List.length_nil, List.replicate_succ, List.replicate_zero, List.set_cons_zero, List.set_cons_succ, Oc_some, Nat.reduceAdd, Nat.reduceSub, Nat.reduceLeDiff, Nat.zero_le, Int.toNat_natCast, Bool.or_false, Bool.or_true, Bool.or_self, Bool.false_or, Bool.true_or, decide_true, decide_false, Nat.zero_add, Nat.sub_self, Bool.true_eq_false, Bool.false_eq_true, if_true, if_false, ite_true, ite_false, true_and, and_true, addP_ii, subP_ii, mulP_ii, isiP_tup, isiP_lst, isiP_str, isiP_bl, isiP_int, isiP_tl, kd_non, kd_bl, kd_int, kd_str, kd_tup, kd_lst, isTup, isLst, isStr, isBl, isInt, eqP_ii, neP_ii, lenP_t, lenP_l, lenP_s, seqP_t, seqP_l, truP_b, ixP_t, ixP_l, slP_t, slP_l, tupleP_l, tupleP_t, addP_tt, modP_ii, divP_ii, exb, addLP_ll, min2_ii, max2_ii, exTup, exCons, exInt, iaddP_ii, leP_ii, gtP_ii, geP_ii, ltP_ii, intP_i, decide_eq_true_eq, Bool.not_eq_true', decide_eq_false_iff_not, Bool.not_true, Bool.not_false, List.cons_ne_nil, Nat.succ_ne_zero, reduceCtorEq])
  refine c_is_word kdW_tI (by rw [setsP_length]; omega) ?_
  rw [g]
  (try simp only [↓e_mVar, ↓e_mK, ↓e_mOp1, ↓e_mOp2, ↓e_aNil, ↓e_aCons, ↓e_mTup, ↓e_mLst, ↓e_mLstM, ↓e_mIf, ↓e_tTru, ↓e_tNt, ↓e_tAnd2, ↓e_tOr2, ↓e_tOp2, ↓e_mChain, ↓e_tChain', ↓e_mAnd, ↓e_mOr, ↓e_mFld, ↓e_sFldD, ↓e_mMeth, ↓e_mMake, ↓e_mRev, revP_l, ↓e_mAndT, ↓e_mOrT, truP_lc, ↓e_mNot, ↓e_mCall, ↓e_mBlt, ↓e_oNo, ↓e_oSo, ↓e_mSl, ↓e_sPass, ↓e_sBrk, ↓e_sCnt, ↓e_sNever, ↓e_sSeq, ↓e_sAsg, ↓e_gNm, ↓e_gTu, ↓e_gsNil, ↓e_gsCons, ↓e_gSb, ↓e_sPar, ↓e_sExp, ↓e_sRt, ↓e_sRtN, ↓e_sIf, ↓e_sAug, ↓e_sFor, ↓e_sWh, ↓e_mComp, ↓e_mCompM, ↓e_tYs, ↓e_mkFn, ↓e_mApp, ↓e_itSeq, ↓e_itScr, ↓e_itEnum, ↓e_itZip, ↓e_itZip3, ↓e_itR1, ↓e_itR2, ↓e_itR3, ↓e_mDic0, ↓e_mDic1, ↓e_sPar3, ↓e_mAddM, ↓e_aStar, ↓e_mMulM, ↓e_sRaise0, ↓e_sRaise1, ↓e_mErr, ↓e_mCallV, starP_t, starP_l, slot_0, slot_1, slot_2, slot_3, slot_4, slot_5, slot_6, slot_7, slot_8, slot_9, slot_10, slot_11, slot_12, slot_13, slot_14, slot_15, slot_16, slot_17, slot_18, slot_19, slot_20, slot_21, slot_22, slot_23, slot_24, slot_25, slot_26, slot_27, slot_28, slot_29, slot_30, negP_i, ex3, ex2, wipeE, List.map_cons, List.map_nil, List.cons_append, List.nil_append, List.append_nil, List.length_cons, List.length_nil, List.replicate_succ, List.replicate_zero, List.set_cons_zero, List.set_cons_succ, Oc_some, Nat.reduceAdd, Nat.reduceSub, Nat.reduceLeDiff, Nat.zero_le, Int.toNat_natCast, Bool.or_false, Bool.or_true, Bool.or_self, Bool.false_or, Bool.true_or, decide_true, decide_false, Nat.zero_add, Nat.sub_self, Bool.true_eq_false, Bool.false_eq_true, if_true, if_false, ite_true, ite_false, true_and, and_true, addP_ii, subP_ii, mulP_ii, isiP_tup, isiP_lst, isiP_str, isiP_bl, isiP_int, isiP_tl, kd_non, kd_bl, kd_int, kd_str, kd_tup, kd_lst, isTup, isLst, isStr, isBl, isInt, eqP_ii, neP_ii, lenP_t, lenP_l, lenP_s, seqP_t, seqP_l, truP_b, ixP_t, ixP_l, slP_t, slP_l, tupleP_l, tupleP_t, addP_tt, modP_ii, divP_ii, exb, addLP_ll, min2_ii, max2_ii, exTup, exCons, exInt, iaddP_ii, leP_ii, gtP_ii, geP_ii, ltP_ii, intP_i, decide_eq_true_eq, Bool.not_eq_true', decide_eq_false_iff_not, Bool.not_true, Bool.not_false, List.cons_ne_nil, Nat.succ_ne_zero, reduceCtorEq])
  exact .of q
/-! ### steps -/
def stepsAt (st : List Int) (i : Nat) (l : List (List Int)) : List (List Int) :=
  (if 0 < st.getD i 0 ∧ l.getD (st.getD i 0 - 1).toNat [] = st.take i then [[(i : Int), st.getD i 0 - 1]] else []) ++
  (if st.getD i 0 < l.length ∧ l.getD (st.getD i 0).toNat [] = st.take i then [[(i : Int), st.getD i 0 + 1]] else [])
def stepsUp (p : List (List (List Int))) (st : List Int) : Nat → List (List Int)
  | 0 => []
  | k + 1 => stepsUp p st k ++ stepsAt st k (p.getD k [])
def stepsOf (p : List (List (List Int))) (st : List Int) : List (List Int) := stepsUp p st p.length
theorem getD_some {α : Type} {l : List α} {i : Nat} {x d : α} (h : l[i]? = some x) : l.getD i d = x := by
  rw [List.getD_eq_getElem?_getD, h]; rfl
end L2.Lmp

set_option maxHeartbeats 4000000
namespace L2.Lmp
open PySem PySem.Spec PyProof.Rows
/-! ### the steps are ascending pairs -/
def afterS (st : List Int) (i : Nat) (s : Int) : List Int := st.take i ++ [s] ++ st.drop (i + 1)
def afterM (st : List Int) (m : List Int) : List Int := afterS st (m.getD 0 0).toNat (m.getD 1 0)
variable {p : List (List (List Int))} {st : List Int}
/-! ### the law's own draws -/
theorem prodI_snoc : ∀ {l : List Int} {x : Int}, prodI (l ++ [x]) = prodI l * x
  | [], x => by simp [prodI]
  | y :: l, x => by
    show y * prodI (l ++ [x]) = y * prodI l * x
    rw [prodI_snoc, Int.mul_assoc]
theorem prodI_ge : ∀ {l : List Int}, (∀ s ∈ l, 2 ≤ s ∧ s ≤ 4) → (2 : Int) ^ l.length ≤ prodI l
  | [], _ => by decide
  | y :: l, h => by
    have a := prodI_ge (l := l) fun s m => h s (List.mem_cons_of_mem _ m)
    obtain ⟨b, _⟩ := h y List.mem_cons_self
    show (2 : Int) ^ (l.length + 1) ≤ y * prodI l
    rw [Int.pow_succ, Int.mul_comm]
    have c : (0 : Int) ≤ 2 ^ l.length := Int.pow_nonneg (by decide)
    exact Int.mul_le_mul b a c (by omega)
theorem c_law_product_r {ns : List Int} {a : Addr} {h : DH} {E : EK} {Q : DK} (e : h a = some (.lst (ns.map D.int))) (bd : ∀ x ∈ ns, 0 ≤ x ∧ x ≤ 4) (hl : ns.length ≤ 1000) (q : Q (.int (prodI ns)) h) : F_law_product [.ref a] h E Q := by
  simp only [↓e_law_product, ↓e_mVar, ↓e_mK, ↓e_mOp1, ↓e_mOp2, ↓e_aNil, ↓e_aCons, ↓e_mTup, ↓e_mLst, ↓e_mLstM, ↓e_mIf, ↓e_tTru, ↓e_tNt, ↓e_tAnd2, ↓e_tOr2, ↓e_tOp2, ↓e_mChain, ↓e_tChain', ↓e_mAnd, ↓e_mOr, ↓e_mFld, ↓e_sFldD, ↓e_mMeth, ↓e_mMake, ↓e_mRev, revP_l, ↓e_mAndT, ↓e_mOrT, truP_lc, ↓e_mNot, ↓e_mCall, ↓e_mBlt, ↓e_oNo, ↓e_oSo, ↓e_mSl, ↓e_sPass, ↓e_sBrk, ↓e_sCnt, ↓e_sNever, ↓e_sSeq, ↓e_sAsg, ↓e_gNm, ↓e_gTu, ↓e_gsNil, ↓e_gsCons, ↓e_gSb, ↓e_sPar, ↓e_sExp, ↓e_sRt, ↓e_sRtN, ↓e_sIf, ↓e_sAug, ↓e_sFor, ↓e_sWh, ↓e_mComp, ↓e_mCompM, ↓e_tYs, ↓e_mkFn, ↓e_mApp, ↓e_itSeq, ↓e_itScr, ↓e_itEnum, ↓e_itZip, ↓e_itZip3, ↓e_itR1, ↓e_itR2, ↓e_itR3, ↓e_mDic0, ↓e_mDic1, ↓e_sPar3, ↓e_mAddM, ↓e_aStar, ↓e_mMulM, ↓e_sRaise0, ↓e_sRaise1, ↓e_mErr, ↓e_mCallV, starP_t, starP_l, slot_0, slot_1, slot_2, slot_3, slot_4, slot_5, slot_6, slot_7, slot_8, slot_9, slot_10, slot_11, slot_12, slot_13, slot_14, slot_15, slot_16, slot_17, slot_18, slot_19, slot_20, slot_21, slot_22, slot_23, slot_24, slot_25, slot_26, slot_27, slot_28, slot_29, slot_30, negP_i, ex3, ex2, wipeE, List.map_cons, List.map_nil, List.cons_append, List.nil_append, List.append_nil, List.length_cons, List.length_nil, List.replicate_succ, List.replicate_zero, List.set_cons_zero, List.set_cons_succ, Oc_some, Nat.reduceAdd, Nat.reduceSub, Nat.reduceLeDiff, Nat.zero_le, Int.toNat_natCast, Bool.or_false, Bool.or_true, Bool.or_self, Bool.false_or, Bool.true_or, decide_true, decide_false, Nat.zero_add, Nat.sub_self, Bool.true_eq_false, Bool.false_eq_true, if_true, if_false, ite_true, ite_false, true_and, and_true, addP_ii, subP_ii, mulP_ii, isiP_tup, isiP_lst, isiP_str, isiP_bl, isiP_int, isiP_tl, kd_non, kd_bl, kd_int, kd_str, kd_tup, kd_lst, isTup, isLst, isStr, isBl, isInt, eqP_ii, neP_ii, lenP_t, lenP_l, lenP_s, seqP_t, seqP_l, truP_b, ixP_t, ixP_l, slP_t, slP_l, tupleP_l, tupleP_t, addP_tt, modP_ii, divP_ii, exb, addLP_ll, min2_ii, max2_ii, exTup, exCons, exInt, iaddP_ii, leP_ii, gtP_ii, geP_ii, ltP_ii, intP_i, decide_eq_true_eq, Bool.not_eq_true', decide_eq_false_iff_not, Bool.not_true, Bool.not_false, List.cons_ne_nil, Nat.succ_ne_zero, reduceCtorEq, seqP_r e]
  refine prod_loop rfl bd hl e fun a => ?_
  simp only [↓e_mVar, ↓e_mK, ↓e_mOp1, ↓e_mOp2, ↓e_aNil, ↓e_aCons, ↓e_mTup, ↓e_mLst, ↓e_mLstM, ↓e_mIf, ↓e_tTru, ↓e_tNt, ↓e_tAnd2, ↓e_tOr2, ↓e_tOp2, ↓e_mChain, ↓e_tChain', ↓e_mAnd, ↓e_mOr, ↓e_mFld, ↓e_sFldD, ↓e_mMeth, ↓e_mMake, ↓e_mRev, revP_l, ↓e_mAndT, ↓e_mOrT, truP_lc, ↓e_mNot, ↓e_mCall, ↓e_mBlt, ↓e_oNo, ↓e_oSo, ↓e_mSl, ↓e_sPass, ↓e_sBrk, ↓e_sCnt, ↓e_sNever, ↓e_sSeq, ↓e_sAsg, ↓e_gNm, ↓e_gTu, ↓e_gsNil, ↓e_gsCons, ↓e_gSb, ↓e_sPar, ↓e_sExp, ↓e_sRt, ↓e_sRtN, ↓e_sIf, ↓e_sAug, ↓e_sFor, ↓e_sWh, ↓e_mComp, ↓e_mCompM, ↓e_tYs, ↓e_mkFn, ↓e_mApp, ↓e_itSeq, ↓e_itScr, ↓e_itEnum, ↓e_itZip, ↓e_itZip3, ↓e_itR1, ↓e_itR2, ↓e_itR3, ↓e_mDic0, ↓e_mDic1, ↓e_sPar3, ↓e_mAddM, ↓e_aStar, ↓e_mMulM, ↓e_sRaise0, ↓e_sRaise1, ↓e_mErr, ↓e_mCallV, starP_t, starP_l, slot_0, slot_1, slot_2, slot_3, slot_4, slot_5, slot_6, slot_7, slot_8, slot_9, slot_10, slot_11, slot_12, slot_13, slot_14, slot_15, slot_16, slot_17, slot_18, slot_19, slot_20, slot_21, slot_22, slot_23, slot_24, slot_25, slot_26, slot_27, slot_28, slot_29, slot_30, negP_i, ex3, ex2, wipeE, List.map_cons, List.map_nil, List.cons_append, List.nil_append, List.append_nil, List.length_cons, List.length_nil, List.replicate_succ, List.replicate_zero, List.set_cons_zero, List.set_cons_succ, Oc_some, Nat.reduceAdd, Nat.reduceSub, Nat.reduceLeDiff, Nat.zero_le, Int.toNat_natCast, Bool.or_false, Bool.or_true, Bool.or_self, Bool.false_or, Bool.true_or, decide_true, decide_false, Nat.zero_add, Nat.sub_self, Bool.true_eq_false, Bool.false_eq_true, if_true, if_false, ite_true, ite_false, true_and, and_true, addP_ii, subP_ii, mulP_ii, isiP_tup, isiP_lst, isiP_str, isiP_bl, isiP_int, isiP_tl, kd_non, kd_bl, kd_int, kd_str, kd_tup, kd_lst, isTup, isLst, isStr, isBl, isInt, eqP_ii, neP_ii, lenP_t, lenP_l, lenP_s, seqP_t, seqP_l, truP_b, ixP_t, ixP_l, slP_t, slP_l, tupleP_l, tupleP_t, addP_tt, modP_ii, divP_ii, exb, addLP_ll, min2_ii, max2_ii, exTup, exCons, exInt, iaddP_ii, leP_ii, gtP_ii, geP_ii, ltP_ii, intP_i, decide_eq_true_eq, Bool.not_eq_true', decide_eq_false_iff_not, Bool.not_true, Bool.not_false, List.cons_ne_nil, Nat.succ_ne_zero, reduceCtorEq]
  exact .of q
end L2.Lmp

set_option maxHeartbeats 4000000
namespace L2.Lmp
open PySem PySem.Spec PyProof.Rows
theorem pow2_gt : ∀ n : Nat, (n : Int) < 2 ^ n
  | 0 => by decide
  | n + 1 => by
    have := pow2_gt n
    rw [Int.pow_succ]
    omega
theorem pick4 {P : D → Prop} (h : ∀ s : Int, 2 ≤ s → s ≤ 4 → P (.int s)) : ∀ x ∈ [D.int 2, .int 2, .int 3, .int 4], P x := fun x mx => by
  simp only [List.mem_cons, List.not_mem_nil, or_false] at mx
  rcases mx with rfl | rfl | rfl | rfl <;> exact h _ (by decide) (by decide)
theorem c_law_settings {ns : List Int} {o : O} {a : Addr} {most : Int} {h : DH} {E : EK} {Q : DK} (ro : RowO ns o) (m4 : 4 ≤ most) (m5 : most ≤ 900)
    (q : ∀ ss o', (∀ s ∈ ss, 2 ≤ s ∧ s ≤ (4 : Int)) → 1 ≤ ss.length → prodI ss ≤ most → RowO ns o' → Q (tI ss) (upO h a o')) : F_law_settings [.ref a, .int most] (upO h a o) E Q := by
  simp only [↓e_law_settings, ↓e_mVar, ↓e_mK, ↓e_mOp1, ↓e_mOp2, ↓e_aNil, ↓e_aCons, ↓e_mTup, ↓e_mLst, ↓e_mLstM, ↓e_mIf, ↓e_tTru, ↓e_tNt, ↓e_tAnd2, ↓e_tOr2, ↓e_tOp2, ↓e_mChain, ↓e_tChain', ↓e_mAnd, ↓e_mOr, ↓e_mFld, ↓e_sFldD, ↓e_mMeth, ↓e_mMake, ↓e_mRev, revP_l, ↓e_mAndT, ↓e_mOrT, truP_lc, ↓e_mNot, ↓e_mCall, ↓e_mBlt, ↓e_oNo, ↓e_oSo, ↓e_mSl, ↓e_sPass, ↓e_sBrk, ↓e_sCnt, ↓e_sNever, ↓e_sSeq, ↓e_sAsg, ↓e_gNm, ↓e_gTu, ↓e_gsNil, ↓e_gsCons, ↓e_gSb, ↓e_sPar, ↓e_sExp, ↓e_sRt, ↓e_sRtN, ↓e_sIf, ↓e_sAug, ↓e_sFor, ↓e_sWh, ↓e_mComp, ↓e_mCompM, ↓e_tYs, ↓e_mkFn, ↓e_mApp, ↓e_itSeq, ↓e_itScr, ↓e_itEnum, ↓e_itZip, ↓e_itZip3, ↓e_itR1, ↓e_itR2, ↓e_itR3, ↓e_mDic0, ↓e_mDic1, ↓e_sPar3, ↓e_mAddM, ↓e_aStar, ↓e_mMulM, ↓e_sRaise0, ↓e_sRaise1, ↓e_mErr, ↓e_mCallV, starP_t, starP_l, slot_0, slot_1, slot_2, slot_3, slot_4, slot_5, slot_6, slot_7, slot_8, slot_9, slot_10, slot_11, slot_12, slot_13, slot_14, slot_15, slot_16, slot_17, slot_18, slot_19, slot_20, slot_21, slot_22, slot_23, slot_24, slot_25, slot_26, slot_27, slot_28, slot_29, slot_30, negP_i, ex3, ex2, wipeE, List.map_cons, List.map_nil, List.cons_append, List.nil_append, List.append_nil, List.length_cons, List.length_nil, List.replicate_succ, List.replicate_zero, List.set_cons_zero, List.set_cons_succ, Oc_some, Nat.reduceAdd, Nat.reduceSub, Nat.reduceLeDiff, Nat.zero_le, Int.toNat_natCast, Bool.or_false, Bool.or_true, Bool.or_self, Bool.false_or, Bool.true_or, decide_true, decide_false, Nat.zero_add, Nat.sub_self, Bool.true_eq_false, Bool.false_eq_true, if_true, if_false, ite_true, ite_false, true_and, and_true, addP_ii, subP_ii, mulP_ii, isiP_tup, isiP_lst, isiP_str, isiP_bl, isiP_int, isiP_tl, kd_non, kd_bl, kd_int, kd_str, kd_tup, kd_lst, isTup, isLst, isStr, isBl, isInt, eqP_ii, neP_ii, lenP_t, lenP_l, lenP_s, seqP_t, seqP_l, truP_b, ixP_t, ixP_l, slP_t, slP_l, tupleP_l, tupleP_t, addP_tt, modP_ii, divP_ii, exb, addLP_ll, min2_ii, max2_ii, exTup, exCons, exInt, iaddP_ii, leP_ii, gtP_ii, geP_ii, ltP_ii, intP_i, decide_eq_true_eq, Bool.not_eq_true', decide_eq_false_iff_not, Bool.not_true, Bool.not_false, List.cons_ne_nil, Nat.succ_ne_zero, reduceCtorEq]
  refine c_taken ro (by decide) (by decide) fun r o1 r0 r3 ro1 => ?_
  (try simp only [↓e_mVar, ↓e_mK, ↓e_mOp1, ↓e_mOp2, ↓e_aNil, ↓e_aCons, ↓e_mTup, ↓e_mLst, ↓e_mLstM, ↓e_mIf, ↓e_tTru, ↓e_tNt, ↓e_tAnd2, ↓e_tOr2, ↓e_tOp2, ↓e_mChain, ↓e_tChain', ↓e_mAnd, ↓e_mOr, ↓e_mFld, ↓e_sFldD, ↓e_mMeth, ↓e_mMake, ↓e_mRev, revP_l, ↓e_mAndT, ↓e_mOrT, truP_lc, ↓e_mNot, ↓e_mCall, ↓e_mBlt, ↓e_oNo, ↓e_oSo, ↓e_mSl, ↓e_sPass, ↓e_sBrk, ↓e_sCnt, ↓e_sNever, ↓e_sSeq, ↓e_sAsg, ↓e_gNm, ↓e_gTu, ↓e_gsNil, ↓e_gsCons, ↓e_gSb, ↓e_sPar, ↓e_sExp, ↓e_sRt, ↓e_sRtN, ↓e_sIf, ↓e_sAug, ↓e_sFor, ↓e_sWh, ↓e_mComp, ↓e_mCompM, ↓e_tYs, ↓e_mkFn, ↓e_mApp, ↓e_itSeq, ↓e_itScr, ↓e_itEnum, ↓e_itZip, ↓e_itZip3, ↓e_itR1, ↓e_itR2, ↓e_itR3, ↓e_mDic0, ↓e_mDic1, ↓e_sPar3, ↓e_mAddM, ↓e_aStar, ↓e_mMulM, ↓e_sRaise0, ↓e_sRaise1, ↓e_mErr, ↓e_mCallV, starP_t, starP_l, slot_0, slot_1, slot_2, slot_3, slot_4, slot_5, slot_6, slot_7, slot_8, slot_9, slot_10, slot_11, slot_12, slot_13, slot_14, slot_15, slot_16, slot_17, slot_18, slot_19, slot_20, slot_21, slot_22, slot_23, slot_24, slot_25, slot_26, slot_27, slot_28, slot_29, slot_30, negP_i, ex3, ex2, wipeE, List.map_cons, List.map_nil, List.cons_append, List.nil_append, List.append_nil, List.length_cons, List.length_nil, List.replicate_succ, List.replicate_zero, List.set_cons_zero, List.set_cons_succ, Oc_some, Nat.reduceAdd, Nat.reduceSub, Nat.reduceLeDiff, Nat.zero_le, Int.toNat_natCast, Bool.or_false, Bool.or_true, Bool.or_self, Bool.false_or, Bool.true_or, decide_true, decide_false, Nat.zero_add, Nat.sub_self, Bool.true_eq_false, Bool.false_eq_true, if_true, if_false, ite_true, ite_false, true_and, and_true, addP_ii, subP_ii, mulP_ii, isiP_tup, isiP_lst, isiP_str, isiP_bl, isiP_int, isiP_tl, kd_non, kd_bl, kd_int, kd_str, kd_tup, kd_lst, isTup, isLst, isStr, isBl, isInt, eqP_ii, neP_ii, lenP_t, lenP_l, lenP_s, seqP_t, seqP_l, truP_b, ixP_t, ixP_l, slP_t, slP_l, tupleP_l, tupleP_t, addP_tt, modP_ii, divP_ii, exb, addLP_ll, min2_ii, max2_ii, exTup, exCons, exInt, iaddP_ii, leP_ii, gtP_ii, geP_ii, ltP_ii, intP_i, decide_eq_true_eq, Bool.not_eq_true', decide_eq_false_iff_not, Bool.not_true, Bool.not_false, List.cons_ne_nil, Nat.succ_ne_zero, reduceCtorEq])
  intro p hp
  have pa : p ≠ a := by rintro rfl; rw [upO_same] at hp; cases hp
  have hp0 : h p = none := by rw [upO_ne pa] at hp; exact hp
  rw [upO_comm (Ne.symm pa)]
  refine wh_ind (fun n e h' => ∃ o' ss x3, RowO ns o' ∧ (∀ s ∈ ss, 2 ≤ s ∧ s ≤ (4 : Int)) ∧ 1 ≤ ss.length ∧ prodI ss ≤ most ∧ n = most.toNat + 1 - ss.length ∧ h' = upO (upO h p (.lst (ss.map D.int))) a o' ∧ e = [some (.ref a), some (.int most), some (.ref p), x3])
    (n := most.toNat) ⟨o1, [2 + r], none, ro1, fun s m => by rw [List.mem_singleton.mp m]; omega, by simp, by simp [prodI]; omega, by simp, rfl, rfl⟩ ?_
  rintro n e h' K ⟨o', ss, x3, ro', hs, l1, pm, rfl, rfl, rfl⟩ hK
  have hge := prodI_ge hs
  have hlt := pow2_gt ss.length
  have pr : (upO (upO h p (.lst (ss.map D.int))) a o') p = some (.lst (ss.map D.int)) := by rw [upO_ne pa, upO_same]
  have bd : ∀ x ∈ ss, 0 ≤ x ∧ x ≤ 4 := fun x m => by have := hs x m; omega
  obtain ⟨p0, p4⟩ := prodI_le ss bd
  have ret : ∀ (o' : O), RowO ns o' → tupleP (upO (upO h p (.lst (ss.map D.int))) a o') [.ref p] fun z => Ret z (upO (upO h p (.lst (ss.map D.int))) a o') Q := fun o' ro' => by
    have pr : (upO (upO h p (.lst (ss.map D.int))) a o') p = some (.lst (ss.map D.int)) := by rw [upO_ne pa, upO_same]
    rw [tupleP_r pr]
    exact .le (Le.upUp (Le.up hp0)) (q ss o' hs l1 pm ro')
  simp only [↓e_mVar, ↓e_mK, ↓e_mOp1, ↓e_mOp2, ↓e_aNil, ↓e_aCons, ↓e_mTup, ↓e_mLst, ↓e_mLstM, ↓e_mIf, ↓e_tTru, ↓e_tNt, ↓e_tAnd2, ↓e_tOr2, ↓e_tOp2, ↓e_mChain, ↓e_tChain', ↓e_mAnd, ↓e_mOr, ↓e_mFld, ↓e_sFldD, ↓e_mMeth, ↓e_mMake, ↓e_mRev, revP_l, ↓e_mAndT, ↓e_mOrT, truP_lc, ↓e_mNot, ↓e_mCall, ↓e_mBlt, ↓e_oNo, ↓e_oSo, ↓e_mSl, ↓e_sPass, ↓e_sBrk, ↓e_sCnt, ↓e_sNever, ↓e_sSeq, ↓e_sAsg, ↓e_gNm, ↓e_gTu, ↓e_gsNil, ↓e_gsCons, ↓e_gSb, ↓e_sPar, ↓e_sExp, ↓e_sRt, ↓e_sRtN, ↓e_sIf, ↓e_sAug, ↓e_sFor, ↓e_sWh, ↓e_mComp, ↓e_mCompM, ↓e_tYs, ↓e_mkFn, ↓e_mApp, ↓e_itSeq, ↓e_itScr, ↓e_itEnum, ↓e_itZip, ↓e_itZip3, ↓e_itR1, ↓e_itR2, ↓e_itR3, ↓e_mDic0, ↓e_mDic1, ↓e_sPar3, ↓e_mAddM, ↓e_aStar, ↓e_mMulM, ↓e_sRaise0, ↓e_sRaise1, ↓e_mErr, ↓e_mCallV, starP_t, starP_l, slot_0, slot_1, slot_2, slot_3, slot_4, slot_5, slot_6, slot_7, slot_8, slot_9, slot_10, slot_11, slot_12, slot_13, slot_14, slot_15, slot_16, slot_17, slot_18, slot_19, slot_20, slot_21, slot_22, slot_23, slot_24, slot_25, slot_26, slot_27, slot_28, slot_29, slot_30, negP_i, ex3, ex2, wipeE, List.map_cons, List.map_nil, List.cons_append, List.nil_append, List.append_nil, List.length_cons, List.length_nil, List.replicate_succ, List.replicate_zero, List.set_cons_zero, List.set_cons_succ, Oc_some, Nat.reduceAdd, Nat.reduceSub, Nat.reduceLeDiff, Nat.zero_le, Int.toNat_natCast, Bool.or_false, Bool.or_true, Bool.or_self, Bool.false_or, Bool.true_or, decide_true, decide_false, Nat.zero_add, Nat.sub_self, Bool.true_eq_false, Bool.false_eq_true, if_true, if_false, ite_true, ite_false, true_and, and_true, addP_ii, subP_ii, mulP_ii, isiP_tup, isiP_lst, isiP_str, isiP_bl, isiP_int, isiP_tl, kd_non, kd_bl, kd_int, kd_str, kd_tup, kd_lst, isTup, isLst, isStr, isBl, isInt, eqP_ii, neP_ii, lenP_t, lenP_l, lenP_s, seqP_t, seqP_l, truP_b, ixP_t, ixP_l, slP_t, slP_l, tupleP_l, tupleP_t, addP_tt, modP_ii, divP_ii, exb, addLP_ll, min2_ii, max2_ii, exTup, exCons, exInt, iaddP_ii, leP_ii, gtP_ii, geP_ii, ltP_ii, intP_i, decide_eq_true_eq, Bool.not_eq_true', decide_eq_false_iff_not, Bool.not_true, Bool.not_false, List.cons_ne_nil, Nat.succ_ne_zero, reduceCtorEq]
  refine c_law_pick (b := false) ro' (by decide) (by decide) fun x o2 mx ro2 => ?_
  revert x
  refine pick4 fun s s2 s4 => ?_
  (try simp only [↓e_mVar, ↓e_mK, ↓e_mOp1, ↓e_mOp2, ↓e_aNil, ↓e_aCons, ↓e_mTup, ↓e_mLst, ↓e_mLstM, ↓e_mIf, ↓e_tTru, ↓e_tNt, ↓e_tAnd2, ↓e_tOr2, ↓e_tOp2, ↓e_mChain, ↓e_tChain', ↓e_mAnd, ↓e_mOr, ↓e_mFld, ↓e_sFldD, ↓e_mMeth, ↓e_mMake, ↓e_mRev, revP_l, ↓e_mAndT, ↓e_mOrT, truP_lc, ↓e_mNot, ↓e_mCall, ↓e_mBlt, ↓e_oNo, ↓e_oSo, ↓e_mSl, ↓e_sPass, ↓e_sBrk, ↓e_sCnt, ↓e_sNever, ↓e_sSeq, ↓e_sAsg, ↓e_gNm, ↓e_gTu, ↓e_gsNil, ↓e_gsCons, ↓e_gSb, ↓e_sPar, ↓e_sExp, ↓e_sRt, ↓e_sRtN, ↓e_sIf, ↓e_sAug, ↓e_sFor, ↓e_sWh, ↓e_mComp, ↓e_mCompM, ↓e_tYs, ↓e_mkFn, ↓e_mApp, ↓e_itSeq, ↓e_itScr, ↓e_itEnum, ↓e_itZip, ↓e_itZip3, ↓e_itR1, ↓e_itR2, ↓e_itR3, ↓e_mDic0, ↓e_mDic1, ↓e_sPar3, ↓e_mAddM, ↓e_aStar, ↓e_mMulM, ↓e_sRaise0, ↓e_sRaise1, ↓e_mErr, ↓e_mCallV, starP_t, starP_l, slot_0, slot_1, slot_2, slot_3, slot_4, slot_5, slot_6, slot_7, slot_8, slot_9, slot_10, slot_11, slot_12, slot_13, slot_14, slot_15, slot_16, slot_17, slot_18, slot_19, slot_20, slot_21, slot_22, slot_23, slot_24, slot_25, slot_26, slot_27, slot_28, slot_29, slot_30, negP_i, ex3, ex2, wipeE, List.map_cons, List.map_nil, List.cons_append, List.nil_append, List.append_nil, List.length_cons, List.length_nil, List.replicate_succ, List.replicate_zero, List.set_cons_zero, List.set_cons_succ, Oc_some, Nat.reduceAdd, Nat.reduceSub, Nat.reduceLeDiff, Nat.zero_le, Int.toNat_natCast, Bool.or_false, Bool.or_true, Bool.or_self, Bool.false_or, Bool.true_or, decide_true, decide_false, Nat.zero_add, Nat.sub_self, Bool.true_eq_false, Bool.false_eq_true, if_true, if_false, ite_true, ite_false, true_and, and_true, addP_ii, subP_ii, mulP_ii, isiP_tup, isiP_lst, isiP_str, isiP_bl, isiP_int, isiP_tl, kd_non, kd_bl, kd_int, kd_str, kd_tup, kd_lst, isTup, isLst, isStr, isBl, isInt, eqP_ii, neP_ii, lenP_t, lenP_l, lenP_s, seqP_t, seqP_l, truP_b, ixP_t, ixP_l, slP_t, slP_l, tupleP_l, tupleP_t, addP_tt, modP_ii, divP_ii, exb, addLP_ll, min2_ii, max2_ii, exTup, exCons, exInt, iaddP_ii, leP_ii, gtP_ii, geP_ii, ltP_ii, intP_i, decide_eq_true_eq, Bool.not_eq_true', decide_eq_false_iff_not, Bool.not_true, Bool.not_false, List.cons_ne_nil, Nat.succ_ne_zero, reduceCtorEq])
  have pr2 : (upO (upO h p (.lst (ss.map D.int))) a o2) p = some (.lst (ss.map D.int)) := by rw [upO_ne pa, upO_same]
  refine c_law_product_r pr2 bd (by omega) ?_
  (try simp only [↓e_mVar, ↓e_mK, ↓e_mOp1, ↓e_mOp2, ↓e_aNil, ↓e_aCons, ↓e_mTup, ↓e_mLst, ↓e_mLstM, ↓e_mIf, ↓e_tTru, ↓e_tNt, ↓e_tAnd2, ↓e_tOr2, ↓e_tOp2, ↓e_mChain, ↓e_tChain', ↓e_mAnd, ↓e_mOr, ↓e_mFld, ↓e_sFldD, ↓e_mMeth, ↓e_mMake, ↓e_mRev, revP_l, ↓e_mAndT, ↓e_mOrT, truP_lc, ↓e_mNot, ↓e_mCall, ↓e_mBlt, ↓e_oNo, ↓e_oSo, ↓e_mSl, ↓e_sPass, ↓e_sBrk, ↓e_sCnt, ↓e_sNever, ↓e_sSeq, ↓e_sAsg, ↓e_gNm, ↓e_gTu, ↓e_gsNil, ↓e_gsCons, ↓e_gSb, ↓e_sPar, ↓e_sExp, ↓e_sRt, ↓e_sRtN, ↓e_sIf, ↓e_sAug, ↓e_sFor, ↓e_sWh, ↓e_mComp, ↓e_mCompM, ↓e_tYs, ↓e_mkFn, ↓e_mApp, ↓e_itSeq, ↓e_itScr, ↓e_itEnum, ↓e_itZip, ↓e_itZip3, ↓e_itR1, ↓e_itR2, ↓e_itR3, ↓e_mDic0, ↓e_mDic1, ↓e_sPar3, ↓e_mAddM, ↓e_aStar, ↓e_mMulM, ↓e_sRaise0, ↓e_sRaise1, ↓e_mErr, ↓e_mCallV, starP_t, starP_l, slot_0, slot_1, slot_2, slot_3, slot_4, slot_5, slot_6, slot_7, slot_8, slot_9, slot_10, slot_11, slot_12, slot_13, slot_14, slot_15, slot_16, slot_17, slot_18, slot_19, slot_20, slot_21, slot_22, slot_23, slot_24, slot_25, slot_26, slot_27, slot_28, slot_29, slot_30, negP_i, ex3, ex2, wipeE, List.map_cons, List.map_nil, List.cons_append, List.nil_append, List.append_nil, List.length_cons, List.length_nil, List.replicate_succ, List.replicate_zero, List.set_cons_zero, List.set_cons_succ, Oc_some, Nat.reduceAdd, Nat.reduceSub, Nat.reduceLeDiff, Nat.zero_le, Int.toNat_natCast, Bool.or_false, Bool.or_true, Bool.or_self, Bool.false_or, Bool.true_or, decide_true, decide_false, Nat.zero_add, Nat.sub_self, Bool.true_eq_false, Bool.false_eq_true, if_true, if_false, ite_true, ite_false, true_and, and_true, addP_ii, subP_ii, mulP_ii, isiP_tup, isiP_lst, isiP_str, isiP_bl, isiP_int, isiP_tl, kd_non, kd_bl, kd_int, kd_str, kd_tup, kd_lst, isTup, isLst, isStr, isBl, isInt, eqP_ii, neP_ii, lenP_t, lenP_l, lenP_s, seqP_t, seqP_l, truP_b, ixP_t, ixP_l, slP_t, slP_l, tupleP_l, tupleP_t, addP_tt, modP_ii, divP_ii, exb, addLP_ll, min2_ii, max2_ii, exTup, exCons, exInt, iaddP_ii, leP_ii, gtP_ii, geP_ii, ltP_ii, intP_i, decide_eq_true_eq, Bool.not_eq_true', decide_eq_false_iff_not, Bool.not_true, Bool.not_false, List.cons_ne_nil, Nat.succ_ne_zero, reduceCtorEq])
  refine ⟨⟨small_of (i := 5) p0 (by omega) (by decide), by omega⟩, ?_⟩
  by_cases c1 : most < prodI ss * s
  · rw [if_pos c1]
    exact ret o2 ro2
  · rw [if_neg c1]
    refine c_taken ro2 (by decide) (by decide) fun r o3 r0 r6 ro3 => ?_
    (try simp only [↓e_mVar, ↓e_mK, ↓e_mOp1, ↓e_mOp2, ↓e_aNil, ↓e_aCons, ↓e_mTup, ↓e_mLst, ↓e_mLstM, ↓e_mIf, ↓e_tTru, ↓e_tNt, ↓e_tAnd2, ↓e_tOr2, ↓e_tOp2, ↓e_mChain, ↓e_tChain', ↓e_mAnd, ↓e_mOr, ↓e_mFld, ↓e_sFldD, ↓e_mMeth, ↓e_mMake, ↓e_mRev, revP_l, ↓e_mAndT, ↓e_mOrT, truP_lc, ↓e_mNot, ↓e_mCall, ↓e_mBlt, ↓e_oNo, ↓e_oSo, ↓e_mSl, ↓e_sPass, ↓e_sBrk, ↓e_sCnt, ↓e_sNever, ↓e_sSeq, ↓e_sAsg, ↓e_gNm, ↓e_gTu, ↓e_gsNil, ↓e_gsCons, ↓e_gSb, ↓e_sPar, ↓e_sExp, ↓e_sRt, ↓e_sRtN, ↓e_sIf, ↓e_sAug, ↓e_sFor, ↓e_sWh, ↓e_mComp, ↓e_mCompM, ↓e_tYs, ↓e_mkFn, ↓e_mApp, ↓e_itSeq, ↓e_itScr, ↓e_itEnum, ↓e_itZip, ↓e_itZip3, ↓e_itR1, ↓e_itR2, ↓e_itR3, ↓e_mDic0, ↓e_mDic1, ↓e_sPar3, ↓e_mAddM, ↓e_aStar, ↓e_mMulM, ↓e_sRaise0, ↓e_sRaise1, ↓e_mErr, ↓e_mCallV, starP_t, starP_l, slot_0, slot_1, slot_2, slot_3, slot_4, slot_5, slot_6, slot_7, slot_8, slot_9, slot_10, slot_11, slot_12, slot_13, slot_14, slot_15, slot_16, slot_17, slot_18, slot_19, slot_20, slot_21, slot_22, slot_23, slot_24, slot_25, slot_26, slot_27, slot_28, slot_29, slot_30, negP_i, ex3, ex2, wipeE, List.map_cons, List.map_nil, List.cons_append, List.nil_append, List.append_nil, List.length_cons, List.length_nil, List.replicate_succ, List.replicate_zero, List.set_cons_zero, List.set_cons_succ, Oc_some, Nat.reduceAdd, Nat.reduceSub, Nat.reduceLeDiff, Nat.zero_le, Int.toNat_natCast, Bool.or_false, Bool.or_true, Bool.or_self, Bool.false_or, Bool.true_or, decide_true, decide_false, Nat.zero_add, Nat.sub_self, Bool.true_eq_false, Bool.false_eq_true, if_true, if_false, ite_true, ite_false, true_and, and_true, addP_ii, subP_ii, mulP_ii, isiP_tup, isiP_lst, isiP_str, isiP_bl, isiP_int, isiP_tl, kd_non, kd_bl, kd_int, kd_str, kd_tup, kd_lst, isTup, isLst, isStr, isBl, isInt, eqP_ii, neP_ii, lenP_t, lenP_l, lenP_s, seqP_t, seqP_l, truP_b, ixP_t, ixP_l, slP_t, slP_l, tupleP_l, tupleP_t, addP_tt, modP_ii, divP_ii, exb, addLP_ll, min2_ii, max2_ii, exTup, exCons, exInt, iaddP_ii, leP_ii, gtP_ii, geP_ii, ltP_ii, intP_i, decide_eq_true_eq, Bool.not_eq_true', decide_eq_false_iff_not, Bool.not_true, Bool.not_false, List.cons_ne_nil, Nat.succ_ne_zero, reduceCtorEq])
    have pr3 : (upO (upO h p (.lst (ss.map D.int))) a o3) p = some (.lst (ss.map D.int)) := by rw [upO_ne pa, upO_same]
    by_cases c2 : r = 0
    · rw [if_pos c2]
      exact ret o3 ro3
    · rw [if_neg c2]
      refine ⟨⟨_, rs_ref pr3⟩, ?_⟩
      rw [app_ref pr3]
      refine ⟨by rw [List.length_map]; omega, .of (hK (most.toNat + 1 - (ss ++ [s]).length) _ _ (by rw [List.length_append]; simp; omega) ⟨o3, ss ++ [s], _, ro3, fun u m => ?_, by simp, by rw [prodI_snoc]; omega, rfl, ?_, rfl⟩)⟩
      · rcases List.mem_append.mp m with m | m
        · exact hs u m
        · rw [List.mem_singleton.mp m]; exact ⟨s2, s4⟩
      · rw [upO_comm (Ne.symm pa), upO_upO, List.map_append]
        rfl
theorem c_law_puzzle {ns : List Int} {o : O} {a : Addr} {most : Int} {h : DH} {E : EK} {Q : DK} (ro : RowO ns o) (m4 : 4 ≤ most) (m5 : most ≤ 900)
    (q : ∀ p o', OkP p → prodI (setsP p) ≤ most → RowO ns o' → Q (tP p) (upO h a o')) : F_law_puzzle [.ref a, .int most] (upO h a o) E Q := by
  simp only [↓e_law_puzzle, ↓e_mVar, ↓e_mK, ↓e_mOp1, ↓e_mOp2, ↓e_aNil, ↓e_aCons, ↓e_mTup, ↓e_mLst, ↓e_mLstM, ↓e_mIf, ↓e_tTru, ↓e_tNt, ↓e_tAnd2, ↓e_tOr2, ↓e_tOp2, ↓e_mChain, ↓e_tChain', ↓e_mAnd, ↓e_mOr, ↓e_mFld, ↓e_sFldD, ↓e_mMeth, ↓e_mMake, ↓e_mRev, revP_l, ↓e_mAndT, ↓e_mOrT, truP_lc, ↓e_mNot, ↓e_mCall, ↓e_mBlt, ↓e_oNo, ↓e_oSo, ↓e_mSl, ↓e_sPass, ↓e_sBrk, ↓e_sCnt, ↓e_sNever, ↓e_sSeq, ↓e_sAsg, ↓e_gNm, ↓e_gTu, ↓e_gsNil, ↓e_gsCons, ↓e_gSb, ↓e_sPar, ↓e_sExp, ↓e_sRt, ↓e_sRtN, ↓e_sIf, ↓e_sAug, ↓e_sFor, ↓e_sWh, ↓e_mComp, ↓e_mCompM, ↓e_tYs, ↓e_mkFn, ↓e_mApp, ↓e_itSeq, ↓e_itScr, ↓e_itEnum, ↓e_itZip, ↓e_itZip3, ↓e_itR1, ↓e_itR2, ↓e_itR3, ↓e_mDic0, ↓e_mDic1, ↓e_sPar3, ↓e_mAddM, ↓e_aStar, ↓e_mMulM, ↓e_sRaise0, ↓e_sRaise1, ↓e_mErr, ↓e_mCallV, starP_t, starP_l, slot_0, slot_1, slot_2, slot_3, slot_4, slot_5, slot_6, slot_7, slot_8, slot_9, slot_10, slot_11, slot_12, slot_13, slot_14, slot_15, slot_16, slot_17, slot_18, slot_19, slot_20, slot_21, slot_22, slot_23, slot_24, slot_25, slot_26, slot_27, slot_28, slot_29, slot_30, negP_i, ex3, ex2, wipeE, List.map_cons, List.map_nil, List.cons_append, List.nil_append, List.append_nil, List.length_cons, List.length_nil, List.replicate_succ, List.replicate_zero, List.set_cons_zero, List.set_cons_succ, Oc_some, Nat.reduceAdd, Nat.reduceSub, Nat.reduceLeDiff, Nat.zero_le, Int.toNat_natCast, Bool.or_false, Bool.or_true, Bool.or_self, Bool.false_or, Bool.true_or, decide_true, decide_false, Nat.zero_add, Nat.sub_self, Bool.true_eq_false, Bool.false_eq_true, if_true, if_false, ite_true, ite_false, true_and, and_true, addP_ii, subP_ii, mulP_ii, isiP_tup, isiP_lst, isiP_str, isiP_bl, isiP_int, isiP_tl, kd_non, kd_bl, kd_int, kd_str, kd_tup, kd_lst, isTup, isLst, isStr, isBl, isInt, eqP_ii, neP_ii, lenP_t, lenP_l, lenP_s, seqP_t, seqP_l, truP_b, ixP_t, ixP_l, slP_t, slP_l, tupleP_l, tupleP_t, addP_tt, modP_ii, divP_ii, exb, addLP_ll, min2_ii, max2_ii, exTup, exCons, exInt, iaddP_ii, leP_ii, gtP_ii, geP_ii, ltP_ii, intP_i, decide_eq_true_eq, Bool.not_eq_true', decide_eq_false_iff_not, Bool.not_true, Bool.not_false, List.cons_ne_nil, Nat.succ_ne_zero, reduceCtorEq]
  refine c_law_settings ro m4 m5 fun ss o' hs l1 pm ro' => ?_
  have hge := prodI_ge hs
  have l10 : ss.length < 10 := by
    rcases Nat.lt_or_ge ss.length 10 with z | z
    · exact z
    · have : (2 : Int) ^ 10 ≤ 2 ^ ss.length := by exact_mod_cast Nat.pow_le_pow_right (by decide : 0 < 2) z
      omega
  (try simp only [↓e_mVar, ↓e_mK, ↓e_mOp1, ↓e_mOp2, ↓e_aNil, ↓e_aCons, ↓e_mTup, ↓e_mLst, ↓e_mLstM, ↓e_mIf, ↓e_tTru, ↓e_tNt, ↓e_tAnd2, ↓e_tOr2, ↓e_tOp2, ↓e_mChain, ↓e_tChain', ↓e_mAnd, ↓e_mOr, ↓e_mFld, ↓e_sFldD, ↓e_mMeth, ↓e_mMake, ↓e_mRev, revP_l, ↓e_mAndT, ↓e_mOrT, truP_lc, ↓e_mNot, ↓e_mCall, ↓e_mBlt, ↓e_oNo, ↓e_oSo, ↓e_mSl, ↓e_sPass, ↓e_sBrk, ↓e_sCnt, ↓e_sNever, ↓e_sSeq, ↓e_sAsg, ↓e_gNm, ↓e_gTu, ↓e_gsNil, ↓e_gsCons, ↓e_gSb, ↓e_sPar, ↓e_sExp, ↓e_sRt, ↓e_sRtN, ↓e_sIf, ↓e_sAug, ↓e_sFor, ↓e_sWh, ↓e_mComp, ↓e_mCompM, ↓e_tYs, ↓e_mkFn, ↓e_mApp, ↓e_itSeq, ↓e_itScr, ↓e_itEnum, ↓e_itZip, ↓e_itZip3, ↓e_itR1, ↓e_itR2, ↓e_itR3, ↓e_mDic0, ↓e_mDic1, ↓e_sPar3, ↓e_mAddM, ↓e_aStar, ↓e_mMulM, ↓e_sRaise0, ↓e_sRaise1, ↓e_mErr, ↓e_mCallV, starP_t, starP_l, slot_0, slot_1, slot_2, slot_3, slot_4, slot_5, slot_6, slot_7, slot_8, slot_9, slot_10, slot_11, slot_12, slot_13, slot_14, slot_15, slot_16, slot_17, slot_18, slot_19, slot_20, slot_21, slot_22, slot_23, slot_24, slot_25, slot_26, slot_27, slot_28, slot_29, slot_30, negP_i, ex3, ex2, wipeE, List.map_cons, List.map_nil, List.cons_append, List.nil_append, List.append_nil, List.length_cons, List.length_nil, List.replicate_succ, List.replicate_zero, List.set_cons_zero, List.set_cons_succ, Oc_some, Nat.reduceAdd, Nat.reduceSub, Nat.reduceLeDiff, Nat.zero_le, Int.toNat_natCast, Bool.or_false, Bool.or_true, Bool.or_self, Bool.false_or, Bool.true_or, decide_true, decide_false, Nat.zero_add, Nat.sub_self, Bool.true_eq_false, Bool.false_eq_true, if_true, if_false, ite_true, ite_false, true_and, and_true, addP_ii, subP_ii, mulP_ii, isiP_tup, isiP_lst, isiP_str, isiP_bl, isiP_int, isiP_tl, kd_non, kd_bl, kd_int, kd_str, kd_tup, kd_lst, isTup, isLst, isStr, isBl, isInt, eqP_ii, neP_ii, lenP_t, lenP_l, lenP_s, seqP_t, seqP_l, truP_b, ixP_t, ixP_l, slP_t, slP_l, tupleP_l, tupleP_t, addP_tt, modP_ii, divP_ii, exb, addLP_ll, min2_ii, max2_ii, exTup, exCons, exInt, iaddP_ii, leP_ii, gtP_ii, geP_ii, ltP_ii, intP_i, decide_eq_true_eq, Bool.not_eq_true', decide_eq_false_iff_not, Bool.not_true, Bool.not_false, List.cons_ne_nil, Nat.succ_ne_zero, reduceCtorEq])
  refine c_law_of ro' hs (by omega) fun p o2 okp esp ro2 => .of (q p o2 ⟨okp, ?_⟩ (by rw [esp]; exact pm) ro2)
  rw [← setsP_length (p := p), esp]
  omega
end L2.Lmp

set_option maxHeartbeats 4000000
namespace L2.Lmp
open PySem PySem.Spec PyProof.Rows
/-! ### all states, in order -/
def rngI : Int → Nat → List Int
  | _, 0 => []
  | lo, n + 1 => lo :: rngI (lo + 1) n
def ext1 (s : Int) (st : List Int) : List (List Int) := (rngI 0 s.toNat).map fun x => st ++ [x]
def grow (L : List (List Int)) (s : Int) : List (List Int) := L.flatMap (ext1 s)
end L2.Lmp

set_option maxHeartbeats 4000000
namespace L2.Lmp
open PySem PySem.Spec PyProof.Rows
/-! ### distances, by wards -/
def pathD (d : List Int → List Int → Int) : List Int → List (List Int) → List Int → Int
  | a, [], e => d a e
  | a, w :: ws, e => d a w + pathD d w ws e
/-- wards x to y - 1 -/
def midW (l : List (List Int)) (x y : Int) : List (List Int) := (l.drop x.toNat).take (y - x).toNat
def dist (p : List (List (List Int))) : Nat → List Int → List Int → Int
  | 0, _, _ => 0
  | n + 1, a, b => if a.getD n 0 ≤ b.getD n 0 then (b.getD n 0 - a.getD n 0) + pathD (dist p n) (a.take n) (midW (p.getD n []) (a.getD n 0) (b.getD n 0)) (b.take n)
    else (a.getD n 0 - b.getD n 0) + pathD (dist p n) (b.take n) (midW (p.getD n []) (b.getD n 0) (a.getD n 0)) (a.take n)
theorem path_snoc {d : List Int → List Int → Int} : ∀ {ws : List (List Int)} {a w e : List Int}, pathD d a (ws ++ [w]) e = pathD d a ws w + d w e
  | [], _, _, _ => rfl
  | v :: ws, a, w, e => by
    show d a v + pathD d v (ws ++ [w]) e = d a v + pathD d v ws w + d w e
    rw [path_snoc, Int.add_assoc]
theorem path_nonneg {d : List Int → List Int → Int} (h : ∀ a b, 0 ≤ d a b) : ∀ {ws : List (List Int)} {a e : List Int}, 0 ≤ pathD d a ws e
  | [], _, _ => h _ _
  | v :: ws, a, e => by
    have := path_nonneg h (ws := ws) (a := v) (e := e)
    have := h a v
    show 0 ≤ d a v + pathD d v ws e
    omega
theorem mid_nil {l : List (List Int)} {x : Int} : midW l x x = [] := by
  unfold midW
  rw [Int.sub_self]
  simp
theorem dist_nonneg {p : List (List (List Int))} : ∀ {n : Nat} (a b : List Int), 0 ≤ dist p n a b
  | 0, _, _ => Int.le_refl _
  | n + 1, a, b => by
    unfold dist
    split
    · have := path_nonneg (d := dist p n) (fun a b => dist_nonneg a b) (ws := midW (p.getD n []) (a.getD n 0) (b.getD n 0)) (a := a.take n) (e := b.take n)
      omega
    · have := path_nonneg (d := dist p n) (fun a b => dist_nonneg a b) (ws := midW (p.getD n []) (b.getD n 0) (a.getD n 0)) (a := b.take n) (e := a.take n)
      omega
theorem dist_comm {p : List (List (List Int))} : ∀ {n : Nat} (a b : List Int), dist p n a b = dist p n b a
  | 0, _, _ => rfl
  | n + 1, a, b => by
    unfold dist
    by_cases e : a.getD n 0 = b.getD n 0
    · rw [if_pos (by omega), if_pos (by omega), e, mid_nil]
      show _ + dist p n _ _ = _ + dist p n _ _
      rw [dist_comm]
    · by_cases l : a.getD n 0 ≤ b.getD n 0
      · rw [if_pos l, if_neg (by omega)]
      · rw [if_neg l, if_pos (by omega)]
theorem dist_self {p : List (List (List Int))} : ∀ {n : Nat} (a : List Int), dist p n a a = 0
  | 0, _ => rfl
  | n + 1, a => by
    unfold dist
    rw [if_pos (Int.le_refl _), mid_nil]
    show _ + dist p n _ _ = 0
    rw [dist_self]
    omega
theorem mid_cons {l : List (List Int)} {x y : Int} {w : List Int} (x0 : 0 ≤ x) (xy : x < y) (h : l[x.toNat]? = some w) : midW l x y = w :: midW l (x + 1) y := by
  unfold midW
  obtain ⟨hl, hw⟩ := List.getElem?_eq_some_iff.mp h
  rw [List.drop_eq_getElem_cons hl, hw, show (y - x).toNat = (y - (x + 1)).toNat + 1 by omega, List.take_succ_cons, show (x + 1).toNat = x.toNat + 1 by omega]
theorem mid_snoc {l : List (List Int)} {x y : Int} {w : List Int} (x0 : 0 ≤ x) (xy : x ≤ y) (h : l[y.toNat]? = some w) : midW l x (y + 1) = midW l x y ++ [w] := by
  unfold midW
  rw [show (y + 1 - x).toNat = (y - x).toNat + 1 by omega, List.take_add_one, List.getElem?_drop, show x.toNat + (y - x).toNat = y.toNat by omega, h]
  rfl
/-- zero only at itself -/
theorem dist_zero {p : List (List (List Int))} : ∀ {n : Nat} {a b : List Int}, a.length = n → b.length = n → dist p n a b = 0 → a = b
  | 0, a, b, h1, h2, _ => by rw [List.length_eq_zero_iff.mp h1, List.length_eq_zero_iff.mp h2]
  | n + 1, a, b, h1, h2, h => by
    unfold dist at h
    have e : a.getD n 0 = b.getD n 0 := by
      split at h
      · have := path_nonneg (d := dist p n) (fun a b => dist_nonneg a b) (ws := midW (p.getD n []) (a.getD n 0) (b.getD n 0)) (a := a.take n) (e := b.take n)
        omega
      · have := path_nonneg (d := dist p n) (fun a b => dist_nonneg a b) (ws := midW (p.getD n []) (b.getD n 0) (a.getD n 0)) (a := b.take n) (e := a.take n)
        omega
    rw [if_pos (by omega), e, mid_nil, Int.sub_self, Int.zero_add] at h
    have t := dist_zero (p := p) (by rw [List.length_take]; omega) (by rw [List.length_take]; omega) (show dist p n (a.take n) (b.take n) = 0 from h)
    have sp : ∀ c : List Int, c.length = n + 1 → c = c.take n ++ [c.getD n 0] := fun c hc => by
      have h1 : c[n]? = some c[n] := List.getElem?_eq_getElem (by omega)
      have := List.take_add_one (l := c) (i := n)
      rw [List.take_of_length_le (by omega), h1] at this
      rw [List.getD_eq_getElem?_getD, h1]
      exact this
    rw [sp a h1, sp b h2, t, e]
end L2.Lmp

set_option maxHeartbeats 4000000
namespace L2.Lmp
open PySem PySem.Spec PyProof.Rows
/-! ### neighbors and distances -/
/-- the last of n + 1 lamps goes up: its ward is met -/
def UpAt (l : List (List Int)) (n : Nat) (s t : List Int) : Prop := t.getD n 0 = s.getD n 0 + 1 ∧ 0 ≤ s.getD n 0 ∧ l[(s.getD n 0).toNat]? = some (s.take n)
def Adj (p : List (List (List Int))) : Nat → List Int → List Int → Prop
  | 0, _, _ => False
  | n + 1, s, t => (Adj p n (s.take n) (t.take n) ∧ s.getD n 0 = t.getD n 0) ∨ (s.take n = t.take n ∧ (UpAt (p.getD n []) n s t ∨ UpAt (p.getD n []) n t s))
theorem Adj.symm {p : List (List (List Int))} : ∀ {n : Nat} {s t : List Int}, Adj p n s t → Adj p n t s
  | 0, _, _, h => h
  | n + 1, s, t, .inl ⟨h, e⟩ => .inl ⟨h.symm, e.symm⟩
  | n + 1, s, t, .inr ⟨e, h⟩ => .inr ⟨e.symm, h.symm⟩
/-- a state of the first n lamps -/
def Ok (p : List (List (List Int))) (n : Nat) (a : List Int) : Prop := a.length = n ∧ ∀ i, i < n → 0 ≤ a.getD i 0 ∧ a.getD i 0 ≤ (p.getD i []).length
theorem getD_take {a : List Int} {n i : Nat} (h : i < n) : (a.take n).getD i 0 = a.getD i 0 := by
  rw [List.getD_eq_getElem?_getD, List.getD_eq_getElem?_getD, List.getElem?_take_of_lt h]
theorem Ok.take {p : List (List (List Int))} {n : Nat} {a : List Int} (h : Ok p (n + 1) a) : Ok p n (a.take n) := ⟨by rw [List.length_take, h.1]; omega, fun i hi => by
  rw [getD_take hi]
  exact h.2 i (by omega)⟩
def WardsOk (p : List (List (List Int))) : Prop := ∀ i, ∀ w ∈ p.getD i [], Ok p i w
/-- the distance through the last lamp going up from s to t = s + 1, seen from a -/
theorem dist_up {p : List (List (List Int))} {n : Nat} {a s t : List Int} (e : s.take n = t.take n) (u : UpAt (p.getD n []) n s t) (a0 : 0 ≤ a.getD n 0) :
    (a.getD n 0 ≤ s.getD n 0 → dist p (n + 1) a t = dist p (n + 1) a s + 1) ∧ (s.getD n 0 < a.getD n 0 → dist p (n + 1) a s = dist p (n + 1) a t + 1) := by
  obtain ⟨u1, u2, u3⟩ := u
  refine ⟨fun h => ?_, fun h => ?_⟩
  · unfold dist
    rw [if_pos (by omega), if_pos h, u1, mid_snoc a0 h u3, path_snoc, ← e]
    rw [dist_self]
    omega
  · unfold dist
    rw [if_neg (by omega)]
    by_cases e1 : a.getD n 0 = t.getD n 0
    · rw [if_pos (by omega), e1, mid_nil, u1, mid_cons u2 (by omega) u3, mid_nil, ← e]
      show _ = _ + dist p n _ _ + 1
      show _ + (dist p n _ _ + dist p n _ _) = _
      rw [dist_self, dist_comm]
      omega
    · rw [if_neg (by omega), mid_cons u2 h u3, u1, ← e]
      show _ + (dist p n _ _ + pathD _ _ _ _) = _
      rw [dist_self]
      omega
theorem snoc_of {c : List Int} {n : Nat} (hc : c.length = n + 1) : c = c.take n ++ [c.getD n 0] := by
  have h1 : c[n]? = some c[n] := List.getElem?_eq_getElem (by omega)
  have := List.take_add_one (l := c) (i := n)
  rw [List.take_of_length_le (by omega), h1] at this
  rw [List.getD_eq_getElem?_getD, h1]
  exact this
theorem getD_snoc {c : List Int} {x : Int} {n : Nat} (hc : c.length = n) : (c ++ [x]).getD n 0 = x := by
  rw [List.getD_eq_getElem?_getD, List.getElem?_append_right (by omega), hc, Nat.sub_self]
  rfl
theorem take_snoc {c : List Int} {x : Int} {n : Nat} (hc : c.length = n) : (c ++ [x]).take n = c := by
  rw [List.take_append_of_le_length (by omega), List.take_of_length_le (by omega)]
theorem Ok.snoc {p : List (List (List Int))} {n : Nat} {c : List Int} {x : Int} (h : Ok p n c) (x0 : 0 ≤ x) (x1 : x ≤ (p.getD n []).length) : Ok p (n + 1) (c ++ [x]) := ⟨by rw [List.length_append, h.1]; rfl, fun i hi => by
  by_cases e : i = n
  · subst e
    rw [getD_snoc h.1]
    exact ⟨x0, x1⟩
  · have : (c ++ [x]).getD i 0 = c.getD i 0 := by
      rw [List.getD_eq_getElem?_getD, List.getD_eq_getElem?_getD, List.getElem?_append_left (by rw [h.1]; omega)]
    rw [this]
    exact h.2 i (by omega)⟩
theorem path_nearer {d : List Int → List Int → Int} {s t : List Int} : ∀ {ws : List (List Int)} {w a : List Int}, d w t = d w s - 1 → pathD d a (ws ++ [w]) t = pathD d a (ws ++ [w]) s - 1 := fun {ws w a} h => by
  rw [path_snoc, path_snoc, h]
  omega
/-- a state that is not a has a neighbor that is nearer to a -/
theorem dist_near {p : List (List (List Int))} (wk : WardsOk p) : ∀ {n : Nat} {a b : List Int}, Ok p n a → Ok p n b → a ≠ b → ∃ t, Adj p n b t ∧ Ok p n t ∧ dist p n a t = dist p n a b - 1
  | 0, a, b, oa, ob, ne => absurd (by rw [List.length_eq_zero_iff.mp oa.1, List.length_eq_zero_iff.mp ob.1]) ne
  | n + 1, a, b, oa, ob, ne => by
    obtain ⟨a0, a1⟩ := oa.2 n (by omega)
    obtain ⟨b0, b1⟩ := ob.2 n (by omega)
    -- a nearer neighbor of the first lamps: the last one stays
    have keep : ∀ t', Adj p n (b.take n) t' → Ok p n t' → dist p (n + 1) a (t' ++ [b.getD n 0]) = dist p (n + 1) a b - 1 → ∃ t, Adj p (n + 1) b t ∧ Ok p (n + 1) t ∧ dist p (n + 1) a t = dist p (n + 1) a b - 1 := fun t' h1 h2 h3 =>
      ⟨t' ++ [b.getD n 0], .inl ⟨by rw [take_snoc h2.1]; exact h1, (getD_snoc h2.1).symm⟩, h2.snoc b0 b1, h3⟩
    by_cases e : a.getD n 0 = b.getD n 0
    · have ne' : a.take n ≠ b.take n := fun z => ne (by rw [snoc_of oa.1, snoc_of ob.1, z, e])
      obtain ⟨t', h1, h2, h3⟩ := dist_near wk oa.take ob.take ne'
      refine keep t' h1 h2 ?_
      unfold dist
      rw [getD_snoc h2.1, take_snoc h2.1, if_pos (by omega), if_pos (by omega), e, mid_nil]
      show _ + dist p n _ _ = _ + dist p n _ _ - 1
      rw [h3]
      omega
    · by_cases c : a.getD n 0 < b.getD n 0
      · -- the last ward before b
        have hw : (p.getD n [])[(b.getD n 0 - 1).toNat]? = some (p.getD n [])[(b.getD n 0 - 1).toNat] := List.getElem?_eq_getElem (by omega)
        generalize (p.getD n [])[(b.getD n 0 - 1).toNat] = w at hw
        have ow : Ok p n w := wk n w (List.mem_of_getElem? hw)
        by_cases ew : w = b.take n
        · have u : UpAt (p.getD n []) n (b.take n ++ [b.getD n 0 - 1]) b := ⟨by rw [getD_snoc ob.take.1]; omega, by rw [getD_snoc ob.take.1]; omega, by rw [getD_snoc ob.take.1, take_snoc ob.take.1, hw, ew]⟩
          have et : (b.take n ++ [b.getD n 0 - 1]).take n = b.take n := take_snoc ob.take.1
          refine ⟨_, .inr ⟨et.symm, .inr u⟩, ob.take.snoc (by omega) (by omega), ?_⟩
          have := (dist_up et u a0).1 (by rw [getD_snoc ob.take.1]; omega)
          omega
        · obtain ⟨t', h1, h2, h3⟩ := dist_near wk ow ob.take ew
          refine keep t' h1 h2 ?_
          have em := mid_snoc (l := p.getD n []) a0 (show a.getD n 0 ≤ b.getD n 0 - 1 by omega) hw
          rw [show b.getD n 0 - 1 + 1 = b.getD n 0 by omega] at em
          unfold dist
          rw [getD_snoc h2.1, take_snoc h2.1, if_pos (by omega), if_pos (by omega), em, path_nearer h3]
          omega
      · have hw : (p.getD n [])[(b.getD n 0).toNat]? = some (p.getD n [])[(b.getD n 0).toNat] := List.getElem?_eq_getElem (by omega)
        generalize (p.getD n [])[(b.getD n 0).toNat] = w at hw
        have ow : Ok p n w := wk n w (List.mem_of_getElem? hw)
        by_cases ew : w = b.take n
        · have u : UpAt (p.getD n []) n b (b.take n ++ [b.getD n 0 + 1]) := ⟨by rw [getD_snoc ob.take.1], b0, by rw [hw, ew]⟩
          have et : (b.take n ++ [b.getD n 0 + 1]).take n = b.take n := take_snoc ob.take.1
          refine ⟨_, .inr ⟨et.symm, .inl u⟩, ob.take.snoc (by omega) (by omega), ?_⟩
          have := (dist_up et.symm u a0).2 (by omega)
          omega
        · obtain ⟨t', h1, h2, h3⟩ := dist_near wk ow ob.take ew
          refine keep t' h1 h2 ?_
          unfold dist
          rw [getD_snoc h2.1, take_snoc h2.1, if_neg (by omega), if_neg (by omega), mid_cons b0 (by omega) hw]
          show _ + (dist p n t' w + pathD _ _ _ _) = _ + (dist p n (b.take n) w + pathD _ _ _ _) - 1
          rw [dist_comm t' w, dist_comm (b.take n) w, h3]
          omega
end L2.Lmp

set_option maxHeartbeats 4000000
namespace L2.Lmp
open PySem PySem.Spec PyProof.Rows
/-! ### the program's words and steps, as states and neighbors -/
theorem wordsB_iff : ∀ {ss w : List Int}, w.length = ss.length → (wordsB ss (w.map D.int) = true ↔ ∀ (i : Nat) (x s : Int), w[i]? = some x → ss[i]? = some s → 0 ≤ x ∧ x < s)
  | [], [], _ => ⟨fun _ i _ _ h => by simp at h, fun _ => rfl⟩
  | [], _ :: _, h => by simp at h
  | _ :: _, [], h => by simp at h
  | s :: ss, x :: w, h => ⟨fun q => wordsB_at q, fun q => by
    show (inB (.int x) 0 (s - 1) && wordsB ss (w.map D.int)) = true
    obtain ⟨a, b⟩ := q 0 x s rfl rfl
    rw [inB_of a b, (wordsB_iff (by simpa using h)).mpr fun i y t h1 h2 => q (i + 1) y t (by simpa using h1) (by simpa using h2)]
    rfl⟩
theorem ok_of_word {p : List (List (List Int))} {n : Nat} {st : List Int} (hn : n ≤ p.length) (g : wordB ((setsP p).take n) (tI st) = true) : Ok p n st := by
  have ls : st.length = n := by rw [word_len g, List.length_take, setsP_length]; omega
  refine ⟨ls, fun i hi => ?_⟩
  have hs : st[i]? = some st[i] := List.getElem?_eq_getElem (by omega)
  have hp : p[i]? = some p[i] := List.getElem?_eq_getElem (by omega)
  have hq : ((setsP p).take n)[i]? = some ((p[i].length : Int) + 1) := by
    rw [List.getElem?_take_of_lt hi]
    unfold setsP
    rw [List.getElem?_map, hp]
    rfl
  obtain ⟨a, b⟩ := word_at g i _ _ hs hq
  rw [getD_some hs, getD_some hp]
  omega
theorem word_of_ok {p : List (List (List Int))} {n : Nat} {st : List Int} (hn : n ≤ p.length) (o : Ok p n st) : wordB ((setsP p).take n) (tI st) = true := by
  rw [wordB_tI, Bool.and_eq_true, decide_eq_true_eq]
  have hl : st.length = ((setsP p).take n).length := by rw [o.1, List.length_take, setsP_length]; omega
  refine ⟨hl, (wordsB_iff hl).mpr fun i x s h1 h2 => ?_⟩
  have hi : i < n := by
    have := (List.getElem?_eq_some_iff.mp h1).1
    have := o.1
    omega
  rw [List.getElem?_take_of_lt hi] at h2
  have hp : p[i]? = some p[i] := List.getElem?_eq_getElem (by omega)
  unfold setsP at h2
  rw [List.getElem?_map, hp] at h2
  cases h2
  obtain ⟨a, b⟩ := o.2 i hi
  rw [getD_some h1] at a b
  rw [getD_some hp] at b
  show 0 ≤ x ∧ x < (p[i].length : Int) + 1
  omega
theorem take_all {α : Type} {l : List α} {n : Nat} (h : l.length ≤ n) : l.take n = l := List.take_of_length_le h
theorem ok_state {p : List (List (List Int))} {st : List Int} : wordB (setsP p) (tI st) = true ↔ Ok p p.length st := by
  have e : (setsP p).take p.length = setsP p := take_all (by rw [setsP_length]; exact Nat.le_refl _)
  constructor
  · intro g
    exact ok_of_word (Nat.le_refl _) (by rw [e]; exact g)
  · intro o
    have := word_of_ok (Nat.le_refl _) o
    rw [e] at this
    exact this
theorem OkF.wards : ∀ {q p : List (List (List Int))}, OkF (setsP p) q → ∀ (i : Nat) (l : List (List Int)), q[i]? = some l → ∀ w ∈ l, wordB ((setsP (p ++ q)).take (p.length + i)) (tI w) = true
  | [], _, _, i, l, h, _, _ => by simp at h
  | x :: q, p, ⟨a, b, c⟩, 0, l, h, w, mw => by
    simp at h
    subst h
    have : (setsP (p ++ x :: q)).take (p.length + 0) = setsP p := by
      unfold setsP
      rw [List.map_append, List.take_append_of_le_length (by rw [List.length_map]; omega), take_all (by rw [List.length_map]; omega)]
    rw [this]
    exact b w mw
  | x :: q, p, ⟨a, b, c⟩, i + 1, l, h, w, mw => by
    have hc : OkF (setsP (p ++ [x])) q := by
      have : setsP (p ++ [x]) = setsP p ++ [(x.length : Int) + 1] := by unfold setsP; rw [List.map_append]; rfl
      rw [this]
      exact c
    have := OkF.wards hc i l (by simpa using h) w mw
    rw [List.append_assoc, List.length_append] at this
    rw [show p.length + (i + 1) = p.length + [x].length + i by simp; omega]
    exact this
/-- only the first n entries count -/
theorem Adj.take {p : List (List (List Int))} : ∀ {n : Nat} {s t : List Int}, Adj p n (s.take n) (t.take n) ↔ Adj p n s t
  | 0, _, _ => Iff.rfl
  | n + 1, s, t => by
    have e : ∀ c : List Int, (c.take (n + 1)).take n = c.take n := fun c => by rw [List.take_take, Nat.min_eq_left (by omega)]
    have g : ∀ c : List Int, (c.take (n + 1)).getD n 0 = c.getD n 0 := fun c => getD_take (by omega)
    show ((Adj p n ((s.take (n + 1)).take n) ((t.take (n + 1)).take n) ∧ (s.take (n + 1)).getD n 0 = (t.take (n + 1)).getD n 0) ∨ _) ↔ _
    unfold UpAt
    rw [e s, e t, g s, g t]
    exact Iff.rfl
theorem afterS_getD {st : List Int} {i j : Nat} {s : Int} (l : i < st.length) : (afterS st i s).getD j 0 = if j = i then s else st.getD j 0 := by
  unfold afterS
  rw [List.getD_eq_getElem?_getD, List.append_assoc]
  by_cases h1 : j < i
  · rw [List.getElem?_append_left (by rw [List.length_take]; omega), List.getElem?_take_of_lt h1, if_neg (by omega), List.getD_eq_getElem?_getD]
  · rw [List.getElem?_append_right (by rw [List.length_take]; omega), List.length_take, Nat.min_eq_left (by omega)]
    by_cases h2 : j = i
    · rw [if_pos h2, h2, Nat.sub_self]
      rfl
    · rw [if_neg h2, List.getElem?_append_right (by simp; omega), List.getElem?_drop, List.getD_eq_getElem?_getD]
      congr 2
      simp
      omega
theorem afterS_len {st : List Int} {i : Nat} {s : Int} (l : i < st.length) : (afterS st i s).length = st.length := by
  unfold afterS
  simp
  omega
theorem list_ext0 {a b : List Int} (l : a.length = b.length) (h : ∀ j, j < a.length → a.getD j 0 = b.getD j 0) : a = b := by
  apply List.ext_getElem?
  intro j
  by_cases hj : j < a.length
  · have ha : a[j]? = some a[j] := List.getElem?_eq_getElem hj
    have hb : b[j]? = some b[j] := List.getElem?_eq_getElem (by omega)
    have := h j hj
    rw [getD_some ha, getD_some hb] at this
    rw [ha, hb, this]
  · rw [List.getElem?_eq_none (by omega), List.getElem?_eq_none (by omega)]
/-- a neighbor is behind a step -/
theorem step_of_adj {p : List (List (List Int))} {s t : List Int} (ls : s.length = t.length) (os : ∀ i, i < s.length → s.getD i 0 ≤ (p.getD i []).length) : ∀ {n : Nat}, n ≤ s.length → (∀ j, n ≤ j → s.getD j 0 = t.getD j 0) → Adj p n s t → ∃ m ∈ stepsUp p s n, t = afterM s m
  | 0, _, _, h => h.elim
  | n + 1, hn, hj, .inl ⟨h, e⟩ => by
    obtain ⟨m, mm, et⟩ := step_of_adj ls os (by omega) (fun j l => by
      by_cases q : j = n
      · rw [q]; exact e
      · exact hj j (by omega)) (Adj.take.mp h)
    exact ⟨m, List.mem_append_left _ mm, et⟩
  | n + 1, hn, hj, .inr ⟨e, u⟩ => by
    have same : ∀ j, j ≠ n → s.getD j 0 = t.getD j 0 := fun j q => by
      by_cases l : j < n
      · rw [← getD_take (a := s) l, ← getD_take (a := t) l, e]
      · exact hj j (by omega)
    have et : t = afterM s [(n : Int), t.getD n 0] := by
      show t = afterS s n (t.getD n 0)
      refine list_ext0 (by rw [afterS_len (by omega)]; exact ls.symm) fun j hj2 => ?_
      rw [afterS_getD (by omega)]
      by_cases q : j = n
      · rw [if_pos q, q]
      · rw [if_neg q]
        exact (same j q).symm
    refine ⟨_, List.mem_append_right _ ?_, et⟩
    unfold stepsAt
    rcases u with ⟨u1, u2, u3⟩ | ⟨u1, u2, u3⟩
    · refine List.mem_append_right _ ?_
      have l1 := (List.getElem?_eq_some_iff.mp u3).1
      rw [if_pos ⟨by omega, getD_some u3⟩, u1]
      exact List.mem_singleton.mpr rfl
    · refine List.mem_append_left _ ?_
      rw [if_pos ⟨by omega, by rw [show s.getD n 0 - 1 = t.getD n 0 by omega, e]; exact getD_some u3⟩]
      rw [show s.getD n 0 - 1 = t.getD n 0 by omega]
      exact List.mem_singleton.mpr rfl
theorem adj_steps {p : List (List (List Int))} {s t : List Int} (o : Ok p p.length s) (ot : Ok p p.length t) (h : Adj p p.length s t) : ∃ m ∈ stepsOf p s, t = afterM s m :=
  step_of_adj (by rw [o.1, ot.1]) (fun i hi => (o.2 i (by rw [← o.1]; exact hi)).2) (by rw [o.1]; exact Nat.le_refl _) (fun j l => by
    rw [List.getD_eq_getElem?_getD, List.getD_eq_getElem?_getD, List.getElem?_eq_none (by rw [o.1]; exact l), List.getElem?_eq_none (by rw [ot.1]; exact l)]) h
end L2.Lmp

set_option maxHeartbeats 4000000
namespace L2.Lmp
open PySem PySem.Spec PyProof.Rows
/-! ### pairs of states as keys -/
theorem nk_ints : ∀ w : List Int, Paired NK (w.map D.int) (w.map NestedKey.num)
  | [] => .nil
  | x :: w => .cons (.int x) (nk_ints w)
theorem nk_tI (w : List Int) : NK (tI w) (.tup (w.map NestedKey.num)) := .tup (nk_ints w)
theorem depth_nums : ∀ w : List Int, NestedKey.depthAll (w.map NestedKey.num) ≤ 1
  | [] => by decide
  | x :: w => by
    have := depth_nums w
    show max _ (NestedKey.depthAll (w.map NestedKey.num)) ≤ 1
    simp [NestedKey.depth]
    omega
theorem key_tI (w : List Int) : KeyD (tI w) := ⟨_, _, rfl, nk_tI w, by
  have := depth_nums w
  simp [NestedKey.depth]
  omega⟩
/-- a list without twins is no longer than one that holds its members -/
theorem nodup_le {α : Type} [DecidableEq α] : ∀ {l m : List α}, l.Nodup → (∀ x ∈ l, x ∈ m) → l.length ≤ m.length
  | [], _, _, _ => Nat.zero_le _
  | x :: l, m, hn, hm => by
    obtain ⟨h1, h2⟩ := List.nodup_cons.mp hn
    have hx := hm x List.mem_cons_self
    have := nodup_le (l := l) (m := m.erase x) h2 fun y hy => by
      have ne : y ≠ x := fun z => h1 (z ▸ hy)
      exact (List.mem_erase_of_ne ne).mpr (hm y (List.mem_cons_of_mem _ hy))
    rw [List.length_erase_of_mem hx] at this
    have : 0 < m.length := List.length_pos_of_mem hx
    rw [List.length_cons]
    omega
/-! ### the memo -/
structure Ends (p : List (List (List Int))) (En : Nat → List (List Int)) : Prop where
  tk : ∀ j a, a ∈ En (j + 1) → a.take j ∈ En j
  wd : ∀ j w, w ∈ p.getD j [] → w ∈ En j
  ok : ∀ j a, a ∈ En j → Ok p j a
  sz : ∀ j, (En j).length ≤ 170
def pairsOf (En : Nat → List (List Int)) : Nat → List (List Int × List Int)
  | 0 => (En 0).flatMap fun a => (En 0).map fun b => (a, b)
  | n + 1 => pairsOf En n ++ (En (n + 1)).flatMap fun a => (En (n + 1)).map fun b => (a, b)
theorem prod_len {α β : Type} {l : List α} {m : List β} : (l.flatMap fun a => m.map fun b => (a, b)).length = l.length * m.length := by
  induction l with
  | nil => simp
  | cons x l ih => rw [List.flatMap_cons, List.length_append, ih, List.length_map, List.length_cons, Nat.add_mul]; omega
theorem pairsOf_len {p : List (List (List Int))} {En : Nat → List (List Int)} (e : Ends p En) : ∀ n, (pairsOf En n).length ≤ (n + 1) * 28900
  | 0 => by
    have := Nat.mul_le_mul (e.sz 0) (e.sz 0)
    unfold pairsOf
    rw [prod_len]
    omega
  | n + 1 => by
    have := Nat.mul_le_mul (e.sz (n + 1)) (e.sz (n + 1))
    have := pairsOf_len e n
    unfold pairsOf
    rw [List.length_append, prod_len]
    omega
theorem pairsOf_mem {En : Nat → List (List Int)} : ∀ {n j : Nat} {a b : List Int}, j ≤ n → a ∈ En j → b ∈ En j → (a, b) ∈ pairsOf En n
  | 0, j, a, b, l, ha, hb => by
    have : j = 0 := by omega
    subst this
    exact List.mem_flatMap.mpr ⟨a, ha, List.mem_map.mpr ⟨b, hb, rfl⟩⟩
  | n + 1, j, a, b, l, ha, hb => by
    by_cases e : j = n + 1
    · subst e
      exact List.mem_append_right _ (List.mem_flatMap.mpr ⟨a, ha, List.mem_map.mpr ⟨b, hb, rfl⟩⟩)
    · exact List.mem_append_left _ (pairsOf_mem (by omega) ha hb)
structure Memo (p : List (List (List Int))) (En : Nat → List (List Int)) (ks : List (List Int × List Int)) : Prop where
  nd : ks.Nodup
  mem : ∀ q ∈ ks, ∃ j, j ≤ p.length ∧ q.1 ∈ En j ∧ q.2 ∈ En j
theorem Memo.len {p : List (List (List Int))} {En : Nat → List (List Int)} {ks : List (List Int × List Int)} (m : Memo p En ks) (e : Ends p En) (hp : p.length ≤ 30) : ks.length < 1000000 := by
  have h1 := nodup_le (m := pairsOf En p.length) m.nd fun q hq => by
    obtain ⟨j, l, a, b⟩ := m.mem q hq
    exact pairsOf_mem l a b
  have h2 := pairsOf_len e p.length
  have h3 : (p.length + 1) * 28900 ≤ 31 * 28900 := Nat.mul_le_mul (by omega) (Nat.le_refl _)
  omega
section
variable {h : DH} {r : Addr} {kvs : List (D × D)} {y d : D} {Q : D → Prop} {Q1 : DH → Prop}
end
end L2.Lmp

set_option maxHeartbeats 4000000
namespace L2.Lmp
open PySem PySem.Spec PyProof.Rows
section
variable {p : List (List (List Int))} {En : Nat → List (List Int)} {r : Addr} {E : EK}
end
end L2.Lmp

set_option maxHeartbeats 4000000
namespace L2.Lmp
open PySem PySem.Spec PyProof.Rows
variable {p : List (List (List Int))}
end L2.Lmp

set_option maxHeartbeats 4000000
namespace L2.Lmp
open PySem PySem.Spec PyProof.Rows
variable {p : List (List (List Int))}
/-! ### ways, by parts -/
def Walk (p : List (List (List Int))) (n : Nat) : List Int → List (List Int) → List Int → Prop
  | a, [], b => a = b
  | a, m :: ms, b => (∃ (i : Nat) (s : Int), m = [(i : Int), s] ∧ i < n) ∧ Adj p n a (afterM a m) ∧ Ok p n (afterM a m) ∧ Walk p n (afterM a m) ms b
theorem Walk.append {n : Nat} : ∀ {ms ns : List (List Int)} {a b d : List Int}, Walk p n a ms b → Walk p n b ns d → Walk p n a (ms ++ ns) d
  | [], _, _, _, _, h, k => by cases h; exact k
  | _ :: _, _, _, _, _, ⟨h1, h2, h3, h4⟩, k => ⟨h1, h2, h3, h4.append k⟩
/-! ### the states of a way -/
/-- a walk as short as the distance: each step is nearer -/
def Near (p : List (List (List Int))) (n : Nat) (b : List Int) : List (List Int) → Prop
  | x :: y :: r => (Adj p n x y ∧ dist p n b y = dist p n b x - 1) ∧ Near p n b (y :: r)
  | _ => True
theorem Near.at {n : Nat} {b : List Int} : ∀ {l : List (List Int)} {i : Nat} {x y : List Int}, Near p n b l → l[i]? = some x → l[i + 1]? = some y → Adj p n x y ∧ dist p n b y = dist p n b x - 1
  | x :: y :: r, 0, _, _, h, h1, h2 => by
    cases h1; cases h2; exact h.1
  | x :: y :: r, i + 1, _, _, h, h1, h2 => Near.at (l := y :: r) h.2 h1 h2
  | [x], 0, _, _, _, _, h2 => by simp at h2
  | [x], _ + 1, _, _, _, h1, _ => by simp at h1
  | [], _, _, _, _, h1, _ => by simp at h1
end L2.Lmp

set_option maxHeartbeats 4000000
namespace L2.Lmp
open PySem PySem.Spec PyProof.Rows
variable {p : List (List (List Int))}
end L2.Lmp

set_option maxHeartbeats 4000000
namespace L2.Lmp
open PySem PySem.Spec PyProof.Rows
variable {p : List (List (List Int))}
end L2.Lmp

set_option maxHeartbeats 4000000
namespace L2.Lmp
open PySem PySem.Spec PyProof.Rows
variable {p : List (List (List Int))}
theorem Walk.split {n : Nat} : ∀ {ms ns : List (List Int)} {a d : List Int}, Walk p n a (ms ++ ns) d → ∃ b, Walk p n a ms b ∧ Walk p n b ns d
  | [], _, a, _, h => ⟨a, rfl, h⟩
  | _ :: _, _, _, _, ⟨h1, h2, h3, h4⟩ =>
    let ⟨b, x, y⟩ := Walk.split h4
    ⟨b, ⟨h1, h2, h3, x⟩, y⟩
theorem Walk.ok {n : Nat} : ∀ {ms : List (List Int)} {a b : List Int}, Ok p n a → Walk p n a ms b → Ok p n b
  | [], _, _, oa, h => by cases h; exact oa
  | _ :: _, _, _, _, ⟨_, _, h3, h4⟩ => Walk.ok h3 h4
section
variable {En : Nat → List (List Int)} {r : Addr} {E : EK}
end
end L2.Lmp

set_option maxHeartbeats 4000000
namespace L2.Lmp
open PySem PySem.Spec PyProof.Rows
variable {p : List (List (List Int))}
/-! ### a drawn state -/
theorem c_law_state {ns : List Int} {o : O} {a : Addr} {h : DH} {E : EK} {Q : DK} (k : OkP p) (ro : RowO ns o) (q : ∀ st o', Ok p p.length st → RowO ns o' → Q (tI st) (upO h a o')) : F_law_state [.ref a, tP p] (upO h a o) E Q := by
  simp only [↓e_law_state, tP, ↓e_mVar, ↓e_mK, ↓e_mOp1, ↓e_mOp2, ↓e_aNil, ↓e_aCons, ↓e_mTup, ↓e_mLst, ↓e_mLstM, ↓e_mIf, ↓e_tTru, ↓e_tNt, ↓e_tAnd2, ↓e_tOr2, ↓e_tOp2, ↓e_mChain, ↓e_tChain', ↓e_mAnd, ↓e_mOr, ↓e_mFld, ↓e_sFldD, ↓e_mMeth, ↓e_mMake, ↓e_mRev, revP_l, ↓e_mAndT, ↓e_mOrT, truP_lc, ↓e_mNot, ↓e_mCall, ↓e_mBlt, ↓e_oNo, ↓e_oSo, ↓e_mSl, ↓e_sPass, ↓e_sBrk, ↓e_sCnt, ↓e_sNever, ↓e_sSeq, ↓e_sAsg, ↓e_gNm, ↓e_gTu, ↓e_gsNil, ↓e_gsCons, ↓e_gSb, ↓e_sPar, ↓e_sExp, ↓e_sRt, ↓e_sRtN, ↓e_sIf, ↓e_sAug, ↓e_sFor, ↓e_sWh, ↓e_mComp, ↓e_mCompM, ↓e_tYs, ↓e_mkFn, ↓e_mApp, ↓e_itSeq, ↓e_itScr, ↓e_itEnum, ↓e_itZip, ↓e_itZip3, ↓e_itR1, ↓e_itR2, ↓e_itR3, ↓e_mDic0, ↓e_mDic1, ↓e_sPar3, ↓e_mAddM, ↓e_aStar, ↓e_mMulM, ↓e_sRaise0, ↓e_sRaise1, ↓e_mErr, ↓e_mCallV, starP_t, starP_l, slot_0, slot_1, slot_2, slot_3, slot_4, slot_5, slot_6, slot_7, slot_8, slot_9, slot_10, slot_11, slot_12, slot_13, slot_14, slot_15, slot_16, slot_17, slot_18, slot_19, slot_20, slot_21, slot_22, slot_23, slot_24, slot_25, slot_26, slot_27, slot_28, slot_29, slot_30, negP_i, ex3, ex2, wipeE, List.map_cons, List.map_nil, List.cons_append, List.nil_append, List.append_nil, List.length_cons, List.length_nil, List.replicate_succ, List.replicate_zero, List.set_cons_zero, List.set_cons_succ, Oc_some, Nat.reduceAdd, Nat.reduceSub, Nat.reduceLeDiff, Nat.zero_le, Int.toNat_natCast, Bool.or_false, Bool.or_true, Bool.or_self, Bool.false_or, Bool.true_or, decide_true, decide_false, Nat.zero_add, Nat.sub_self, Bool.true_eq_false, Bool.false_eq_true, if_true, if_false, ite_true, ite_false, true_and, and_true, addP_ii, subP_ii, mulP_ii, isiP_tup, isiP_lst, isiP_str, isiP_bl, isiP_int, isiP_tl, kd_non, kd_bl, kd_int, kd_str, kd_tup, kd_lst, isTup, isLst, isStr, isBl, isInt, eqP_ii, neP_ii, lenP_t, lenP_l, lenP_s, seqP_t, seqP_l, truP_b, ixP_t, ixP_l, slP_t, slP_l, tupleP_l, tupleP_t, addP_tt, modP_ii, divP_ii, exb, addLP_ll, min2_ii, max2_ii, exTup, exCons, exInt, iaddP_ii, leP_ii, gtP_ii, geP_ii, ltP_ii, intP_i, decide_eq_true_eq, Bool.not_eq_true', decide_eq_false_iff_not, Bool.not_true, Bool.not_false, List.cons_ne_nil, Nat.succ_ne_zero, reduceCtorEq]
  refine comp_ind _ (fun i acc h' => ∃ o' v, RowO ns o' ∧ h' = upO h a o' ∧ acc = v.map D.int ∧ v.length = i ∧ i ≤ p.length ∧ ∀ j, j < i → 0 ≤ v.getD j 0 ∧ v.getD j 0 ≤ ((p.getD j []).length : Int)) ⟨o, [], ro, rfl, rfl, rfl, Nat.zero_le _, fun j hj => by omega⟩
    (by rw [List.length_map]; have := k.2.2; omega) ?_ ?_ ?_
  · rintro i acc h' ⟨o', v, _, _, rfl, lv, _, _⟩
    exact ⟨trivial, by rw [List.length_map]; omega⟩
  · rintro i x acc h' K ⟨o', v, ro', rfl, rfl, lv, li, hv⟩ hx hK
    rw [List.getElem?_map] at hx
    cases hl : p[i]? with
    | none => rw [hl] at hx; cases hx
    | some l =>
      rw [hl] at hx
      cases hx
      have ll := k.1.len l (List.mem_of_getElem? hl)
      simp only [tL, ↓e_mVar, ↓e_mK, ↓e_mOp1, ↓e_mOp2, ↓e_aNil, ↓e_aCons, ↓e_mTup, ↓e_mLst, ↓e_mLstM, ↓e_mIf, ↓e_tTru, ↓e_tNt, ↓e_tAnd2, ↓e_tOr2, ↓e_tOp2, ↓e_mChain, ↓e_tChain', ↓e_mAnd, ↓e_mOr, ↓e_mFld, ↓e_sFldD, ↓e_mMeth, ↓e_mMake, ↓e_mRev, revP_l, ↓e_mAndT, ↓e_mOrT, truP_lc, ↓e_mNot, ↓e_mCall, ↓e_mBlt, ↓e_oNo, ↓e_oSo, ↓e_mSl, ↓e_sPass, ↓e_sBrk, ↓e_sCnt, ↓e_sNever, ↓e_sSeq, ↓e_sAsg, ↓e_gNm, ↓e_gTu, ↓e_gsNil, ↓e_gsCons, ↓e_gSb, ↓e_sPar, ↓e_sExp, ↓e_sRt, ↓e_sRtN, ↓e_sIf, ↓e_sAug, ↓e_sFor, ↓e_sWh, ↓e_mComp, ↓e_mCompM, ↓e_tYs, ↓e_mkFn, ↓e_mApp, ↓e_itSeq, ↓e_itScr, ↓e_itEnum, ↓e_itZip, ↓e_itZip3, ↓e_itR1, ↓e_itR2, ↓e_itR3, ↓e_mDic0, ↓e_mDic1, ↓e_sPar3, ↓e_mAddM, ↓e_aStar, ↓e_mMulM, ↓e_sRaise0, ↓e_sRaise1, ↓e_mErr, ↓e_mCallV, starP_t, starP_l, slot_0, slot_1, slot_2, slot_3, slot_4, slot_5, slot_6, slot_7, slot_8, slot_9, slot_10, slot_11, slot_12, slot_13, slot_14, slot_15, slot_16, slot_17, slot_18, slot_19, slot_20, slot_21, slot_22, slot_23, slot_24, slot_25, slot_26, slot_27, slot_28, slot_29, slot_30, negP_i, ex3, ex2, wipeE, List.map_cons, List.map_nil, List.cons_append, List.nil_append, List.append_nil, List.length_cons, List.length_nil, List.replicate_succ, List.replicate_zero, List.set_cons_zero, List.set_cons_succ, Oc_some, Nat.reduceAdd, Nat.reduceSub, Nat.reduceLeDiff, Nat.zero_le, Int.toNat_natCast, Bool.or_false, Bool.or_true, Bool.or_self, Bool.false_or, Bool.true_or, decide_true, decide_false, Nat.zero_add, Nat.sub_self, Bool.true_eq_false, Bool.false_eq_true, if_true, if_false, ite_true, ite_false, true_and, and_true, addP_ii, subP_ii, mulP_ii, isiP_tup, isiP_lst, isiP_str, isiP_bl, isiP_int, isiP_tl, kd_non, kd_bl, kd_int, kd_str, kd_tup, kd_lst, isTup, isLst, isStr, isBl, isInt, eqP_ii, neP_ii, lenP_t, lenP_l, lenP_s, seqP_t, seqP_l, truP_b, ixP_t, ixP_l, slP_t, slP_l, tupleP_l, tupleP_t, addP_tt, modP_ii, divP_ii, exb, addLP_ll, min2_ii, max2_ii, exTup, exCons, exInt, iaddP_ii, leP_ii, gtP_ii, geP_ii, ltP_ii, intP_i, decide_eq_true_eq, Bool.not_eq_true', decide_eq_false_iff_not, Bool.not_true, Bool.not_false, List.cons_ne_nil, Nat.succ_ne_zero, reduceCtorEq, List.length_map]
      refine c_taken ro' (by omega) (small_of (i := 1) (by omega) (by omega) (by decide)) fun r o2 r0 r1 ro2 => ⟨_, .refl _, hK _ _ ⟨o2, v ++ [r], ro2, rfl, by simp, by simp [lv], (List.getElem?_eq_some_iff.mp hl).1, fun j hj => ?_⟩⟩
      by_cases e : j < i
      · have := hv j e
        rw [List.getD_eq_getElem?_getD, List.getElem?_append_left (by omega), ← List.getD_eq_getElem?_getD]
        exact this
      · have : j = i := by omega
        subst this
        rw [getD_snoc lv, getD_some hl]
        omega
  · rintro acc h' ⟨o', v, ro', rfl, rfl, lv, li, hv⟩
    rw [List.length_map] at lv hv
    (try simp only [↓e_mVar, ↓e_mK, ↓e_mOp1, ↓e_mOp2, ↓e_aNil, ↓e_aCons, ↓e_mTup, ↓e_mLst, ↓e_mLstM, ↓e_mIf, ↓e_tTru, ↓e_tNt, ↓e_tAnd2, ↓e_tOr2, ↓e_tOp2, ↓e_mChain, ↓e_tChain', ↓e_mAnd, ↓e_mOr, ↓e_mFld, ↓e_sFldD, ↓e_mMeth, ↓e_mMake, ↓e_mRev, revP_l, ↓e_mAndT, ↓e_mOrT, truP_lc, ↓e_mNot, ↓e_mCall, ↓e_mBlt, ↓e_oNo, ↓e_oSo, ↓e_mSl, ↓e_sPass, ↓e_sBrk, ↓e_sCnt, ↓e_sNever, ↓e_sSeq, ↓e_sAsg, ↓e_gNm, ↓e_gTu, ↓e_gsNil, ↓e_gsCons, ↓e_gSb, ↓e_sPar, ↓e_sExp, ↓e_sRt, ↓e_sRtN, ↓e_sIf, ↓e_sAug, ↓e_sFor, ↓e_sWh, ↓e_mComp, ↓e_mCompM, ↓e_tYs, ↓e_mkFn, ↓e_mApp, ↓e_itSeq, ↓e_itScr, ↓e_itEnum, ↓e_itZip, ↓e_itZip3, ↓e_itR1, ↓e_itR2, ↓e_itR3, ↓e_mDic0, ↓e_mDic1, ↓e_sPar3, ↓e_mAddM, ↓e_aStar, ↓e_mMulM, ↓e_sRaise0, ↓e_sRaise1, ↓e_mErr, ↓e_mCallV, starP_t, starP_l, slot_0, slot_1, slot_2, slot_3, slot_4, slot_5, slot_6, slot_7, slot_8, slot_9, slot_10, slot_11, slot_12, slot_13, slot_14, slot_15, slot_16, slot_17, slot_18, slot_19, slot_20, slot_21, slot_22, slot_23, slot_24, slot_25, slot_26, slot_27, slot_28, slot_29, slot_30, negP_i, ex3, ex2, wipeE, List.map_cons, List.map_nil, List.cons_append, List.nil_append, List.append_nil, List.length_cons, List.length_nil, List.replicate_succ, List.replicate_zero, List.set_cons_zero, List.set_cons_succ, Oc_some, Nat.reduceAdd, Nat.reduceSub, Nat.reduceLeDiff, Nat.zero_le, Int.toNat_natCast, Bool.or_false, Bool.or_true, Bool.or_self, Bool.false_or, Bool.true_or, decide_true, decide_false, Nat.zero_add, Nat.sub_self, Bool.true_eq_false, Bool.false_eq_true, if_true, if_false, ite_true, ite_false, true_and, and_true, addP_ii, subP_ii, mulP_ii, isiP_tup, isiP_lst, isiP_str, isiP_bl, isiP_int, isiP_tl, kd_non, kd_bl, kd_int, kd_str, kd_tup, kd_lst, isTup, isLst, isStr, isBl, isInt, eqP_ii, neP_ii, lenP_t, lenP_l, lenP_s, seqP_t, seqP_l, truP_b, ixP_t, ixP_l, slP_t, slP_l, tupleP_l, tupleP_t, addP_tt, modP_ii, divP_ii, exb, addLP_ll, min2_ii, max2_ii, exTup, exCons, exInt, iaddP_ii, leP_ii, gtP_ii, geP_ii, ltP_ii, intP_i, decide_eq_true_eq, Bool.not_eq_true', decide_eq_false_iff_not, Bool.not_true, Bool.not_false, List.cons_ne_nil, Nat.succ_ne_zero, reduceCtorEq])
    exact .of (q v o' ⟨lv, hv⟩ ro')
/-! ### the ends of some states -/
section
variable {h : DH} {E : EK} {Q : DK} {a b : List Int}
theorem c_need_two (k : OkP p) (oa : Ok p p.length a) (ob : Ok p p.length b) (q : Q .non h) : F_need_two [tP p, tI a, tI b] h E Q := by
  simp only [↓e_need_two, ↓e_mVar, ↓e_mK, ↓e_mOp1, ↓e_mOp2, ↓e_aNil, ↓e_aCons, ↓e_mTup, ↓e_mLst, ↓e_mLstM, ↓e_mIf, ↓e_tTru, ↓e_tNt, ↓e_tAnd2, ↓e_tOr2, ↓e_tOp2, ↓e_mChain, ↓e_tChain', ↓e_mAnd, ↓e_mOr, ↓e_mFld, ↓e_sFldD, ↓e_mMeth, ↓e_mMake, ↓e_mRev, revP_l, ↓e_mAndT, ↓e_mOrT, truP_lc, ↓e_mNot, ↓e_mCall, ↓e_mBlt, ↓e_oNo, ↓e_oSo, ↓e_mSl, ↓e_sPass, ↓e_sBrk, ↓e_sCnt, ↓e_sNever, ↓e_sSeq, ↓e_sAsg, ↓e_gNm, ↓e_gTu, ↓e_gsNil, ↓e_gsCons, ↓e_gSb, ↓e_sPar, ↓e_sExp, ↓e_sRt, ↓e_sRtN, ↓e_sIf, ↓e_sAug, ↓e_sFor, ↓e_sWh, ↓e_mComp, ↓e_mCompM, ↓e_tYs, ↓e_mkFn, ↓e_mApp, ↓e_itSeq, ↓e_itScr, ↓e_itEnum, ↓e_itZip, ↓e_itZip3, ↓e_itR1, ↓e_itR2, ↓e_itR3, ↓e_mDic0, ↓e_mDic1, ↓e_sPar3, ↓e_mAddM, ↓e_aStar, ↓e_mMulM, ↓e_sRaise0, ↓e_sRaise1, ↓e_mErr, ↓e_mCallV, starP_t, starP_l, slot_0, slot_1, slot_2, slot_3, slot_4, slot_5, slot_6, slot_7, slot_8, slot_9, slot_10, slot_11, slot_12, slot_13, slot_14, slot_15, slot_16, slot_17, slot_18, slot_19, slot_20, slot_21, slot_22, slot_23, slot_24, slot_25, slot_26, slot_27, slot_28, slot_29, slot_30, negP_i, ex3, ex2, wipeE, List.map_cons, List.map_nil, List.cons_append, List.nil_append, List.append_nil, List.length_cons, List.length_nil, List.replicate_succ, List.replicate_zero, List.set_cons_zero, List.set_cons_succ, Oc_some, Nat.reduceAdd, Nat.reduceSub, Nat.reduceLeDiff, Nat.zero_le, Int.toNat_natCast, Bool.or_false, Bool.or_true, Bool.or_self, Bool.false_or, Bool.true_or, decide_true, decide_false, Nat.zero_add, Nat.sub_self, Bool.true_eq_false, Bool.false_eq_true, if_true, if_false, ite_true, ite_false, true_and, and_true, addP_ii, subP_ii, mulP_ii, isiP_tup, isiP_lst, isiP_str, isiP_bl, isiP_int, isiP_tl, kd_non, kd_bl, kd_int, kd_str, kd_tup, kd_lst, isTup, isLst, isStr, isBl, isInt, eqP_ii, neP_ii, lenP_t, lenP_l, lenP_s, seqP_t, seqP_l, truP_b, ixP_t, ixP_l, slP_t, slP_l, tupleP_l, tupleP_t, addP_tt, modP_ii, divP_ii, exb, addLP_ll, min2_ii, max2_ii, exTup, exCons, exInt, iaddP_ii, leP_ii, gtP_ii, geP_ii, ltP_ii, intP_i, decide_eq_true_eq, Bool.not_eq_true', decide_eq_false_iff_not, Bool.not_true, Bool.not_false, List.cons_ne_nil, Nat.succ_ne_zero, reduceCtorEq]
  refine c_need_puzzle k ?_
  (try simp only [↓e_mVar, ↓e_mK, ↓e_mOp1, ↓e_mOp2, ↓e_aNil, ↓e_aCons, ↓e_mTup, ↓e_mLst, ↓e_mLstM, ↓e_mIf, ↓e_tTru, ↓e_tNt, ↓e_tAnd2, ↓e_tOr2, ↓e_tOp2, ↓e_mChain, ↓e_tChain', ↓e_mAnd, ↓e_mOr, ↓e_mFld, ↓e_sFldD, ↓e_mMeth, ↓e_mMake, ↓e_mRev, revP_l, ↓e_mAndT, ↓e_mOrT, truP_lc, ↓e_mNot, ↓e_mCall, ↓e_mBlt, ↓e_oNo, ↓e_oSo, ↓e_mSl, ↓e_sPass, ↓e_sBrk, ↓e_sCnt, ↓e_sNever, ↓e_sSeq, ↓e_sAsg, ↓e_gNm, ↓e_gTu, ↓e_gsNil, ↓e_gsCons, ↓e_gSb, ↓e_sPar, ↓e_sExp, ↓e_sRt, ↓e_sRtN, ↓e_sIf, ↓e_sAug, ↓e_sFor, ↓e_sWh, ↓e_mComp, ↓e_mCompM, ↓e_tYs, ↓e_mkFn, ↓e_mApp, ↓e_itSeq, ↓e_itScr, ↓e_itEnum, ↓e_itZip, ↓e_itZip3, ↓e_itR1, ↓e_itR2, ↓e_itR3, ↓e_mDic0, ↓e_mDic1, ↓e_sPar3, ↓e_mAddM, ↓e_aStar, ↓e_mMulM, ↓e_sRaise0, ↓e_sRaise1, ↓e_mErr, ↓e_mCallV, starP_t, starP_l, slot_0, slot_1, slot_2, slot_3, slot_4, slot_5, slot_6, slot_7, slot_8, slot_9, slot_10, slot_11, slot_12, slot_13, slot_14, slot_15, slot_16, slot_17, slot_18, slot_19, slot_20, slot_21, slot_22, slot_23, slot_24, slot_25, slot_26, slot_27, slot_28, slot_29, slot_30, negP_i, ex3, ex2, wipeE, List.map_cons, List.map_nil, List.cons_append, List.nil_append, List.append_nil, List.length_cons, List.length_nil, List.replicate_succ, List.replicate_zero, List.set_cons_zero, List.set_cons_succ, Oc_some, Nat.reduceAdd, Nat.reduceSub, Nat.reduceLeDiff, Nat.zero_le, Int.toNat_natCast, Bool.or_false, Bool.or_true, Bool.or_self, Bool.false_or, Bool.true_or, decide_true, decide_false, Nat.zero_add, Nat.sub_self, Bool.true_eq_false, Bool.false_eq_true, if_true, if_false, ite_true, ite_false, true_and, and_true, addP_ii, subP_ii, mulP_ii, isiP_tup, isiP_lst, isiP_str, isiP_bl, isiP_int, isiP_tl, kd_non, kd_bl, kd_int, kd_str, kd_tup, kd_lst, isTup, isLst, isStr, isBl, isInt, eqP_ii, neP_ii, lenP_t, lenP_l, lenP_s, seqP_t, seqP_l, truP_b, ixP_t, ixP_l, slP_t, slP_l, tupleP_l, tupleP_t, addP_tt, modP_ii, divP_ii, exb, addLP_ll, min2_ii, max2_ii, exTup, exCons, exInt, iaddP_ii, leP_ii, gtP_ii, geP_ii, ltP_ii, intP_i, decide_eq_true_eq, Bool.not_eq_true', decide_eq_false_iff_not, Bool.not_true, Bool.not_false, List.cons_ne_nil, Nat.succ_ne_zero, reduceCtorEq])
  refine c_need_state k.2.2 (ok_state.mpr oa) ?_
  (try simp only [↓e_mVar, ↓e_mK, ↓e_mOp1, ↓e_mOp2, ↓e_aNil, ↓e_aCons, ↓e_mTup, ↓e_mLst, ↓e_mLstM, ↓e_mIf, ↓e_tTru, ↓e_tNt, ↓e_tAnd2, ↓e_tOr2, ↓e_tOp2, ↓e_mChain, ↓e_tChain', ↓e_mAnd, ↓e_mOr, ↓e_mFld, ↓e_sFldD, ↓e_mMeth, ↓e_mMake, ↓e_mRev, revP_l, ↓e_mAndT, ↓e_mOrT, truP_lc, ↓e_mNot, ↓e_mCall, ↓e_mBlt, ↓e_oNo, ↓e_oSo, ↓e_mSl, ↓e_sPass, ↓e_sBrk, ↓e_sCnt, ↓e_sNever, ↓e_sSeq, ↓e_sAsg, ↓e_gNm, ↓e_gTu, ↓e_gsNil, ↓e_gsCons, ↓e_gSb, ↓e_sPar, ↓e_sExp, ↓e_sRt, ↓e_sRtN, ↓e_sIf, ↓e_sAug, ↓e_sFor, ↓e_sWh, ↓e_mComp, ↓e_mCompM, ↓e_tYs, ↓e_mkFn, ↓e_mApp, ↓e_itSeq, ↓e_itScr, ↓e_itEnum, ↓e_itZip, ↓e_itZip3, ↓e_itR1, ↓e_itR2, ↓e_itR3, ↓e_mDic0, ↓e_mDic1, ↓e_sPar3, ↓e_mAddM, ↓e_aStar, ↓e_mMulM, ↓e_sRaise0, ↓e_sRaise1, ↓e_mErr, ↓e_mCallV, starP_t, starP_l, slot_0, slot_1, slot_2, slot_3, slot_4, slot_5, slot_6, slot_7, slot_8, slot_9, slot_10, slot_11, slot_12, slot_13, slot_14, slot_15, slot_16, slot_17, slot_18, slot_19, slot_20, slot_21, slot_22, slot_23, slot_24, slot_25, slot_26, slot_27, slot_28, slot_29, slot_30, negP_i, ex3, ex2, wipeE, List.map_cons, List.map_nil, List.cons_append, List.nil_append, List.append_nil, List.length_cons, List.length_nil, List.replicate_succ, List.replicate_zero, List.set_cons_zero, List.set_cons_succ, Oc_some, Nat.reduceAdd, Nat.reduceSub, Nat.reduceLeDiff, Nat.zero_le, Int.toNat_natCast, Bool.or_false, Bool.or_true, Bool.or_self, Bool.false_or, Bool.true_or, decide_true, decide_false, Nat.zero_add, Nat.sub_self, Bool.true_eq_false, Bool.false_eq_true, if_true, if_false, ite_true, ite_false, true_and, and_true, addP_ii, subP_ii, mulP_ii, isiP_tup, isiP_lst, isiP_str, isiP_bl, isiP_int, isiP_tl, kd_non, kd_bl, kd_int, kd_str, kd_tup, kd_lst, isTup, isLst, isStr, isBl, isInt, eqP_ii, neP_ii, lenP_t, lenP_l, lenP_s, seqP_t, seqP_l, truP_b, ixP_t, ixP_l, slP_t, slP_l, tupleP_l, tupleP_t, addP_tt, modP_ii, divP_ii, exb, addLP_ll, min2_ii, max2_ii, exTup, exCons, exInt, iaddP_ii, leP_ii, gtP_ii, geP_ii, ltP_ii, intP_i, decide_eq_true_eq, Bool.not_eq_true', decide_eq_false_iff_not, Bool.not_true, Bool.not_false, List.cons_ne_nil, Nat.succ_ne_zero, reduceCtorEq])
  exact c_need_state k.2.2 (ok_state.mpr ob) (.of q)
end
end L2.Lmp

set_option maxHeartbeats 4000000
namespace L2.Lmp
open PySem PySem.Spec PyProof.Rows
variable {p : List (List (List Int))}
/-! ### dicts by states -/
def nbrs (p : List (List (List Int))) (st : List Int) : List (List Int) := (stepsOf p st).map (afterM st)
section
variable {h : DH} {E : EK} {Q : DK} {a b : List Int}
end
end L2.Lmp

set_option maxHeartbeats 4000000
namespace L2.Lmp
open PySem PySem.Spec PyProof.Rows
variable {p : List (List (List Int))}
/-! ### all distances from a state, by layers -/
theorem adj_nbr {st u : List Int} (o : Ok p p.length st) (ou : Ok p p.length u) (h : Adj p p.length st u) : u ∈ nbrs p st := by
  obtain ⟨m, mm, e⟩ := adj_steps o ou h
  exact List.mem_map.mpr ⟨m, mm, e.symm⟩
/-- a state so far away means states at all less distances -/
theorem layer_down (wk : WardsOk p) {s0 : List Int} (o0 : Ok p p.length s0) {k : Int} (k0 : 0 ≤ k) : ∀ (n : Nat) {u : List Int}, Ok p p.length u → dist p p.length s0 u = k + n → ∃ v, Ok p p.length v ∧ dist p p.length s0 v = k
  | 0, u, ou, h => ⟨u, ou, by simpa using h⟩
  | n + 1, u, ou, h => by
    have ne : s0 ≠ u := by rintro rfl; rw [dist_self] at h; omega
    obtain ⟨t, _, ot, ht⟩ := dist_near wk o0 ou ne
    exact layer_down wk o0 k0 n ot (by omega)
structure Layer (p : List (List (List Int))) (s0 : List Int) (k : Int) (fs rim : List (List Int)) : Prop where
  k0 : 0 ≤ k
  nd : fs.Nodup
  fm : ∀ s, s ∈ fs ↔ Ok p p.length s ∧ dist p p.length s0 s ≤ k
  rm : ∀ s, s ∈ rim ↔ Ok p p.length s ∧ dist p p.length s0 s = k
theorem Layer.first {s0 : List Int} (o0 : Ok p p.length s0) : Layer p s0 0 [s0] [s0] := ⟨by decide, by simp, fun s => by
  constructor
  · intro h; rw [List.mem_singleton.mp h]; exact ⟨o0, by rw [dist_self]; decide⟩
  · rintro ⟨o, h⟩
    have := dist_nonneg (p := p) (n := p.length) s0 s
    rw [dist_zero (p := p) o0.1 o.1 (by omega)]
    simp, fun s => by
  constructor
  · intro h; rw [List.mem_singleton.mp h]; exact ⟨o0, dist_self _⟩
  · rintro ⟨o, h⟩
    rw [dist_zero o0.1 o.1 h]
    simp⟩
theorem Layer.next (wk : WardsOk p) {s0 : List Int} (o0 : Ok p p.length s0) {k : Int} {fs rim L : List (List Int)} (h : Layer p s0 k fs rim) (nd : (fs ++ L).Nodup) (hl : ∀ s ∈ L, Ok p p.length s ∧ dist p p.length s0 s = k + 1)
    (hc : ∀ s ∈ rim, ∀ u ∈ nbrs p s, dist p p.length s0 u = k + 1 → u ∈ L) : Layer p s0 (k + 1) (fs ++ L) L := by
  have rm : ∀ s, s ∈ L ↔ Ok p p.length s ∧ dist p p.length s0 s = k + 1 := fun s => ⟨hl s, fun ⟨o, e⟩ => by
    have ne : s0 ≠ s := by rintro rfl; rw [dist_self] at e; have := h.k0; omega
    obtain ⟨t, ad, ot, ht⟩ := dist_near wk o0 o ne
    exact hc t ((h.rm t).mpr ⟨ot, by omega⟩) s (adj_nbr ot o ad.symm) e⟩
  refine ⟨by have := h.k0; omega, nd, fun s => ?_, rm⟩
  rw [List.mem_append, h.fm, rm]
  constructor
  · rintro (⟨o, e⟩ | ⟨o, e⟩)
    · exact ⟨o, by omega⟩
    · exact ⟨o, by omega⟩
  · rintro ⟨o, e⟩
    by_cases c : dist p p.length s0 s ≤ k
    · exact .inl ⟨o, c⟩
    · exact .inr ⟨o, by omega⟩
theorem Layer.last (wk : WardsOk p) {s0 : List Int} (o0 : Ok p p.length s0) {k : Int} {fs : List (List Int)} (h : Layer p s0 k fs []) {s : List Int} (o : Ok p p.length s) : s ∈ fs := by
  refine (h.fm s).mpr ⟨o, ?_⟩
  rcases Int.lt_or_le k (dist p p.length s0 s) with c | c
  · obtain ⟨v, ov, ev⟩ := layer_down wk o0 h.k0 (dist p p.length s0 s - k).toNat o (by omega)
    have := (h.rm v).mpr ⟨ov, ev⟩
    cases this
  · exact c
section
variable {h : DH} {E : EK} {Q : DK}
end
end L2.Lmp

set_option maxHeartbeats 4000000
namespace L2.Lmp
open PySem PySem.Spec PyProof.Rows
variable {p : List (List (List Int))}
section
variable {h : DH} {E : EK} {Q : DK}
end
end L2.Lmp

set_option maxHeartbeats 4000000
namespace L2.Lmp
open PySem PySem.Spec PyProof.Rows
variable {p : List (List (List Int))}
section
variable {h : DH} {E : EK} {Q : DK} {d : Addr} {xs : List D}
end
/-! ### the first move -/
section
variable {h : DH} {E : EK} {Q : DK} {a b : List Int}
end
end L2.Lmp

set_option maxHeartbeats 4000000
namespace L2.Lmp
open PySem PySem.Spec PyProof.Rows
variable {p : List (List (List Int))}
section
variable {h : DH} {E : EK} {Q : DK} {a b : List Int}
end
theorem rowO0 {ns : List Int} {z : Int} (z0 : 0 ≤ z) (z1 : z < 2147483647) : RowO ns (.lst [.scr ns, .int 0, .int z, .int 0]) := ⟨0, z, 0, rfl, by decide, ⟨z0, z1⟩, by decide⟩
end L2.Lmp

set_option maxHeartbeats 4000000
namespace L2.Lmp
open PySem PySem.Spec PyProof.Rows
variable {p : List (List (List Int))}
/-! ### medians -/
end L2.Lmp

set_option maxHeartbeats 4000000
namespace L2.Lmp
open PySem PySem.Spec PyProof.Rows
variable {p : List (List (List Int))}
section
variable {h : DH} {E : EK} {Q : DK} {a b c : List Int}
end
end L2.Lmp

set_option maxHeartbeats 4000000
namespace L2.Lmp
open PySem PySem.Spec PyProof.Rows
variable {p : List (List (List Int))}
/-! ### sums and least of ints -/
end L2.Lmp

set_option maxHeartbeats 4000000
namespace L2.Lmp
open PySem PySem.Spec PyProof.Rows
variable {p : List (List (List Int))}
/-! ### the least of some ints -/
/-! ### least trees -/
section
variable {En : Nat → List (List Int)} {r : Addr} {E : EK}
end
end L2.Lmp

set_option maxHeartbeats 4000000
namespace L2.Lmp
open PySem PySem.Spec PyProof.Rows
variable {p : List (List (List Int))}
/-! ### uses of lamps -/
end L2.Lmp

set_option maxHeartbeats 4000000
namespace L2.Lmp
open PySem PySem.Spec PyProof.Rows
variable {p : List (List (List Int))}
/-! ### memos of any function of two states -/
section
variable {En : Nat → List (List Int)} {r : Addr} {E : EK} {h : DH}
end
end L2.Lmp

set_option maxHeartbeats 4000000
namespace L2.Lmp
open PySem PySem.Spec PyProof.Rows
variable {p : List (List (List Int))}
/-! ### the neighbors are different ones -/
end L2.Lmp

set_option maxHeartbeats 4000000
namespace L2.Lmp
open PySem PySem.Spec PyProof.Rows
variable {p : List (List (List Int))}
end L2.Lmp

set_option maxHeartbeats 4000000
namespace L2.Lmp
open PySem PySem.Spec PyProof.Rows
variable {p : List (List (List Int))}
section
variable {En : Nat → List (List Int)} {r1 r2 : Addr} {E : EK} {h : DH}
variable {Q : DK} {a b : List Int}
end
end L2.Lmp

set_option maxHeartbeats 4000000
namespace L2.Lmp
open PySem PySem.Spec PyProof.Rows
variable {p : List (List (List Int))} {h : DH} {E : EK} {Q : DK}
/-! ### errors told -/
theorem hdE_nam {hs : Hds} {P : DK} {x : Str} (e : hs.lookup x = some none) (q : P (.str x) h) : hdE hs P ⟨x, none⟩ h := by
  unfold hdE
  simp only [e]
  exact q
theorem hdE_fld {hs : Hds} {P : DK} {x f : Str} {d : D} (e : hs.lookup x = some (some f)) (q : P (.tup [.str x, d]) h) : hdE hs P ⟨x, some (f, d)⟩ h := by
  unfold hdE
  simp only [e]
  exact ⟨d, rfl, q⟩
theorem c_puzzle_no {x : D} (kx : kd x = true) (hx : isTup x = false ∨ x = .tup []) (q : E ⟨"BadPuzzle", some ("index", .non)⟩ h) : F_need_puzzle [x] h E Q := by
  simp only [↓e_need_puzzle, ↓e_mVar, ↓e_mK, ↓e_mOp1, ↓e_mOp2, ↓e_aNil, ↓e_aCons, ↓e_mTup, ↓e_mLst, ↓e_mLstM, ↓e_mIf, ↓e_tTru, ↓e_tNt, ↓e_tAnd2, ↓e_tOr2, ↓e_tOp2, ↓e_mChain, ↓e_tChain', ↓e_mAnd, ↓e_mOr, ↓e_mFld, ↓e_sFldD, ↓e_mMeth, ↓e_mMake, ↓e_mRev, revP_l, ↓e_mAndT, ↓e_mOrT, truP_lc, ↓e_mNot, ↓e_mCall, ↓e_mBlt, ↓e_oNo, ↓e_oSo, ↓e_mSl, ↓e_sPass, ↓e_sBrk, ↓e_sCnt, ↓e_sNever, ↓e_sSeq, ↓e_sAsg, ↓e_gNm, ↓e_gTu, ↓e_gsNil, ↓e_gsCons, ↓e_gSb, ↓e_sPar, ↓e_sExp, ↓e_sRt, ↓e_sRtN, ↓e_sIf, ↓e_sAug, ↓e_sFor, ↓e_sWh, ↓e_mComp, ↓e_mCompM, ↓e_tYs, ↓e_mkFn, ↓e_mApp, ↓e_itSeq, ↓e_itScr, ↓e_itEnum, ↓e_itZip, ↓e_itZip3, ↓e_itR1, ↓e_itR2, ↓e_itR3, ↓e_mDic0, ↓e_mDic1, ↓e_sPar3, ↓e_mAddM, ↓e_aStar, ↓e_mMulM, ↓e_sRaise0, ↓e_sRaise1, ↓e_mErr, ↓e_mCallV, starP_t, starP_l, slot_0, slot_1, slot_2, slot_3, slot_4, slot_5, slot_6, slot_7, slot_8, slot_9, slot_10, slot_11, slot_12, slot_13, slot_14, slot_15, slot_16, slot_17, slot_18, slot_19, slot_20, slot_21, slot_22, slot_23, slot_24, slot_25, slot_26, slot_27, slot_28, slot_29, slot_30, negP_i, ex3, ex2, wipeE, List.map_cons, List.map_nil, List.cons_append, List.nil_append, List.append_nil, List.length_cons, List.length_nil, List.replicate_succ, List.replicate_zero, List.set_cons_zero, List.set_cons_succ, Oc_some, Nat.reduceAdd, Nat.reduceSub, Nat.reduceLeDiff, Nat.zero_le, Int.toNat_natCast, Bool.or_false, Bool.or_true, Bool.or_self, Bool.false_or, Bool.true_or, decide_true, decide_false, Nat.zero_add, Nat.sub_self, Bool.true_eq_false, Bool.false_eq_true, if_true, if_false, ite_true, ite_false, true_and, and_true, addP_ii, subP_ii, mulP_ii, isiP_tup, isiP_lst, isiP_str, isiP_bl, isiP_int, isiP_tl, kd_non, kd_bl, kd_int, kd_str, kd_tup, kd_lst, isTup, isLst, isStr, isBl, isInt, eqP_ii, neP_ii, lenP_t, lenP_l, lenP_s, seqP_t, seqP_l, truP_b, ixP_t, ixP_l, slP_t, slP_l, tupleP_l, tupleP_t, addP_tt, modP_ii, divP_ii, exb, addLP_ll, min2_ii, max2_ii, exTup, exCons, exInt, iaddP_ii, leP_ii, gtP_ii, geP_ii, ltP_ii, intP_i, decide_eq_true_eq, Bool.not_eq_true', decide_eq_false_iff_not, Bool.not_true, Bool.not_false, List.cons_ne_nil, Nat.succ_ne_zero, reduceCtorEq]
  rcases hx with hx | rfl
  · rw [isiP_tup kx]
    cases x <;> first | (cases kx; done) | (simp only [↓e_mVar, ↓e_mK, ↓e_mOp1, ↓e_mOp2, ↓e_aNil, ↓e_aCons, ↓e_mTup, ↓e_mLst, ↓e_mLstM, ↓e_mIf, ↓e_tTru, ↓e_tNt, ↓e_tAnd2, ↓e_tOr2, ↓e_tOp2, ↓e_mChain, ↓e_tChain', ↓e_mAnd, ↓e_mOr, ↓e_mFld, ↓e_sFldD, ↓e_mMeth, ↓e_mMake, ↓e_mRev, revP_l, ↓e_mAndT, ↓e_mOrT, truP_lc, ↓e_mNot, ↓e_mCall, ↓e_mBlt, ↓e_oNo, ↓e_oSo, ↓e_mSl, ↓e_sPass, ↓e_sBrk, ↓e_sCnt, ↓e_sNever, ↓e_sSeq, ↓e_sAsg, ↓e_gNm, ↓e_gTu, ↓e_gsNil, ↓e_gsCons, ↓e_gSb, ↓e_sPar, ↓e_sExp, ↓e_sRt, ↓e_sRtN, ↓e_sIf, ↓e_sAug, ↓e_sFor, ↓e_sWh, ↓e_mComp, ↓e_mCompM, ↓e_tYs, ↓e_mkFn, ↓e_mApp, ↓e_itSeq, ↓e_itScr, ↓e_itEnum, ↓e_itZip, ↓e_itZip3, ↓e_itR1, ↓e_itR2, ↓e_itR3, ↓e_mDic0, ↓e_mDic1, ↓e_sPar3, ↓e_mAddM, ↓e_aStar, ↓e_mMulM, ↓e_sRaise0, ↓e_sRaise1, ↓e_mErr, ↓e_mCallV, starP_t, starP_l, slot_0, slot_1, slot_2, slot_3, slot_4, slot_5, slot_6, slot_7, slot_8, slot_9, slot_10, slot_11, slot_12, slot_13, slot_14, slot_15, slot_16, slot_17, slot_18, slot_19, slot_20, slot_21, slot_22, slot_23, slot_24, slot_25, slot_26, slot_27, slot_28, slot_29, slot_30, negP_i, ex3, ex2, wipeE, List.map_cons, List.map_nil, List.cons_append, List.nil_append, List.append_nil, List.length_cons, List.length_nil, List.replicate_succ, List.replicate_zero, List.set_cons_zero, List.set_cons_succ, Oc_some, Nat.reduceAdd, Nat.reduceSub, Nat.reduceLeDiff, Nat.zero_le, Int.toNat_natCast, Bool.or_false, Bool.or_true, Bool.or_self, Bool.false_or, Bool.true_or, decide_true, decide_false, Nat.zero_add, Nat.sub_self, Bool.true_eq_false, Bool.false_eq_true, if_true, if_false, ite_true, ite_false, true_and, and_true, addP_ii, subP_ii, mulP_ii, isiP_tup, isiP_lst, isiP_str, isiP_bl, isiP_int, isiP_tl, kd_non, kd_bl, kd_int, kd_str, kd_tup, kd_lst, isTup, isLst, isStr, isBl, isInt, eqP_ii, neP_ii, lenP_t, lenP_l, lenP_s, seqP_t, seqP_l, truP_b, ixP_t, ixP_l, slP_t, slP_l, tupleP_l, tupleP_t, addP_tt, modP_ii, divP_ii, exb, addLP_ll, min2_ii, max2_ii, exTup, exCons, exInt, iaddP_ii, leP_ii, gtP_ii, geP_ii, ltP_ii, intP_i, decide_eq_true_eq, Bool.not_eq_true', decide_eq_false_iff_not, Bool.not_true, Bool.not_false, List.cons_ne_nil, Nat.succ_ne_zero, reduceCtorEq]; exact q) | (exact nomatch hx)
  · simp only [↓e_mVar, ↓e_mK, ↓e_mOp1, ↓e_mOp2, ↓e_aNil, ↓e_aCons, ↓e_mTup, ↓e_mLst, ↓e_mLstM, ↓e_mIf, ↓e_tTru, ↓e_tNt, ↓e_tAnd2, ↓e_tOr2, ↓e_tOp2, ↓e_mChain, ↓e_tChain', ↓e_mAnd, ↓e_mOr, ↓e_mFld, ↓e_sFldD, ↓e_mMeth, ↓e_mMake, ↓e_mRev, revP_l, ↓e_mAndT, ↓e_mOrT, truP_lc, ↓e_mNot, ↓e_mCall, ↓e_mBlt, ↓e_oNo, ↓e_oSo, ↓e_mSl, ↓e_sPass, ↓e_sBrk, ↓e_sCnt, ↓e_sNever, ↓e_sSeq, ↓e_sAsg, ↓e_gNm, ↓e_gTu, ↓e_gsNil, ↓e_gsCons, ↓e_gSb, ↓e_sPar, ↓e_sExp, ↓e_sRt, ↓e_sRtN, ↓e_sIf, ↓e_sAug, ↓e_sFor, ↓e_sWh, ↓e_mComp, ↓e_mCompM, ↓e_tYs, ↓e_mkFn, ↓e_mApp, ↓e_itSeq, ↓e_itScr, ↓e_itEnum, ↓e_itZip, ↓e_itZip3, ↓e_itR1, ↓e_itR2, ↓e_itR3, ↓e_mDic0, ↓e_mDic1, ↓e_sPar3, ↓e_mAddM, ↓e_aStar, ↓e_mMulM, ↓e_sRaise0, ↓e_sRaise1, ↓e_mErr, ↓e_mCallV, starP_t, starP_l, slot_0, slot_1, slot_2, slot_3, slot_4, slot_5, slot_6, slot_7, slot_8, slot_9, slot_10, slot_11, slot_12, slot_13, slot_14, slot_15, slot_16, slot_17, slot_18, slot_19, slot_20, slot_21, slot_22, slot_23, slot_24, slot_25, slot_26, slot_27, slot_28, slot_29, slot_30, negP_i, ex3, ex2, wipeE, List.map_cons, List.map_nil, List.cons_append, List.nil_append, List.append_nil, List.length_cons, List.length_nil, List.replicate_succ, List.replicate_zero, List.set_cons_zero, List.set_cons_succ, Oc_some, Nat.reduceAdd, Nat.reduceSub, Nat.reduceLeDiff, Nat.zero_le, Int.toNat_natCast, Bool.or_false, Bool.or_true, Bool.or_self, Bool.false_or, Bool.true_or, decide_true, decide_false, Nat.zero_add, Nat.sub_self, Bool.true_eq_false, Bool.false_eq_true, if_true, if_false, ite_true, ite_false, true_and, and_true, addP_ii, subP_ii, mulP_ii, isiP_tup, isiP_lst, isiP_str, isiP_bl, isiP_int, isiP_tl, kd_non, kd_bl, kd_int, kd_str, kd_tup, kd_lst, isTup, isLst, isStr, isBl, isInt, eqP_ii, neP_ii, lenP_t, lenP_l, lenP_s, seqP_t, seqP_l, truP_b, ixP_t, ixP_l, slP_t, slP_l, tupleP_l, tupleP_t, addP_tt, modP_ii, divP_ii, exb, addLP_ll, min2_ii, max2_ii, exTup, exCons, exInt, iaddP_ii, leP_ii, gtP_ii, geP_ii, ltP_ii, intP_i, decide_eq_true_eq, Bool.not_eq_true', decide_eq_false_iff_not, Bool.not_true, Bool.not_false, List.cons_ne_nil, Nat.succ_ne_zero, reduceCtorEq]
    exact q
theorem c_state_or {x : D} (k : OkP p) (kx : kdW x = true) (q : wordB (setsP p) x = true → Q .non h) (q2 : wordB (setsP p) x = false → E ⟨"BadState", none⟩ h) : F_need_state [tP p, x] h E Q := by
  have k30 := k.2.2
  simp only [↓e_need_state, ↓e_mVar, ↓e_mK, ↓e_mOp1, ↓e_mOp2, ↓e_aNil, ↓e_aCons, ↓e_mTup, ↓e_mLst, ↓e_mLstM, ↓e_mIf, ↓e_tTru, ↓e_tNt, ↓e_tAnd2, ↓e_tOr2, ↓e_tOp2, ↓e_mChain, ↓e_tChain', ↓e_mAnd, ↓e_mOr, ↓e_mFld, ↓e_sFldD, ↓e_mMeth, ↓e_mMake, ↓e_mRev, revP_l, ↓e_mAndT, ↓e_mOrT, truP_lc, ↓e_mNot, ↓e_mCall, ↓e_mBlt, ↓e_oNo, ↓e_oSo, ↓e_mSl, ↓e_sPass, ↓e_sBrk, ↓e_sCnt, ↓e_sNever, ↓e_sSeq, ↓e_sAsg, ↓e_gNm, ↓e_gTu, ↓e_gsNil, ↓e_gsCons, ↓e_gSb, ↓e_sPar, ↓e_sExp, ↓e_sRt, ↓e_sRtN, ↓e_sIf, ↓e_sAug, ↓e_sFor, ↓e_sWh, ↓e_mComp, ↓e_mCompM, ↓e_tYs, ↓e_mkFn, ↓e_mApp, ↓e_itSeq, ↓e_itScr, ↓e_itEnum, ↓e_itZip, ↓e_itZip3, ↓e_itR1, ↓e_itR2, ↓e_itR3, ↓e_mDic0, ↓e_mDic1, ↓e_sPar3, ↓e_mAddM, ↓e_aStar, ↓e_mMulM, ↓e_sRaise0, ↓e_sRaise1, ↓e_mErr, ↓e_mCallV, starP_t, starP_l, slot_0, slot_1, slot_2, slot_3, slot_4, slot_5, slot_6, slot_7, slot_8, slot_9, slot_10, slot_11, slot_12, slot_13, slot_14, slot_15, slot_16, slot_17, slot_18, slot_19, slot_20, slot_21, slot_22, slot_23, slot_24, slot_25, slot_26, slot_27, slot_28, slot_29, slot_30, negP_i, ex3, ex2, wipeE, List.map_cons, List.map_nil, List.cons_append, List.nil_append, List.append_nil, List.length_cons, List.length_nil, List.replicate_succ, List.replicate_zero, List.set_cons_zero, List.set_cons_succ, Oc_some, Nat.reduceAdd, Nat.reduceSub, Nat.reduceLeDiff, Nat.zero_le, Int.toNat_natCast, Bool.or_false, Bool.or_true, Bool.or_self, Bool.false_or, Bool.true_or, decide_true, decide_false, Nat.zero_add, Nat.sub_self, Bool.true_eq_false, Bool.false_eq_true, if_true, if_false, ite_true, ite_false, true_and, and_true, addP_ii, subP_ii, mulP_ii, isiP_tup, isiP_lst, isiP_str, isiP_bl, isiP_int, isiP_tl, kd_non, kd_bl, kd_int, kd_str, kd_tup, kd_lst, isTup, isLst, isStr, isBl, isInt, eqP_ii, neP_ii, lenP_t, lenP_l, lenP_s, seqP_t, seqP_l, truP_b, ixP_t, ixP_l, slP_t, slP_l, tupleP_l, tupleP_t, addP_tt, modP_ii, divP_ii, exb, addLP_ll, min2_ii, max2_ii, exTup, exCons, exInt, iaddP_ii, leP_ii, gtP_ii, geP_ii, ltP_ii, intP_i, decide_eq_true_eq, Bool.not_eq_true', decide_eq_false_iff_not, Bool.not_true, Bool.not_false, List.cons_ne_nil, Nat.succ_ne_zero, reduceCtorEq]
  refine c_settings_of (by omega) ?_
  (try simp only [↓e_mVar, ↓e_mK, ↓e_mOp1, ↓e_mOp2, ↓e_aNil, ↓e_aCons, ↓e_mTup, ↓e_mLst, ↓e_mLstM, ↓e_mIf, ↓e_tTru, ↓e_tNt, ↓e_tAnd2, ↓e_tOr2, ↓e_tOp2, ↓e_mChain, ↓e_tChain', ↓e_mAnd, ↓e_mOr, ↓e_mFld, ↓e_sFldD, ↓e_mMeth, ↓e_mMake, ↓e_mRev, revP_l, ↓e_mAndT, ↓e_mOrT, truP_lc, ↓e_mNot, ↓e_mCall, ↓e_mBlt, ↓e_oNo, ↓e_oSo, ↓e_mSl, ↓e_sPass, ↓e_sBrk, ↓e_sCnt, ↓e_sNever, ↓e_sSeq, ↓e_sAsg, ↓e_gNm, ↓e_gTu, ↓e_gsNil, ↓e_gsCons, ↓e_gSb, ↓e_sPar, ↓e_sExp, ↓e_sRt, ↓e_sRtN, ↓e_sIf, ↓e_sAug, ↓e_sFor, ↓e_sWh, ↓e_mComp, ↓e_mCompM, ↓e_tYs, ↓e_mkFn, ↓e_mApp, ↓e_itSeq, ↓e_itScr, ↓e_itEnum, ↓e_itZip, ↓e_itZip3, ↓e_itR1, ↓e_itR2, ↓e_itR3, ↓e_mDic0, ↓e_mDic1, ↓e_sPar3, ↓e_mAddM, ↓e_aStar, ↓e_mMulM, ↓e_sRaise0, ↓e_sRaise1, ↓e_mErr, ↓e_mCallV, starP_t, starP_l, slot_0, slot_1, slot_2, slot_3, slot_4, slot_5, slot_6, slot_7, slot_8, slot_9, slot_10, slot_11, slot_12, slot_13, slot_14, slot_15, slot_16, slot_17, slot_18, slot_19, slot_20, slot_21, slot_22, slot_23, slot_24, slot_25, slot_26, slot_27, slot_28, slot_29, slot_30, negP_i, ex3, ex2, wipeE, List.map_cons, List.map_nil, List.cons_append, List.nil_append, List.append_nil, List.length_cons, List.length_nil, List.replicate_succ, List.replicate_zero, List.set_cons_zero, List.set_cons_succ, Oc_some, Nat.reduceAdd, Nat.reduceSub, Nat.reduceLeDiff, Nat.zero_le, Int.toNat_natCast, Bool.or_false, Bool.or_true, Bool.or_self, Bool.false_or, Bool.true_or, decide_true, decide_false, Nat.zero_add, Nat.sub_self, Bool.true_eq_false, Bool.false_eq_true, if_true, if_false, ite_true, ite_false, true_and, and_true, addP_ii, subP_ii, mulP_ii, isiP_tup, isiP_lst, isiP_str, isiP_bl, isiP_int, isiP_tl, kd_non, kd_bl, kd_int, kd_str, kd_tup, kd_lst, isTup, isLst, isStr, isBl, isInt, eqP_ii, neP_ii, lenP_t, lenP_l, lenP_s, seqP_t, seqP_l, truP_b, ixP_t, ixP_l, slP_t, slP_l, tupleP_l, tupleP_t, addP_tt, modP_ii, divP_ii, exb, addLP_ll, min2_ii, max2_ii, exTup, exCons, exInt, iaddP_ii, leP_ii, gtP_ii, geP_ii, ltP_ii, intP_i, decide_eq_true_eq, Bool.not_eq_true', decide_eq_false_iff_not, Bool.not_true, Bool.not_false, List.cons_ne_nil, Nat.succ_ne_zero, reduceCtorEq])
  refine c_is_word kx (by rw [setsP_length]; omega) ?_
  cases hw : wordB (setsP p) x with
  | true =>
    (try simp only [↓e_mVar, ↓e_mK, ↓e_mOp1, ↓e_mOp2, ↓e_aNil, ↓e_aCons, ↓e_mTup, ↓e_mLst, ↓e_mLstM, ↓e_mIf, ↓e_tTru, ↓e_tNt, ↓e_tAnd2, ↓e_tOr2, ↓e_tOp2, ↓e_mChain, ↓e_tChain', ↓e_mAnd, ↓e_mOr, ↓e_mFld, ↓e_sFldD, ↓e_mMeth, ↓e_mMake, ↓e_mRev, revP_l, ↓e_mAndT, ↓e_mOrT, truP_lc, ↓e_mNot, ↓e_mCall, ↓e_mBlt, ↓e_oNo, ↓e_oSo, ↓e_mSl, ↓e_sPass, ↓e_sBrk, ↓e_sCnt, ↓e_sNever, ↓e_sSeq, ↓e_sAsg, ↓e_gNm, ↓e_gTu, ↓e_gsNil, ↓e_gsCons, ↓e_gSb, ↓e_sPar, ↓e_sExp, ↓e_sRt, ↓e_sRtN, ↓e_sIf, ↓e_sAug, ↓e_sFor, ↓e_sWh, ↓e_mComp, ↓e_mCompM, ↓e_tYs, ↓e_mkFn, ↓e_mApp, ↓e_itSeq, ↓e_itScr, ↓e_itEnum, ↓e_itZip, ↓e_itZip3, ↓e_itR1, ↓e_itR2, ↓e_itR3, ↓e_mDic0, ↓e_mDic1, ↓e_sPar3, ↓e_mAddM, ↓e_aStar, ↓e_mMulM, ↓e_sRaise0, ↓e_sRaise1, ↓e_mErr, ↓e_mCallV, starP_t, starP_l, slot_0, slot_1, slot_2, slot_3, slot_4, slot_5, slot_6, slot_7, slot_8, slot_9, slot_10, slot_11, slot_12, slot_13, slot_14, slot_15, slot_16, slot_17, slot_18, slot_19, slot_20, slot_21, slot_22, slot_23, slot_24, slot_25, slot_26, slot_27, slot_28, slot_29, slot_30, negP_i, ex3, ex2, wipeE, List.map_cons, List.map_nil, List.cons_append, List.nil_append, List.append_nil, List.length_cons, List.length_nil, List.replicate_succ, List.replicate_zero, List.set_cons_zero, List.set_cons_succ, Oc_some, Nat.reduceAdd, Nat.reduceSub, Nat.reduceLeDiff, Nat.zero_le, Int.toNat_natCast, Bool.or_false, Bool.or_true, Bool.or_self, Bool.false_or, Bool.true_or, decide_true, decide_false, Nat.zero_add, Nat.sub_self, Bool.true_eq_false, Bool.false_eq_true, if_true, if_false, ite_true, ite_false, true_and, and_true, addP_ii, subP_ii, mulP_ii, isiP_tup, isiP_lst, isiP_str, isiP_bl, isiP_int, isiP_tl, kd_non, kd_bl, kd_int, kd_str, kd_tup, kd_lst, isTup, isLst, isStr, isBl, isInt, eqP_ii, neP_ii, lenP_t, lenP_l, lenP_s, seqP_t, seqP_l, truP_b, ixP_t, ixP_l, slP_t, slP_l, tupleP_l, tupleP_t, addP_tt, modP_ii, divP_ii, exb, addLP_ll, min2_ii, max2_ii, exTup, exCons, exInt, iaddP_ii, leP_ii, gtP_ii, geP_ii, ltP_ii, intP_i, decide_eq_true_eq, Bool.not_eq_true', decide_eq_false_iff_not, Bool.not_true, Bool.not_false, List.cons_ne_nil, Nat.succ_ne_zero, reduceCtorEq])
    exact .of (q hw)
  | false =>
    (try simp only [↓e_mVar, ↓e_mK, ↓e_mOp1, ↓e_mOp2, ↓e_aNil, ↓e_aCons, ↓e_mTup, ↓e_mLst, ↓e_mLstM, ↓e_mIf, ↓e_tTru, ↓e_tNt, ↓e_tAnd2, ↓e_tOr2, ↓e_tOp2, ↓e_mChain, ↓e_tChain', ↓e_mAnd, ↓e_mOr, ↓e_mFld, ↓e_sFldD, ↓e_mMeth, ↓e_mMake, ↓e_mRev, revP_l, ↓e_mAndT, ↓e_mOrT, truP_lc, ↓e_mNot, ↓e_mCall, ↓e_mBlt, ↓e_oNo, ↓e_oSo, ↓e_mSl, ↓e_sPass, ↓e_sBrk, ↓e_sCnt, ↓e_sNever, ↓e_sSeq, ↓e_sAsg, ↓e_gNm, ↓e_gTu, ↓e_gsNil, ↓e_gsCons, ↓e_gSb, ↓e_sPar, ↓e_sExp, ↓e_sRt, ↓e_sRtN, ↓e_sIf, ↓e_sAug, ↓e_sFor, ↓e_sWh, ↓e_mComp, ↓e_mCompM, ↓e_tYs, ↓e_mkFn, ↓e_mApp, ↓e_itSeq, ↓e_itScr, ↓e_itEnum, ↓e_itZip, ↓e_itZip3, ↓e_itR1, ↓e_itR2, ↓e_itR3, ↓e_mDic0, ↓e_mDic1, ↓e_sPar3, ↓e_mAddM, ↓e_aStar, ↓e_mMulM, ↓e_sRaise0, ↓e_sRaise1, ↓e_mErr, ↓e_mCallV, starP_t, starP_l, slot_0, slot_1, slot_2, slot_3, slot_4, slot_5, slot_6, slot_7, slot_8, slot_9, slot_10, slot_11, slot_12, slot_13, slot_14, slot_15, slot_16, slot_17, slot_18, slot_19, slot_20, slot_21, slot_22, slot_23, slot_24, slot_25, slot_26, slot_27, slot_28, slot_29, slot_30, negP_i, ex3, ex2, wipeE, List.map_cons, List.map_nil, List.cons_append, List.nil_append, List.append_nil, List.length_cons, List.length_nil, List.replicate_succ, List.replicate_zero, List.set_cons_zero, List.set_cons_succ, Oc_some, Nat.reduceAdd, Nat.reduceSub, Nat.reduceLeDiff, Nat.zero_le, Int.toNat_natCast, Bool.or_false, Bool.or_true, Bool.or_self, Bool.false_or, Bool.true_or, decide_true, decide_false, Nat.zero_add, Nat.sub_self, Bool.true_eq_false, Bool.false_eq_true, if_true, if_false, ite_true, ite_false, true_and, and_true, addP_ii, subP_ii, mulP_ii, isiP_tup, isiP_lst, isiP_str, isiP_bl, isiP_int, isiP_tl, kd_non, kd_bl, kd_int, kd_str, kd_tup, kd_lst, isTup, isLst, isStr, isBl, isInt, eqP_ii, neP_ii, lenP_t, lenP_l, lenP_s, seqP_t, seqP_l, truP_b, ixP_t, ixP_l, slP_t, slP_l, tupleP_l, tupleP_t, addP_tt, modP_ii, divP_ii, exb, addLP_ll, min2_ii, max2_ii, exTup, exCons, exInt, iaddP_ii, leP_ii, gtP_ii, geP_ii, ltP_ii, intP_i, decide_eq_true_eq, Bool.not_eq_true', decide_eq_false_iff_not, Bool.not_true, Bool.not_false, List.cons_ne_nil, Nat.succ_ne_zero, reduceCtorEq])
    exact q2 hw
/-! ### the values that are refused -/
theorem listP_t {xs : List D} {Q : D → Prop} : listP h [.tup xs] Q = Q (.lst xs) := id rfl
theorem cut_in {xs : List D} (l : 1 ≤ xs.length) : cutD xs none (some (-1)) = xs.take (xs.length - 1) := by
  have e1 : HT.sIx xs.length 0 none = 0 := rfl
  have e2 : HT.sIx xs.length xs.length (some (-1)) = xs.length - 1 := by unfold HT.sIx; simp; omega
  unfold cutD
  rw [e1, e2]
  rfl
theorem words_bad : ∀ {ss : List Int} {xs : List D} {j : Nat} {s : Int} {x : D}, ss[j]? = some s → xs[j]? = some x → inB x 0 (s - 1) = false → wordsB ss xs = false
  | [], _, _, _, _, e, _, _ => by simp at e
  | _ :: _, [], _, _, _, _, e, _ => by simp at e
  | t :: ss, y :: xs, 0, s, x, e, e2, b => by
    simp at e e2
    subst e e2
    show (inB _ 0 _ && _) = false
    rw [b, Bool.false_and]
  | t :: ss, y :: xs, j + 1, s, x, e, e2, b => by
    show (_ && wordsB ss xs) = false
    rw [words_bad (ss := ss) (xs := xs) (j := j) (by simpa using e) (by simpa using e2) b, Bool.and_false]
theorem word_len_bad {ss : List Int} {xs : List D} (e : xs.length ≠ ss.length) : wordB ss (.tup xs) = false := by
  show (decide (xs.length = ss.length) && _) = false
  rw [decide_eq_false e, Bool.false_and]
theorem word_in_bad {ss : List Int} {xs : List D} {j : Nat} {s : Int} {x : D} (e : ss[j]? = some s) (e2 : xs[j]? = some x) (b : inB x 0 (s - 1) = false) : wordB ss (.tup xs) = false := by
  show (_ && wordsB ss xs) = false
  rw [words_bad e e2 b, Bool.and_false]
theorem c_state_bad {x : D} (k : OkP p) (kx : kdW x = true) (b : wordB (setsP p) x = false) (q : E ⟨"BadState", none⟩ h) : F_need_state [tP p, x] h E Q :=
  c_state_or k kx (fun z => by rw [b] at z; cases z) fun _ => q
theorem c_state_ok {x : D} (k : OkP p) (kx : kdW x = true) (b : wordB (setsP p) x = true) (q : Q .non h) : F_need_state [tP p, x] h E Q :=
  c_state_or k kx (fun _ => q) fun z => by rw [b] at z; cases z
end L2.Lmp

set_option maxHeartbeats 4000000
namespace L2.Lmp
open PySem PySem.Spec PyProof.Rows
variable {p : List (List (List Int))} {h : DH} {E : EK} {Q : DK} {a b : List Int}
end L2.Lmp

set_option maxHeartbeats 4000000
namespace L2.Lmp
open PySem PySem.Spec PyProof.Rows
/-! ### any value as a puzzle -/
def lampB (ss : List Int) : D → Bool
  | .tup ws => decide (1 ≤ ws.length) && decide (ws.length ≤ 3) && ws.all (wordB ss)
  | _ => false
def lampN : D → Int
  | .tup ws => (ws.length : Int) + 1
  | _ => 0
def pzE : Nat → List Int → List D → Option Nat
  | _, _, [] => none
  | i, ss, x :: xs => if lampB ss x = true then pzE (i + 1) (ss ++ [lampN x]) xs else some i
def kdL : D → Bool
  | .tup ws => ws.all kdW
  | x => kd x
theorem c_puzzle_or {xs : List D} {h : DH} {E : EK} {Q : DK} (l1 : 1 ≤ xs.length) (l30 : xs.length ≤ 30) (kx : ∀ x ∈ xs, kdL x = true) (q : pzE 0 [] xs = none → Q .non h) (q2 : ∀ i : Nat, pzE 0 [] xs = some i → E ⟨"BadPuzzle", some ("index", .int i)⟩ h) : F_need_puzzle [.tup xs] h E Q := by
  simp only [↓e_need_puzzle, ↓e_mVar, ↓e_mK, ↓e_mOp1, ↓e_mOp2, ↓e_aNil, ↓e_aCons, ↓e_mTup, ↓e_mLst, ↓e_mLstM, ↓e_mIf, ↓e_tTru, ↓e_tNt, ↓e_tAnd2, ↓e_tOr2, ↓e_tOp2, ↓e_mChain, ↓e_tChain', ↓e_mAnd, ↓e_mOr, ↓e_mFld, ↓e_sFldD, ↓e_mMeth, ↓e_mMake, ↓e_mRev, revP_l, ↓e_mAndT, ↓e_mOrT, truP_lc, ↓e_mNot, ↓e_mCall, ↓e_mBlt, ↓e_oNo, ↓e_oSo, ↓e_mSl, ↓e_sPass, ↓e_sBrk, ↓e_sCnt, ↓e_sNever, ↓e_sSeq, ↓e_sAsg, ↓e_gNm, ↓e_gTu, ↓e_gsNil, ↓e_gsCons, ↓e_gSb, ↓e_sPar, ↓e_sExp, ↓e_sRt, ↓e_sRtN, ↓e_sIf, ↓e_sAug, ↓e_sFor, ↓e_sWh, ↓e_mComp, ↓e_mCompM, ↓e_tYs, ↓e_mkFn, ↓e_mApp, ↓e_itSeq, ↓e_itScr, ↓e_itEnum, ↓e_itZip, ↓e_itZip3, ↓e_itR1, ↓e_itR2, ↓e_itR3, ↓e_mDic0, ↓e_mDic1, ↓e_sPar3, ↓e_mAddM, ↓e_aStar, ↓e_mMulM, ↓e_sRaise0, ↓e_sRaise1, ↓e_mErr, ↓e_mCallV, starP_t, starP_l, slot_0, slot_1, slot_2, slot_3, slot_4, slot_5, slot_6, slot_7, slot_8, slot_9, slot_10, slot_11, slot_12, slot_13, slot_14, slot_15, slot_16, slot_17, slot_18, slot_19, slot_20, slot_21, slot_22, slot_23, slot_24, slot_25, slot_26, slot_27, slot_28, slot_29, slot_30, negP_i, ex3, ex2, wipeE, List.map_cons, List.map_nil, List.cons_append, List.nil_append, List.append_nil, List.length_cons, List.length_nil, List.replicate_succ, List.replicate_zero, List.set_cons_zero, List.set_cons_succ, Oc_some, Nat.reduceAdd, Nat.reduceSub, Nat.reduceLeDiff, Nat.zero_le, Int.toNat_natCast, Bool.or_false, Bool.or_true, Bool.or_self, Bool.false_or, Bool.true_or, decide_true, decide_false, Nat.zero_add, Nat.sub_self, Bool.true_eq_false, Bool.false_eq_true, if_true, if_false, ite_true, ite_false, true_and, and_true, addP_ii, subP_ii, mulP_ii, isiP_tup, isiP_lst, isiP_str, isiP_bl, isiP_int, isiP_tl, kd_non, kd_bl, kd_int, kd_str, kd_tup, kd_lst, isTup, isLst, isStr, isBl, isInt, eqP_ii, neP_ii, lenP_t, lenP_l, lenP_s, seqP_t, seqP_l, truP_b, ixP_t, ixP_l, slP_t, slP_l, tupleP_l, tupleP_t, addP_tt, modP_ii, divP_ii, exb, addLP_ll, min2_ii, max2_ii, exTup, exCons, exInt, iaddP_ii, leP_ii, gtP_ii, geP_ii, ltP_ii, intP_i, decide_eq_true_eq, Bool.not_eq_true', decide_eq_false_iff_not, Bool.not_true, Bool.not_false, List.cons_ne_nil, Nat.succ_ne_zero, reduceCtorEq]
  rw [if_pos (by omega)]
  (try simp only [↓e_mVar, ↓e_mK, ↓e_mOp1, ↓e_mOp2, ↓e_aNil, ↓e_aCons, ↓e_mTup, ↓e_mLst, ↓e_mLstM, ↓e_mIf, ↓e_tTru, ↓e_tNt, ↓e_tAnd2, ↓e_tOr2, ↓e_tOp2, ↓e_mChain, ↓e_tChain', ↓e_mAnd, ↓e_mOr, ↓e_mFld, ↓e_sFldD, ↓e_mMeth, ↓e_mMake, ↓e_mRev, revP_l, ↓e_mAndT, ↓e_mOrT, truP_lc, ↓e_mNot, ↓e_mCall, ↓e_mBlt, ↓e_oNo, ↓e_oSo, ↓e_mSl, ↓e_sPass, ↓e_sBrk, ↓e_sCnt, ↓e_sNever, ↓e_sSeq, ↓e_sAsg, ↓e_gNm, ↓e_gTu, ↓e_gsNil, ↓e_gsCons, ↓e_gSb, ↓e_sPar, ↓e_sExp, ↓e_sRt, ↓e_sRtN, ↓e_sIf, ↓e_sAug, ↓e_sFor, ↓e_sWh, ↓e_mComp, ↓e_mCompM, ↓e_tYs, ↓e_mkFn, ↓e_mApp, ↓e_itSeq, ↓e_itScr, ↓e_itEnum, ↓e_itZip, ↓e_itZip3, ↓e_itR1, ↓e_itR2, ↓e_itR3, ↓e_mDic0, ↓e_mDic1, ↓e_sPar3, ↓e_mAddM, ↓e_aStar, ↓e_mMulM, ↓e_sRaise0, ↓e_sRaise1, ↓e_mErr, ↓e_mCallV, starP_t, starP_l, slot_0, slot_1, slot_2, slot_3, slot_4, slot_5, slot_6, slot_7, slot_8, slot_9, slot_10, slot_11, slot_12, slot_13, slot_14, slot_15, slot_16, slot_17, slot_18, slot_19, slot_20, slot_21, slot_22, slot_23, slot_24, slot_25, slot_26, slot_27, slot_28, slot_29, slot_30, negP_i, ex3, ex2, wipeE, List.map_cons, List.map_nil, List.cons_append, List.nil_append, List.append_nil, List.length_cons, List.length_nil, List.replicate_succ, List.replicate_zero, List.set_cons_zero, List.set_cons_succ, Oc_some, Nat.reduceAdd, Nat.reduceSub, Nat.reduceLeDiff, Nat.zero_le, Int.toNat_natCast, Bool.or_false, Bool.or_true, Bool.or_self, Bool.false_or, Bool.true_or, decide_true, decide_false, Nat.zero_add, Nat.sub_self, Bool.true_eq_false, Bool.false_eq_true, if_true, if_false, ite_true, ite_false, true_and, and_true, addP_ii, subP_ii, mulP_ii, isiP_tup, isiP_lst, isiP_str, isiP_bl, isiP_int, isiP_tl, kd_non, kd_bl, kd_int, kd_str, kd_tup, kd_lst, isTup, isLst, isStr, isBl, isInt, eqP_ii, neP_ii, lenP_t, lenP_l, lenP_s, seqP_t, seqP_l, truP_b, ixP_t, ixP_l, slP_t, slP_l, tupleP_l, tupleP_t, addP_tt, modP_ii, divP_ii, exb, addLP_ll, min2_ii, max2_ii, exTup, exCons, exInt, iaddP_ii, leP_ii, gtP_ii, geP_ii, ltP_ii, intP_i, decide_eq_true_eq, Bool.not_eq_true', decide_eq_false_iff_not, Bool.not_true, Bool.not_false, List.cons_ne_nil, Nat.succ_ne_zero, reduceCtorEq])
  rw [if_neg (by omega)]
  refine for_ind (enumD 0 xs) (fun i e h' => h' = h ∧ ∃ ss a b, ss.length = i ∧ i ≤ xs.length ∧ pzE 0 [] xs = pzE i ss (xs.drop i) ∧ e = [some (.tup xs), some (tI ss), a, b, none]) ⟨rfl, [], _, _, rfl, Nat.zero_le _, rfl, rfl⟩ (fun _ _ _ _ => trivial) ?_ ?_
  · rintro i x e h' K ⟨rfl, ss, a, b, ls, li, ok, rfl⟩ hx hK
    rw [enumD_get] at hx
    cases hp : xs[i]? with
    | none => rw [hp] at hx; cases hx
    | some y =>
      rw [hp] at hx
      cases hx
      obtain ⟨li2, el⟩ := List.getElem?_eq_some_iff.mp hp
      rw [List.drop_eq_getElem_cons li2, el] at ok
      have ky := kx y (List.mem_of_getElem? hp)
      simp only [pzE] at ok
      rw [Nat.zero_add]
      cases y with
      | tup ws =>
        have kw : ∀ w ∈ ws, kdW w = true := List.all_eq_true.mp ky
        have hb : lampB ss (.tup ws) = (decide (1 ≤ ws.length) && decide (ws.length ≤ 3) && ws.all (wordB ss)) := rfl
        rw [hb] at ok
        simp only [↓e_mVar, ↓e_mK, ↓e_mOp1, ↓e_mOp2, ↓e_aNil, ↓e_aCons, ↓e_mTup, ↓e_mLst, ↓e_mLstM, ↓e_mIf, ↓e_tTru, ↓e_tNt, ↓e_tAnd2, ↓e_tOr2, ↓e_tOp2, ↓e_mChain, ↓e_tChain', ↓e_mAnd, ↓e_mOr, ↓e_mFld, ↓e_sFldD, ↓e_mMeth, ↓e_mMake, ↓e_mRev, revP_l, ↓e_mAndT, ↓e_mOrT, truP_lc, ↓e_mNot, ↓e_mCall, ↓e_mBlt, ↓e_oNo, ↓e_oSo, ↓e_mSl, ↓e_sPass, ↓e_sBrk, ↓e_sCnt, ↓e_sNever, ↓e_sSeq, ↓e_sAsg, ↓e_gNm, ↓e_gTu, ↓e_gsNil, ↓e_gsCons, ↓e_gSb, ↓e_sPar, ↓e_sExp, ↓e_sRt, ↓e_sRtN, ↓e_sIf, ↓e_sAug, ↓e_sFor, ↓e_sWh, ↓e_mComp, ↓e_mCompM, ↓e_tYs, ↓e_mkFn, ↓e_mApp, ↓e_itSeq, ↓e_itScr, ↓e_itEnum, ↓e_itZip, ↓e_itZip3, ↓e_itR1, ↓e_itR2, ↓e_itR3, ↓e_mDic0, ↓e_mDic1, ↓e_sPar3, ↓e_mAddM, ↓e_aStar, ↓e_mMulM, ↓e_sRaise0, ↓e_sRaise1, ↓e_mErr, ↓e_mCallV, starP_t, starP_l, slot_0, slot_1, slot_2, slot_3, slot_4, slot_5, slot_6, slot_7, slot_8, slot_9, slot_10, slot_11, slot_12, slot_13, slot_14, slot_15, slot_16, slot_17, slot_18, slot_19, slot_20, slot_21, slot_22, slot_23, slot_24, slot_25, slot_26, slot_27, slot_28, slot_29, slot_30, negP_i, ex3, ex2, wipeE, List.map_cons, List.map_nil, List.cons_append, List.nil_append, List.append_nil, List.length_cons, List.length_nil, List.replicate_succ, List.replicate_zero, List.set_cons_zero, List.set_cons_succ, Oc_some, Nat.reduceAdd, Nat.reduceSub, Nat.reduceLeDiff, Nat.zero_le, Int.toNat_natCast, Bool.or_false, Bool.or_true, Bool.or_self, Bool.false_or, Bool.true_or, decide_true, decide_false, Nat.zero_add, Nat.sub_self, Bool.true_eq_false, Bool.false_eq_true, if_true, if_false, ite_true, ite_false, true_and, and_true, addP_ii, subP_ii, mulP_ii, isiP_tup, isiP_lst, isiP_str, isiP_bl, isiP_int, isiP_tl, kd_non, kd_bl, kd_int, kd_str, kd_tup, kd_lst, isTup, isLst, isStr, isBl, isInt, eqP_ii, neP_ii, lenP_t, lenP_l, lenP_s, seqP_t, seqP_l, truP_b, ixP_t, ixP_l, slP_t, slP_l, tupleP_l, tupleP_t, addP_tt, modP_ii, divP_ii, exb, addLP_ll, min2_ii, max2_ii, exTup, exCons, exInt, iaddP_ii, leP_ii, gtP_ii, geP_ii, ltP_ii, intP_i, decide_eq_true_eq, Bool.not_eq_true', decide_eq_false_iff_not, Bool.not_true, Bool.not_false, List.cons_ne_nil, Nat.succ_ne_zero, reduceCtorEq]
        by_cases c1 : 1 ≤ ws.length
        · rw [if_pos (by omega)]
          (try simp only [↓e_mVar, ↓e_mK, ↓e_mOp1, ↓e_mOp2, ↓e_aNil, ↓e_aCons, ↓e_mTup, ↓e_mLst, ↓e_mLstM, ↓e_mIf, ↓e_tTru, ↓e_tNt, ↓e_tAnd2, ↓e_tOr2, ↓e_tOp2, ↓e_mChain, ↓e_tChain', ↓e_mAnd, ↓e_mOr, ↓e_mFld, ↓e_sFldD, ↓e_mMeth, ↓e_mMake, ↓e_mRev, revP_l, ↓e_mAndT, ↓e_mOrT, truP_lc, ↓e_mNot, ↓e_mCall, ↓e_mBlt, ↓e_oNo, ↓e_oSo, ↓e_mSl, ↓e_sPass, ↓e_sBrk, ↓e_sCnt, ↓e_sNever, ↓e_sSeq, ↓e_sAsg, ↓e_gNm, ↓e_gTu, ↓e_gsNil, ↓e_gsCons, ↓e_gSb, ↓e_sPar, ↓e_sExp, ↓e_sRt, ↓e_sRtN, ↓e_sIf, ↓e_sAug, ↓e_sFor, ↓e_sWh, ↓e_mComp, ↓e_mCompM, ↓e_tYs, ↓e_mkFn, ↓e_mApp, ↓e_itSeq, ↓e_itScr, ↓e_itEnum, ↓e_itZip, ↓e_itZip3, ↓e_itR1, ↓e_itR2, ↓e_itR3, ↓e_mDic0, ↓e_mDic1, ↓e_sPar3, ↓e_mAddM, ↓e_aStar, ↓e_mMulM, ↓e_sRaise0, ↓e_sRaise1, ↓e_mErr, ↓e_mCallV, starP_t, starP_l, slot_0, slot_1, slot_2, slot_3, slot_4, slot_5, slot_6, slot_7, slot_8, slot_9, slot_10, slot_11, slot_12, slot_13, slot_14, slot_15, slot_16, slot_17, slot_18, slot_19, slot_20, slot_21, slot_22, slot_23, slot_24, slot_25, slot_26, slot_27, slot_28, slot_29, slot_30, negP_i, ex3, ex2, wipeE, List.map_cons, List.map_nil, List.cons_append, List.nil_append, List.append_nil, List.length_cons, List.length_nil, List.replicate_succ, List.replicate_zero, List.set_cons_zero, List.set_cons_succ, Oc_some, Nat.reduceAdd, Nat.reduceSub, Nat.reduceLeDiff, Nat.zero_le, Int.toNat_natCast, Bool.or_false, Bool.or_true, Bool.or_self, Bool.false_or, Bool.true_or, decide_true, decide_false, Nat.zero_add, Nat.sub_self, Bool.true_eq_false, Bool.false_eq_true, if_true, if_false, ite_true, ite_false, true_and, and_true, addP_ii, subP_ii, mulP_ii, isiP_tup, isiP_lst, isiP_str, isiP_bl, isiP_int, isiP_tl, kd_non, kd_bl, kd_int, kd_str, kd_tup, kd_lst, isTup, isLst, isStr, isBl, isInt, eqP_ii, neP_ii, lenP_t, lenP_l, lenP_s, seqP_t, seqP_l, truP_b, ixP_t, ixP_l, slP_t, slP_l, tupleP_l, tupleP_t, addP_tt, modP_ii, divP_ii, exb, addLP_ll, min2_ii, max2_ii, exTup, exCons, exInt, iaddP_ii, leP_ii, gtP_ii, geP_ii, ltP_ii, intP_i, decide_eq_true_eq, Bool.not_eq_true', decide_eq_false_iff_not, Bool.not_true, Bool.not_false, List.cons_ne_nil, Nat.succ_ne_zero, reduceCtorEq])
          by_cases c3 : ws.length ≤ 3
          · rw [if_neg (by omega)]
            rw [decide_eq_true c1, decide_eq_true c3, Bool.true_and, Bool.true_and] at ok
            refine comp_map ws (fun x => D.bl (wordB ss x)) trivial (by omega) (fun x K K2 mx kx2 => ?_) ?_
            · (try simp only [↓e_mVar, ↓e_mK, ↓e_mOp1, ↓e_mOp2, ↓e_aNil, ↓e_aCons, ↓e_mTup, ↓e_mLst, ↓e_mLstM, ↓e_mIf, ↓e_tTru, ↓e_tNt, ↓e_tAnd2, ↓e_tOr2, ↓e_tOp2, ↓e_mChain, ↓e_tChain', ↓e_mAnd, ↓e_mOr, ↓e_mFld, ↓e_sFldD, ↓e_mMeth, ↓e_mMake, ↓e_mRev, revP_l, ↓e_mAndT, ↓e_mOrT, truP_lc, ↓e_mNot, ↓e_mCall, ↓e_mBlt, ↓e_oNo, ↓e_oSo, ↓e_mSl, ↓e_sPass, ↓e_sBrk, ↓e_sCnt, ↓e_sNever, ↓e_sSeq, ↓e_sAsg, ↓e_gNm, ↓e_gTu, ↓e_gsNil, ↓e_gsCons, ↓e_gSb, ↓e_sPar, ↓e_sExp, ↓e_sRt, ↓e_sRtN, ↓e_sIf, ↓e_sAug, ↓e_sFor, ↓e_sWh, ↓e_mComp, ↓e_mCompM, ↓e_tYs, ↓e_mkFn, ↓e_mApp, ↓e_itSeq, ↓e_itScr, ↓e_itEnum, ↓e_itZip, ↓e_itZip3, ↓e_itR1, ↓e_itR2, ↓e_itR3, ↓e_mDic0, ↓e_mDic1, ↓e_sPar3, ↓e_mAddM, ↓e_aStar, ↓e_mMulM, ↓e_sRaise0, ↓e_sRaise1, ↓e_mErr, ↓e_mCallV, starP_t, starP_l, slot_0, slot_1, slot_2, slot_3, slot_4, slot_5, slot_6, slot_7, slot_8, slot_9, slot_10, slot_11, slot_12, slot_13, slot_14, slot_15, slot_16, slot_17, slot_18, slot_19, slot_20, slot_21, slot_22, slot_23, slot_24, slot_25, slot_26, slot_27, slot_28, slot_29, slot_30, negP_i, ex3, ex2, wipeE, List.map_cons, List.map_nil, List.cons_append, List.nil_append, List.append_nil, List.length_cons, List.length_nil, List.replicate_succ, List.replicate_zero, List.set_cons_zero, List.set_cons_succ, Oc_some, Nat.reduceAdd, Nat.reduceSub, Nat.reduceLeDiff, Nat.zero_le, Int.toNat_natCast, Bool.or_false, Bool.or_true, Bool.or_self, Bool.false_or, Bool.true_or, decide_true, decide_false, Nat.zero_add, Nat.sub_self, Bool.true_eq_false, Bool.false_eq_true, if_true, if_false, ite_true, ite_false, true_and, and_true, addP_ii, subP_ii, mulP_ii, isiP_tup, isiP_lst, isiP_str, isiP_bl, isiP_int, isiP_tl, kd_non, kd_bl, kd_int, kd_str, kd_tup, kd_lst, isTup, isLst, isStr, isBl, isInt, eqP_ii, neP_ii, lenP_t, lenP_l, lenP_s, seqP_t, seqP_l, truP_b, ixP_t, ixP_l, slP_t, slP_l, tupleP_l, tupleP_t, addP_tt, modP_ii, divP_ii, exb, addLP_ll, min2_ii, max2_ii, exTup, exCons, exInt, iaddP_ii, leP_ii, gtP_ii, geP_ii, ltP_ii, intP_i, decide_eq_true_eq, Bool.not_eq_true', decide_eq_false_iff_not, Bool.not_true, Bool.not_false, List.cons_ne_nil, Nat.succ_ne_zero, reduceCtorEq])
              exact c_is_word (kw x mx) (by omega) kx2
            · refine ⟨ws.map (wordB ss), by rw [List.map_map]; rfl, ?_⟩
              rw [List.all_map]
              have e : (ws.all (id ∘ wordB ss)) = ws.all (wordB ss) := rfl
              rw [e]
              cases ha : ws.all (wordB ss) with
              | true =>
                rw [if_pos ha] at ok
                simp only [tI, ↓e_mVar, ↓e_mK, ↓e_mOp1, ↓e_mOp2, ↓e_aNil, ↓e_aCons, ↓e_mTup, ↓e_mLst, ↓e_mLstM, ↓e_mIf, ↓e_tTru, ↓e_tNt, ↓e_tAnd2, ↓e_tOr2, ↓e_tOp2, ↓e_mChain, ↓e_tChain', ↓e_mAnd, ↓e_mOr, ↓e_mFld, ↓e_sFldD, ↓e_mMeth, ↓e_mMake, ↓e_mRev, revP_l, ↓e_mAndT, ↓e_mOrT, truP_lc, ↓e_mNot, ↓e_mCall, ↓e_mBlt, ↓e_oNo, ↓e_oSo, ↓e_mSl, ↓e_sPass, ↓e_sBrk, ↓e_sCnt, ↓e_sNever, ↓e_sSeq, ↓e_sAsg, ↓e_gNm, ↓e_gTu, ↓e_gsNil, ↓e_gsCons, ↓e_gSb, ↓e_sPar, ↓e_sExp, ↓e_sRt, ↓e_sRtN, ↓e_sIf, ↓e_sAug, ↓e_sFor, ↓e_sWh, ↓e_mComp, ↓e_mCompM, ↓e_tYs, ↓e_mkFn, ↓e_mApp, ↓e_itSeq, ↓e_itScr, ↓e_itEnum, ↓e_itZip, ↓e_itZip3, ↓e_itR1, ↓e_itR2, ↓e_itR3, ↓e_mDic0, ↓e_mDic1, ↓e_sPar3, ↓e_mAddM, ↓e_aStar, ↓e_mMulM, ↓e_sRaise0, ↓e_sRaise1, ↓e_mErr, ↓e_mCallV, starP_t, starP_l, slot_0, slot_1, slot_2, slot_3, slot_4, slot_5, slot_6, slot_7, slot_8, slot_9, slot_10, slot_11, slot_12, slot_13, slot_14, slot_15, slot_16, slot_17, slot_18, slot_19, slot_20, slot_21, slot_22, slot_23, slot_24, slot_25, slot_26, slot_27, slot_28, slot_29, slot_30, negP_i, ex3, ex2, wipeE, List.map_cons, List.map_nil, List.cons_append, List.nil_append, List.append_nil, List.length_cons, List.length_nil, List.replicate_succ, List.replicate_zero, List.set_cons_zero, List.set_cons_succ, Oc_some, Nat.reduceAdd, Nat.reduceSub, Nat.reduceLeDiff, Nat.zero_le, Int.toNat_natCast, Bool.or_false, Bool.or_true, Bool.or_self, Bool.false_or, Bool.true_or, decide_true, decide_false, Nat.zero_add, Nat.sub_self, Bool.true_eq_false, Bool.false_eq_true, if_true, if_false, ite_true, ite_false, true_and, and_true, addP_ii, subP_ii, mulP_ii, isiP_tup, isiP_lst, isiP_str, isiP_bl, isiP_int, isiP_tl, kd_non, kd_bl, kd_int, kd_str, kd_tup, kd_lst, isTup, isLst, isStr, isBl, isInt, eqP_ii, neP_ii, lenP_t, lenP_l, lenP_s, seqP_t, seqP_l, truP_b, ixP_t, ixP_l, slP_t, slP_l, tupleP_l, tupleP_t, addP_tt, modP_ii, divP_ii, exb, addLP_ll, min2_ii, max2_ii, exTup, exCons, exInt, iaddP_ii, leP_ii, gtP_ii, geP_ii, ltP_ii, intP_i, decide_eq_true_eq, Bool.not_eq_true', decide_eq_false_iff_not, Bool.not_true, Bool.not_false, List.cons_ne_nil, Nat.succ_ne_zero, reduceCtorEq, List.length_map]
                refine ⟨by omega, .of (hK _ _ ⟨rfl, ss ++ [(ws.length : Int) + 1], some (.int i), some (.tup ws), by simp [ls], li2, ok, ?_⟩)⟩
                simp [tI]
              | false =>
                rw [if_neg (by rw [ha]; simp)] at ok
                (try simp only [↓e_mVar, ↓e_mK, ↓e_mOp1, ↓e_mOp2, ↓e_aNil, ↓e_aCons, ↓e_mTup, ↓e_mLst, ↓e_mLstM, ↓e_mIf, ↓e_tTru, ↓e_tNt, ↓e_tAnd2, ↓e_tOr2, ↓e_tOp2, ↓e_mChain, ↓e_tChain', ↓e_mAnd, ↓e_mOr, ↓e_mFld, ↓e_sFldD, ↓e_mMeth, ↓e_mMake, ↓e_mRev, revP_l, ↓e_mAndT, ↓e_mOrT, truP_lc, ↓e_mNot, ↓e_mCall, ↓e_mBlt, ↓e_oNo, ↓e_oSo, ↓e_mSl, ↓e_sPass, ↓e_sBrk, ↓e_sCnt, ↓e_sNever, ↓e_sSeq, ↓e_sAsg, ↓e_gNm, ↓e_gTu, ↓e_gsNil, ↓e_gsCons, ↓e_gSb, ↓e_sPar, ↓e_sExp, ↓e_sRt, ↓e_sRtN, ↓e_sIf, ↓e_sAug, ↓e_sFor, ↓e_sWh, ↓e_mComp, ↓e_mCompM, ↓e_tYs, ↓e_mkFn, ↓e_mApp, ↓e_itSeq, ↓e_itScr, ↓e_itEnum, ↓e_itZip, ↓e_itZip3, ↓e_itR1, ↓e_itR2, ↓e_itR3, ↓e_mDic0, ↓e_mDic1, ↓e_sPar3, ↓e_mAddM, ↓e_aStar, ↓e_mMulM, ↓e_sRaise0, ↓e_sRaise1, ↓e_mErr, ↓e_mCallV, starP_t, starP_l, slot_0, slot_1, slot_2, slot_3, slot_4, slot_5, slot_6, slot_7, slot_8, slot_9, slot_10, slot_11, slot_12, slot_13, slot_14, slot_15, slot_16, slot_17, slot_18, slot_19, slot_20, slot_21, slot_22, slot_23, slot_24, slot_25, slot_26, slot_27, slot_28, slot_29, slot_30, negP_i, ex3, ex2, wipeE, List.map_cons, List.map_nil, List.cons_append, List.nil_append, List.append_nil, List.length_cons, List.length_nil, List.replicate_succ, List.replicate_zero, List.set_cons_zero, List.set_cons_succ, Oc_some, Nat.reduceAdd, Nat.reduceSub, Nat.reduceLeDiff, Nat.zero_le, Int.toNat_natCast, Bool.or_false, Bool.or_true, Bool.or_self, Bool.false_or, Bool.true_or, decide_true, decide_false, Nat.zero_add, Nat.sub_self, Bool.true_eq_false, Bool.false_eq_true, if_true, if_false, ite_true, ite_false, true_and, and_true, addP_ii, subP_ii, mulP_ii, isiP_tup, isiP_lst, isiP_str, isiP_bl, isiP_int, isiP_tl, kd_non, kd_bl, kd_int, kd_str, kd_tup, kd_lst, isTup, isLst, isStr, isBl, isInt, eqP_ii, neP_ii, lenP_t, lenP_l, lenP_s, seqP_t, seqP_l, truP_b, ixP_t, ixP_l, slP_t, slP_l, tupleP_l, tupleP_t, addP_tt, modP_ii, divP_ii, exb, addLP_ll, min2_ii, max2_ii, exTup, exCons, exInt, iaddP_ii, leP_ii, gtP_ii, geP_ii, ltP_ii, intP_i, decide_eq_true_eq, Bool.not_eq_true', decide_eq_false_iff_not, Bool.not_true, Bool.not_false, List.cons_ne_nil, Nat.succ_ne_zero, reduceCtorEq])
                exact q2 i ok
          · rw [if_pos (by omega)]
            rw [decide_eq_false c3, Bool.and_false, Bool.false_and, if_neg (by simp)] at ok
            exact q2 i ok
        · rw [if_neg (by omega)]
          rw [decide_eq_false c1, Bool.false_and, Bool.false_and, if_neg (by simp)] at ok
          (try simp only [↓e_mVar, ↓e_mK, ↓e_mOp1, ↓e_mOp2, ↓e_aNil, ↓e_aCons, ↓e_mTup, ↓e_mLst, ↓e_mLstM, ↓e_mIf, ↓e_tTru, ↓e_tNt, ↓e_tAnd2, ↓e_tOr2, ↓e_tOp2, ↓e_mChain, ↓e_tChain', ↓e_mAnd, ↓e_mOr, ↓e_mFld, ↓e_sFldD, ↓e_mMeth, ↓e_mMake, ↓e_mRev, revP_l, ↓e_mAndT, ↓e_mOrT, truP_lc, ↓e_mNot, ↓e_mCall, ↓e_mBlt, ↓e_oNo, ↓e_oSo, ↓e_mSl, ↓e_sPass, ↓e_sBrk, ↓e_sCnt, ↓e_sNever, ↓e_sSeq, ↓e_sAsg, ↓e_gNm, ↓e_gTu, ↓e_gsNil, ↓e_gsCons, ↓e_gSb, ↓e_sPar, ↓e_sExp, ↓e_sRt, ↓e_sRtN, ↓e_sIf, ↓e_sAug, ↓e_sFor, ↓e_sWh, ↓e_mComp, ↓e_mCompM, ↓e_tYs, ↓e_mkFn, ↓e_mApp, ↓e_itSeq, ↓e_itScr, ↓e_itEnum, ↓e_itZip, ↓e_itZip3, ↓e_itR1, ↓e_itR2, ↓e_itR3, ↓e_mDic0, ↓e_mDic1, ↓e_sPar3, ↓e_mAddM, ↓e_aStar, ↓e_mMulM, ↓e_sRaise0, ↓e_sRaise1, ↓e_mErr, ↓e_mCallV, starP_t, starP_l, slot_0, slot_1, slot_2, slot_3, slot_4, slot_5, slot_6, slot_7, slot_8, slot_9, slot_10, slot_11, slot_12, slot_13, slot_14, slot_15, slot_16, slot_17, slot_18, slot_19, slot_20, slot_21, slot_22, slot_23, slot_24, slot_25, slot_26, slot_27, slot_28, slot_29, slot_30, negP_i, ex3, ex2, wipeE, List.map_cons, List.map_nil, List.cons_append, List.nil_append, List.append_nil, List.length_cons, List.length_nil, List.replicate_succ, List.replicate_zero, List.set_cons_zero, List.set_cons_succ, Oc_some, Nat.reduceAdd, Nat.reduceSub, Nat.reduceLeDiff, Nat.zero_le, Int.toNat_natCast, Bool.or_false, Bool.or_true, Bool.or_self, Bool.false_or, Bool.true_or, decide_true, decide_false, Nat.zero_add, Nat.sub_self, Bool.true_eq_false, Bool.false_eq_true, if_true, if_false, ite_true, ite_false, true_and, and_true, addP_ii, subP_ii, mulP_ii, isiP_tup, isiP_lst, isiP_str, isiP_bl, isiP_int, isiP_tl, kd_non, kd_bl, kd_int, kd_str, kd_tup, kd_lst, isTup, isLst, isStr, isBl, isInt, eqP_ii, neP_ii, lenP_t, lenP_l, lenP_s, seqP_t, seqP_l, truP_b, ixP_t, ixP_l, slP_t, slP_l, tupleP_l, tupleP_t, addP_tt, modP_ii, divP_ii, exb, addLP_ll, min2_ii, max2_ii, exTup, exCons, exInt, iaddP_ii, leP_ii, gtP_ii, geP_ii, ltP_ii, intP_i, decide_eq_true_eq, Bool.not_eq_true', decide_eq_false_iff_not, Bool.not_true, Bool.not_false, List.cons_ne_nil, Nat.succ_ne_zero, reduceCtorEq])
          exact q2 i ok
      | _ =>
        first
          | (cases ky; done)
          | (simp only [↓e_mVar, ↓e_mK, ↓e_mOp1, ↓e_mOp2, ↓e_aNil, ↓e_aCons, ↓e_mTup, ↓e_mLst, ↓e_mLstM, ↓e_mIf, ↓e_tTru, ↓e_tNt, ↓e_tAnd2, ↓e_tOr2, ↓e_tOp2, ↓e_mChain, ↓e_tChain', ↓e_mAnd, ↓e_mOr, ↓e_mFld, ↓e_sFldD, ↓e_mMeth, ↓e_mMake, ↓e_mRev, revP_l, ↓e_mAndT, ↓e_mOrT, truP_lc, ↓e_mNot, ↓e_mCall, ↓e_mBlt, ↓e_oNo, ↓e_oSo, ↓e_mSl, ↓e_sPass, ↓e_sBrk, ↓e_sCnt, ↓e_sNever, ↓e_sSeq, ↓e_sAsg, ↓e_gNm, ↓e_gTu, ↓e_gsNil, ↓e_gsCons, ↓e_gSb, ↓e_sPar, ↓e_sExp, ↓e_sRt, ↓e_sRtN, ↓e_sIf, ↓e_sAug, ↓e_sFor, ↓e_sWh, ↓e_mComp, ↓e_mCompM, ↓e_tYs, ↓e_mkFn, ↓e_mApp, ↓e_itSeq, ↓e_itScr, ↓e_itEnum, ↓e_itZip, ↓e_itZip3, ↓e_itR1, ↓e_itR2, ↓e_itR3, ↓e_mDic0, ↓e_mDic1, ↓e_sPar3, ↓e_mAddM, ↓e_aStar, ↓e_mMulM, ↓e_sRaise0, ↓e_sRaise1, ↓e_mErr, ↓e_mCallV, starP_t, starP_l, slot_0, slot_1, slot_2, slot_3, slot_4, slot_5, slot_6, slot_7, slot_8, slot_9, slot_10, slot_11, slot_12, slot_13, slot_14, slot_15, slot_16, slot_17, slot_18, slot_19, slot_20, slot_21, slot_22, slot_23, slot_24, slot_25, slot_26, slot_27, slot_28, slot_29, slot_30, negP_i, ex3, ex2, wipeE, List.map_cons, List.map_nil, List.cons_append, List.nil_append, List.append_nil, List.length_cons, List.length_nil, List.replicate_succ, List.replicate_zero, List.set_cons_zero, List.set_cons_succ, Oc_some, Nat.reduceAdd, Nat.reduceSub, Nat.reduceLeDiff, Nat.zero_le, Int.toNat_natCast, Bool.or_false, Bool.or_true, Bool.or_self, Bool.false_or, Bool.true_or, decide_true, decide_false, Nat.zero_add, Nat.sub_self, Bool.true_eq_false, Bool.false_eq_true, if_true, if_false, ite_true, ite_false, true_and, and_true, addP_ii, subP_ii, mulP_ii, isiP_tup, isiP_lst, isiP_str, isiP_bl, isiP_int, isiP_tl, kd_non, kd_bl, kd_int, kd_str, kd_tup, kd_lst, isTup, isLst, isStr, isBl, isInt, eqP_ii, neP_ii, lenP_t, lenP_l, lenP_s, seqP_t, seqP_l, truP_b, ixP_t, ixP_l, slP_t, slP_l, tupleP_l, tupleP_t, addP_tt, modP_ii, divP_ii, exb, addLP_ll, min2_ii, max2_ii, exTup, exCons, exInt, iaddP_ii, leP_ii, gtP_ii, geP_ii, ltP_ii, intP_i, decide_eq_true_eq, Bool.not_eq_true', decide_eq_false_iff_not, Bool.not_true, Bool.not_false, List.cons_ne_nil, Nat.succ_ne_zero, reduceCtorEq]
             rw [if_neg (by simp [lampB])] at ok
             exact q2 i ok)
  · rintro e h' ⟨rfl, ss, a, b, ls, li, ok, rfl⟩
    rw [enumD_length, List.drop_length] at ok
    exact .of (q ok)
end L2.Lmp

set_option maxHeartbeats 4000000
namespace L2.Lmp
open PySem PySem.Spec PyProof.Rows
/-- odd puzzles, and the index that is told -/
inductive Odd : D → D → Prop
  | a : Odd .non .non
  | b : Odd (.tup []) .non
  | c : Odd (.tup [.non]) (.int 0)
  | d : Odd (.lst [.tup [.tup []]]) .non
  | e : Odd (.tup [.tup [.tup []], .tup [.tup [.int 2]]]) (.int 1)
  | f : Odd (.tup [.tup []]) (.int 0)
  | g : Odd (.int 3) .non
  | s : Odd (.str "a") .non
theorem c_odd {x i : D} {h : DH} {E : EK} {Q : DK} (m : Odd x i) (q : E ⟨"BadPuzzle", some ("index", i)⟩ h) : F_need_puzzle [x] h E Q := by
  cases m with
  | a => exact c_puzzle_no rfl (.inl rfl) q
  | b => exact c_puzzle_no rfl (.inr rfl) q
  | d => exact c_puzzle_no rfl (.inl rfl) q
  | g => exact c_puzzle_no rfl (.inl rfl) q
  | s => exact c_puzzle_no rfl (.inl rfl) q
  | c =>
    refine c_puzzle_or (by simp) (by simp) (fun y m => by rw [List.mem_singleton.mp m]; rfl) (fun e => ?_) fun j e => ?_
    · have : pzE 0 [] [D.non] = some 0 := rfl
      rw [this] at e; cases e
    · have : pzE 0 [] [D.non] = some 0 := rfl
      rw [this] at e; cases e
      exact q
  | f =>
    have t : pzE 0 [] [D.tup []] = some 0 := rfl
    refine c_puzzle_or (by simp) (by simp) (fun y m => by rw [List.mem_singleton.mp m]; rfl) (fun e => ?_) fun j e => ?_
    · rw [t] at e; cases e
    · rw [t] at e; cases e
      exact q
  | e =>
    have t : pzE 0 [] [D.tup [.tup []], .tup [.tup [.int 2]]] = some 1 := by decide +kernel
    refine c_puzzle_or (by simp) (by simp) (fun y m => ?_) (fun e => ?_) fun j e => ?_
    · simp only [List.mem_cons, List.not_mem_nil, or_false] at m
      rcases m with rfl | rfl <;> rfl
    · rw [t] at e; cases e
    · rw [t] at e; cases e
      exact q
end L2.Lmp

set_option maxHeartbeats 4000000
namespace L2.Lmp
open PySem PySem.Spec PyProof.Rows
variable {p : List (List (List Int))} {st : List Int}
theorem pl_str {x : Str} {n : Nat} (e : PyData.strOk x = true) : pl n (.str x) := by cases n <;> exact e
theorem neP_pl {h : DH} {n : Nat} {d : D} {Q : D → Prop} (l : n ≤ 60) (q : pl n d) : neP h d d Q = Q (.bl false) :=
  eqP_pl (h := h) (Q := fun z => match z with | .bl k => Q (.bl (!k)) | _ => False) l q
theorem okF_len : ∀ {q : List (List (List Int))} {ss : List Int}, OkF ss q → ∀ l ∈ q, l.length ≤ 3
  | [], _, _, l, m => by cases m
  | x :: q, ss, k, l, m => by
    rcases List.mem_cons.mp m with rfl | m
    · exact k.1.2
    · exact okF_len k.2.2 l m
theorem okP_len (k : OkP p) {l : List (List Int)} (m : l ∈ p) : l.length ≤ 3 := okF_len k.1 l m
theorem inB_no {i lo hi : Int} (h : i < lo ∨ hi < i) : inB (.int i) lo hi = false := by
  show (decide (lo ≤ i) && decide (i ≤ hi)) = false
  rcases h with h | h
  · rw [decide_eq_false (p := lo ≤ i) (by omega), Bool.false_and]
  · rw [decide_eq_false (p := i ≤ hi) (by omega), Bool.and_false]
/-- values that are no state of a puzzle -/
inductive Ill (p : List (List (List Int))) (st : List Int) : D → Prop
  | non : Ill p st .non
  | nil : Ill p st (.tup [])
  | lst : Ill p st (.lst (st.map D.int))
  | more : Ill p st (.tup (st.map D.int ++ [.int 0]))
  | nine : Ill p st (.tup ((st.map D.int).take (p.length - 1) ++ [.int 9]))
  | none : Ill p st (.tup ((st.map D.int).take (p.length - 1) ++ [.non]))
  | neg : Ill p st (.tup ((st.map D.int).take (p.length - 1) ++ [.int (-1)]))
  | tru : Ill p st (.tup ((st.map D.int).take (p.length - 1) ++ [.bl true]))
  | trues : Ill p st (.tup (List.replicate p.length (.bl true)))
theorem ill_bad (k : OkP p) (os : Ok p p.length st) {x : D} (m : Ill p st x) : kdW x = true ∧ wordB (setsP p) x = false := by
  have p1 : 1 ≤ p.length := k.2.1
  have ls := os.1
  have lsm : (st.map D.int).length = p.length := by rw [List.length_map]; exact ls
  have hS := setsP_length (p := p)
  have hsl : (setsP p)[p.length - 1]? = some ((setsP p)[p.length - 1]'(by omega)) := List.getElem?_eq_getElem (by omega)
  have hs4 : (setsP p)[p.length - 1]'(by omega) ≤ 4 := by
    have := List.getElem_mem (l := setsP p) (n := p.length - 1) (by omega)
    obtain ⟨l, ml, e⟩ := List.mem_map.mp this
    have := okP_len k ml
    omega
  generalize (setsP p)[p.length - 1]'(by omega) = sl at hsl hs4
  have ki : ∀ {l : List Int}, (l.map D.int).all kd = true := by
    intro l
    rw [List.all_eq_true]
    intro y m
    obtain ⟨i, _, rfl⟩ := List.mem_map.mp m
    rfl
  have kt : ((st.map D.int).take (p.length - 1)).all kd = true := by rw [← List.map_take]; exact ki
  have at_ : ∀ {d : D}, ((st.map D.int).take (p.length - 1) ++ [d])[p.length - 1]? = some d := by
    intro d
    rw [List.getElem?_append_right (by rw [List.length_take, lsm]; omega), List.length_take, lsm]
    rw [show p.length - 1 - min (p.length - 1) p.length = 0 by omega]
    rfl
  have sn : ∀ {d : D}, kd d = true → inB d 0 (sl - 1) = false → kdW (.tup ((st.map D.int).take (p.length - 1) ++ [d])) = true ∧ wordB (setsP p) (.tup ((st.map D.int).take (p.length - 1) ++ [d])) = false := fun kd' b =>
    ⟨by show List.all _ _ = true; rw [List.all_append, kt]; simp [kd'], word_in_bad hsl at_ b⟩
  cases m with
  | non => exact ⟨rfl, rfl⟩
  | nil => exact ⟨rfl, word_len_bad (by simp; omega)⟩
  | lst => exact ⟨rfl, rfl⟩
  | more => exact ⟨by show List.all _ _ = true; rw [List.all_append, ki]; rfl, word_len_bad (by simp; omega)⟩
  | nine => exact sn rfl (inB_no (.inr (by omega)))
  | none => exact sn rfl rfl
  | neg => exact sn rfl (inB_no (.inl (by omega)))
  | tru => exact sn rfl rfl
  | trues => exact ⟨by show List.all _ _ = true; rw [List.all_eq_true]; intro y m; rw [(List.mem_replicate.mp m).2]; rfl, word_in_bad hsl (by rw [List.getElem?_replicate, if_pos (by omega)]) rfl⟩
end L2.Lmp

set_option maxHeartbeats 4000000
namespace L2.Lmp
open PySem PySem.Spec PyProof.Rows
variable {p : List (List (List Int))} {h : DH} {E : EK} {Q : DK}
/-! ### weights -/
end L2.Lmp

set_option maxHeartbeats 4000000
namespace L2.Lmp
open PySem PySem.Spec PyProof.Rows
variable {p : List (List (List Int))} {h : DH} {E : EK} {Q : DK} {st : List Int}
/-! ### moves that are refused -/
/-! ### puzzles with one odd lamp -/
abbrev Bd (x i : D) : Prop := ∀ (h : DH) (E : EK) (Q : DK), E ⟨"BadPuzzle", some ("index", i)⟩ h → F_need_puzzle [x] h E Q
theorem Odd.bd {x i : D} (m : Odd x i) : Bd x i := fun _ _ _ q => c_odd m q
end L2.Lmp

set_option maxHeartbeats 4000000
namespace L2.Lmp
open PySem PySem.Spec PyProof.Rows
variable {p : List (List (List Int))} {st : List Int}
end L2.Lmp

set_option maxHeartbeats 4000000
namespace L2.Lmp
open PySem PySem.Spec PyProof.Rows
variable {p : List (List (List Int))} {h : DH} {E : EK} {Q : DK} {st a b : List Int}
/-! ### states that are refused -/
/-! ### ways that are too long -/
/-! ### the old rings -/
end L2.Lmp

set_option maxHeartbeats 4000000
namespace L2.Lmp
open PySem PySem.Spec PyProof.Rows
variable {h : DH} {E : EK} {Q : DK}
/-! ### numbers of settings -/
/-! ### powers of 2 -/
/-! ### the greatest common divisor -/
end L2.Lmp

set_option maxHeartbeats 4000000
namespace L2.Lmp
open PySem PySem.Spec PyProof.Rows
section
variable {p : List (List (List Int))} {h : DH} {E : EK} {Q : DK} {x y z w i : D}
theorem len_tP {P : D → Prop} (q : P (.int p.length)) : lenP h [tP p] P := by
  simp only [tP, ↓e_mVar, ↓e_mK, ↓e_mOp1, ↓e_mOp2, ↓e_aNil, ↓e_aCons, ↓e_mTup, ↓e_mLst, ↓e_mLstM, ↓e_mIf, ↓e_tTru, ↓e_tNt, ↓e_tAnd2, ↓e_tOr2, ↓e_tOp2, ↓e_mChain, ↓e_tChain', ↓e_mAnd, ↓e_mOr, ↓e_mFld, ↓e_sFldD, ↓e_mMeth, ↓e_mMake, ↓e_mRev, revP_l, ↓e_mAndT, ↓e_mOrT, truP_lc, ↓e_mNot, ↓e_mCall, ↓e_mBlt, ↓e_oNo, ↓e_oSo, ↓e_mSl, ↓e_sPass, ↓e_sBrk, ↓e_sCnt, ↓e_sNever, ↓e_sSeq, ↓e_sAsg, ↓e_gNm, ↓e_gTu, ↓e_gsNil, ↓e_gsCons, ↓e_gSb, ↓e_sPar, ↓e_sExp, ↓e_sRt, ↓e_sRtN, ↓e_sIf, ↓e_sAug, ↓e_sFor, ↓e_sWh, ↓e_mComp, ↓e_mCompM, ↓e_tYs, ↓e_mkFn, ↓e_mApp, ↓e_itSeq, ↓e_itScr, ↓e_itEnum, ↓e_itZip, ↓e_itZip3, ↓e_itR1, ↓e_itR2, ↓e_itR3, ↓e_mDic0, ↓e_mDic1, ↓e_sPar3, ↓e_mAddM, ↓e_aStar, ↓e_mMulM, ↓e_sRaise0, ↓e_sRaise1, ↓e_mErr, ↓e_mCallV, starP_t, starP_l, slot_0, slot_1, slot_2, slot_3, slot_4, slot_5, slot_6, slot_7, slot_8, slot_9, slot_10, slot_11, slot_12, slot_13, slot_14, slot_15, slot_16, slot_17, slot_18, slot_19, slot_20, slot_21, slot_22, slot_23, slot_24, slot_25, slot_26, slot_27, slot_28, slot_29, slot_30, negP_i, ex3, ex2, wipeE, List.map_cons, List.map_nil, List.cons_append, List.nil_append, List.append_nil, List.length_cons, List.length_nil, List.replicate_succ, List.replicate_zero, List.set_cons_zero, List.set_cons_succ, Oc_some, Nat.reduceAdd, Nat.reduceSub, Nat.reduceLeDiff, Nat.zero_le, Int.toNat_natCast, Bool.or_false, Bool.or_true, Bool.or_self, Bool.false_or, Bool.true_or, decide_true, decide_false, Nat.zero_add, Nat.sub_self, Bool.true_eq_false, Bool.false_eq_true, if_true, if_false, ite_true, ite_false, true_and, and_true, addP_ii, subP_ii, mulP_ii, isiP_tup, isiP_lst, isiP_str, isiP_bl, isiP_int, isiP_tl, kd_non, kd_bl, kd_int, kd_str, kd_tup, kd_lst, isTup, isLst, isStr, isBl, isInt, eqP_ii, neP_ii, lenP_t, lenP_l, lenP_s, seqP_t, seqP_l, truP_b, ixP_t, ixP_l, slP_t, slP_l, tupleP_l, tupleP_t, addP_tt, modP_ii, divP_ii, exb, addLP_ll, min2_ii, max2_ii, exTup, exCons, exInt, iaddP_ii, leP_ii, gtP_ii, geP_ii, ltP_ii, intP_i, decide_eq_true_eq, Bool.not_eq_true', decide_eq_false_iff_not, Bool.not_true, Bool.not_false, List.cons_ne_nil, Nat.succ_ne_zero, reduceCtorEq, List.length_map]
  exact q
end
end L2.Lmp

set_option maxHeartbeats 4000000
namespace L2.Lmp
open PySem PySem.Spec PyProof.Rows
variable {p : List (List (List Int))}
/-! ### distances are less than the number of states -/
/-! ### games -/
/-! ### partners -/
end L2.Lmp

set_option maxHeartbeats 4000000
namespace L2.Lmp
open PySem PySem.Spec PyProof.Rows
variable {p : List (List (List Int))} {E : EK}
end L2.Lmp

set_option maxHeartbeats 4000000
namespace L2.Lmp
open PySem PySem.Spec PyProof.Rows
section
variable {h : DH} {E : EK} {Q : DK} {d c : Addr} {xs : List D}
end
variable {p : List (List (List Int))} {h : DH} {E : EK} {Q : DK} {st : List Int}
end L2.Lmp

set_option maxHeartbeats 4000000
namespace L2.Lmp
open PySem PySem.Spec PyProof.Rows
variable {p : List (List (List Int))} {h : DH} {E : EK} {Q : DK}
/-! ### held lamps -/
theorem inB_all {lo hi : Int} : ∀ {ys : List D}, ys.all (fun y => inB y lo hi) = true → ∃ ns : List Int, ys = ns.map D.int
  | [], _ => ⟨[], rfl⟩
  | y :: ys, h => by
    rw [List.all_cons, Bool.and_eq_true] at h
    obtain ⟨ns, e⟩ := inB_all h.2
    cases y with
    | int i => exact ⟨i :: ns, by rw [e]; rfl⟩
    | _ => exact absurd h.1 (by simp [inB])
def ascB (ns : List Int) : Bool := (List.zip ns (ns.drop 1)).all fun q => decide (q.1 < q.2)
theorem zipD_ints {ns ms : List Int} : zipD (ns.map D.int) (ms.map D.int) = (List.zip ns ms).map fun q => D.tup [.int q.1, .int q.2] := by
  unfold zipD
  rw [List.zipWith_map, List.zip, List.map_zipWith]
def HeldOk (p : List (List (List Int))) (x : D) : Prop := ∃ ns : List Int, x = .tup (ns.map D.int) ∧ (ns.map D.int).all (fun y => inB y 0 (p.length - 1)) = true ∧ ascB ns = true
theorem c_held_or {x : D} (kx : kdW x = true) (hl : ∀ ys, x = .tup ys → ys.length ≤ 1000) (k30 : p.length ≤ 30) (q : HeldOk p x → Q .non h) (q2 : ¬ HeldOk p x → E ⟨"BadHeld", none⟩ h) : F_need_held [tP p, x] h E Q := by
  have len_tP : ∀ {h : DH} {P : D → Prop}, lenP h [tP p] P = P (.int p.length) := by
    intro h P
    simp only [tP, ↓e_mVar, ↓e_mK, ↓e_mOp1, ↓e_mOp2, ↓e_aNil, ↓e_aCons, ↓e_mTup, ↓e_mLst, ↓e_mLstM, ↓e_mIf, ↓e_tTru, ↓e_tNt, ↓e_tAnd2, ↓e_tOr2, ↓e_tOp2, ↓e_mChain, ↓e_tChain', ↓e_mAnd, ↓e_mOr, ↓e_mFld, ↓e_sFldD, ↓e_mMeth, ↓e_mMake, ↓e_mRev, revP_l, ↓e_mAndT, ↓e_mOrT, truP_lc, ↓e_mNot, ↓e_mCall, ↓e_mBlt, ↓e_oNo, ↓e_oSo, ↓e_mSl, ↓e_sPass, ↓e_sBrk, ↓e_sCnt, ↓e_sNever, ↓e_sSeq, ↓e_sAsg, ↓e_gNm, ↓e_gTu, ↓e_gsNil, ↓e_gsCons, ↓e_gSb, ↓e_sPar, ↓e_sExp, ↓e_sRt, ↓e_sRtN, ↓e_sIf, ↓e_sAug, ↓e_sFor, ↓e_sWh, ↓e_mComp, ↓e_mCompM, ↓e_tYs, ↓e_mkFn, ↓e_mApp, ↓e_itSeq, ↓e_itScr, ↓e_itEnum, ↓e_itZip, ↓e_itZip3, ↓e_itR1, ↓e_itR2, ↓e_itR3, ↓e_mDic0, ↓e_mDic1, ↓e_sPar3, ↓e_mAddM, ↓e_aStar, ↓e_mMulM, ↓e_sRaise0, ↓e_sRaise1, ↓e_mErr, ↓e_mCallV, starP_t, starP_l, slot_0, slot_1, slot_2, slot_3, slot_4, slot_5, slot_6, slot_7, slot_8, slot_9, slot_10, slot_11, slot_12, slot_13, slot_14, slot_15, slot_16, slot_17, slot_18, slot_19, slot_20, slot_21, slot_22, slot_23, slot_24, slot_25, slot_26, slot_27, slot_28, slot_29, slot_30, negP_i, ex3, ex2, wipeE, List.map_cons, List.map_nil, List.cons_append, List.nil_append, List.append_nil, List.length_cons, List.length_nil, List.replicate_succ, List.replicate_zero, List.set_cons_zero, List.set_cons_succ, Oc_some, Nat.reduceAdd, Nat.reduceSub, Nat.reduceLeDiff, Nat.zero_le, Int.toNat_natCast, Bool.or_false, Bool.or_true, Bool.or_self, Bool.false_or, Bool.true_or, decide_true, decide_false, Nat.zero_add, Nat.sub_self, Bool.true_eq_false, Bool.false_eq_true, if_true, if_false, ite_true, ite_false, true_and, and_true, addP_ii, subP_ii, mulP_ii, isiP_tup, isiP_lst, isiP_str, isiP_bl, isiP_int, isiP_tl, kd_non, kd_bl, kd_int, kd_str, kd_tup, kd_lst, isTup, isLst, isStr, isBl, isInt, eqP_ii, neP_ii, lenP_t, lenP_l, lenP_s, seqP_t, seqP_l, truP_b, ixP_t, ixP_l, slP_t, slP_l, tupleP_l, tupleP_t, addP_tt, modP_ii, divP_ii, exb, addLP_ll, min2_ii, max2_ii, exTup, exCons, exInt, iaddP_ii, leP_ii, gtP_ii, geP_ii, ltP_ii, intP_i, decide_eq_true_eq, Bool.not_eq_true', decide_eq_false_iff_not, Bool.not_true, Bool.not_false, List.cons_ne_nil, Nat.succ_ne_zero, reduceCtorEq, List.length_map]
  simp only [↓e_need_held, ↓e_mVar, ↓e_mK, ↓e_mOp1, ↓e_mOp2, ↓e_aNil, ↓e_aCons, ↓e_mTup, ↓e_mLst, ↓e_mLstM, ↓e_mIf, ↓e_tTru, ↓e_tNt, ↓e_tAnd2, ↓e_tOr2, ↓e_tOp2, ↓e_mChain, ↓e_tChain', ↓e_mAnd, ↓e_mOr, ↓e_mFld, ↓e_sFldD, ↓e_mMeth, ↓e_mMake, ↓e_mRev, revP_l, ↓e_mAndT, ↓e_mOrT, truP_lc, ↓e_mNot, ↓e_mCall, ↓e_mBlt, ↓e_oNo, ↓e_oSo, ↓e_mSl, ↓e_sPass, ↓e_sBrk, ↓e_sCnt, ↓e_sNever, ↓e_sSeq, ↓e_sAsg, ↓e_gNm, ↓e_gTu, ↓e_gsNil, ↓e_gsCons, ↓e_gSb, ↓e_sPar, ↓e_sExp, ↓e_sRt, ↓e_sRtN, ↓e_sIf, ↓e_sAug, ↓e_sFor, ↓e_sWh, ↓e_mComp, ↓e_mCompM, ↓e_tYs, ↓e_mkFn, ↓e_mApp, ↓e_itSeq, ↓e_itScr, ↓e_itEnum, ↓e_itZip, ↓e_itZip3, ↓e_itR1, ↓e_itR2, ↓e_itR3, ↓e_mDic0, ↓e_mDic1, ↓e_sPar3, ↓e_mAddM, ↓e_aStar, ↓e_mMulM, ↓e_sRaise0, ↓e_sRaise1, ↓e_mErr, ↓e_mCallV, starP_t, starP_l, slot_0, slot_1, slot_2, slot_3, slot_4, slot_5, slot_6, slot_7, slot_8, slot_9, slot_10, slot_11, slot_12, slot_13, slot_14, slot_15, slot_16, slot_17, slot_18, slot_19, slot_20, slot_21, slot_22, slot_23, slot_24, slot_25, slot_26, slot_27, slot_28, slot_29, slot_30, negP_i, ex3, ex2, wipeE, List.map_cons, List.map_nil, List.cons_append, List.nil_append, List.append_nil, List.length_cons, List.length_nil, List.replicate_succ, List.replicate_zero, List.set_cons_zero, List.set_cons_succ, Oc_some, Nat.reduceAdd, Nat.reduceSub, Nat.reduceLeDiff, Nat.zero_le, Int.toNat_natCast, Bool.or_false, Bool.or_true, Bool.or_self, Bool.false_or, Bool.true_or, decide_true, decide_false, Nat.zero_add, Nat.sub_self, Bool.true_eq_false, Bool.false_eq_true, if_true, if_false, ite_true, ite_false, true_and, and_true, addP_ii, subP_ii, mulP_ii, isiP_tup, isiP_lst, isiP_str, isiP_bl, isiP_int, isiP_tl, kd_non, kd_bl, kd_int, kd_str, kd_tup, kd_lst, isTup, isLst, isStr, isBl, isInt, eqP_ii, neP_ii, lenP_t, lenP_l, lenP_s, seqP_t, seqP_l, truP_b, ixP_t, ixP_l, slP_t, slP_l, tupleP_l, tupleP_t, addP_tt, modP_ii, divP_ii, exb, addLP_ll, min2_ii, max2_ii, exTup, exCons, exInt, iaddP_ii, leP_ii, gtP_ii, geP_ii, ltP_ii, intP_i, decide_eq_true_eq, Bool.not_eq_true', decide_eq_false_iff_not, Bool.not_true, Bool.not_false, List.cons_ne_nil, Nat.succ_ne_zero, reduceCtorEq]
  cases x with
  | tup ys =>
    have kx : ys.all kd = true := kx
    have ly := hl ys rfl
    simp only [↓e_mVar, ↓e_mK, ↓e_mOp1, ↓e_mOp2, ↓e_aNil, ↓e_aCons, ↓e_mTup, ↓e_mLst, ↓e_mLstM, ↓e_mIf, ↓e_tTru, ↓e_tNt, ↓e_tAnd2, ↓e_tOr2, ↓e_tOp2, ↓e_mChain, ↓e_tChain', ↓e_mAnd, ↓e_mOr, ↓e_mFld, ↓e_sFldD, ↓e_mMeth, ↓e_mMake, ↓e_mRev, revP_l, ↓e_mAndT, ↓e_mOrT, truP_lc, ↓e_mNot, ↓e_mCall, ↓e_mBlt, ↓e_oNo, ↓e_oSo, ↓e_mSl, ↓e_sPass, ↓e_sBrk, ↓e_sCnt, ↓e_sNever, ↓e_sSeq, ↓e_sAsg, ↓e_gNm, ↓e_gTu, ↓e_gsNil, ↓e_gsCons, ↓e_gSb, ↓e_sPar, ↓e_sExp, ↓e_sRt, ↓e_sRtN, ↓e_sIf, ↓e_sAug, ↓e_sFor, ↓e_sWh, ↓e_mComp, ↓e_mCompM, ↓e_tYs, ↓e_mkFn, ↓e_mApp, ↓e_itSeq, ↓e_itScr, ↓e_itEnum, ↓e_itZip, ↓e_itZip3, ↓e_itR1, ↓e_itR2, ↓e_itR3, ↓e_mDic0, ↓e_mDic1, ↓e_sPar3, ↓e_mAddM, ↓e_aStar, ↓e_mMulM, ↓e_sRaise0, ↓e_sRaise1, ↓e_mErr, ↓e_mCallV, starP_t, starP_l, slot_0, slot_1, slot_2, slot_3, slot_4, slot_5, slot_6, slot_7, slot_8, slot_9, slot_10, slot_11, slot_12, slot_13, slot_14, slot_15, slot_16, slot_17, slot_18, slot_19, slot_20, slot_21, slot_22, slot_23, slot_24, slot_25, slot_26, slot_27, slot_28, slot_29, slot_30, negP_i, ex3, ex2, wipeE, List.map_cons, List.map_nil, List.cons_append, List.nil_append, List.append_nil, List.length_cons, List.length_nil, List.replicate_succ, List.replicate_zero, List.set_cons_zero, List.set_cons_succ, Oc_some, Nat.reduceAdd, Nat.reduceSub, Nat.reduceLeDiff, Nat.zero_le, Int.toNat_natCast, Bool.or_false, Bool.or_true, Bool.or_self, Bool.false_or, Bool.true_or, decide_true, decide_false, Nat.zero_add, Nat.sub_self, Bool.true_eq_false, Bool.false_eq_true, if_true, if_false, ite_true, ite_false, true_and, and_true, addP_ii, subP_ii, mulP_ii, isiP_tup, isiP_lst, isiP_str, isiP_bl, isiP_int, isiP_tl, kd_non, kd_bl, kd_int, kd_str, kd_tup, kd_lst, isTup, isLst, isStr, isBl, isInt, eqP_ii, neP_ii, lenP_t, lenP_l, lenP_s, seqP_t, seqP_l, truP_b, ixP_t, ixP_l, slP_t, slP_l, tupleP_l, tupleP_t, addP_tt, modP_ii, divP_ii, exb, addLP_ll, min2_ii, max2_ii, exTup, exCons, exInt, iaddP_ii, leP_ii, gtP_ii, geP_ii, ltP_ii, intP_i, decide_eq_true_eq, Bool.not_eq_true', decide_eq_false_iff_not, Bool.not_true, Bool.not_false, List.cons_ne_nil, Nat.succ_ne_zero, reduceCtorEq, len_tP]
    refine comp_map ys (fun y => .bl (inB y 0 (p.length - 1))) trivial (by omega) (fun y K K2 my ky => ?_) ?_
    · simp only [↓e_mVar, ↓e_mK, ↓e_mOp1, ↓e_mOp2, ↓e_aNil, ↓e_aCons, ↓e_mTup, ↓e_mLst, ↓e_mLstM, ↓e_mIf, ↓e_tTru, ↓e_tNt, ↓e_tAnd2, ↓e_tOr2, ↓e_tOp2, ↓e_mChain, ↓e_tChain', ↓e_mAnd, ↓e_mOr, ↓e_mFld, ↓e_sFldD, ↓e_mMeth, ↓e_mMake, ↓e_mRev, revP_l, ↓e_mAndT, ↓e_mOrT, truP_lc, ↓e_mNot, ↓e_mCall, ↓e_mBlt, ↓e_oNo, ↓e_oSo, ↓e_mSl, ↓e_sPass, ↓e_sBrk, ↓e_sCnt, ↓e_sNever, ↓e_sSeq, ↓e_sAsg, ↓e_gNm, ↓e_gTu, ↓e_gsNil, ↓e_gsCons, ↓e_gSb, ↓e_sPar, ↓e_sExp, ↓e_sRt, ↓e_sRtN, ↓e_sIf, ↓e_sAug, ↓e_sFor, ↓e_sWh, ↓e_mComp, ↓e_mCompM, ↓e_tYs, ↓e_mkFn, ↓e_mApp, ↓e_itSeq, ↓e_itScr, ↓e_itEnum, ↓e_itZip, ↓e_itZip3, ↓e_itR1, ↓e_itR2, ↓e_itR3, ↓e_mDic0, ↓e_mDic1, ↓e_sPar3, ↓e_mAddM, ↓e_aStar, ↓e_mMulM, ↓e_sRaise0, ↓e_sRaise1, ↓e_mErr, ↓e_mCallV, starP_t, starP_l, slot_0, slot_1, slot_2, slot_3, slot_4, slot_5, slot_6, slot_7, slot_8, slot_9, slot_10, slot_11, slot_12, slot_13, slot_14, slot_15, slot_16, slot_17, slot_18, slot_19, slot_20, slot_21, slot_22, slot_23, slot_24, slot_25, slot_26, slot_27, slot_28, slot_29, slot_30, negP_i, ex3, ex2, wipeE, List.map_cons, List.map_nil, List.cons_append, List.nil_append, List.append_nil, List.length_cons, List.length_nil, List.replicate_succ, List.replicate_zero, List.set_cons_zero, List.set_cons_succ, Oc_some, Nat.reduceAdd, Nat.reduceSub, Nat.reduceLeDiff, Nat.zero_le, Int.toNat_natCast, Bool.or_false, Bool.or_true, Bool.or_self, Bool.false_or, Bool.true_or, decide_true, decide_false, Nat.zero_add, Nat.sub_self, Bool.true_eq_false, Bool.false_eq_true, if_true, if_false, ite_true, ite_false, true_and, and_true, addP_ii, subP_ii, mulP_ii, isiP_tup, isiP_lst, isiP_str, isiP_bl, isiP_int, isiP_tl, kd_non, kd_bl, kd_int, kd_str, kd_tup, kd_lst, isTup, isLst, isStr, isBl, isInt, eqP_ii, neP_ii, lenP_t, lenP_l, lenP_s, seqP_t, seqP_l, truP_b, ixP_t, ixP_l, slP_t, slP_l, tupleP_l, tupleP_t, addP_tt, modP_ii, divP_ii, exb, addLP_ll, min2_ii, max2_ii, exTup, exCons, exInt, iaddP_ii, leP_ii, gtP_ii, geP_ii, ltP_ii, intP_i, decide_eq_true_eq, Bool.not_eq_true', decide_eq_false_iff_not, Bool.not_true, Bool.not_false, List.cons_ne_nil, Nat.succ_ne_zero, reduceCtorEq, len_tP]
      refine c_is_in (List.all_eq_true.mp kx y my) ?_
      (try simp only [↓e_mVar, ↓e_mK, ↓e_mOp1, ↓e_mOp2, ↓e_aNil, ↓e_aCons, ↓e_mTup, ↓e_mLst, ↓e_mLstM, ↓e_mIf, ↓e_tTru, ↓e_tNt, ↓e_tAnd2, ↓e_tOr2, ↓e_tOp2, ↓e_mChain, ↓e_tChain', ↓e_mAnd, ↓e_mOr, ↓e_mFld, ↓e_sFldD, ↓e_mMeth, ↓e_mMake, ↓e_mRev, revP_l, ↓e_mAndT, ↓e_mOrT, truP_lc, ↓e_mNot, ↓e_mCall, ↓e_mBlt, ↓e_oNo, ↓e_oSo, ↓e_mSl, ↓e_sPass, ↓e_sBrk, ↓e_sCnt, ↓e_sNever, ↓e_sSeq, ↓e_sAsg, ↓e_gNm, ↓e_gTu, ↓e_gsNil, ↓e_gsCons, ↓e_gSb, ↓e_sPar, ↓e_sExp, ↓e_sRt, ↓e_sRtN, ↓e_sIf, ↓e_sAug, ↓e_sFor, ↓e_sWh, ↓e_mComp, ↓e_mCompM, ↓e_tYs, ↓e_mkFn, ↓e_mApp, ↓e_itSeq, ↓e_itScr, ↓e_itEnum, ↓e_itZip, ↓e_itZip3, ↓e_itR1, ↓e_itR2, ↓e_itR3, ↓e_mDic0, ↓e_mDic1, ↓e_sPar3, ↓e_mAddM, ↓e_aStar, ↓e_mMulM, ↓e_sRaise0, ↓e_sRaise1, ↓e_mErr, ↓e_mCallV, starP_t, starP_l, slot_0, slot_1, slot_2, slot_3, slot_4, slot_5, slot_6, slot_7, slot_8, slot_9, slot_10, slot_11, slot_12, slot_13, slot_14, slot_15, slot_16, slot_17, slot_18, slot_19, slot_20, slot_21, slot_22, slot_23, slot_24, slot_25, slot_26, slot_27, slot_28, slot_29, slot_30, negP_i, ex3, ex2, wipeE, List.map_cons, List.map_nil, List.cons_append, List.nil_append, List.append_nil, List.length_cons, List.length_nil, List.replicate_succ, List.replicate_zero, List.set_cons_zero, List.set_cons_succ, Oc_some, Nat.reduceAdd, Nat.reduceSub, Nat.reduceLeDiff, Nat.zero_le, Int.toNat_natCast, Bool.or_false, Bool.or_true, Bool.or_self, Bool.false_or, Bool.true_or, decide_true, decide_false, Nat.zero_add, Nat.sub_self, Bool.true_eq_false, Bool.false_eq_true, if_true, if_false, ite_true, ite_false, true_and, and_true, addP_ii, subP_ii, mulP_ii, isiP_tup, isiP_lst, isiP_str, isiP_bl, isiP_int, isiP_tl, kd_non, kd_bl, kd_int, kd_str, kd_tup, kd_lst, isTup, isLst, isStr, isBl, isInt, eqP_ii, neP_ii, lenP_t, lenP_l, lenP_s, seqP_t, seqP_l, truP_b, ixP_t, ixP_l, slP_t, slP_l, tupleP_l, tupleP_t, addP_tt, modP_ii, divP_ii, exb, addLP_ll, min2_ii, max2_ii, exTup, exCons, exInt, iaddP_ii, leP_ii, gtP_ii, geP_ii, ltP_ii, intP_i, decide_eq_true_eq, Bool.not_eq_true', decide_eq_false_iff_not, Bool.not_true, Bool.not_false, List.cons_ne_nil, Nat.succ_ne_zero, reduceCtorEq])
      exact ky
    · (try simp only [↓e_mVar, ↓e_mK, ↓e_mOp1, ↓e_mOp2, ↓e_aNil, ↓e_aCons, ↓e_mTup, ↓e_mLst, ↓e_mLstM, ↓e_mIf, ↓e_tTru, ↓e_tNt, ↓e_tAnd2, ↓e_tOr2, ↓e_tOp2, ↓e_mChain, ↓e_tChain', ↓e_mAnd, ↓e_mOr, ↓e_mFld, ↓e_sFldD, ↓e_mMeth, ↓e_mMake, ↓e_mRev, revP_l, ↓e_mAndT, ↓e_mOrT, truP_lc, ↓e_mNot, ↓e_mCall, ↓e_mBlt, ↓e_oNo, ↓e_oSo, ↓e_mSl, ↓e_sPass, ↓e_sBrk, ↓e_sCnt, ↓e_sNever, ↓e_sSeq, ↓e_sAsg, ↓e_gNm, ↓e_gTu, ↓e_gsNil, ↓e_gsCons, ↓e_gSb, ↓e_sPar, ↓e_sExp, ↓e_sRt, ↓e_sRtN, ↓e_sIf, ↓e_sAug, ↓e_sFor, ↓e_sWh, ↓e_mComp, ↓e_mCompM, ↓e_tYs, ↓e_mkFn, ↓e_mApp, ↓e_itSeq, ↓e_itScr, ↓e_itEnum, ↓e_itZip, ↓e_itZip3, ↓e_itR1, ↓e_itR2, ↓e_itR3, ↓e_mDic0, ↓e_mDic1, ↓e_sPar3, ↓e_mAddM, ↓e_aStar, ↓e_mMulM, ↓e_sRaise0, ↓e_sRaise1, ↓e_mErr, ↓e_mCallV, starP_t, starP_l, slot_0, slot_1, slot_2, slot_3, slot_4, slot_5, slot_6, slot_7, slot_8, slot_9, slot_10, slot_11, slot_12, slot_13, slot_14, slot_15, slot_16, slot_17, slot_18, slot_19, slot_20, slot_21, slot_22, slot_23, slot_24, slot_25, slot_26, slot_27, slot_28, slot_29, slot_30, negP_i, ex3, ex2, wipeE, List.map_cons, List.map_nil, List.cons_append, List.nil_append, List.append_nil, List.length_cons, List.length_nil, List.replicate_succ, List.replicate_zero, List.set_cons_zero, List.set_cons_succ, Oc_some, Nat.reduceAdd, Nat.reduceSub, Nat.reduceLeDiff, Nat.zero_le, Int.toNat_natCast, Bool.or_false, Bool.or_true, Bool.or_self, Bool.false_or, Bool.true_or, decide_true, decide_false, Nat.zero_add, Nat.sub_self, Bool.true_eq_false, Bool.false_eq_true, if_true, if_false, ite_true, ite_false, true_and, and_true, addP_ii, subP_ii, mulP_ii, isiP_tup, isiP_lst, isiP_str, isiP_bl, isiP_int, isiP_tl, kd_non, kd_bl, kd_int, kd_str, kd_tup, kd_lst, isTup, isLst, isStr, isBl, isInt, eqP_ii, neP_ii, lenP_t, lenP_l, lenP_s, seqP_t, seqP_l, truP_b, ixP_t, ixP_l, slP_t, slP_l, tupleP_l, tupleP_t, addP_tt, modP_ii, divP_ii, exb, addLP_ll, min2_ii, max2_ii, exTup, exCons, exInt, iaddP_ii, leP_ii, gtP_ii, geP_ii, ltP_ii, intP_i, decide_eq_true_eq, Bool.not_eq_true', decide_eq_false_iff_not, Bool.not_true, Bool.not_false, List.cons_ne_nil, Nat.succ_ne_zero, reduceCtorEq])
      refine ⟨ys.map fun y => inB y 0 (p.length - 1), by rw [List.map_map]; rfl, ?_⟩
      rw [List.all_map]
      have e : (ys.all (id ∘ fun y => inB y 0 (p.length - 1))) = ys.all fun y => inB y 0 (p.length - 1) := rfl
      rw [e]
      cases ha : ys.all fun y => inB y 0 (p.length - 1) with
      | false =>
        (try simp only [↓e_mVar, ↓e_mK, ↓e_mOp1, ↓e_mOp2, ↓e_aNil, ↓e_aCons, ↓e_mTup, ↓e_mLst, ↓e_mLstM, ↓e_mIf, ↓e_tTru, ↓e_tNt, ↓e_tAnd2, ↓e_tOr2, ↓e_tOp2, ↓e_mChain, ↓e_tChain', ↓e_mAnd, ↓e_mOr, ↓e_mFld, ↓e_sFldD, ↓e_mMeth, ↓e_mMake, ↓e_mRev, revP_l, ↓e_mAndT, ↓e_mOrT, truP_lc, ↓e_mNot, ↓e_mCall, ↓e_mBlt, ↓e_oNo, ↓e_oSo, ↓e_mSl, ↓e_sPass, ↓e_sBrk, ↓e_sCnt, ↓e_sNever, ↓e_sSeq, ↓e_sAsg, ↓e_gNm, ↓e_gTu, ↓e_gsNil, ↓e_gsCons, ↓e_gSb, ↓e_sPar, ↓e_sExp, ↓e_sRt, ↓e_sRtN, ↓e_sIf, ↓e_sAug, ↓e_sFor, ↓e_sWh, ↓e_mComp, ↓e_mCompM, ↓e_tYs, ↓e_mkFn, ↓e_mApp, ↓e_itSeq, ↓e_itScr, ↓e_itEnum, ↓e_itZip, ↓e_itZip3, ↓e_itR1, ↓e_itR2, ↓e_itR3, ↓e_mDic0, ↓e_mDic1, ↓e_sPar3, ↓e_mAddM, ↓e_aStar, ↓e_mMulM, ↓e_sRaise0, ↓e_sRaise1, ↓e_mErr, ↓e_mCallV, starP_t, starP_l, slot_0, slot_1, slot_2, slot_3, slot_4, slot_5, slot_6, slot_7, slot_8, slot_9, slot_10, slot_11, slot_12, slot_13, slot_14, slot_15, slot_16, slot_17, slot_18, slot_19, slot_20, slot_21, slot_22, slot_23, slot_24, slot_25, slot_26, slot_27, slot_28, slot_29, slot_30, negP_i, ex3, ex2, wipeE, List.map_cons, List.map_nil, List.cons_append, List.nil_append, List.append_nil, List.length_cons, List.length_nil, List.replicate_succ, List.replicate_zero, List.set_cons_zero, List.set_cons_succ, Oc_some, Nat.reduceAdd, Nat.reduceSub, Nat.reduceLeDiff, Nat.zero_le, Int.toNat_natCast, Bool.or_false, Bool.or_true, Bool.or_self, Bool.false_or, Bool.true_or, decide_true, decide_false, Nat.zero_add, Nat.sub_self, Bool.true_eq_false, Bool.false_eq_true, if_true, if_false, ite_true, ite_false, true_and, and_true, addP_ii, subP_ii, mulP_ii, isiP_tup, isiP_lst, isiP_str, isiP_bl, isiP_int, isiP_tl, kd_non, kd_bl, kd_int, kd_str, kd_tup, kd_lst, isTup, isLst, isStr, isBl, isInt, eqP_ii, neP_ii, lenP_t, lenP_l, lenP_s, seqP_t, seqP_l, truP_b, ixP_t, ixP_l, slP_t, slP_l, tupleP_l, tupleP_t, addP_tt, modP_ii, divP_ii, exb, addLP_ll, min2_ii, max2_ii, exTup, exCons, exInt, iaddP_ii, leP_ii, gtP_ii, geP_ii, ltP_ii, intP_i, decide_eq_true_eq, Bool.not_eq_true', decide_eq_false_iff_not, Bool.not_true, Bool.not_false, List.cons_ne_nil, Nat.succ_ne_zero, reduceCtorEq])
        exact q2 fun ⟨ns, e, h1, _⟩ => by cases e; rw [h1] at ha; cases ha
      | true =>
        obtain ⟨ns, rfl⟩ := inB_all ha
        have cd : cutD (ns.map D.int) (some 1) none = (ns.drop 1).map D.int := by rw [List.map_drop]; exact cut_drop (n := 1)
        simp only [↓e_mVar, ↓e_mK, ↓e_mOp1, ↓e_mOp2, ↓e_aNil, ↓e_aCons, ↓e_mTup, ↓e_mLst, ↓e_mLstM, ↓e_mIf, ↓e_tTru, ↓e_tNt, ↓e_tAnd2, ↓e_tOr2, ↓e_tOp2, ↓e_mChain, ↓e_tChain', ↓e_mAnd, ↓e_mOr, ↓e_mFld, ↓e_sFldD, ↓e_mMeth, ↓e_mMake, ↓e_mRev, revP_l, ↓e_mAndT, ↓e_mOrT, truP_lc, ↓e_mNot, ↓e_mCall, ↓e_mBlt, ↓e_oNo, ↓e_oSo, ↓e_mSl, ↓e_sPass, ↓e_sBrk, ↓e_sCnt, ↓e_sNever, ↓e_sSeq, ↓e_sAsg, ↓e_gNm, ↓e_gTu, ↓e_gsNil, ↓e_gsCons, ↓e_gSb, ↓e_sPar, ↓e_sExp, ↓e_sRt, ↓e_sRtN, ↓e_sIf, ↓e_sAug, ↓e_sFor, ↓e_sWh, ↓e_mComp, ↓e_mCompM, ↓e_tYs, ↓e_mkFn, ↓e_mApp, ↓e_itSeq, ↓e_itScr, ↓e_itEnum, ↓e_itZip, ↓e_itZip3, ↓e_itR1, ↓e_itR2, ↓e_itR3, ↓e_mDic0, ↓e_mDic1, ↓e_sPar3, ↓e_mAddM, ↓e_aStar, ↓e_mMulM, ↓e_sRaise0, ↓e_sRaise1, ↓e_mErr, ↓e_mCallV, starP_t, starP_l, slot_0, slot_1, slot_2, slot_3, slot_4, slot_5, slot_6, slot_7, slot_8, slot_9, slot_10, slot_11, slot_12, slot_13, slot_14, slot_15, slot_16, slot_17, slot_18, slot_19, slot_20, slot_21, slot_22, slot_23, slot_24, slot_25, slot_26, slot_27, slot_28, slot_29, slot_30, negP_i, ex3, ex2, wipeE, List.map_cons, List.map_nil, List.cons_append, List.nil_append, List.append_nil, List.length_cons, List.length_nil, List.replicate_succ, List.replicate_zero, List.set_cons_zero, List.set_cons_succ, Oc_some, Nat.reduceAdd, Nat.reduceSub, Nat.reduceLeDiff, Nat.zero_le, Int.toNat_natCast, Bool.or_false, Bool.or_true, Bool.or_self, Bool.false_or, Bool.true_or, decide_true, decide_false, Nat.zero_add, Nat.sub_self, Bool.true_eq_false, Bool.false_eq_true, if_true, if_false, ite_true, ite_false, true_and, and_true, addP_ii, subP_ii, mulP_ii, isiP_tup, isiP_lst, isiP_str, isiP_bl, isiP_int, isiP_tl, kd_non, kd_bl, kd_int, kd_str, kd_tup, kd_lst, isTup, isLst, isStr, isBl, isInt, eqP_ii, neP_ii, lenP_t, lenP_l, lenP_s, seqP_t, seqP_l, truP_b, ixP_t, ixP_l, slP_t, slP_l, tupleP_l, tupleP_t, addP_tt, modP_ii, divP_ii, exb, addLP_ll, min2_ii, max2_ii, exTup, exCons, exInt, iaddP_ii, leP_ii, gtP_ii, geP_ii, ltP_ii, intP_i, decide_eq_true_eq, Bool.not_eq_true', decide_eq_false_iff_not, Bool.not_true, Bool.not_false, List.cons_ne_nil, Nat.succ_ne_zero, reduceCtorEq, ↓u_t_need_held_1, cd]
        rw [zipD_ints]
        refine comp_map _ (fun z => match z with | .tup [.int a, .int b] => .bl (decide (a < b)) | _ => .non) trivial (by rw [List.length_map, List.length_zip]; rw [List.length_map] at ly; omega) (fun y K K2 my ky => ?_) ?_
        · obtain ⟨w, _, rfl⟩ := List.mem_map.mp my
          (try simp only [↓e_mVar, ↓e_mK, ↓e_mOp1, ↓e_mOp2, ↓e_aNil, ↓e_aCons, ↓e_mTup, ↓e_mLst, ↓e_mLstM, ↓e_mIf, ↓e_tTru, ↓e_tNt, ↓e_tAnd2, ↓e_tOr2, ↓e_tOp2, ↓e_mChain, ↓e_tChain', ↓e_mAnd, ↓e_mOr, ↓e_mFld, ↓e_sFldD, ↓e_mMeth, ↓e_mMake, ↓e_mRev, revP_l, ↓e_mAndT, ↓e_mOrT, truP_lc, ↓e_mNot, ↓e_mCall, ↓e_mBlt, ↓e_oNo, ↓e_oSo, ↓e_mSl, ↓e_sPass, ↓e_sBrk, ↓e_sCnt, ↓e_sNever, ↓e_sSeq, ↓e_sAsg, ↓e_gNm, ↓e_gTu, ↓e_gsNil, ↓e_gsCons, ↓e_gSb, ↓e_sPar, ↓e_sExp, ↓e_sRt, ↓e_sRtN, ↓e_sIf, ↓e_sAug, ↓e_sFor, ↓e_sWh, ↓e_mComp, ↓e_mCompM, ↓e_tYs, ↓e_mkFn, ↓e_mApp, ↓e_itSeq, ↓e_itScr, ↓e_itEnum, ↓e_itZip, ↓e_itZip3, ↓e_itR1, ↓e_itR2, ↓e_itR3, ↓e_mDic0, ↓e_mDic1, ↓e_sPar3, ↓e_mAddM, ↓e_aStar, ↓e_mMulM, ↓e_sRaise0, ↓e_sRaise1, ↓e_mErr, ↓e_mCallV, starP_t, starP_l, slot_0, slot_1, slot_2, slot_3, slot_4, slot_5, slot_6, slot_7, slot_8, slot_9, slot_10, slot_11, slot_12, slot_13, slot_14, slot_15, slot_16, slot_17, slot_18, slot_19, slot_20, slot_21, slot_22, slot_23, slot_24, slot_25, slot_26, slot_27, slot_28, slot_29, slot_30, negP_i, ex3, ex2, wipeE, List.map_cons, List.map_nil, List.cons_append, List.nil_append, List.append_nil, List.length_cons, List.length_nil, List.replicate_succ, List.replicate_zero, List.set_cons_zero, List.set_cons_succ, Oc_some, Nat.reduceAdd, Nat.reduceSub, Nat.reduceLeDiff, Nat.zero_le, Int.toNat_natCast, Bool.or_false, Bool.or_true, Bool.or_self, Bool.false_or, Bool.true_or, decide_true, decide_false, Nat.zero_add, Nat.sub_self, Bool.true_eq_false, Bool.false_eq_true, if_true, if_false, ite_true, ite_false, true_and, and_true, addP_ii, subP_ii, mulP_ii, isiP_tup, isiP_lst, isiP_str, isiP_bl, isiP_int, isiP_tl, kd_non, kd_bl, kd_int, kd_str, kd_tup, kd_lst, isTup, isLst, isStr, isBl, isInt, eqP_ii, neP_ii, lenP_t, lenP_l, lenP_s, seqP_t, seqP_l, truP_b, ixP_t, ixP_l, slP_t, slP_l, tupleP_l, tupleP_t, addP_tt, modP_ii, divP_ii, exb, addLP_ll, min2_ii, max2_ii, exTup, exCons, exInt, iaddP_ii, leP_ii, gtP_ii, geP_ii, ltP_ii, intP_i, decide_eq_true_eq, Bool.not_eq_true', decide_eq_false_iff_not, Bool.not_true, Bool.not_false, List.cons_ne_nil, Nat.succ_ne_zero, reduceCtorEq])
          exact ky
        · (try simp only [↓e_mVar, ↓e_mK, ↓e_mOp1, ↓e_mOp2, ↓e_aNil, ↓e_aCons, ↓e_mTup, ↓e_mLst, ↓e_mLstM, ↓e_mIf, ↓e_tTru, ↓e_tNt, ↓e_tAnd2, ↓e_tOr2, ↓e_tOp2, ↓e_mChain, ↓e_tChain', ↓e_mAnd, ↓e_mOr, ↓e_mFld, ↓e_sFldD, ↓e_mMeth, ↓e_mMake, ↓e_mRev, revP_l, ↓e_mAndT, ↓e_mOrT, truP_lc, ↓e_mNot, ↓e_mCall, ↓e_mBlt, ↓e_oNo, ↓e_oSo, ↓e_mSl, ↓e_sPass, ↓e_sBrk, ↓e_sCnt, ↓e_sNever, ↓e_sSeq, ↓e_sAsg, ↓e_gNm, ↓e_gTu, ↓e_gsNil, ↓e_gsCons, ↓e_gSb, ↓e_sPar, ↓e_sExp, ↓e_sRt, ↓e_sRtN, ↓e_sIf, ↓e_sAug, ↓e_sFor, ↓e_sWh, ↓e_mComp, ↓e_mCompM, ↓e_tYs, ↓e_mkFn, ↓e_mApp, ↓e_itSeq, ↓e_itScr, ↓e_itEnum, ↓e_itZip, ↓e_itZip3, ↓e_itR1, ↓e_itR2, ↓e_itR3, ↓e_mDic0, ↓e_mDic1, ↓e_sPar3, ↓e_mAddM, ↓e_aStar, ↓e_mMulM, ↓e_sRaise0, ↓e_sRaise1, ↓e_mErr, ↓e_mCallV, starP_t, starP_l, slot_0, slot_1, slot_2, slot_3, slot_4, slot_5, slot_6, slot_7, slot_8, slot_9, slot_10, slot_11, slot_12, slot_13, slot_14, slot_15, slot_16, slot_17, slot_18, slot_19, slot_20, slot_21, slot_22, slot_23, slot_24, slot_25, slot_26, slot_27, slot_28, slot_29, slot_30, negP_i, ex3, ex2, wipeE, List.map_cons, List.map_nil, List.cons_append, List.nil_append, List.append_nil, List.length_cons, List.length_nil, List.replicate_succ, List.replicate_zero, List.set_cons_zero, List.set_cons_succ, Oc_some, Nat.reduceAdd, Nat.reduceSub, Nat.reduceLeDiff, Nat.zero_le, Int.toNat_natCast, Bool.or_false, Bool.or_true, Bool.or_self, Bool.false_or, Bool.true_or, decide_true, decide_false, Nat.zero_add, Nat.sub_self, Bool.true_eq_false, Bool.false_eq_true, if_true, if_false, ite_true, ite_false, true_and, and_true, addP_ii, subP_ii, mulP_ii, isiP_tup, isiP_lst, isiP_str, isiP_bl, isiP_int, isiP_tl, kd_non, kd_bl, kd_int, kd_str, kd_tup, kd_lst, isTup, isLst, isStr, isBl, isInt, eqP_ii, neP_ii, lenP_t, lenP_l, lenP_s, seqP_t, seqP_l, truP_b, ixP_t, ixP_l, slP_t, slP_l, tupleP_l, tupleP_t, addP_tt, modP_ii, divP_ii, exb, addLP_ll, min2_ii, max2_ii, exTup, exCons, exInt, iaddP_ii, leP_ii, gtP_ii, geP_ii, ltP_ii, intP_i, decide_eq_true_eq, Bool.not_eq_true', decide_eq_false_iff_not, Bool.not_true, Bool.not_false, List.cons_ne_nil, Nat.succ_ne_zero, reduceCtorEq])
          refine ⟨(List.zip ns (ns.drop 1)).map fun q => decide (q.1 < q.2), by rw [List.map_map, List.map_map]; rfl, ?_⟩
          rw [List.all_map]
          have e2 : ((List.zip ns (ns.drop 1)).all (id ∘ fun q => decide (q.1 < q.2))) = ascB ns := rfl
          rw [e2]
          cases hb : ascB ns with
          | true =>
            (try simp only [↓e_mVar, ↓e_mK, ↓e_mOp1, ↓e_mOp2, ↓e_aNil, ↓e_aCons, ↓e_mTup, ↓e_mLst, ↓e_mLstM, ↓e_mIf, ↓e_tTru, ↓e_tNt, ↓e_tAnd2, ↓e_tOr2, ↓e_tOp2, ↓e_mChain, ↓e_tChain', ↓e_mAnd, ↓e_mOr, ↓e_mFld, ↓e_sFldD, ↓e_mMeth, ↓e_mMake, ↓e_mRev, revP_l, ↓e_mAndT, ↓e_mOrT, truP_lc, ↓e_mNot, ↓e_mCall, ↓e_mBlt, ↓e_oNo, ↓e_oSo, ↓e_mSl, ↓e_sPass, ↓e_sBrk, ↓e_sCnt, ↓e_sNever, ↓e_sSeq, ↓e_sAsg, ↓e_gNm, ↓e_gTu, ↓e_gsNil, ↓e_gsCons, ↓e_gSb, ↓e_sPar, ↓e_sExp, ↓e_sRt, ↓e_sRtN, ↓e_sIf, ↓e_sAug, ↓e_sFor, ↓e_sWh, ↓e_mComp, ↓e_mCompM, ↓e_tYs, ↓e_mkFn, ↓e_mApp, ↓e_itSeq, ↓e_itScr, ↓e_itEnum, ↓e_itZip, ↓e_itZip3, ↓e_itR1, ↓e_itR2, ↓e_itR3, ↓e_mDic0, ↓e_mDic1, ↓e_sPar3, ↓e_mAddM, ↓e_aStar, ↓e_mMulM, ↓e_sRaise0, ↓e_sRaise1, ↓e_mErr, ↓e_mCallV, starP_t, starP_l, slot_0, slot_1, slot_2, slot_3, slot_4, slot_5, slot_6, slot_7, slot_8, slot_9, slot_10, slot_11, slot_12, slot_13, slot_14, slot_15, slot_16, slot_17, slot_18, slot_19, slot_20, slot_21, slot_22, slot_23, slot_24, slot_25, slot_26, slot_27, slot_28, slot_29, slot_30, negP_i, ex3, ex2, wipeE, List.map_cons, List.map_nil, List.cons_append, List.nil_append, List.append_nil, List.length_cons, List.length_nil, List.replicate_succ, List.replicate_zero, List.set_cons_zero, List.set_cons_succ, Oc_some, Nat.reduceAdd, Nat.reduceSub, Nat.reduceLeDiff, Nat.zero_le, Int.toNat_natCast, Bool.or_false, Bool.or_true, Bool.or_self, Bool.false_or, Bool.true_or, decide_true, decide_false, Nat.zero_add, Nat.sub_self, Bool.true_eq_false, Bool.false_eq_true, if_true, if_false, ite_true, ite_false, true_and, and_true, addP_ii, subP_ii, mulP_ii, isiP_tup, isiP_lst, isiP_str, isiP_bl, isiP_int, isiP_tl, kd_non, kd_bl, kd_int, kd_str, kd_tup, kd_lst, isTup, isLst, isStr, isBl, isInt, eqP_ii, neP_ii, lenP_t, lenP_l, lenP_s, seqP_t, seqP_l, truP_b, ixP_t, ixP_l, slP_t, slP_l, tupleP_l, tupleP_t, addP_tt, modP_ii, divP_ii, exb, addLP_ll, min2_ii, max2_ii, exTup, exCons, exInt, iaddP_ii, leP_ii, gtP_ii, geP_ii, ltP_ii, intP_i, decide_eq_true_eq, Bool.not_eq_true', decide_eq_false_iff_not, Bool.not_true, Bool.not_false, List.cons_ne_nil, Nat.succ_ne_zero, reduceCtorEq])
            exact .of (q ⟨ns, rfl, ha, hb⟩)
          | false =>
            (try simp only [↓e_mVar, ↓e_mK, ↓e_mOp1, ↓e_mOp2, ↓e_aNil, ↓e_aCons, ↓e_mTup, ↓e_mLst, ↓e_mLstM, ↓e_mIf, ↓e_tTru, ↓e_tNt, ↓e_tAnd2, ↓e_tOr2, ↓e_tOp2, ↓e_mChain, ↓e_tChain', ↓e_mAnd, ↓e_mOr, ↓e_mFld, ↓e_sFldD, ↓e_mMeth, ↓e_mMake, ↓e_mRev, revP_l, ↓e_mAndT, ↓e_mOrT, truP_lc, ↓e_mNot, ↓e_mCall, ↓e_mBlt, ↓e_oNo, ↓e_oSo, ↓e_mSl, ↓e_sPass, ↓e_sBrk, ↓e_sCnt, ↓e_sNever, ↓e_sSeq, ↓e_sAsg, ↓e_gNm, ↓e_gTu, ↓e_gsNil, ↓e_gsCons, ↓e_gSb, ↓e_sPar, ↓e_sExp, ↓e_sRt, ↓e_sRtN, ↓e_sIf, ↓e_sAug, ↓e_sFor, ↓e_sWh, ↓e_mComp, ↓e_mCompM, ↓e_tYs, ↓e_mkFn, ↓e_mApp, ↓e_itSeq, ↓e_itScr, ↓e_itEnum, ↓e_itZip, ↓e_itZip3, ↓e_itR1, ↓e_itR2, ↓e_itR3, ↓e_mDic0, ↓e_mDic1, ↓e_sPar3, ↓e_mAddM, ↓e_aStar, ↓e_mMulM, ↓e_sRaise0, ↓e_sRaise1, ↓e_mErr, ↓e_mCallV, starP_t, starP_l, slot_0, slot_1, slot_2, slot_3, slot_4, slot_5, slot_6, slot_7, slot_8, slot_9, slot_10, slot_11, slot_12, slot_13, slot_14, slot_15, slot_16, slot_17, slot_18, slot_19, slot_20, slot_21, slot_22, slot_23, slot_24, slot_25, slot_26, slot_27, slot_28, slot_29, slot_30, negP_i, ex3, ex2, wipeE, List.map_cons, List.map_nil, List.cons_append, List.nil_append, List.append_nil, List.length_cons, List.length_nil, List.replicate_succ, List.replicate_zero, List.set_cons_zero, List.set_cons_succ, Oc_some, Nat.reduceAdd, Nat.reduceSub, Nat.reduceLeDiff, Nat.zero_le, Int.toNat_natCast, Bool.or_false, Bool.or_true, Bool.or_self, Bool.false_or, Bool.true_or, decide_true, decide_false, Nat.zero_add, Nat.sub_self, Bool.true_eq_false, Bool.false_eq_true, if_true, if_false, ite_true, ite_false, true_and, and_true, addP_ii, subP_ii, mulP_ii, isiP_tup, isiP_lst, isiP_str, isiP_bl, isiP_int, isiP_tl, kd_non, kd_bl, kd_int, kd_str, kd_tup, kd_lst, isTup, isLst, isStr, isBl, isInt, eqP_ii, neP_ii, lenP_t, lenP_l, lenP_s, seqP_t, seqP_l, truP_b, ixP_t, ixP_l, slP_t, slP_l, tupleP_l, tupleP_t, addP_tt, modP_ii, divP_ii, exb, addLP_ll, min2_ii, max2_ii, exTup, exCons, exInt, iaddP_ii, leP_ii, gtP_ii, geP_ii, ltP_ii, intP_i, decide_eq_true_eq, Bool.not_eq_true', decide_eq_false_iff_not, Bool.not_true, Bool.not_false, List.cons_ne_nil, Nat.succ_ne_zero, reduceCtorEq])
            exact q2 fun ⟨ms, e, _, h2⟩ => by
              have := ints_inj (D.tup.inj e)
              subst this
              rw [h2] at hb
              cases hb
  | _ => first | (cases kx; done) | (simp only [↓e_mVar, ↓e_mK, ↓e_mOp1, ↓e_mOp2, ↓e_aNil, ↓e_aCons, ↓e_mTup, ↓e_mLst, ↓e_mLstM, ↓e_mIf, ↓e_tTru, ↓e_tNt, ↓e_tAnd2, ↓e_tOr2, ↓e_tOp2, ↓e_mChain, ↓e_tChain', ↓e_mAnd, ↓e_mOr, ↓e_mFld, ↓e_sFldD, ↓e_mMeth, ↓e_mMake, ↓e_mRev, revP_l, ↓e_mAndT, ↓e_mOrT, truP_lc, ↓e_mNot, ↓e_mCall, ↓e_mBlt, ↓e_oNo, ↓e_oSo, ↓e_mSl, ↓e_sPass, ↓e_sBrk, ↓e_sCnt, ↓e_sNever, ↓e_sSeq, ↓e_sAsg, ↓e_gNm, ↓e_gTu, ↓e_gsNil, ↓e_gsCons, ↓e_gSb, ↓e_sPar, ↓e_sExp, ↓e_sRt, ↓e_sRtN, ↓e_sIf, ↓e_sAug, ↓e_sFor, ↓e_sWh, ↓e_mComp, ↓e_mCompM, ↓e_tYs, ↓e_mkFn, ↓e_mApp, ↓e_itSeq, ↓e_itScr, ↓e_itEnum, ↓e_itZip, ↓e_itZip3, ↓e_itR1, ↓e_itR2, ↓e_itR3, ↓e_mDic0, ↓e_mDic1, ↓e_sPar3, ↓e_mAddM, ↓e_aStar, ↓e_mMulM, ↓e_sRaise0, ↓e_sRaise1, ↓e_mErr, ↓e_mCallV, starP_t, starP_l, slot_0, slot_1, slot_2, slot_3, slot_4, slot_5, slot_6, slot_7, slot_8, slot_9, slot_10, slot_11, slot_12, slot_13, slot_14, slot_15, slot_16, slot_17, slot_18, slot_19, slot_20, slot_21, slot_22, slot_23, slot_24, slot_25, slot_26, slot_27, slot_28, slot_29, slot_30, negP_i, ex3, ex2, wipeE, List.map_cons, List.map_nil, List.cons_append, List.nil_append, List.append_nil, List.length_cons, List.length_nil, List.replicate_succ, List.replicate_zero, List.set_cons_zero, List.set_cons_succ, Oc_some, Nat.reduceAdd, Nat.reduceSub, Nat.reduceLeDiff, Nat.zero_le, Int.toNat_natCast, Bool.or_false, Bool.or_true, Bool.or_self, Bool.false_or, Bool.true_or, decide_true, decide_false, Nat.zero_add, Nat.sub_self, Bool.true_eq_false, Bool.false_eq_true, if_true, if_false, ite_true, ite_false, true_and, and_true, addP_ii, subP_ii, mulP_ii, isiP_tup, isiP_lst, isiP_str, isiP_bl, isiP_int, isiP_tl, kd_non, kd_bl, kd_int, kd_str, kd_tup, kd_lst, isTup, isLst, isStr, isBl, isInt, eqP_ii, neP_ii, lenP_t, lenP_l, lenP_s, seqP_t, seqP_l, truP_b, ixP_t, ixP_l, slP_t, slP_l, tupleP_l, tupleP_t, addP_tt, modP_ii, divP_ii, exb, addLP_ll, min2_ii, max2_ii, exTup, exCons, exInt, iaddP_ii, leP_ii, gtP_ii, geP_ii, ltP_ii, intP_i, decide_eq_true_eq, Bool.not_eq_true', decide_eq_false_iff_not, Bool.not_true, Bool.not_false, List.cons_ne_nil, Nat.succ_ne_zero, reduceCtorEq]; exact q2 fun ⟨_, e, _⟩ => nomatch e)
/-- values that hold no lamps -/
inductive Hbad (p : List (List (List Int))) : D → Prop
  | non : Hbad p .non
  | lst : Hbad p (.lst [.int 0])
  | twice : Hbad p (.tup [.int 0, .int 0])
  | more : Hbad p (.tup [.int p.length])
  | neg : Hbad p (.tup [.int (-1)])
  | down : Hbad p (.tup [.int 1, .int 0])
  | tru : Hbad p (.tup [.bl true])
  | none : Hbad p (.tup [.non])
  | str : Hbad p (.str "0")
  | int : Hbad p (.int 0)
theorem c_held_bad {x : D} (m : Hbad p x) (k30 : p.length ≤ 30) (q : E ⟨"BadHeld", none⟩ h) : F_need_held [tP p, x] h E Q := by
  refine c_held_or ?_ ?_ k30 (fun ⟨ns, e, ha, hb⟩ => ?_) (fun _ => q)
  · cases m <;> rfl
  · cases m <;> (intro ys e; cases e; try simp)
  · exfalso
    cases m with
    | non => cases e
    | lst => cases e
    | str => cases e
    | int => cases e
    | twice =>
      have e2 : ns = [0, 0] := (ints_inj (ns := [0, 0]) (D.tup.inj e)).symm
      subst e2
      cases hb
    | down =>
      have e2 : ns = [1, 0] := (ints_inj (ns := [1, 0]) (D.tup.inj e)).symm
      subst e2
      cases hb
    | more =>
      have e := D.tup.inj e
      rw [← e, List.all_cons, inB_no (.inr (by omega))] at ha
      cases ha
    | neg =>
      have e := D.tup.inj e
      rw [← e, List.all_cons, inB_no (.inl (by omega))] at ha
      cases ha
    | tru =>
      have e := D.tup.inj e
      rw [← e] at ha
      cases ha
    | none =>
      have e := D.tup.inj e
      rw [← e] at ha
      cases ha
theorem c_held_nil (k30 : p.length ≤ 30) (q : Q .non h) : F_need_held [tP p, .tup []] h E Q :=
  c_held_or rfl (fun ys e => by cases e; simp) k30 (fun _ => q) fun h => (h ⟨[], rfl, rfl, rfl⟩).elim
theorem c_held_one (k : OkP p) (q : Q .non h) : F_need_held [tP p, .tup [.int 0]] h E Q := by
  have p1 := k.2.1
  refine c_held_or rfl (fun ys e => by cases e; simp) k.2.2 (fun _ => q) fun h => (h ⟨[0], rfl, ?_, rfl⟩).elim
  show (inB (.int 0) 0 (p.length - 1) && true) = true
  rw [Bool.and_true]
  show (decide ((0 : Int) ≤ 0) && decide ((0 : Int) ≤ (p.length : Int) - 1)) = true
  rw [decide_eq_true (by decide), decide_eq_true (by omega)]
  rfl
end L2.Lmp

set_option maxHeartbeats 4000000
namespace L2.Lmp
open PySem PySem.Spec PyProof.Rows
def topS (i : Nat) : Stmt := PySem.Challenge.pw_wardlamps_k51_held_refused.main.body.getD i (.Pass ⟨0, 0, 0, 0⟩)
structure Txt (mg : Str → Option Value) : Prop where
  z_ValueError : mg "ValueError" = none
  z_abs : mg "abs" = none
  z_all : mg "all" = none
  z_any : mg "any" = none
  z_bool : mg "bool" = none
  z_enumerate : mg "enumerate" = none
  z_int : mg "int" = none
  z_isinstance : mg "isinstance" = none
  z_len : mg "len" = none
  z_list : mg "list" = none
  z_range : mg "range" = none
  z_tuple : mg "tuple" = none
  z_zip : mg "zip" = none
  g_LEAST_SETTINGS : ∃ t, mg "LEAST_SETTINGS" = some (Value.int 2 t)
  g_MOST_LAMPS : ∃ t, mg "MOST_LAMPS" = some (Value.int 30 t)
  g_MOST_SETTINGS : ∃ t, mg "MOST_SETTINGS" = some (Value.int 4 t)
variable {c : Cc} {base : Heap}
structure Xs (c : Cc) : Prop where
  o_BadPuzzle : ∃ C fI, PySem.OwnX.OwnTxt c.K c.mg "BadPuzzle" "index" C fI
  x_BadState : ∃ C, Xc0 c.K c.mg "BadState" C
  x_BadHeld : ∃ C, Xc0 c.K c.mg "BadHeld" C
  f_BadPuzzle : ∃ C, c.mg "BadPuzzle" = some (.ref C) ∧ XcF c.K "index" C
  l_LampError : ∃ C, c.mg "LampError" = some (.ref C)
  xt : ExT c.K c.mg ["BadPuzzle", "BadState", "BadHeld"]
theorem hs_mem (p : Str) (r : Option Str) (e : List.lookup p hs_law = some r) : p ∈ (["BadPuzzle", "BadState", "BadHeld"] : List Str) := hds_mem e
abbrev s_law_error : Stmt := topS 36
theorem sc_law_error : FnScope ["_law_work", "e"] ["_law_work"] (defScope s_law_error) := ⟨rfl, rfl, rfl, by decide +kernel, rfl, by decide +kernel, by decide +kernel⟩
theorem err_mk {g : Addr} {kV doc pm cd ct oc : Value} {an od : Option Addr} {osl : Array (Option Value)} (lk : c.K.lookup g = some ⟨oc, od, .func (PySem.W.fnOf "_law_error" "_law_error" (defArgs s_law_error) (defBody s_law_error) (defScope s_law_error) .none kV doc pm an cd ct), osl⟩) (ck : PySem.W.codeIn c.K cd "_law_error" = true) (kp : PySem.W.keepIn c.K (.ref g) = true) (m : c.mg "_law_error" = some (.ref g))
    (b : Binds c.K (PySem.W.fnOf "_law_error" "_law_error" (defArgs s_law_error) (defBody s_law_error) (defScope s_law_error) .none kV doc pm an cd ct) ["_law_work"] []) (T : Txt c.mg) (V : Xs c) : LamD.ErrD c base "_law_error" hs_law :=
  ⟨g, _, _, _, _, _, _, _, _, _, _, _, _, _, ["_law_work", "e"], "_law_work", m, kp, lk, ck, b, sc_law_error, rfl, .inl rfl, by decide, by decide, fun X hc hb q => by
    subst hc
    exact LamD.err_gives (ns := ["BadPuzzle", "BadState", "BadHeld"]) (hs := hs_law) (fun p r e => hs_mem p r e) (fun _ => rfl) (fun _ => rfl) (fun s H => (cls_fld (i := 1) V.xt (by decide) (Classical.choose_spec V.f_BadPuzzle).1 (Classical.choose_spec V.f_BadPuzzle).2 (by rfl) (by decide) sc_law_error.nd rfl (by rfl) (.inl rfl) (by decide) (by decide) (by rfl) T.z_isinstance (by rfl) T.z_ValueError (cls_nam V.xt (by decide) (Classical.choose_spec V.x_BadState).gC (by rfl) (by decide) (cls_nam V.xt (by decide) (Classical.choose_spec V.x_BadHeld).gC (by rfl) (by decide) (cls_last (Classical.choose_spec V.l_LampError) (by rfl) (by decide))))))⟩

def clsS (i j : Nat) : Stmt := match topS i with | .ClassDef _ _ _ body _ _ _ _ _ _ _ => body.getD j (.Pass ⟨0, 0, 0, 0⟩) | s => s
structure Kc_Held (c : Cc) (C_Held fm_Held_init fm_Held_is_open fm_Held_size : Addr) : Prop where
  T : ClsT c "Held" C_Held
  mkc : L2.Mk c.K C_Held fm_Held_init
  m_is_open : L2.Meth c.K C_Held "is_open" fm_Held_is_open
  m_size : L2.Meth c.K C_Held "size" fm_Held_size
  n_puzzle : L2.NoAttr c.K C_Held "puzzle"
  n_lamps : L2.NoAttr c.K C_Held "lamps"
  n_known : L2.NoAttr c.K C_Held "known"
  n_sizes : L2.NoAttr c.K C_Held "sizes"
variable {C_Held fm_Held_init fm_Held_is_open fm_Held_size : Addr}

abbrev s_is_int : Stmt := topS 9
theorem sc_is_int : FnScope ["value"] ["value"] (defScope s_is_int) := ⟨rfl, rfl, rfl, by decide +kernel, rfl, by decide +kernel, by decide +kernel⟩
theorem ok_is_int {f : Addr} {fd : FuncData} (F : Fun c.K "is_int" "is_int" s_is_int f fd) (T : Txt c.mg) (V : Xs c)  : FnOk c.P c.w c.K c.mg base (L2.CX c.P c.w) (1) f fd ["value"] (spD c 1 F_is_int) :=
  fn_ok F sc_is_int rfl fun cdv A outer s H E hr =>
    (dss_one (ds_ret (de_and (de_blt call_isiA i_isi (by rfl) T.z_isinstance (by decide +kernel) (da_cons (de_var 0) (da_cons (de_ty (by rfl) T.z_int (by decide +kernel)) da_nil))) (de_one (de_not (de_blt call_isiA i_isi (by rfl) T.z_isinstance (by decide +kernel) (da_cons (de_var 0) (da_cons (de_ty (by rfl) T.z_bool (by decide +kernel)) da_nil))))))))

abbrev s_is_in : Stmt := topS 10
theorem sc_is_in : FnScope ["value", "least", "most"] ["value", "least", "most"] (defScope s_is_in) := ⟨rfl, rfl, rfl, by decide +kernel, rfl, by decide +kernel, by decide +kernel⟩
theorem ok_is_in {f : Addr} {fd : FuncData} (F : Fun c.K "is_in" "is_in" s_is_in f fd) (T : Txt c.mg) (V : Xs c) (G_is_int : Def c base 1 "is_int" 1 F_is_int) : FnOk c.P c.w c.K c.mg base (L2.CX c.P c.w) (2) f fd ["value", "least", "most"] (spD c 3 F_is_in) :=
  fn_ok F sc_is_in rfl fun cdv A outer s H E hr =>
    (dss_one (ds_ret (de_and (de_call (G_is_int.mono (by decide)) hr (by rfl) tk_of (da_cons (de_var 0) da_nil)) (de_one (de_chain (op_le) (op_le) i_cmp i_cmp (de_var 1) (de_var 0) (de_var 2))))))

abbrev s_settings_of : Stmt := topS 11
theorem sc_settings_of : FnScope ["puzzle", "lamp"] ["puzzle"] (defScope s_settings_of) := ⟨rfl, rfl, rfl, by decide +kernel, rfl, by decide +kernel, by decide +kernel⟩
theorem ok_settings_of {f : Addr} {fd : FuncData} (F : Fun c.K "settings_of" "settings_of" s_settings_of f fd) (T : Txt c.mg) (V : Xs c)  : FnOk c.P c.w c.K c.mg base (L2.CX c.P c.w) (1) f fd ["puzzle"] (spD c 1 F_settings_of) :=
  fn_ok F sc_settings_of rfl fun cdv A outer s H E hr =>
    (dss_one (ds_ret (de_bty call_tuple_of i_tuple (by rfl) T.z_tuple (by decide +kernel) (da_cons (de_comp (own := [("lamp", 1)]) (js := [1]) rfl sc_settings_of.nd (di_seq (de_var 0)) (blkOk_by (by rfl)) (by decide) (fun _ _ _ _ _ => (dg_name (i := 1) sc_settings_of.nd rfl (by decide) (.inl rfl))) (fun _ _ _ _ _ => pts_noD) (fun _ _ _ _ _ => (de_op op_addAll i_add (de_blt call_len i_len (by rfl) T.z_len (by decide +kernel) (da_cons (de_var 1) da_nil)) de_int))) da_nil))))

abbrev s_is_word : Stmt := topS 12
theorem sc_is_word : FnScope ["settings", "value", "one", "many"] ["settings", "value"] (defScope s_is_word) := ⟨rfl, rfl, rfl, by decide +kernel, rfl, by decide +kernel, by decide +kernel⟩
theorem ok_is_word {f : Addr} {fd : FuncData} (F : Fun c.K "is_word" "is_word" s_is_word f fd) (T : Txt c.mg) (V : Xs c) (G_is_in : Def c base 2 "is_in" 3 F_is_in) : FnOk c.P c.w c.K c.mg base (L2.CX c.P c.w) (3) f fd ["settings", "value"] (spD c 2 F_is_word) :=
  fn_ok F sc_is_word rfl fun cdv A outer s H E hr =>
    (dss_cons (ds_if (dt_w (dw_or (dt_not (dt_tru i_tru (de_blt call_isiA i_isi (by rfl) T.z_isinstance (by decide +kernel) (da_cons (de_var 1) (da_cons (de_ty (by rfl) T.z_tuple (by decide +kernel)) da_nil))))) (dw_or1 (dt_cmp (op_neD hr.units) i_ne (de_blt call_len i_len (by rfl) T.z_len (by decide +kernel) (da_cons (de_var 1) da_nil)) (de_blt call_len i_len (by rfl) T.z_len (by decide +kernel) (da_cons (de_var 0) da_nil)) (nomark _))))) (dss_one (ds_ret de_bl)) dss_nil)
    (dss_one (ds_ret (de_blt (cr_all rfl) i_all (by rfl) T.z_all (by decide +kernel) (da_cons (de_comp (own := [("one", 2), ("many", 3)]) (js := [2, 3]) rfl sc_is_word.nd (di_zip (by rfl) T.z_zip (de_var 1) (de_var 0)) (blkOk_by (by rfl)) (by decide) (fun _ _ _ _ _ => (dg_tup rfl (dgs_cons (dg_name (i := 2) sc_is_word.nd rfl (by decide) (.inl rfl)) (dgs_cons (dg_name (i := 3) sc_is_word.nd rfl (by decide) (.inl rfl)) dgs_nil)))) (fun _ _ _ _ _ => pts_noD) (fun _ _ _ _ _ => (de_call (G_is_in.mono (by decide)) hr (by rfl) takes0 (da_cons (de_var 2) (da_cons de_int (da_cons (de_op op_sub i_sub (de_var 3) de_int) da_nil)))))) da_nil)))))

abbrev s_need_puzzle : Stmt := topS 13
theorem sc_need_puzzle : FnScope ["value", "settings", "index", "lamp", "ward"] ["value"] (defScope s_need_puzzle) := ⟨rfl, rfl, rfl, by decide +kernel, rfl, by decide +kernel, by decide +kernel⟩
theorem ok_need_puzzle {f : Addr} {fd : FuncData} (F : Fun c.K "need_puzzle" "need_puzzle" s_need_puzzle f fd) (T : Txt c.mg) (V : Xs c) (G_is_word : Def c base 3 "is_word" 2 F_is_word) : FnOk c.P c.w c.K c.mg base (L2.CX c.P c.w) (4) f fd ["value"] (spD c 1 F_need_puzzle) :=
  fn_ok F sc_need_puzzle rfl fun cdv A outer s H E hr =>
    (dss_cons (ds_if (dt_w (dw_or (dt_not (dt_tru i_tru (de_blt call_isiA i_isi (by rfl) T.z_isinstance (by decide +kernel) (da_cons (de_var 0) (da_cons (de_ty (by rfl) T.z_tuple (by decide +kernel)) da_nil))))) (dw_or1 (dt_not (dt_chain (op_le) (op_le) i_cmp i_cmp de_int (de_blt call_len i_len (by rfl) T.z_len (by decide +kernel) (da_cons (de_var 0) da_nil)) (de_gint (by rfl) (Classical.choose_spec T.g_MOST_LAMPS) ⟨_, rfl⟩)))))) (dss_one (ds_raise1 (Classical.choose_spec (Classical.choose_spec V.o_BadPuzzle)) rfl tk_of hr (by rfl) de_non)) dss_nil)
    (dss_cons (ds_set (i := 1) sc_need_puzzle.nd rfl (.inr rfl) (de_tup da_nil))
    (dss_one (ds_for (js := [2, 3]) po_of rfl (di_enum (by rfl) T.z_enumerate (de_var 0)) (dg_tup rfl (dgs_cons (dg_name (i := 2) sc_need_puzzle.nd rfl (by decide) (.inl rfl)) (dgs_cons (dg_name (i := 3) sc_need_puzzle.nd rfl (by decide) (.inl rfl)) dgs_nil))) (dss_cons (ds_if (dt_w (dw_or (dt_not (dt_tru i_tru (de_blt call_isiA i_isi (by rfl) T.z_isinstance (by decide +kernel) (da_cons (de_var 3) (da_cons (de_ty (by rfl) T.z_tuple (by decide +kernel)) da_nil))))) (dw_or1 (dt_not (dt_chain (op_le) (op_ltA hr.units0) i_cmp i_lt (de_op op_sub i_sub (de_gint (by rfl) (Classical.choose_spec T.g_LEAST_SETTINGS) ⟨_, rfl⟩) de_int) (de_blt call_len i_len (by rfl) T.z_len (by decide +kernel) (da_cons (de_var 3) da_nil)) (de_gint (by rfl) (Classical.choose_spec T.g_MOST_SETTINGS) ⟨_, rfl⟩)))))) (dss_one (ds_raise1 (Classical.choose_spec (Classical.choose_spec V.o_BadPuzzle)) rfl tk_of hr (by rfl) (de_var 2))) dss_nil)
    (dss_cons (ds_if (dt_not (dt_tru i_tru (de_blt (cr_all rfl) i_all (by rfl) T.z_all (by decide +kernel) (da_cons (de_comp (own := [("ward", 4)]) (js := [4]) rfl sc_need_puzzle.nd (di_seq (de_var 3)) (blkOk_by (by rfl)) (by decide) (fun _ _ _ _ _ => (dg_name (i := 4) sc_need_puzzle.nd rfl (by decide) (.inl rfl))) (fun _ _ _ _ _ => pts_noD) (fun _ _ _ _ _ => (de_call (G_is_word.mono (by decide)) hr (by rfl) takes0 (da_cons (de_var 1) (da_cons (de_var 4) da_nil))))) da_nil)))) (dss_one (ds_raise1 (Classical.choose_spec (Classical.choose_spec V.o_BadPuzzle)) rfl tk_of hr (by rfl) (de_var 2))) dss_nil)
    (dss_one (ds_set (i := 1) sc_need_puzzle.nd rfl (.inr rfl) (de_op op_addAll i_add (de_var 1) (de_tup (da_cons (de_op op_addAll i_add (de_blt call_len i_len (by rfl) T.z_len (by decide +kernel) (da_cons (de_var 3) da_nil)) de_int) da_nil)))))))))))

abbrev s_need_state : Stmt := topS 14
theorem sc_need_state : FnScope ["puzzle", "value"] ["puzzle", "value"] (defScope s_need_state) := ⟨rfl, rfl, rfl, by decide +kernel, rfl, by decide +kernel, by decide +kernel⟩
theorem ok_need_state {f : Addr} {fd : FuncData} (F : Fun c.K "need_state" "need_state" s_need_state f fd) (T : Txt c.mg) (V : Xs c) (G_is_word : Def c base 3 "is_word" 2 F_is_word) (G_settings_of : Def c base 1 "settings_of" 1 F_settings_of) : FnOk c.P c.w c.K c.mg base (L2.CX c.P c.w) (4) f fd ["puzzle", "value"] (spD c 2 F_need_state) :=
  fn_ok F sc_need_state rfl fun cdv A outer s H E hr =>
    (dss_one (ds_if (dt_not (dt_tru i_tru (de_call (G_is_word.mono (by decide)) hr (by rfl) tk_of (da_cons (de_call (G_settings_of.mono (by decide)) hr (by rfl) tk_of (da_cons (de_var 0) da_nil)) (da_cons (de_var 1) da_nil))))) (dss_one (ds_raise0 (Classical.choose_spec V.x_BadState) rfl tk_of (by rfl))) dss_nil))

abbrev s_need_two : Stmt := topS 15
theorem sc_need_two : FnScope ["puzzle", "one", "other"] ["puzzle", "one", "other"] (defScope s_need_two) := ⟨rfl, rfl, rfl, by decide +kernel, rfl, by decide +kernel, by decide +kernel⟩
theorem ok_need_two {f : Addr} {fd : FuncData} (F : Fun c.K "need_two" "need_two" s_need_two f fd) (T : Txt c.mg) (V : Xs c) (G_need_state : Def c base 4 "need_state" 2 F_need_state) (G_need_puzzle : Def c base 4 "need_puzzle" 1 F_need_puzzle) : FnOk c.P c.w c.K c.mg base (L2.CX c.P c.w) (5) f fd ["puzzle", "one", "other"] (spD c 3 F_need_two) :=
  fn_ok F sc_need_two rfl fun cdv A outer s H E hr =>
    (dss_cons (ds_expr (de_call (G_need_puzzle.mono (by decide)) hr (by rfl) tk_of (da_cons (de_var 0) da_nil)))
    (dss_cons (ds_expr (de_call (G_need_state.mono (by decide)) hr (by rfl) tk_of (da_cons (de_var 0) (da_cons (de_var 1) da_nil))))
    (dss_one (ds_expr (de_call (G_need_state.mono (by decide)) hr (by rfl) tk_of (da_cons (de_var 0) (da_cons (de_var 2) da_nil)))))))

abbrev s_product : Stmt := topS 16
theorem sc_product : FnScope ["numbers", "found", "number"] ["numbers"] (defScope s_product) := ⟨rfl, rfl, rfl, by decide +kernel, rfl, by decide +kernel, by decide +kernel⟩
theorem ok_product {f : Addr} {fd : FuncData} (F : Fun c.K "product" "product" s_product f fd) (T : Txt c.mg) (V : Xs c)  : FnOk c.P c.w c.K c.mg base (L2.CX c.P c.w) (1) f fd ["numbers"] (spD c 1 F_product) :=
  fn_ok F sc_product rfl fun cdv A outer s H E hr =>
    (dss_cons (ds_set (i := 1) sc_product.nd rfl (.inl rfl) de_int)
    (dss_cons (ds_for (js := [2]) po_of rfl (di_seq (de_var 0)) (dg_name (i := 2) sc_product.nd rfl (by decide) (.inl rfl)) (dss_one (ds_set (i := 1) sc_product.nd rfl (.inl rfl) (de_op op_mulAll i_mul (de_var 1) (de_var 2)))))
    (dss_one (ds_ret (de_var 1)))))

abbrev s_parts_of : Stmt := topS 18
theorem sc_parts_of : FnScope ["puzzle", "one", "other", "wards", "step", "found", "at", "setting", "ward"] ["puzzle", "one", "other"] (defScope s_parts_of) := ⟨rfl, rfl, rfl, by decide +kernel, rfl, by decide +kernel, by decide +kernel⟩
theorem ok_parts_of {f : Addr} {fd : FuncData} (F : Fun c.K "parts_of" "parts_of" s_parts_of f fd) (T : Txt c.mg) (V : Xs c)  : FnOk c.P c.w c.K c.mg base (L2.CX c.P c.w) (1) f fd ["puzzle", "one", "other"] (spD c 3 F_parts_of) :=
  fn_ok F sc_parts_of rfl fun cdv A outer s H E hr =>
    (dss_cons (ds_par (i := 3) (j := 4) rfl sc_parts_of.nd rfl rfl (by decide) rfl rfl (da_cons (de_ix ix_seq i_ix (de_var 0) (de_op op_sub i_sub (de_blt call_len i_len (by rfl) T.z_len (by decide +kernel) (da_cons (de_var 1) da_nil)) de_int)) (da_cons (de_if (dt_cmp (op_le) i_cmp (de_ix ix_seq i_ix (de_var 1) (de_un un_neg i_neg de_int)) (de_ix ix_seq i_ix (de_var 2) (de_un un_neg i_neg de_int)) (nomark _)) de_int (de_un un_neg i_neg de_int)) da_nil)) (by rfl))
    (dss_cons (ds_par (i := 5) (j := 6) rfl sc_parts_of.nd rfl rfl (by decide) rfl rfl (da_cons (de_lstM da_nil) (da_cons (de_slice sl_all i_sl (de_var 1) do_no (do_so (de_un un_neg i_neg de_int))) da_nil)) (by rfl))
    (dss_cons (ds_for (js := [7]) po_of rfl (di_r3 (by rfl) T.z_range (de_ix ix_seq i_ix (de_var 1) (de_un un_neg i_neg de_int)) (de_ix ix_seq i_ix (de_var 2) (de_un un_neg i_neg de_int)) (de_var 4)) (dg_name (i := 7) sc_parts_of.nd rfl (by decide) (.inl rfl)) (dss_cons (ds_set (i := 8) sc_parts_of.nd rfl (.inl rfl) (de_if (dt_cmp (op_gt) i_cmp (de_var 4) de_int (nomark _)) (de_ix ix_seq i_ix (de_var 3) (de_var 7)) (de_ix ix_seq i_ix (de_var 3) (de_op op_sub i_sub (de_var 7) de_int))))
    (dss_cons (ds_expr (de_app (de_var 5) (de_tup (da_cons (de_var 7) (da_cons (de_var 6) (da_cons (de_var 8) da_nil))))))
    (dss_one (ds_set (i := 6) sc_parts_of.nd rfl (.inl rfl) (de_var 8))))))
    (dss_cons (ds_expr (de_app (de_var 5) (de_tup (da_cons (de_ix ix_seq i_ix (de_var 2) (de_un un_neg i_neg de_int)) (da_cons (de_var 6) (da_cons (de_slice sl_all i_sl (de_var 2) do_no (do_so (de_un un_neg i_neg de_int))) da_nil))))))
    (dss_one (ds_ret (de_var 5)))))))

abbrev s_uses_of : Stmt := topS 19
theorem sc_uses_of : FnScope ["puzzle", "known", "one", "other", "found", "setting", "begin", "end", "left", "right"] ["puzzle", "known", "one", "other"] (defScope s_uses_of) := ⟨rfl, rfl, rfl, by decide +kernel, rfl, by decide +kernel, by decide +kernel⟩
theorem ok_uses_of {f : Addr} {fd : FuncData} (F : Fun c.K "uses_of" "uses_of" s_uses_of f fd) (T : Txt c.mg) (V : Xs c) (G_parts_of : Def c base 1 "parts_of" 3 F_parts_of){S : Fn} {j : Nat} (G_self : Def c base (1 + j) "uses_of" 4 S) : FnOk c.P c.w c.K c.mg base (L2.CX c.P c.w) (1 + j + 1) f fd ["puzzle", "known", "one", "other"] (spD c 4 (mkFn 10 (b_uses_of S))) :=
  fn_ok F sc_uses_of rfl fun cdv A outer s H E hr =>
    (dss_cons (ds_if (dt_cmp (op_eqD hr.units) i_eq (de_var 2) (de_var 3) (nomark _)) (dss_one (ds_ret (de_op op_mulAll i_mul (de_tup (da_cons de_int da_nil)) (de_blt call_len i_len (by rfl) T.z_len (by decide +kernel) (da_cons (de_var 2) da_nil))))) dss_nil)
    (dss_cons (ds_if (dt_cmp (op_notInX hr.units65) i_ninD (de_tup (da_cons (de_var 2) (da_cons (de_var 3) da_nil))) (de_var 1) (by rfl)) (dss_cons (ds_set (i := 4) sc_uses_of.nd rfl (.inl rfl) (de_op op_rep i_mulL (de_lst (da_cons de_int da_nil)) (de_op op_sub i_sub (de_blt call_len i_len (by rfl) T.z_len (by decide +kernel) (da_cons (de_var 2) da_nil)) de_int)))
    (dss_cons (ds_for (js := [5, 6, 7]) po_of rfl (di_seq (de_call (G_parts_of.mono (Nat.le_trans (by decide) (Nat.le_add_right _ _))) hr (by rfl) tk_of (da_cons (de_var 0) (da_cons (de_var 2) (da_cons (de_var 3) da_nil))))) (dg_tup rfl (dgs_cons (dg_name (i := 5) sc_uses_of.nd rfl (by decide) (.inl rfl)) (dgs_cons (dg_name (i := 6) sc_uses_of.nd rfl (by decide) (.inl rfl)) (dgs_cons (dg_name (i := 7) sc_uses_of.nd rfl (by decide) (.inl rfl)) dgs_nil)))) (dss_one (ds_setComp (i := 4) (own := [("left", 8), ("right", 9)]) (js := [8, 9]) rfl sc_uses_of.nd rfl rfl (sw_true rfl rfl rfl rfl) (di_zip (by rfl) T.z_zip (de_var 4) (de_call G_self hr (by rfl) tk_of (da_cons (de_var 0) (da_cons (de_var 1) (da_cons (de_var 6) (da_cons (de_var 7) da_nil)))))) (blkOk_by (by rfl)) (by decide) (fun _ _ _ _ _ => (dg_tup rfl (dgs_cons (dg_name (i := 8) sc_uses_of.nd rfl (by decide) (.inl rfl)) (dgs_cons (dg_name (i := 9) sc_uses_of.nd rfl (by decide) (.inl rfl)) dgs_nil)))) (fun _ _ _ _ _ => pts_noD) (fun _ _ _ _ _ => (de_op op_addAll i_add (de_var 8) (de_var 9))))))
    (dss_one (ds_asg (js := []) (de_tup (da_star (de_var 4) (da_cons (de_blt call_abs i_abs (by rfl) T.z_abs (by decide +kernel) (da_cons (de_op op_sub i_sub (de_ix ix_seq i_ix (de_var 2) (de_un un_neg i_neg de_int)) (de_ix ix_seq i_ix (de_var 3) (de_un un_neg i_neg de_int))) da_nil)) da_nil))) (dg_sub (set_dX hr.units65) i_setD (de_var 1) (de_tup (da_cons (de_var 2) (da_cons (de_var 3) da_nil)))))))) dss_nil)
    (dss_one (ds_ret (de_ix (ix_dX hr.units65) i_ixD (de_var 1) (de_tup (da_cons (de_var 2) (da_cons (de_var 3) da_nil))))))))

abbrev s_need_held : Stmt := topS 21
theorem sc_need_held : FnScope ["puzzle", "value", "lamp", "one", "other"] ["puzzle", "value"] (defScope s_need_held) := ⟨rfl, rfl, rfl, by decide +kernel, rfl, by decide +kernel, by decide +kernel⟩
theorem ok_need_held {f : Addr} {fd : FuncData} (F : Fun c.K "need_held" "need_held" s_need_held f fd) (T : Txt c.mg) (V : Xs c) (G_is_in : Def c base 2 "is_in" 3 F_is_in) : FnOk c.P c.w c.K c.mg base (L2.CX c.P c.w) (3) f fd ["puzzle", "value"] (spD c 2 F_need_held) :=
  fn_ok F sc_need_held rfl fun cdv A outer s H E hr =>
    (dss_cons (ds_if (dt_w (dw_or (dt_not (dt_tru i_tru (de_blt call_isiA i_isi (by rfl) T.z_isinstance (by decide +kernel) (da_cons (de_var 1) (da_cons (de_ty (by rfl) T.z_tuple (by decide +kernel)) da_nil))))) (dw_or1 (dt_not (dt_tru i_tru (de_blt (cr_all rfl) i_all (by rfl) T.z_all (by decide +kernel) (da_cons (de_comp (own := [("lamp", 2)]) (js := [2]) rfl sc_need_held.nd (di_seq (de_var 1)) (blkOk_by (by rfl)) (by decide) (fun _ _ _ _ _ => (dg_name (i := 2) sc_need_held.nd rfl (by decide) (.inl rfl))) (fun _ _ _ _ _ => pts_noD) (fun _ _ _ _ _ => (de_call (G_is_in.mono (by decide)) hr (by rfl) takes0 (da_cons (de_var 2) (da_cons de_int (da_cons (de_op op_sub i_sub (de_blt call_len i_len (by rfl) T.z_len (by decide +kernel) (da_cons (de_var 0) da_nil)) de_int) da_nil)))))) da_nil))))))) (dss_one (ds_raise0 (Classical.choose_spec V.x_BadHeld) rfl tk_of (by rfl))) dss_nil)
    (dss_one (ds_if (dt_not (dt_tru i_tru (de_blt (cr_all rfl) i_all (by rfl) T.z_all (by decide +kernel) (da_cons (de_comp (own := [("one", 3), ("other", 4)]) (js := [3, 4]) rfl sc_need_held.nd (di_zip (by rfl) T.z_zip (de_var 1) (de_slice sl_all i_sl (de_var 1) (do_so de_int) do_no)) (blkOk_by (by rfl)) (by decide) (fun _ _ _ _ _ => (dg_tup rfl (dgs_cons (dg_name (i := 3) sc_need_held.nd rfl (by decide) (.inl rfl)) (dgs_cons (dg_name (i := 4) sc_need_held.nd rfl (by decide) (.inl rfl)) dgs_nil)))) (fun _ _ _ _ _ => pts_noD) (fun _ _ _ _ _ => (de_cmp (op_ltA hr.units0) i_lt (de_var 3) (de_var 4) (nomark _)))) da_nil)))) (dss_one (ds_raise0 (Classical.choose_spec V.x_BadHeld) rfl tk_of (by rfl))) dss_nil)))

abbrev s_count_parts : Stmt := topS 22
theorem sc_count_parts : FnScope ["puzzle", "held", "settings", "found", "lamp", "many"] ["puzzle", "held"] (defScope s_count_parts) := ⟨rfl, rfl, rfl, by decide +kernel, rfl, by decide +kernel, by decide +kernel⟩
theorem ok_count_parts {f : Addr} {fd : FuncData} (F : Fun c.K "count_parts" "count_parts" s_count_parts f fd) (T : Txt c.mg) (V : Xs c) (G_product : Def c base 1 "product" 1 F_product) (G_settings_of : Def c base 1 "settings_of" 1 F_settings_of) (G_need_held : Def c base 3 "need_held" 2 F_need_held) (G_need_puzzle : Def c base 4 "need_puzzle" 1 F_need_puzzle) : FnOk c.P c.w c.K c.mg base (L2.CX c.P c.w) (5) f fd ["puzzle", "held"] (spD c 2 F_count_parts) :=
  fn_ok F sc_count_parts rfl fun cdv A outer s H E hr =>
    (dss_cons (ds_expr (de_call (G_need_puzzle.mono (by decide)) hr (by rfl) tk_of (da_cons (de_var 0) da_nil)))
    (dss_cons (ds_expr (de_call (G_need_held.mono (by decide)) hr (by rfl) tk_of (da_cons (de_var 0) (da_cons (de_var 1) da_nil))))
    (dss_cons (ds_set (i := 2) sc_count_parts.nd rfl (.inl rfl) (de_call (G_settings_of.mono (by decide)) hr (by rfl) tk_of (da_cons (de_var 0) da_nil)))
    (dss_cons (ds_set (i := 3) sc_count_parts.nd rfl (.inl rfl) (de_call (G_product.mono (by decide)) hr (by rfl) tk_of (da_cons (de_var 2) da_nil)))
    (dss_cons (ds_for (js := [4, 5]) po_of rfl (di_enum (by rfl) T.z_enumerate (de_var 2)) (dg_tup rfl (dgs_cons (dg_name (i := 4) sc_count_parts.nd rfl (by decide) (.inl rfl)) (dgs_cons (dg_name (i := 5) sc_count_parts.nd rfl (by decide) (.inl rfl)) dgs_nil))) (dss_one (ds_if (dt_cmp (op_notInD hr.units65) i_nin (de_var 4) (de_var 1) (by rfl)) (dss_one (ds_aug (i := 3) sc_count_parts.nd rfl (.inl rfl) (de_op op_mulAll i_mul (de_op op_sub i_sub (de_var 5) de_int) (de_call (G_product.mono (by decide)) hr (by rfl) tk_of (da_cons (de_slice sl_all i_sl (de_var 2) (do_so (de_op op_addAll i_add (de_var 4) de_int)) do_no) da_nil))) ip_sub i_isub)) dss_nil)))
    (dss_one (ds_ret (de_var 3))))))))

abbrev s_Held_init : Stmt := clsS 23 0
theorem sc_Held_init : FnScope ["self", "puzzle", "lamps"] ["self", "puzzle", "lamps"] (defScope s_Held_init) := ⟨rfl, rfl, rfl, by decide +kernel, rfl, by decide +kernel, by decide +kernel⟩
theorem ok_Held_init {f : Addr} {fd : FuncData} (F : Fun c.K "__init__" "Held.__init__" s_Held_init f fd) (T : Txt c.mg) (V : Xs c)  (K_Held : Kc_Held c C_Held fm_Held_init fm_Held_is_open fm_Held_size) : FnOk c.P c.w c.K c.mg base (L2.CX c.P c.w) (1) f fd ["self", "puzzle", "lamps"] (spD c 3 F_Held_init) :=
  fn_ok F sc_Held_init rfl fun cdv A outer s H E hr =>
    (dss_cons (ds_fld K_Held.T K_Held.n_puzzle (de_var 0) (de_var 1))
    (dss_cons (ds_fld K_Held.T K_Held.n_lamps (de_var 0) (de_var 2))
    (dss_cons (ds_fld K_Held.T K_Held.n_known (de_var 0) de_dic0)
    (dss_one (ds_fld K_Held.T K_Held.n_sizes (de_var 0) (de_dic1 hr.units65 (de_tup da_nil) de_int))))))

abbrev s_Held_is_open : Stmt := clsS 23 1
theorem sc_Held_is_open : FnScope ["self", "one", "other", "told", "lamp"] ["self", "one", "other"] (defScope s_Held_is_open) := ⟨rfl, rfl, rfl, by decide +kernel, rfl, by decide +kernel, by decide +kernel⟩
theorem ok_Held_is_open {f : Addr} {fd : FuncData} (F : Fun c.K "is_open" "Held.is_open" s_Held_is_open f fd) (T : Txt c.mg) (V : Xs c) (G_uses_of : Def c base 41 "uses_of" 4 (F_uses_of 40)) (K_Held : Kc_Held c C_Held fm_Held_init fm_Held_is_open fm_Held_size) : FnOk c.P c.w c.K c.mg base (L2.CX c.P c.w) (42) f fd ["self", "one", "other"] (spD c 3 F_Held_is_open) :=
  fn_ok F sc_Held_is_open rfl fun cdv A outer s H E hr =>
    (dss_cons (ds_set (i := 3) sc_Held_is_open.nd rfl (.inr rfl) (de_call (G_uses_of.mono (by decide)) hr (by rfl) tk_of (da_cons (de_fld K_Held.T K_Held.n_puzzle (de_var 0)) (da_cons (de_fld K_Held.T K_Held.n_known (de_var 0)) (da_cons (de_var 1) (da_cons (de_var 2) da_nil))))))
    (dss_one (ds_ret (de_not (de_blt (cr_any rfl) i_any (by rfl) T.z_any (by decide +kernel) (da_cons (de_comp (own := [("lamp", 4)]) (js := [4]) rfl sc_Held_is_open.nd (di_seq (de_fld K_Held.T K_Held.n_lamps (de_var 0))) (blkOk_by (by rfl)) (by decide) (fun _ _ _ _ _ => (dg_name (i := 4) sc_Held_is_open.nd rfl (by decide) (.inl rfl))) (fun _ _ _ _ _ => (pts_oneD (dt_cmp (op_ltA hr.units0) i_lt (de_var 4) (de_blt call_len i_len (by rfl) T.z_len (by decide +kernel) (da_cons (de_var 3) da_nil)) (nomark _)))) (fun _ _ _ _ _ => (de_cmp (op_gt) i_cmp (de_ix ix_seq i_ix (de_var 3) (de_var 4)) de_int (nomark _)))) da_nil))))))

abbrev s_Held_size : Stmt := clsS 23 2
theorem sc_Held_size : FnScope ["self", "state", "wards", "now", "found", "at", "setting"] ["self", "state"] (defScope s_Held_size) := ⟨rfl, rfl, rfl, by decide +kernel, rfl, by decide +kernel, by decide +kernel⟩
theorem ok_Held_size {f : Addr} {fd : FuncData} (F : Fun c.K "size" "Held.size" s_Held_size f fd) (T : Txt c.mg) (V : Xs c) (G_Held_is_open : DefA c base 42 fm_Held_is_open 3 F_Held_is_open){S : Fn} {j : Nat} (G_self : DefA c base (42 + j) fm_Held_size 2 S) (K_Held : Kc_Held c C_Held fm_Held_init fm_Held_is_open fm_Held_size) : FnOk c.P c.w c.K c.mg base (L2.CX c.P c.w) (42 + j + 1) f fd ["self", "state"] (spD c 2 (mkFn 7 (b_Held_size S))) :=
  fn_ok F sc_Held_size rfl fun cdv A outer s H E hr =>
    (dss_cons (ds_if (dt_cmp (op_notInX hr.units65) i_ninD (de_var 1) (de_fld K_Held.T K_Held.n_sizes (de_var 0)) (by rfl)) (dss_cons (ds_par3 (i := 2) (j := 3) (l := 4) rfl sc_Held_size.nd rfl rfl rfl (by decide) (by decide) (by decide) rfl rfl rfl (da_cons (de_ix ix_seq i_ix (de_fld K_Held.T K_Held.n_puzzle (de_var 0)) (de_op op_sub i_sub (de_blt call_len i_len (by rfl) T.z_len (by decide +kernel) (da_cons (de_var 1) da_nil)) de_int)) (da_cons (de_ix ix_seq i_ix (de_var 1) (de_un un_neg i_neg de_int)) (da_cons (de_meth K_Held.T K_Held.m_size G_self hr tk_of (de_var 0) (da_cons (de_slice sl_all i_sl (de_var 1) do_no (do_so (de_un un_neg i_neg de_int))) da_nil)) da_nil))) (by rfl))
    (dss_cons (ds_if (dt_cmp (op_notInD hr.units65) i_nin (de_op op_sub i_sub (de_blt call_len i_len (by rfl) T.z_len (by decide +kernel) (da_cons (de_var 1) da_nil)) de_int) (de_fld K_Held.T K_Held.n_lamps (de_var 0)) (by rfl)) (dss_cons (ds_set (i := 5) sc_Held_size.nd rfl (.inl rfl) (de_slice sl_all i_sl (de_var 1) do_no (do_so (de_un un_neg i_neg de_int))))
    (dss_cons (ds_for (js := [6]) po_of rfl (di_r2 (by rfl) T.z_range (de_var 3) (de_blt call_len i_len (by rfl) T.z_len (by decide +kernel) (da_cons (de_var 2) da_nil))) (dg_name (i := 6) sc_Held_size.nd rfl (by decide) (.inl rfl)) (dss_cons (ds_if (dt_not (dt_tru i_tru (de_meth K_Held.T K_Held.m_is_open (DefA.mono G_Held_is_open (Nat.le_trans (by decide) (Nat.le_add_right _ _))) hr tk_of (de_var 0) (da_cons (de_var 5) (da_cons (de_ix ix_seq i_ix (de_var 2) (de_var 6)) da_nil))))) (dss_one ds_brk) dss_nil)
    (dss_cons (ds_set (i := 5) sc_Held_size.nd rfl (.inl rfl) (de_ix ix_seq i_ix (de_var 2) (de_var 6)))
    (dss_one (ds_aug (i := 4) sc_Held_size.nd rfl (.inl rfl) (de_meth K_Held.T K_Held.m_size G_self hr tk_of (de_var 0) (da_cons (de_var 5) da_nil)) ip_add i_iadd)))))
    (dss_cons (ds_set (i := 5) sc_Held_size.nd rfl (.inl rfl) (de_slice sl_all i_sl (de_var 1) do_no (do_so (de_un un_neg i_neg de_int))))
    (dss_one (ds_for (js := [6]) po_of rfl (di_r3 (by rfl) T.z_range (de_var 3) de_int (de_un un_neg i_neg de_int)) (dg_name (i := 6) sc_Held_size.nd rfl (by decide) (.inl rfl)) (dss_cons (ds_if (dt_not (dt_tru i_tru (de_meth K_Held.T K_Held.m_is_open (DefA.mono G_Held_is_open (Nat.le_trans (by decide) (Nat.le_add_right _ _))) hr tk_of (de_var 0) (da_cons (de_var 5) (da_cons (de_ix ix_seq i_ix (de_var 2) (de_op op_sub i_sub (de_var 6) de_int)) da_nil))))) (dss_one ds_brk) dss_nil)
    (dss_cons (ds_set (i := 5) sc_Held_size.nd rfl (.inl rfl) (de_ix ix_seq i_ix (de_var 2) (de_op op_sub i_sub (de_var 6) de_int)))
    (dss_one (ds_aug (i := 4) sc_Held_size.nd rfl (.inl rfl) (de_meth K_Held.T K_Held.m_size G_self hr tk_of (de_var 0) (da_cons (de_var 5) da_nil)) ip_add i_iadd))))))))) dss_nil)
    (dss_one (ds_asg (js := []) (de_var 4) (dg_sub (set_dX hr.units65) i_setD (de_fld K_Held.T K_Held.n_sizes (de_var 0)) (de_var 1)))))) dss_nil)
    (dss_one (ds_ret (de_ix (ix_dX hr.units65) i_ixD (de_fld K_Held.T K_Held.n_sizes (de_var 0)) (de_var 1)))))

abbrev s_part_size : Stmt := topS 24
theorem sc_part_size : FnScope ["puzzle", "held", "state"] ["puzzle", "held", "state"] (defScope s_part_size) := ⟨rfl, rfl, rfl, by decide +kernel, rfl, by decide +kernel, by decide +kernel⟩
theorem ok_part_size {f : Addr} {fd : FuncData} (F : Fun c.K "part_size" "part_size" s_part_size f fd) (T : Txt c.mg) (V : Xs c) (G_Held_size : DefA c base 82 fm_Held_size 2 (F_Held_size 40)) (G_Held_init : DefA c base 1 fm_Held_init 3 F_Held_init) (G_need_state : Def c base 4 "need_state" 2 F_need_state) (G_need_held : Def c base 3 "need_held" 2 F_need_held) (G_need_puzzle : Def c base 4 "need_puzzle" 1 F_need_puzzle) (K_Held : Kc_Held c C_Held fm_Held_init fm_Held_is_open fm_Held_size) : FnOk c.P c.w c.K c.mg base (L2.CX c.P c.w) (83) f fd ["puzzle", "held", "state"] (spD c 3 F_part_size) :=
  fn_ok F sc_part_size rfl fun cdv A outer s H E hr =>
    (dss_cons (ds_expr (de_call (G_need_puzzle.mono (by decide)) hr (by rfl) tk_of (da_cons (de_var 0) da_nil)))
    (dss_cons (ds_expr (de_call (G_need_held.mono (by decide)) hr (by rfl) tk_of (da_cons (de_var 0) (da_cons (de_var 1) da_nil))))
    (dss_cons (ds_expr (de_call (G_need_state.mono (by decide)) hr (by rfl) tk_of (da_cons (de_var 0) (da_cons (de_var 2) da_nil))))
    (dss_one (ds_ret (de_meth K_Held.T K_Held.m_size (DefA.mono G_Held_size (by decide)) hr tk_of (de_make K_Held.T K_Held.mkc (DefA.mono G_Held_init (by decide)) hr (by rfl) tk_of (da_cons (de_var 0) (da_cons (de_var 1) da_nil))) (da_cons (de_var 2) da_nil)))))))

abbrev s_can_come : Stmt := topS 25
theorem sc_can_come : FnScope ["puzzle", "held", "one", "other"] ["puzzle", "held", "one", "other"] (defScope s_can_come) := ⟨rfl, rfl, rfl, by decide +kernel, rfl, by decide +kernel, by decide +kernel⟩
theorem ok_can_come {f : Addr} {fd : FuncData} (F : Fun c.K "can_come" "can_come" s_can_come f fd) (T : Txt c.mg) (V : Xs c) (G_Held_is_open : DefA c base 42 fm_Held_is_open 3 F_Held_is_open) (G_Held_init : DefA c base 1 fm_Held_init 3 F_Held_init) (G_need_state : Def c base 4 "need_state" 2 F_need_state) (G_need_held : Def c base 3 "need_held" 2 F_need_held) (G_need_puzzle : Def c base 4 "need_puzzle" 1 F_need_puzzle) (K_Held : Kc_Held c C_Held fm_Held_init fm_Held_is_open fm_Held_size) : FnOk c.P c.w c.K c.mg base (L2.CX c.P c.w) (43) f fd ["puzzle", "held", "one", "other"] (spD c 4 F_can_come) :=
  fn_ok F sc_can_come rfl fun cdv A outer s H E hr =>
    (dss_cons (ds_expr (de_call (G_need_puzzle.mono (by decide)) hr (by rfl) tk_of (da_cons (de_var 0) da_nil)))
    (dss_cons (ds_expr (de_call (G_need_held.mono (by decide)) hr (by rfl) tk_of (da_cons (de_var 0) (da_cons (de_var 1) da_nil))))
    (dss_cons (ds_expr (de_call (G_need_state.mono (by decide)) hr (by rfl) tk_of (da_cons (de_var 0) (da_cons (de_var 2) da_nil))))
    (dss_cons (ds_expr (de_call (G_need_state.mono (by decide)) hr (by rfl) tk_of (da_cons (de_var 0) (da_cons (de_var 3) da_nil))))
    (dss_one (ds_ret (de_meth K_Held.T K_Held.m_is_open (DefA.mono G_Held_is_open (by decide)) hr tk_of (de_make K_Held.T K_Held.mkc (DefA.mono G_Held_init (by decide)) hr (by rfl) tk_of (da_cons (de_var 0) (da_cons (de_var 1) da_nil))) (da_cons (de_var 2) (da_cons (de_var 3) da_nil)))))))))

abbrev s_least_free : Stmt := topS 26
theorem sc_least_free : FnScope ["puzzle", "one", "other", "lamp", "many"] ["puzzle", "one", "other"] (defScope s_least_free) := ⟨rfl, rfl, rfl, by decide +kernel, rfl, by decide +kernel, by decide +kernel⟩
theorem ok_least_free {f : Addr} {fd : FuncData} (F : Fun c.K "least_free" "least_free" s_least_free f fd) (T : Txt c.mg) (V : Xs c) (G_uses_of : Def c base 41 "uses_of" 4 (F_uses_of 40)) (G_need_two : Def c base 5 "need_two" 3 F_need_two) : FnOk c.P c.w c.K c.mg base (L2.CX c.P c.w) (42) f fd ["puzzle", "one", "other"] (spD c 3 F_least_free) :=
  fn_ok F sc_least_free rfl fun cdv A outer s H E hr =>
    (dss_cons (ds_expr (de_call (G_need_two.mono (by decide)) hr (by rfl) tk_of (da_cons (de_var 0) (da_cons (de_var 1) (da_cons (de_var 2) da_nil)))))
    (dss_one (ds_ret (de_bty call_tuple_of i_tuple (by rfl) T.z_tuple (by decide +kernel) (da_cons (de_comp (own := [("lamp", 3), ("many", 4)]) (js := [3, 4]) rfl sc_least_free.nd (di_enum (by rfl) T.z_enumerate (de_call (G_uses_of.mono (by decide)) hr (by rfl) tk_of (da_cons (de_var 0) (da_cons de_dic0 (da_cons (de_var 1) (da_cons (de_var 2) da_nil)))))) (blkOk_by (by rfl)) (by decide) (fun _ _ _ _ _ => (dg_tup rfl (dgs_cons (dg_name (i := 3) sc_least_free.nd rfl (by decide) (.inl rfl)) (dgs_cons (dg_name (i := 4) sc_least_free.nd rfl (by decide) (.inl rfl)) dgs_nil)))) (fun _ _ _ _ _ => (pts_oneD (dt_cmp (op_gt) i_cmp (de_var 4) de_int (nomark _)))) (fun _ _ _ _ _ => (de_var 3))) da_nil)))))

abbrev s_edge_counts : Stmt := topS 27
theorem sc_edge_counts : FnScope ["puzzle", "settings", "lamp", "many"] ["puzzle"] (defScope s_edge_counts) := ⟨rfl, rfl, rfl, by decide +kernel, rfl, by decide +kernel, by decide +kernel⟩
theorem ok_edge_counts {f : Addr} {fd : FuncData} (F : Fun c.K "edge_counts" "edge_counts" s_edge_counts f fd) (T : Txt c.mg) (V : Xs c) (G_product : Def c base 1 "product" 1 F_product) (G_settings_of : Def c base 1 "settings_of" 1 F_settings_of) (G_need_puzzle : Def c base 4 "need_puzzle" 1 F_need_puzzle) : FnOk c.P c.w c.K c.mg base (L2.CX c.P c.w) (5) f fd ["puzzle"] (spD c 1 F_edge_counts) :=
  fn_ok F sc_edge_counts rfl fun cdv A outer s H E hr =>
    (dss_cons (ds_expr (de_call (G_need_puzzle.mono (by decide)) hr (by rfl) tk_of (da_cons (de_var 0) da_nil)))
    (dss_cons (ds_set (i := 1) sc_edge_counts.nd rfl (.inr rfl) (de_call (G_settings_of.mono (by decide)) hr (by rfl) tk_of (da_cons (de_var 0) da_nil)))
    (dss_one (ds_ret (de_bty call_tuple_of i_tuple (by rfl) T.z_tuple (by decide +kernel) (da_cons (de_comp (own := [("lamp", 2), ("many", 3)]) (js := [2, 3]) rfl sc_edge_counts.nd (di_enum (by rfl) T.z_enumerate (de_var 1)) (blkOk_by (by rfl)) (by decide) (fun _ _ _ _ _ => (dg_tup rfl (dgs_cons (dg_name (i := 2) sc_edge_counts.nd rfl (by decide) (.inl rfl)) (dgs_cons (dg_name (i := 3) sc_edge_counts.nd rfl (by decide) (.inl rfl)) dgs_nil)))) (fun _ _ _ _ _ => pts_noD) (fun _ _ _ _ _ => (de_op op_mulAll i_mul (de_op op_sub i_sub (de_var 3) de_int) (de_call (G_product.mono (by decide)) hr (by rfl) takes0 (da_cons (de_slice sl_all i_sl (de_var 1) (do_so (de_op op_addAll i_add (de_var 2) de_int)) do_no) da_nil))))) da_nil))))))

abbrev s_law_taken : Stmt := topS 29
theorem sc_law_taken : FnScope ["_law_row", "_law_many", "_law_found", "_law_cell"] ["_law_row", "_law_many"] (defScope s_law_taken) := ⟨rfl, rfl, rfl, by decide +kernel, rfl, by decide +kernel, by decide +kernel⟩
theorem ok_law_taken {f : Addr} {fd : FuncData} (F : Fun c.K "_law_taken" "_law_taken" s_law_taken f fd) (T : Txt c.mg) (V : Xs c)  : FnOk c.P c.w c.K c.mg base (L2.CX c.P c.w) (1) f fd ["_law_row", "_law_many"] (spD c 2 F_law_taken) :=
  fn_ok F sc_law_taken rfl fun cdv A outer s H E hr =>
    (dss_cons (ds_if (dt_cmp (op_gt) i_cmp (de_ix ix_seq i_ix (de_var 0) de_int) de_int (nomark _)) (dss_cons (ds_set (i := 2) sc_law_taken.nd rfl (.inl rfl) (de_op op_mod i_mod (de_bty call_int1 i_int (by rfl) T.z_int (by decide +kernel) (da_cons (de_ix ix_seq i_ix (de_var 0) de_int) da_nil)) (de_var 1)))
    (dss_cons (ds_asg (js := []) (de_op op_fdivW i_div (de_ix ix_seq i_ix (de_var 0) de_int) (de_var 1)) (dg_sub set_list i_setL (de_var 0) de_int))
    (dss_one (ds_ret (de_var 2))))) dss_nil)
    (dss_cons (ds_asg (js := []) (de_op op_addAll i_add (de_ix ix_seq i_ix (de_var 0) de_int) de_int) (dg_sub set_list i_setL (de_var 0) de_int))
    (dss_cons (ds_if (dt_cmp (op_gt) i_cmp (de_ix ix_seq i_ix (de_var 0) de_int) (de_blt call_len i_len (by rfl) T.z_len (by decide +kernel) (da_cons (de_ix ix_seq i_ix (de_var 0) de_int) da_nil)) (nomark _)) (dss_cons (ds_asg (js := []) (de_op op_mod i_mod (de_bty call_int1 i_int (by rfl) T.z_int (by decide +kernel) (da_cons (de_op op_addAll i_add (de_op op_mulAll i_mul (de_ix ix_seq i_ix (de_var 0) de_int) de_int) de_int) da_nil)) de_int) (dg_sub set_list i_setL (de_var 0) de_int))
    (dss_one (ds_ret (de_op op_mod i_mod (de_bty call_int1 i_int (by rfl) T.z_int (by decide +kernel) (da_cons (de_op op_fdivW i_div (de_ix ix_seq i_ix (de_var 0) de_int) de_int) da_nil)) (de_var 1))))) dss_nil)
    (dss_cons (ds_set (i := 3) sc_law_taken.nd rfl (.inl rfl) (de_ix ix_seq i_ix (de_ix ix_seq i_ix (de_var 0) de_int) (de_op op_sub i_sub (de_ix ix_seq i_ix (de_var 0) de_int) de_int)))
    (dss_cons (ds_asg (js := []) (de_op op_mod i_mod (de_bty call_int1 i_int (by rfl) T.z_int (by decide +kernel) (da_cons (de_op op_addAll i_add (de_op op_addAll i_add (de_op op_mulAll i_mul (de_ix ix_seq i_ix (de_var 0) de_int) de_int) (de_var 3)) de_int) da_nil)) de_int) (dg_sub set_list i_setL (de_var 0) de_int))
    (dss_cons (ds_if (dt_cmp (op_ge) i_cmp (de_var 3) (de_op op_pow i_pow de_int de_int) (nomark _)) (dss_one (ds_asg (js := []) (de_op op_fdivW i_div (de_var 3) (de_var 1)) (dg_sub set_list i_setL (de_var 0) de_int))) dss_nil)
    (dss_one (ds_ret (de_op op_mod i_mod (de_bty call_int1 i_int (by rfl) T.z_int (by decide +kernel) (da_cons (de_var 3) da_nil)) (de_var 1))))))))))

abbrev s_law_pick : Stmt := topS 30
theorem sc_law_pick : FnScope ["_law_row", "_law_things"] ["_law_row", "_law_things"] (defScope s_law_pick) := ⟨rfl, rfl, rfl, by decide +kernel, rfl, by decide +kernel, by decide +kernel⟩
theorem ok_law_pick {f : Addr} {fd : FuncData} (F : Fun c.K "_law_pick" "_law_pick" s_law_pick f fd) (T : Txt c.mg) (V : Xs c) (G_law_taken : Def c base 1 "_law_taken" 2 F_law_taken) : FnOk c.P c.w c.K c.mg base (L2.CX c.P c.w) (2) f fd ["_law_row", "_law_things"] (spD c 2 F_law_pick) :=
  fn_ok F sc_law_pick rfl fun cdv A outer s H E hr =>
    (dss_one (ds_ret (de_ix ix_seq i_ix (de_var 1) (de_call (G_law_taken.mono (by decide)) hr (by rfl) tk_of (da_cons (de_var 0) (da_cons (de_blt call_len i_len (by rfl) T.z_len (by decide +kernel) (da_cons (de_var 1) da_nil)) da_nil))))))

abbrev s_law_product : Stmt := topS 31
theorem sc_law_product : FnScope ["_law_numbers", "_law_found", "_law_number"] ["_law_numbers"] (defScope s_law_product) := ⟨rfl, rfl, rfl, by decide +kernel, rfl, by decide +kernel, by decide +kernel⟩
theorem ok_law_product {f : Addr} {fd : FuncData} (F : Fun c.K "_law_product" "_law_product" s_law_product f fd) (T : Txt c.mg) (V : Xs c)  : FnOk c.P c.w c.K c.mg base (L2.CX c.P c.w) (1) f fd ["_law_numbers"] (spD c 1 F_law_product) :=
  fn_ok F sc_law_product rfl fun cdv A outer s H E hr =>
    (dss_cons (ds_set (i := 1) sc_law_product.nd rfl (.inl rfl) de_int)
    (dss_cons (ds_for (js := [2]) po_of rfl (di_seq (de_var 0)) (dg_name (i := 2) sc_law_product.nd rfl (by decide) (.inl rfl)) (dss_one (ds_set (i := 1) sc_law_product.nd rfl (.inl rfl) (de_op op_mulAll i_mul (de_var 1) (de_var 2)))))
    (dss_one (ds_ret (de_var 1)))))

abbrev s_law_settings : Stmt := topS 32
theorem sc_law_settings : FnScope ["_law_row", "_law_most", "_law_found", "_law_more"] ["_law_row", "_law_most"] (defScope s_law_settings) := ⟨rfl, rfl, rfl, by decide +kernel, rfl, by decide +kernel, by decide +kernel⟩
theorem ok_law_settings {f : Addr} {fd : FuncData} (F : Fun c.K "_law_settings" "_law_settings" s_law_settings f fd) (T : Txt c.mg) (V : Xs c) (G_law_taken : Def c base 1 "_law_taken" 2 F_law_taken) (G_law_product : Def c base 1 "_law_product" 1 F_law_product) (G_law_pick : Def c base 2 "_law_pick" 2 F_law_pick) : FnOk c.P c.w c.K c.mg base (L2.CX c.P c.w) (3) f fd ["_law_row", "_law_most"] (spD c 2 F_law_settings) :=
  fn_ok F sc_law_settings rfl fun cdv A outer s H E hr =>
    (dss_cons (ds_set (i := 2) sc_law_settings.nd rfl (.inl rfl) (de_lstM (da_cons (de_op op_addAll i_add de_int (de_call (G_law_taken.mono (by decide)) hr (by rfl) tk_of (da_cons (de_var 0) (da_cons de_int da_nil)))) da_nil)))
    (dss_one (ds_wh po_of (dt_tru i_tru de_bl) (dss_cons (ds_set (i := 3) sc_law_settings.nd rfl (.inl rfl) (de_call (G_law_pick.mono (by decide)) hr (by rfl) tk_of (da_cons (de_var 0) (da_cons (de_lst (da_cons de_int (da_cons de_int (da_cons de_int (da_cons de_int da_nil))))) da_nil))))
    (dss_cons (ds_if (dt_w (dw_or (dt_cmp (op_gt) i_cmp (de_op op_mulAll i_mul (de_call (G_law_product.mono (by decide)) hr (by rfl) tk_of (da_cons (de_var 2) da_nil)) (de_var 3)) (de_var 1) (nomark _)) (dw_or1 (dt_cmp (op_eqD hr.units) i_eq (de_call (G_law_taken.mono (by decide)) hr (by rfl) tk_of (da_cons (de_var 0) (da_cons de_int da_nil))) de_int (nomark _))))) (dss_one (ds_ret (de_bty call_tuple_of i_tuple (by rfl) T.z_tuple (by decide +kernel) (da_cons (de_var 2) da_nil)))) dss_nil)
    (dss_one (ds_expr (de_app (de_var 2) (de_var 3)))))))))

abbrev s_law_of : Stmt := topS 33
theorem sc_law_of : FnScope ["_law_row", "_law_settings_here", "_law_found", "_law_kind", "_law_lamp", "_law_wards", "_law_step", "_law_ward", "_law_many"] ["_law_row", "_law_settings_here"] (defScope s_law_of) := ⟨rfl, rfl, rfl, by decide +kernel, rfl, by decide +kernel, by decide +kernel⟩
theorem ok_law_of {f : Addr} {fd : FuncData} (F : Fun c.K "_law_of" "_law_of" s_law_of f fd) (T : Txt c.mg) (V : Xs c) (G_law_taken : Def c base 1 "_law_taken" 2 F_law_taken) : FnOk c.P c.w c.K c.mg base (L2.CX c.P c.w) (2) f fd ["_law_row", "_law_settings_here"] (spD c 2 F_law_of) :=
  fn_ok F sc_law_of rfl fun cdv A outer s H E hr =>
    (dss_cons (ds_par (i := 2) (j := 3) rfl sc_law_of.nd rfl rfl (by decide) rfl rfl (da_cons (de_lstM da_nil) (da_cons (de_call (G_law_taken.mono (by decide)) hr (by rfl) tk_of (da_cons (de_var 0) (da_cons de_int da_nil))) da_nil)) (by rfl))
    (dss_cons (ds_for (js := [4]) po_of rfl (di_r1 (by rfl) T.z_range (de_blt call_len i_len (by rfl) T.z_len (by decide +kernel) (da_cons (de_var 1) da_nil))) (dg_name (i := 4) sc_law_of.nd rfl (by decide) (.inl rfl)) (dss_cons (ds_set (i := 5) sc_law_of.nd rfl (.inl rfl) (de_lstM da_nil))
    (dss_cons (ds_for (js := [6]) po_of rfl (di_r1 (by rfl) T.z_range (de_op op_sub i_sub (de_ix ix_seq i_ix (de_var 1) (de_var 4)) de_int)) (dg_name (i := 6) sc_law_of.nd rfl (by decide) (.inl rfl)) (dss_cons (ds_set (i := 7) sc_law_of.nd rfl (.inl rfl) (de_bty call_tuple_of i_tuple (by rfl) T.z_tuple (by decide +kernel) (da_cons (de_comp (own := [("_law_many", 8)]) (js := [8]) rfl sc_law_of.nd (di_seq (de_slice sl_all i_sl (de_var 1) do_no (do_so (de_var 4)))) (blkOk_by (by rfl)) (by decide) (fun _ _ _ _ _ => (dg_name (i := 8) sc_law_of.nd rfl (by decide) (.inl rfl))) (fun _ _ _ _ _ => pts_noD) (fun _ _ _ _ _ => (de_call (G_law_taken.mono (by decide)) hr (by rfl) takes0 (da_cons (de_var 0) (da_cons (de_var 8) da_nil))))) da_nil)))
    (dss_cons (ds_if (dt_cmp (op_eqD hr.units) i_eq (de_var 3) de_int (nomark _)) (dss_one (ds_set (i := 7) sc_law_of.nd rfl (.inl rfl) (de_op op_mulAll i_mul (de_tup (da_cons de_int da_nil)) (de_var 4)))) dss_nil)
    (dss_cons (ds_if (dt_w (dw_and (dt_cmp (op_eqD hr.units) i_eq (de_var 3) de_int (nomark _)) (dw_and1 (dt_cmp (op_neD hr.units) i_ne (de_var 5) (de_lst da_nil) (nomark _))))) (dss_one (ds_set (i := 7) sc_law_of.nd rfl (.inl rfl) (de_ix ix_seq i_ix (de_var 5) (de_un un_neg i_neg de_int)))) dss_nil)
    (dss_one (ds_expr (de_app (de_var 5) (de_var 7))))))))
    (dss_one (ds_expr (de_app (de_var 2) (de_bty call_tuple_of i_tuple (by rfl) T.z_tuple (by decide +kernel) (da_cons (de_var 5) da_nil))))))))
    (dss_one (ds_ret (de_bty call_tuple_of i_tuple (by rfl) T.z_tuple (by decide +kernel) (da_cons (de_var 2) da_nil))))))

abbrev s_law_puzzle : Stmt := topS 34
theorem sc_law_puzzle : FnScope ["_law_row", "_law_most"] ["_law_row", "_law_most"] (defScope s_law_puzzle) := ⟨rfl, rfl, rfl, by decide +kernel, rfl, by decide +kernel, by decide +kernel⟩
theorem ok_law_puzzle {f : Addr} {fd : FuncData} (F : Fun c.K "_law_puzzle" "_law_puzzle" s_law_puzzle f fd) (T : Txt c.mg) (V : Xs c) (G_law_of : Def c base 2 "_law_of" 2 F_law_of) (G_law_settings : Def c base 3 "_law_settings" 2 F_law_settings) : FnOk c.P c.w c.K c.mg base (L2.CX c.P c.w) (4) f fd ["_law_row", "_law_most"] (spD c 2 F_law_puzzle) :=
  fn_ok F sc_law_puzzle rfl fun cdv A outer s H E hr =>
    (dss_one (ds_ret (de_call (G_law_of.mono (by decide)) hr (by rfl) tk_of (da_cons (de_var 0) (da_cons (de_call (G_law_settings.mono (by decide)) hr (by rfl) tk_of (da_cons (de_var 0) (da_cons (de_var 1) da_nil))) da_nil)))))

abbrev s_law_state : Stmt := topS 35
theorem sc_law_state : FnScope ["_law_row", "_law_puzzle_here", "_law_lamp"] ["_law_row", "_law_puzzle_here"] (defScope s_law_state) := ⟨rfl, rfl, rfl, by decide +kernel, rfl, by decide +kernel, by decide +kernel⟩
theorem ok_law_state {f : Addr} {fd : FuncData} (F : Fun c.K "_law_state" "_law_state" s_law_state f fd) (T : Txt c.mg) (V : Xs c) (G_law_taken : Def c base 1 "_law_taken" 2 F_law_taken) : FnOk c.P c.w c.K c.mg base (L2.CX c.P c.w) (2) f fd ["_law_row", "_law_puzzle_here"] (spD c 2 F_law_state) :=
  fn_ok F sc_law_state rfl fun cdv A outer s H E hr =>
    (dss_one (ds_ret (de_bty call_tuple_of i_tuple (by rfl) T.z_tuple (by decide +kernel) (da_cons (de_comp (own := [("_law_lamp", 2)]) (js := [2]) rfl sc_law_state.nd (di_seq (de_var 1)) (blkOk_by (by rfl)) (by decide) (fun _ _ _ _ _ => (dg_name (i := 2) sc_law_state.nd rfl (by decide) (.inl rfl))) (fun _ _ _ _ _ => pts_noD) (fun _ _ _ _ _ => (de_call (G_law_taken.mono (by decide)) hr (by rfl) takes0 (da_cons (de_var 0) (da_cons (de_op op_addAll i_add (de_blt call_len i_len (by rfl) T.z_len (by decide +kernel) (da_cons (de_var 2) da_nil)) de_int) da_nil))))) da_nil))))

abbrev s_law : Stmt := topS 37
theorem sc_law : FnScope ["_law_script", "_law_row", "_law_turn", "_law_puzzle_here", "_law_state_here", "_law_odd", "_law_index", "_law_bad", "_law_ill", "_law_found", "_law_due"] ["_law_script"] (defScope s_law) := ⟨rfl, rfl, rfl, by decide +kernel, rfl, by decide +kernel, by decide +kernel⟩
theorem ok_law {f cd P : Addr} {kV doc pm ct oc : Value} {an od : Option Addr} {osl : Array (Option Value)} (lk : c.K.lookup f = some ⟨oc, od, .func (PySem.W.fnOf "law" "law" (defArgs s_law) (defBody s_law) (defScope s_law) .none kV doc pm an (.ref cd) ct), osl⟩) (ck : PySem.W.codeIn c.K (.ref cd) "law" = true) (T : Txt c.mg) (V : Xs c) (TB : LamX.TabB base c.mg cd P) (DE : LamD.ErrD c base "_law_error" hs_law) (G_least_free : Def c base 42 "least_free" 3 F_least_free) (G_can_come : Def c base 43 "can_come" 4 F_can_come) (G_edge_counts : Def c base 5 "edge_counts" 1 F_edge_counts) (G_part_size : Def c base 83 "part_size" 3 F_part_size) (G_count_parts : Def c base 5 "count_parts" 2 F_count_parts) (G_law_pick : Def c base 2 "_law_pick" 2 F_law_pick) (G_law_state : Def c base 2 "_law_state" 2 F_law_state) (G_law_puzzle : Def c base 4 "_law_puzzle" 2 F_law_puzzle) :
    FnOk c.P c.w c.K c.mg base (L2.CX c.P c.w) (86) f (PySem.W.fnOf "law" "law" (defArgs s_law) (defBody s_law) (defScope s_law) .none kV doc pm an (.ref cd) ct) ["_law_script"] (spD c 1 (F_law P)) :=
  fn_okC lk ck sc_law rfl fun A outer s H E hr =>
    (dss_cons (ds_set (i := 1) sc_law.nd rfl (.inl rfl) (de_lstM (da_cons (de_var 0) (da_cons de_int (da_cons de_int (da_cons de_int da_nil))))))
    (dss_cons (ds_for (js := [2]) po_of rfl (di_r1 (by rfl) T.z_range de_int) (dg_name (i := 2) sc_law.nd rfl (by decide) (.inl rfl)) (dss_cons (ds_set (i := 3) sc_law.nd rfl (.inr rfl) (de_call (G_law_puzzle.mono (by decide)) hr (by rfl) tk_of (da_cons (de_var 1) (da_cons de_int da_nil))))
    (dss_cons (ds_set (i := 4) sc_law.nd rfl (.inr rfl) (de_call (G_law_state.mono (by decide)) hr (by rfl) tk_of (da_cons (de_var 1) (da_cons (de_var 3) da_nil))))
    (dss_cons (ds_asg (js := [5, 6]) (de_call (G_law_pick.mono (by decide)) hr (by rfl) tk_of (da_cons (de_var 1) (da_cons (de_lst (da_cons (de_tup (da_cons de_non (da_cons de_non da_nil))) (da_cons (de_tup (da_cons (de_tup da_nil) (da_cons de_non da_nil))) (da_cons (de_tup (da_cons (de_tup (da_cons de_non da_nil)) (da_cons de_int da_nil))) (da_cons (de_tup (da_cons (de_lst (da_cons (de_tup (da_cons (de_tup da_nil) da_nil)) da_nil)) (da_cons de_non da_nil))) (da_cons (de_tup (da_cons (de_tup (da_cons (de_tup (da_cons (de_tup da_nil) da_nil)) (da_cons (de_tup (da_cons (de_tup (da_cons de_int da_nil)) da_nil)) da_nil))) (da_cons de_int da_nil))) da_nil)))))) da_nil))) (dg_tup rfl (dgs_cons (dg_name (i := 5) sc_law.nd rfl (by decide) (.inr rfl)) (dgs_cons (dg_name (i := 6) sc_law.nd rfl (by decide) (.inl rfl)) dgs_nil))))
    (dss_cons (ds_set (i := 7) sc_law.nd rfl (.inr rfl) (de_call (G_law_pick.mono (by decide)) hr (by rfl) tk_of (da_cons (de_var 1) (da_cons (de_lst (da_cons de_non (da_cons (de_lst (da_cons de_int da_nil)) (da_cons (de_tup (da_cons de_int (da_cons de_int da_nil))) (da_cons (de_tup (da_cons (de_blt call_len i_len (by rfl) T.z_len (by decide +kernel) (da_cons (de_var 3) da_nil)) da_nil)) (da_cons (de_tup (da_cons (de_un un_neg i_neg de_int) da_nil)) (da_cons (de_tup (da_cons de_int (da_cons de_int da_nil))) (da_cons (de_tup (da_cons de_bl da_nil)) (da_cons (de_tup (da_cons de_non da_nil)) (da_cons de_str (da_cons de_int da_nil))))))))))) da_nil))))
    (dss_cons (ds_set (i := 8) sc_law.nd rfl (.inr rfl) (de_call (G_law_pick.mono (by decide)) hr (by rfl) tk_of (da_cons (de_var 1) (da_cons (de_lst (da_cons de_non (da_cons (de_tup da_nil) (da_cons (de_bty call_list_of i_list (by rfl) T.z_list (by decide +kernel) (da_cons (de_var 4) da_nil)) (da_cons (de_op op_addAll i_add (de_var 4) (de_tup (da_cons de_int da_nil))) (da_cons (de_op op_addAll i_add (de_slice sl_all i_sl (de_var 4) do_no (do_so (de_un un_neg i_neg de_int))) (de_tup (da_cons de_int da_nil))) (da_cons (de_op op_addAll i_add (de_slice sl_all i_sl (de_var 4) do_no (do_so (de_un un_neg i_neg de_int))) (de_tup (da_cons de_non da_nil))) da_nil))))))) da_nil))))
    (dss_cons (ds_set (i := 9) sc_law.nd rfl (.inl rfl) (de_lst (da_cons (de_err (k := 83) (d := none) (q := "law.<locals>.<lambda>") DE (by rfl) (fun _ e => nomatch e) TB rfl hr (LamD.lamSD_by (by rfl)) (by rfl) (fun A outer s H E f c1 hr => (de_call (G_count_parts.mono (by decide)) hr (by rfl) tk_lam (da_cons (de_var 5) (da_cons de_non da_nil))))) (da_cons (de_err (k := 83) (d := (some ("_law_a", _, _, _))) (q := "law.<locals>.<lambda>") DE (by rfl) (fun z e => by cases e; first | exact .inl rfl | exact .inr (.inl rfl) | exact .inr (.inr rfl)) TB rfl hr (LamD.lamSD_by (by rfl)) (by rfl) (fun A outer s H E f c1 hr => (de_call (G_count_parts.mono (by decide)) hr (by rfl) tk_lam (da_cons (de_var 3) (da_cons (de_var 7) da_nil))))) (da_cons (de_err (k := 83) (d := (some ("_law_b", _, _, _))) (q := "law.<locals>.<lambda>") DE (by rfl) (fun z e => by cases e; first | exact .inl rfl | exact .inr (.inl rfl) | exact .inr (.inr rfl)) TB rfl hr (LamD.lamSD_by (by rfl)) (by rfl) (fun A outer s H E f c1 hr => (de_call (G_part_size.mono (by decide)) hr (by rfl) tk_lam (da_cons (de_var 3) (da_cons (de_var 7) (da_cons de_non da_nil)))))) da_nil)))))
    (dss_cons (ds_set (i := 9) sc_law.nd rfl (.inl rfl) (de_op op_cat i_addL (de_var 9) (de_lst (da_cons (de_err (k := 83) (d := none) (q := "law.<locals>.<lambda>") DE (by rfl) (fun _ e => nomatch e) TB rfl hr (LamD.lamSD_by (by rfl)) (by rfl) (fun A outer s H E f c1 hr => (de_call (G_part_size.mono (by decide)) hr (by rfl) tk_lam (da_cons (de_var 3) (da_cons (de_tup da_nil) (da_cons (de_var 8) da_nil)))))) (da_cons (de_err (k := 83) (d := (some ("_law_a", _, _, _))) (q := "law.<locals>.<lambda>") DE (by rfl) (fun z e => by cases e; first | exact .inl rfl | exact .inr (.inl rfl) | exact .inr (.inr rfl)) TB rfl hr (LamD.lamSD_by (by rfl)) (by rfl) (fun A outer s H E f c1 hr => (de_call (G_can_come.mono (by decide)) hr (by rfl) tk_lam (da_cons (de_var 3) (da_cons (de_var 7) (da_cons de_non (da_cons de_non da_nil))))))) da_nil)))))
    (dss_cons (ds_set (i := 9) sc_law.nd rfl (.inl rfl) (de_op op_cat i_addL (de_var 9) (de_lst (da_cons (de_err (k := 83) (d := none) (q := "law.<locals>.<lambda>") DE (by rfl) (fun _ e => nomatch e) TB rfl hr (LamD.lamSD_by (by rfl)) (by rfl) (fun A outer s H E f c1 hr => (de_call (G_can_come.mono (by decide)) hr (by rfl) tk_lam (da_cons (de_var 3) (da_cons (de_tup (da_cons de_int da_nil)) (da_cons (de_var 8) (da_cons de_non da_nil))))))) (da_cons (de_err (k := 83) (d := (some ("_law_a", _, _, _))) (q := "law.<locals>.<lambda>") DE (by rfl) (fun z e => by cases e; first | exact .inl rfl | exact .inr (.inl rfl) | exact .inr (.inr rfl)) TB rfl hr (LamD.lamSD_by (by rfl)) (by rfl) (fun A outer s H E f c1 hr => (de_call (G_can_come.mono (by decide)) hr (by rfl) tk_lam (da_cons (de_var 3) (da_cons (de_tup (da_cons de_int da_nil)) (da_cons (de_var 4) (da_cons (de_var 8) da_nil))))))) da_nil)))))
    (dss_cons (ds_set (i := 9) sc_law.nd rfl (.inl rfl) (de_op op_cat i_addL (de_var 9) (de_lst (da_cons (de_err (k := 83) (d := none) (q := "law.<locals>.<lambda>") DE (by rfl) (fun _ e => nomatch e) TB rfl hr (LamD.lamSD_by (by rfl)) (by rfl) (fun A outer s H E f c1 hr => (de_call (G_edge_counts.mono (by decide)) hr (by rfl) tk_lam (da_cons (de_var 5) da_nil)))) (da_cons (de_err (k := 83) (d := (some ("_law_a", _, _, _))) (q := "law.<locals>.<lambda>") DE (by rfl) (fun z e => by cases e; first | exact .inl rfl | exact .inr (.inl rfl) | exact .inr (.inr rfl)) TB rfl hr (LamD.lamSD_by (by rfl)) (by rfl) (fun A outer s H E f c1 hr => (de_call (G_least_free.mono (by decide)) hr (by rfl) tk_lam (da_cons (de_var 3) (da_cons (de_var 8) (da_cons de_non da_nil)))))) (da_cons (de_err (k := 83) (d := (some ("_law_b", _, _, _))) (q := "law.<locals>.<lambda>") DE (by rfl) (fun z e => by cases e; first | exact .inl rfl | exact .inr (.inl rfl) | exact .inr (.inr rfl)) TB rfl hr (LamD.lamSD_by (by rfl)) (by rfl) (fun A outer s H E f c1 hr => (de_call (G_least_free.mono (by decide)) hr (by rfl) tk_lam (da_cons (de_var 3) (da_cons (de_var 4) (da_cons (de_var 8) da_nil)))))) da_nil))))))
    (dss_cons (ds_set (i := 10) sc_law.nd rfl (.inl rfl) (de_lst (da_cons (de_tup (da_cons de_str (da_cons (de_var 6) da_nil))) (da_cons de_str (da_cons de_str (da_cons de_str (da_cons de_str (da_cons de_str (da_cons de_str (da_cons (de_tup (da_cons de_str (da_cons (de_var 6) da_nil))) (da_cons de_str (da_cons de_str da_nil))))))))))))
    (dss_one (ds_if (dt_cmp (op_neD hr.units) i_ne (de_var 9) (de_var 10) (nomark _)) (dss_one (ds_ret de_bl)) dss_nil)))))))))))))
    (dss_one (ds_ret (de_and (de_cmp (op_isBl) i_is (de_call (G_can_come.mono (by decide)) hr (by rfl) tk_of (da_cons (de_var 3) (da_cons (de_tup (da_cons de_int da_nil)) (da_cons (de_var 4) (da_cons (de_var 4) da_nil))))) de_bl (nomark _)) (de_one (de_cmp (op_eqD hr.units) i_eq (de_call (G_least_free.mono (by decide)) hr (by rfl) tk_of (da_cons (de_var 3) (da_cons (de_var 4) (da_cons (de_var 4) da_nil)))) (de_tup da_nil) (nomark _))))))))
end L2.Lmp

set_option maxHeartbeats 4000000
namespace L2.Lmp
open PySem PySem.Spec PyProof.Rows
section
variable {p : List (List (List Int))} {h : DH} {E : EK} {Q : DK} {st : List Int} {x y z w : D}
theorem o_count_parts {x i : D} {y1 : D} (m : Odd x i) (q : E ⟨"BadPuzzle", some ("index", i)⟩ h) : F_count_parts [x, y1] h E Q := by
  simp only [↓e_count_parts, ↓e_mVar, ↓e_mK, ↓e_mOp1, ↓e_mOp2, ↓e_aNil, ↓e_aCons, ↓e_mTup, ↓e_mLst, ↓e_mLstM, ↓e_mIf, ↓e_tTru, ↓e_tNt, ↓e_tAnd2, ↓e_tOr2, ↓e_tOp2, ↓e_mChain, ↓e_tChain', ↓e_mAnd, ↓e_mOr, ↓e_mFld, ↓e_sFldD, ↓e_mMeth, ↓e_mMake, ↓e_mRev, revP_l, ↓e_mAndT, ↓e_mOrT, truP_lc, ↓e_mNot, ↓e_mCall, ↓e_mBlt, ↓e_oNo, ↓e_oSo, ↓e_mSl, ↓e_sPass, ↓e_sBrk, ↓e_sCnt, ↓e_sNever, ↓e_sSeq, ↓e_sAsg, ↓e_gNm, ↓e_gTu, ↓e_gsNil, ↓e_gsCons, ↓e_gSb, ↓e_sPar, ↓e_sExp, ↓e_sRt, ↓e_sRtN, ↓e_sIf, ↓e_sAug, ↓e_sFor, ↓e_sWh, ↓e_mComp, ↓e_mCompM, ↓e_tYs, ↓e_mkFn, ↓e_mApp, ↓e_itSeq, ↓e_itScr, ↓e_itEnum, ↓e_itZip, ↓e_itZip3, ↓e_itR1, ↓e_itR2, ↓e_itR3, ↓e_mDic0, ↓e_mDic1, ↓e_sPar3, ↓e_mAddM, ↓e_aStar, ↓e_mMulM, ↓e_sRaise0, ↓e_sRaise1, ↓e_mErr, ↓e_mCallV, starP_t, starP_l, slot_0, slot_1, slot_2, slot_3, slot_4, slot_5, slot_6, slot_7, slot_8, slot_9, slot_10, slot_11, slot_12, slot_13, slot_14, slot_15, slot_16, slot_17, slot_18, slot_19, slot_20, slot_21, slot_22, slot_23, slot_24, slot_25, slot_26, slot_27, slot_28, slot_29, slot_30, negP_i, ex3, ex2, wipeE, List.map_cons, List.map_nil, List.cons_append, List.nil_append, List.append_nil, List.length_cons, List.length_nil, List.replicate_succ, List.replicate_zero, List.set_cons_zero, List.set_cons_succ, Oc_some, Nat.reduceAdd, Nat.reduceSub, Nat.reduceLeDiff, Nat.zero_le, Int.toNat_natCast, Bool.or_false, Bool.or_true, Bool.or_self, Bool.false_or, Bool.true_or, decide_true, decide_false, Nat.zero_add, Nat.sub_self, Bool.true_eq_false, Bool.false_eq_true, if_true, if_false, ite_true, ite_false, true_and, and_true, addP_ii, subP_ii, mulP_ii, isiP_tup, isiP_lst, isiP_str, isiP_bl, isiP_int, isiP_tl, kd_non, kd_bl, kd_int, kd_str, kd_tup, kd_lst, isTup, isLst, isStr, isBl, isInt, eqP_ii, neP_ii, lenP_t, lenP_l, lenP_s, seqP_t, seqP_l, truP_b, ixP_t, ixP_l, slP_t, slP_l, tupleP_l, tupleP_t, addP_tt, modP_ii, divP_ii, exb, addLP_ll, min2_ii, max2_ii, exTup, exCons, exInt, iaddP_ii, leP_ii, gtP_ii, geP_ii, ltP_ii, intP_i, decide_eq_true_eq, Bool.not_eq_true', decide_eq_false_iff_not, Bool.not_true, Bool.not_false, List.cons_ne_nil, Nat.succ_ne_zero, reduceCtorEq]
  exact c_odd m q
theorem o_edge_counts {x i : D} (m : Odd x i) (q : E ⟨"BadPuzzle", some ("index", i)⟩ h) : F_edge_counts [x] h E Q := by
  simp only [↓e_edge_counts, ↓e_mVar, ↓e_mK, ↓e_mOp1, ↓e_mOp2, ↓e_aNil, ↓e_aCons, ↓e_mTup, ↓e_mLst, ↓e_mLstM, ↓e_mIf, ↓e_tTru, ↓e_tNt, ↓e_tAnd2, ↓e_tOr2, ↓e_tOp2, ↓e_mChain, ↓e_tChain', ↓e_mAnd, ↓e_mOr, ↓e_mFld, ↓e_sFldD, ↓e_mMeth, ↓e_mMake, ↓e_mRev, revP_l, ↓e_mAndT, ↓e_mOrT, truP_lc, ↓e_mNot, ↓e_mCall, ↓e_mBlt, ↓e_oNo, ↓e_oSo, ↓e_mSl, ↓e_sPass, ↓e_sBrk, ↓e_sCnt, ↓e_sNever, ↓e_sSeq, ↓e_sAsg, ↓e_gNm, ↓e_gTu, ↓e_gsNil, ↓e_gsCons, ↓e_gSb, ↓e_sPar, ↓e_sExp, ↓e_sRt, ↓e_sRtN, ↓e_sIf, ↓e_sAug, ↓e_sFor, ↓e_sWh, ↓e_mComp, ↓e_mCompM, ↓e_tYs, ↓e_mkFn, ↓e_mApp, ↓e_itSeq, ↓e_itScr, ↓e_itEnum, ↓e_itZip, ↓e_itZip3, ↓e_itR1, ↓e_itR2, ↓e_itR3, ↓e_mDic0, ↓e_mDic1, ↓e_sPar3, ↓e_mAddM, ↓e_aStar, ↓e_mMulM, ↓e_sRaise0, ↓e_sRaise1, ↓e_mErr, ↓e_mCallV, starP_t, starP_l, slot_0, slot_1, slot_2, slot_3, slot_4, slot_5, slot_6, slot_7, slot_8, slot_9, slot_10, slot_11, slot_12, slot_13, slot_14, slot_15, slot_16, slot_17, slot_18, slot_19, slot_20, slot_21, slot_22, slot_23, slot_24, slot_25, slot_26, slot_27, slot_28, slot_29, slot_30, negP_i, ex3, ex2, wipeE, List.map_cons, List.map_nil, List.cons_append, List.nil_append, List.append_nil, List.length_cons, List.length_nil, List.replicate_succ, List.replicate_zero, List.set_cons_zero, List.set_cons_succ, Oc_some, Nat.reduceAdd, Nat.reduceSub, Nat.reduceLeDiff, Nat.zero_le, Int.toNat_natCast, Bool.or_false, Bool.or_true, Bool.or_self, Bool.false_or, Bool.true_or, decide_true, decide_false, Nat.zero_add, Nat.sub_self, Bool.true_eq_false, Bool.false_eq_true, if_true, if_false, ite_true, ite_false, true_and, and_true, addP_ii, subP_ii, mulP_ii, isiP_tup, isiP_lst, isiP_str, isiP_bl, isiP_int, isiP_tl, kd_non, kd_bl, kd_int, kd_str, kd_tup, kd_lst, isTup, isLst, isStr, isBl, isInt, eqP_ii, neP_ii, lenP_t, lenP_l, lenP_s, seqP_t, seqP_l, truP_b, ixP_t, ixP_l, slP_t, slP_l, tupleP_l, tupleP_t, addP_tt, modP_ii, divP_ii, exb, addLP_ll, min2_ii, max2_ii, exTup, exCons, exInt, iaddP_ii, leP_ii, gtP_ii, geP_ii, ltP_ii, intP_i, decide_eq_true_eq, Bool.not_eq_true', decide_eq_false_iff_not, Bool.not_true, Bool.not_false, List.cons_ne_nil, Nat.succ_ne_zero, reduceCtorEq]
  exact c_odd m q
theorem sb_least_free {x : D} {y2 : D} (k : OkP p) (ky : kdW x = true) (b : wordB (setsP p) x = false) (q : E ⟨"BadState", none⟩ h) : F_least_free [tP p, x, y2] h E Q := by
  simp only [↓e_least_free, ↓e_need_two, ↓e_mVar, ↓e_mK, ↓e_mOp1, ↓e_mOp2, ↓e_aNil, ↓e_aCons, ↓e_mTup, ↓e_mLst, ↓e_mLstM, ↓e_mIf, ↓e_tTru, ↓e_tNt, ↓e_tAnd2, ↓e_tOr2, ↓e_tOp2, ↓e_mChain, ↓e_tChain', ↓e_mAnd, ↓e_mOr, ↓e_mFld, ↓e_sFldD, ↓e_mMeth, ↓e_mMake, ↓e_mRev, revP_l, ↓e_mAndT, ↓e_mOrT, truP_lc, ↓e_mNot, ↓e_mCall, ↓e_mBlt, ↓e_oNo, ↓e_oSo, ↓e_mSl, ↓e_sPass, ↓e_sBrk, ↓e_sCnt, ↓e_sNever, ↓e_sSeq, ↓e_sAsg, ↓e_gNm, ↓e_gTu, ↓e_gsNil, ↓e_gsCons, ↓e_gSb, ↓e_sPar, ↓e_sExp, ↓e_sRt, ↓e_sRtN, ↓e_sIf, ↓e_sAug, ↓e_sFor, ↓e_sWh, ↓e_mComp, ↓e_mCompM, ↓e_tYs, ↓e_mkFn, ↓e_mApp, ↓e_itSeq, ↓e_itScr, ↓e_itEnum, ↓e_itZip, ↓e_itZip3, ↓e_itR1, ↓e_itR2, ↓e_itR3, ↓e_mDic0, ↓e_mDic1, ↓e_sPar3, ↓e_mAddM, ↓e_aStar, ↓e_mMulM, ↓e_sRaise0, ↓e_sRaise1, ↓e_mErr, ↓e_mCallV, starP_t, starP_l, slot_0, slot_1, slot_2, slot_3, slot_4, slot_5, slot_6, slot_7, slot_8, slot_9, slot_10, slot_11, slot_12, slot_13, slot_14, slot_15, slot_16, slot_17, slot_18, slot_19, slot_20, slot_21, slot_22, slot_23, slot_24, slot_25, slot_26, slot_27, slot_28, slot_29, slot_30, negP_i, ex3, ex2, wipeE, List.map_cons, List.map_nil, List.cons_append, List.nil_append, List.append_nil, List.length_cons, List.length_nil, List.replicate_succ, List.replicate_zero, List.set_cons_zero, List.set_cons_succ, Oc_some, Nat.reduceAdd, Nat.reduceSub, Nat.reduceLeDiff, Nat.zero_le, Int.toNat_natCast, Bool.or_false, Bool.or_true, Bool.or_self, Bool.false_or, Bool.true_or, decide_true, decide_false, Nat.zero_add, Nat.sub_self, Bool.true_eq_false, Bool.false_eq_true, if_true, if_false, ite_true, ite_false, true_and, and_true, addP_ii, subP_ii, mulP_ii, isiP_tup, isiP_lst, isiP_str, isiP_bl, isiP_int, isiP_tl, kd_non, kd_bl, kd_int, kd_str, kd_tup, kd_lst, isTup, isLst, isStr, isBl, isInt, eqP_ii, neP_ii, lenP_t, lenP_l, lenP_s, seqP_t, seqP_l, truP_b, ixP_t, ixP_l, slP_t, slP_l, tupleP_l, tupleP_t, addP_tt, modP_ii, divP_ii, exb, addLP_ll, min2_ii, max2_ii, exTup, exCons, exInt, iaddP_ii, leP_ii, gtP_ii, geP_ii, ltP_ii, intP_i, decide_eq_true_eq, Bool.not_eq_true', decide_eq_false_iff_not, Bool.not_true, Bool.not_false, List.cons_ne_nil, Nat.succ_ne_zero, reduceCtorEq]
  refine c_need_puzzle k ?_
  (try simp only [↓e_mVar, ↓e_mK, ↓e_mOp1, ↓e_mOp2, ↓e_aNil, ↓e_aCons, ↓e_mTup, ↓e_mLst, ↓e_mLstM, ↓e_mIf, ↓e_tTru, ↓e_tNt, ↓e_tAnd2, ↓e_tOr2, ↓e_tOp2, ↓e_mChain, ↓e_tChain', ↓e_mAnd, ↓e_mOr, ↓e_mFld, ↓e_sFldD, ↓e_mMeth, ↓e_mMake, ↓e_mRev, revP_l, ↓e_mAndT, ↓e_mOrT, truP_lc, ↓e_mNot, ↓e_mCall, ↓e_mBlt, ↓e_oNo, ↓e_oSo, ↓e_mSl, ↓e_sPass, ↓e_sBrk, ↓e_sCnt, ↓e_sNever, ↓e_sSeq, ↓e_sAsg, ↓e_gNm, ↓e_gTu, ↓e_gsNil, ↓e_gsCons, ↓e_gSb, ↓e_sPar, ↓e_sExp, ↓e_sRt, ↓e_sRtN, ↓e_sIf, ↓e_sAug, ↓e_sFor, ↓e_sWh, ↓e_mComp, ↓e_mCompM, ↓e_tYs, ↓e_mkFn, ↓e_mApp, ↓e_itSeq, ↓e_itScr, ↓e_itEnum, ↓e_itZip, ↓e_itZip3, ↓e_itR1, ↓e_itR2, ↓e_itR3, ↓e_mDic0, ↓e_mDic1, ↓e_sPar3, ↓e_mAddM, ↓e_aStar, ↓e_mMulM, ↓e_sRaise0, ↓e_sRaise1, ↓e_mErr, ↓e_mCallV, starP_t, starP_l, slot_0, slot_1, slot_2, slot_3, slot_4, slot_5, slot_6, slot_7, slot_8, slot_9, slot_10, slot_11, slot_12, slot_13, slot_14, slot_15, slot_16, slot_17, slot_18, slot_19, slot_20, slot_21, slot_22, slot_23, slot_24, slot_25, slot_26, slot_27, slot_28, slot_29, slot_30, negP_i, ex3, ex2, wipeE, List.map_cons, List.map_nil, List.cons_append, List.nil_append, List.append_nil, List.length_cons, List.length_nil, List.replicate_succ, List.replicate_zero, List.set_cons_zero, List.set_cons_succ, Oc_some, Nat.reduceAdd, Nat.reduceSub, Nat.reduceLeDiff, Nat.zero_le, Int.toNat_natCast, Bool.or_false, Bool.or_true, Bool.or_self, Bool.false_or, Bool.true_or, decide_true, decide_false, Nat.zero_add, Nat.sub_self, Bool.true_eq_false, Bool.false_eq_true, if_true, if_false, ite_true, ite_false, true_and, and_true, addP_ii, subP_ii, mulP_ii, isiP_tup, isiP_lst, isiP_str, isiP_bl, isiP_int, isiP_tl, kd_non, kd_bl, kd_int, kd_str, kd_tup, kd_lst, isTup, isLst, isStr, isBl, isInt, eqP_ii, neP_ii, lenP_t, lenP_l, lenP_s, seqP_t, seqP_l, truP_b, ixP_t, ixP_l, slP_t, slP_l, tupleP_l, tupleP_t, addP_tt, modP_ii, divP_ii, exb, addLP_ll, min2_ii, max2_ii, exTup, exCons, exInt, iaddP_ii, leP_ii, gtP_ii, geP_ii, ltP_ii, intP_i, decide_eq_true_eq, Bool.not_eq_true', decide_eq_false_iff_not, Bool.not_true, Bool.not_false, List.cons_ne_nil, Nat.succ_ne_zero, reduceCtorEq])
  exact c_state_bad k ky b q
theorem tb_least_free {x z : D} (k : OkP p) (ky : kdW x = true) (b : wordB (setsP p) x = true) (kz : kdW z = true) (bz : wordB (setsP p) z = false) (q : E ⟨"BadState", none⟩ h) : F_least_free [tP p, x, z] h E Q := by
  simp only [↓e_least_free, ↓e_need_two, ↓e_mVar, ↓e_mK, ↓e_mOp1, ↓e_mOp2, ↓e_aNil, ↓e_aCons, ↓e_mTup, ↓e_mLst, ↓e_mLstM, ↓e_mIf, ↓e_tTru, ↓e_tNt, ↓e_tAnd2, ↓e_tOr2, ↓e_tOp2, ↓e_mChain, ↓e_tChain', ↓e_mAnd, ↓e_mOr, ↓e_mFld, ↓e_sFldD, ↓e_mMeth, ↓e_mMake, ↓e_mRev, revP_l, ↓e_mAndT, ↓e_mOrT, truP_lc, ↓e_mNot, ↓e_mCall, ↓e_mBlt, ↓e_oNo, ↓e_oSo, ↓e_mSl, ↓e_sPass, ↓e_sBrk, ↓e_sCnt, ↓e_sNever, ↓e_sSeq, ↓e_sAsg, ↓e_gNm, ↓e_gTu, ↓e_gsNil, ↓e_gsCons, ↓e_gSb, ↓e_sPar, ↓e_sExp, ↓e_sRt, ↓e_sRtN, ↓e_sIf, ↓e_sAug, ↓e_sFor, ↓e_sWh, ↓e_mComp, ↓e_mCompM, ↓e_tYs, ↓e_mkFn, ↓e_mApp, ↓e_itSeq, ↓e_itScr, ↓e_itEnum, ↓e_itZip, ↓e_itZip3, ↓e_itR1, ↓e_itR2, ↓e_itR3, ↓e_mDic0, ↓e_mDic1, ↓e_sPar3, ↓e_mAddM, ↓e_aStar, ↓e_mMulM, ↓e_sRaise0, ↓e_sRaise1, ↓e_mErr, ↓e_mCallV, starP_t, starP_l, slot_0, slot_1, slot_2, slot_3, slot_4, slot_5, slot_6, slot_7, slot_8, slot_9, slot_10, slot_11, slot_12, slot_13, slot_14, slot_15, slot_16, slot_17, slot_18, slot_19, slot_20, slot_21, slot_22, slot_23, slot_24, slot_25, slot_26, slot_27, slot_28, slot_29, slot_30, negP_i, ex3, ex2, wipeE, List.map_cons, List.map_nil, List.cons_append, List.nil_append, List.append_nil, List.length_cons, List.length_nil, List.replicate_succ, List.replicate_zero, List.set_cons_zero, List.set_cons_succ, Oc_some, Nat.reduceAdd, Nat.reduceSub, Nat.reduceLeDiff, Nat.zero_le, Int.toNat_natCast, Bool.or_false, Bool.or_true, Bool.or_self, Bool.false_or, Bool.true_or, decide_true, decide_false, Nat.zero_add, Nat.sub_self, Bool.true_eq_false, Bool.false_eq_true, if_true, if_false, ite_true, ite_false, true_and, and_true, addP_ii, subP_ii, mulP_ii, isiP_tup, isiP_lst, isiP_str, isiP_bl, isiP_int, isiP_tl, kd_non, kd_bl, kd_int, kd_str, kd_tup, kd_lst, isTup, isLst, isStr, isBl, isInt, eqP_ii, neP_ii, lenP_t, lenP_l, lenP_s, seqP_t, seqP_l, truP_b, ixP_t, ixP_l, slP_t, slP_l, tupleP_l, tupleP_t, addP_tt, modP_ii, divP_ii, exb, addLP_ll, min2_ii, max2_ii, exTup, exCons, exInt, iaddP_ii, leP_ii, gtP_ii, geP_ii, ltP_ii, intP_i, decide_eq_true_eq, Bool.not_eq_true', decide_eq_false_iff_not, Bool.not_true, Bool.not_false, List.cons_ne_nil, Nat.succ_ne_zero, reduceCtorEq]
  refine c_need_puzzle k ?_
  (try simp only [↓e_mVar, ↓e_mK, ↓e_mOp1, ↓e_mOp2, ↓e_aNil, ↓e_aCons, ↓e_mTup, ↓e_mLst, ↓e_mLstM, ↓e_mIf, ↓e_tTru, ↓e_tNt, ↓e_tAnd2, ↓e_tOr2, ↓e_tOp2, ↓e_mChain, ↓e_tChain', ↓e_mAnd, ↓e_mOr, ↓e_mFld, ↓e_sFldD, ↓e_mMeth, ↓e_mMake, ↓e_mRev, revP_l, ↓e_mAndT, ↓e_mOrT, truP_lc, ↓e_mNot, ↓e_mCall, ↓e_mBlt, ↓e_oNo, ↓e_oSo, ↓e_mSl, ↓e_sPass, ↓e_sBrk, ↓e_sCnt, ↓e_sNever, ↓e_sSeq, ↓e_sAsg, ↓e_gNm, ↓e_gTu, ↓e_gsNil, ↓e_gsCons, ↓e_gSb, ↓e_sPar, ↓e_sExp, ↓e_sRt, ↓e_sRtN, ↓e_sIf, ↓e_sAug, ↓e_sFor, ↓e_sWh, ↓e_mComp, ↓e_mCompM, ↓e_tYs, ↓e_mkFn, ↓e_mApp, ↓e_itSeq, ↓e_itScr, ↓e_itEnum, ↓e_itZip, ↓e_itZip3, ↓e_itR1, ↓e_itR2, ↓e_itR3, ↓e_mDic0, ↓e_mDic1, ↓e_sPar3, ↓e_mAddM, ↓e_aStar, ↓e_mMulM, ↓e_sRaise0, ↓e_sRaise1, ↓e_mErr, ↓e_mCallV, starP_t, starP_l, slot_0, slot_1, slot_2, slot_3, slot_4, slot_5, slot_6, slot_7, slot_8, slot_9, slot_10, slot_11, slot_12, slot_13, slot_14, slot_15, slot_16, slot_17, slot_18, slot_19, slot_20, slot_21, slot_22, slot_23, slot_24, slot_25, slot_26, slot_27, slot_28, slot_29, slot_30, negP_i, ex3, ex2, wipeE, List.map_cons, List.map_nil, List.cons_append, List.nil_append, List.append_nil, List.length_cons, List.length_nil, List.replicate_succ, List.replicate_zero, List.set_cons_zero, List.set_cons_succ, Oc_some, Nat.reduceAdd, Nat.reduceSub, Nat.reduceLeDiff, Nat.zero_le, Int.toNat_natCast, Bool.or_false, Bool.or_true, Bool.or_self, Bool.false_or, Bool.true_or, decide_true, decide_false, Nat.zero_add, Nat.sub_self, Bool.true_eq_false, Bool.false_eq_true, if_true, if_false, ite_true, ite_false, true_and, and_true, addP_ii, subP_ii, mulP_ii, isiP_tup, isiP_lst, isiP_str, isiP_bl, isiP_int, isiP_tl, kd_non, kd_bl, kd_int, kd_str, kd_tup, kd_lst, isTup, isLst, isStr, isBl, isInt, eqP_ii, neP_ii, lenP_t, lenP_l, lenP_s, seqP_t, seqP_l, truP_b, ixP_t, ixP_l, slP_t, slP_l, tupleP_l, tupleP_t, addP_tt, modP_ii, divP_ii, exb, addLP_ll, min2_ii, max2_ii, exTup, exCons, exInt, iaddP_ii, leP_ii, gtP_ii, geP_ii, ltP_ii, intP_i, decide_eq_true_eq, Bool.not_eq_true', decide_eq_false_iff_not, Bool.not_true, Bool.not_false, List.cons_ne_nil, Nat.succ_ne_zero, reduceCtorEq])
  refine c_state_ok k ky b ?_
  (try simp only [↓e_mVar, ↓e_mK, ↓e_mOp1, ↓e_mOp2, ↓e_aNil, ↓e_aCons, ↓e_mTup, ↓e_mLst, ↓e_mLstM, ↓e_mIf, ↓e_tTru, ↓e_tNt, ↓e_tAnd2, ↓e_tOr2, ↓e_tOp2, ↓e_mChain, ↓e_tChain', ↓e_mAnd, ↓e_mOr, ↓e_mFld, ↓e_sFldD, ↓e_mMeth, ↓e_mMake, ↓e_mRev, revP_l, ↓e_mAndT, ↓e_mOrT, truP_lc, ↓e_mNot, ↓e_mCall, ↓e_mBlt, ↓e_oNo, ↓e_oSo, ↓e_mSl, ↓e_sPass, ↓e_sBrk, ↓e_sCnt, ↓e_sNever, ↓e_sSeq, ↓e_sAsg, ↓e_gNm, ↓e_gTu, ↓e_gsNil, ↓e_gsCons, ↓e_gSb, ↓e_sPar, ↓e_sExp, ↓e_sRt, ↓e_sRtN, ↓e_sIf, ↓e_sAug, ↓e_sFor, ↓e_sWh, ↓e_mComp, ↓e_mCompM, ↓e_tYs, ↓e_mkFn, ↓e_mApp, ↓e_itSeq, ↓e_itScr, ↓e_itEnum, ↓e_itZip, ↓e_itZip3, ↓e_itR1, ↓e_itR2, ↓e_itR3, ↓e_mDic0, ↓e_mDic1, ↓e_sPar3, ↓e_mAddM, ↓e_aStar, ↓e_mMulM, ↓e_sRaise0, ↓e_sRaise1, ↓e_mErr, ↓e_mCallV, starP_t, starP_l, slot_0, slot_1, slot_2, slot_3, slot_4, slot_5, slot_6, slot_7, slot_8, slot_9, slot_10, slot_11, slot_12, slot_13, slot_14, slot_15, slot_16, slot_17, slot_18, slot_19, slot_20, slot_21, slot_22, slot_23, slot_24, slot_25, slot_26, slot_27, slot_28, slot_29, slot_30, negP_i, ex3, ex2, wipeE, List.map_cons, List.map_nil, List.cons_append, List.nil_append, List.append_nil, List.length_cons, List.length_nil, List.replicate_succ, List.replicate_zero, List.set_cons_zero, List.set_cons_succ, Oc_some, Nat.reduceAdd, Nat.reduceSub, Nat.reduceLeDiff, Nat.zero_le, Int.toNat_natCast, Bool.or_false, Bool.or_true, Bool.or_self, Bool.false_or, Bool.true_or, decide_true, decide_false, Nat.zero_add, Nat.sub_self, Bool.true_eq_false, Bool.false_eq_true, if_true, if_false, ite_true, ite_false, true_and, and_true, addP_ii, subP_ii, mulP_ii, isiP_tup, isiP_lst, isiP_str, isiP_bl, isiP_int, isiP_tl, kd_non, kd_bl, kd_int, kd_str, kd_tup, kd_lst, isTup, isLst, isStr, isBl, isInt, eqP_ii, neP_ii, lenP_t, lenP_l, lenP_s, seqP_t, seqP_l, truP_b, ixP_t, ixP_l, slP_t, slP_l, tupleP_l, tupleP_t, addP_tt, modP_ii, divP_ii, exb, addLP_ll, min2_ii, max2_ii, exTup, exCons, exInt, iaddP_ii, leP_ii, gtP_ii, geP_ii, ltP_ii, intP_i, decide_eq_true_eq, Bool.not_eq_true', decide_eq_false_iff_not, Bool.not_true, Bool.not_false, List.cons_ne_nil, Nat.succ_ne_zero, reduceCtorEq])
  exact c_state_bad k kz bz q
theorem hb_count_parts (k : OkP p) (m : Hbad p x) (q : E ⟨"BadHeld", none⟩ h) : F_count_parts [tP p, x] h E Q := by
  simp only [↓e_count_parts, ↓e_mVar, ↓e_mK, ↓e_mOp1, ↓e_mOp2, ↓e_aNil, ↓e_aCons, ↓e_mTup, ↓e_mLst, ↓e_mLstM, ↓e_mIf, ↓e_tTru, ↓e_tNt, ↓e_tAnd2, ↓e_tOr2, ↓e_tOp2, ↓e_mChain, ↓e_tChain', ↓e_mAnd, ↓e_mOr, ↓e_mFld, ↓e_sFldD, ↓e_mMeth, ↓e_mMake, ↓e_mRev, revP_l, ↓e_mAndT, ↓e_mOrT, truP_lc, ↓e_mNot, ↓e_mCall, ↓e_mBlt, ↓e_oNo, ↓e_oSo, ↓e_mSl, ↓e_sPass, ↓e_sBrk, ↓e_sCnt, ↓e_sNever, ↓e_sSeq, ↓e_sAsg, ↓e_gNm, ↓e_gTu, ↓e_gsNil, ↓e_gsCons, ↓e_gSb, ↓e_sPar, ↓e_sExp, ↓e_sRt, ↓e_sRtN, ↓e_sIf, ↓e_sAug, ↓e_sFor, ↓e_sWh, ↓e_mComp, ↓e_mCompM, ↓e_tYs, ↓e_mkFn, ↓e_mApp, ↓e_itSeq, ↓e_itScr, ↓e_itEnum, ↓e_itZip, ↓e_itZip3, ↓e_itR1, ↓e_itR2, ↓e_itR3, ↓e_mDic0, ↓e_mDic1, ↓e_sPar3, ↓e_mAddM, ↓e_aStar, ↓e_mMulM, ↓e_sRaise0, ↓e_sRaise1, ↓e_mErr, ↓e_mCallV, starP_t, starP_l, slot_0, slot_1, slot_2, slot_3, slot_4, slot_5, slot_6, slot_7, slot_8, slot_9, slot_10, slot_11, slot_12, slot_13, slot_14, slot_15, slot_16, slot_17, slot_18, slot_19, slot_20, slot_21, slot_22, slot_23, slot_24, slot_25, slot_26, slot_27, slot_28, slot_29, slot_30, negP_i, ex3, ex2, wipeE, List.map_cons, List.map_nil, List.cons_append, List.nil_append, List.append_nil, List.length_cons, List.length_nil, List.replicate_succ, List.replicate_zero, List.set_cons_zero, List.set_cons_succ, Oc_some, Nat.reduceAdd, Nat.reduceSub, Nat.reduceLeDiff, Nat.zero_le, Int.toNat_natCast, Bool.or_false, Bool.or_true, Bool.or_self, Bool.false_or, Bool.true_or, decide_true, decide_false, Nat.zero_add, Nat.sub_self, Bool.true_eq_false, Bool.false_eq_true, if_true, if_false, ite_true, ite_false, true_and, and_true, addP_ii, subP_ii, mulP_ii, isiP_tup, isiP_lst, isiP_str, isiP_bl, isiP_int, isiP_tl, kd_non, kd_bl, kd_int, kd_str, kd_tup, kd_lst, isTup, isLst, isStr, isBl, isInt, eqP_ii, neP_ii, lenP_t, lenP_l, lenP_s, seqP_t, seqP_l, truP_b, ixP_t, ixP_l, slP_t, slP_l, tupleP_l, tupleP_t, addP_tt, modP_ii, divP_ii, exb, addLP_ll, min2_ii, max2_ii, exTup, exCons, exInt, iaddP_ii, leP_ii, gtP_ii, geP_ii, ltP_ii, intP_i, decide_eq_true_eq, Bool.not_eq_true', decide_eq_false_iff_not, Bool.not_true, Bool.not_false, List.cons_ne_nil, Nat.succ_ne_zero, reduceCtorEq]
  refine c_need_puzzle k ?_
  (try simp only [↓e_mVar, ↓e_mK, ↓e_mOp1, ↓e_mOp2, ↓e_aNil, ↓e_aCons, ↓e_mTup, ↓e_mLst, ↓e_mLstM, ↓e_mIf, ↓e_tTru, ↓e_tNt, ↓e_tAnd2, ↓e_tOr2, ↓e_tOp2, ↓e_mChain, ↓e_tChain', ↓e_mAnd, ↓e_mOr, ↓e_mFld, ↓e_sFldD, ↓e_mMeth, ↓e_mMake, ↓e_mRev, revP_l, ↓e_mAndT, ↓e_mOrT, truP_lc, ↓e_mNot, ↓e_mCall, ↓e_mBlt, ↓e_oNo, ↓e_oSo, ↓e_mSl, ↓e_sPass, ↓e_sBrk, ↓e_sCnt, ↓e_sNever, ↓e_sSeq, ↓e_sAsg, ↓e_gNm, ↓e_gTu, ↓e_gsNil, ↓e_gsCons, ↓e_gSb, ↓e_sPar, ↓e_sExp, ↓e_sRt, ↓e_sRtN, ↓e_sIf, ↓e_sAug, ↓e_sFor, ↓e_sWh, ↓e_mComp, ↓e_mCompM, ↓e_tYs, ↓e_mkFn, ↓e_mApp, ↓e_itSeq, ↓e_itScr, ↓e_itEnum, ↓e_itZip, ↓e_itZip3, ↓e_itR1, ↓e_itR2, ↓e_itR3, ↓e_mDic0, ↓e_mDic1, ↓e_sPar3, ↓e_mAddM, ↓e_aStar, ↓e_mMulM, ↓e_sRaise0, ↓e_sRaise1, ↓e_mErr, ↓e_mCallV, starP_t, starP_l, slot_0, slot_1, slot_2, slot_3, slot_4, slot_5, slot_6, slot_7, slot_8, slot_9, slot_10, slot_11, slot_12, slot_13, slot_14, slot_15, slot_16, slot_17, slot_18, slot_19, slot_20, slot_21, slot_22, slot_23, slot_24, slot_25, slot_26, slot_27, slot_28, slot_29, slot_30, negP_i, ex3, ex2, wipeE, List.map_cons, List.map_nil, List.cons_append, List.nil_append, List.append_nil, List.length_cons, List.length_nil, List.replicate_succ, List.replicate_zero, List.set_cons_zero, List.set_cons_succ, Oc_some, Nat.reduceAdd, Nat.reduceSub, Nat.reduceLeDiff, Nat.zero_le, Int.toNat_natCast, Bool.or_false, Bool.or_true, Bool.or_self, Bool.false_or, Bool.true_or, decide_true, decide_false, Nat.zero_add, Nat.sub_self, Bool.true_eq_false, Bool.false_eq_true, if_true, if_false, ite_true, ite_false, true_and, and_true, addP_ii, subP_ii, mulP_ii, isiP_tup, isiP_lst, isiP_str, isiP_bl, isiP_int, isiP_tl, kd_non, kd_bl, kd_int, kd_str, kd_tup, kd_lst, isTup, isLst, isStr, isBl, isInt, eqP_ii, neP_ii, lenP_t, lenP_l, lenP_s, seqP_t, seqP_l, truP_b, ixP_t, ixP_l, slP_t, slP_l, tupleP_l, tupleP_t, addP_tt, modP_ii, divP_ii, exb, addLP_ll, min2_ii, max2_ii, exTup, exCons, exInt, iaddP_ii, leP_ii, gtP_ii, geP_ii, ltP_ii, intP_i, decide_eq_true_eq, Bool.not_eq_true', decide_eq_false_iff_not, Bool.not_true, Bool.not_false, List.cons_ne_nil, Nat.succ_ne_zero, reduceCtorEq])
  exact c_held_bad m k.2.2 q
theorem hb_part_size (k : OkP p) (m : Hbad p x) (q : E ⟨"BadHeld", none⟩ h) : F_part_size [tP p, x, y] h E Q := by
  simp only [↓e_part_size, ↓e_mVar, ↓e_mK, ↓e_mOp1, ↓e_mOp2, ↓e_aNil, ↓e_aCons, ↓e_mTup, ↓e_mLst, ↓e_mLstM, ↓e_mIf, ↓e_tTru, ↓e_tNt, ↓e_tAnd2, ↓e_tOr2, ↓e_tOp2, ↓e_mChain, ↓e_tChain', ↓e_mAnd, ↓e_mOr, ↓e_mFld, ↓e_sFldD, ↓e_mMeth, ↓e_mMake, ↓e_mRev, revP_l, ↓e_mAndT, ↓e_mOrT, truP_lc, ↓e_mNot, ↓e_mCall, ↓e_mBlt, ↓e_oNo, ↓e_oSo, ↓e_mSl, ↓e_sPass, ↓e_sBrk, ↓e_sCnt, ↓e_sNever, ↓e_sSeq, ↓e_sAsg, ↓e_gNm, ↓e_gTu, ↓e_gsNil, ↓e_gsCons, ↓e_gSb, ↓e_sPar, ↓e_sExp, ↓e_sRt, ↓e_sRtN, ↓e_sIf, ↓e_sAug, ↓e_sFor, ↓e_sWh, ↓e_mComp, ↓e_mCompM, ↓e_tYs, ↓e_mkFn, ↓e_mApp, ↓e_itSeq, ↓e_itScr, ↓e_itEnum, ↓e_itZip, ↓e_itZip3, ↓e_itR1, ↓e_itR2, ↓e_itR3, ↓e_mDic0, ↓e_mDic1, ↓e_sPar3, ↓e_mAddM, ↓e_aStar, ↓e_mMulM, ↓e_sRaise0, ↓e_sRaise1, ↓e_mErr, ↓e_mCallV, starP_t, starP_l, slot_0, slot_1, slot_2, slot_3, slot_4, slot_5, slot_6, slot_7, slot_8, slot_9, slot_10, slot_11, slot_12, slot_13, slot_14, slot_15, slot_16, slot_17, slot_18, slot_19, slot_20, slot_21, slot_22, slot_23, slot_24, slot_25, slot_26, slot_27, slot_28, slot_29, slot_30, negP_i, ex3, ex2, wipeE, List.map_cons, List.map_nil, List.cons_append, List.nil_append, List.append_nil, List.length_cons, List.length_nil, List.replicate_succ, List.replicate_zero, List.set_cons_zero, List.set_cons_succ, Oc_some, Nat.reduceAdd, Nat.reduceSub, Nat.reduceLeDiff, Nat.zero_le, Int.toNat_natCast, Bool.or_false, Bool.or_true, Bool.or_self, Bool.false_or, Bool.true_or, decide_true, decide_false, Nat.zero_add, Nat.sub_self, Bool.true_eq_false, Bool.false_eq_true, if_true, if_false, ite_true, ite_false, true_and, and_true, addP_ii, subP_ii, mulP_ii, isiP_tup, isiP_lst, isiP_str, isiP_bl, isiP_int, isiP_tl, kd_non, kd_bl, kd_int, kd_str, kd_tup, kd_lst, isTup, isLst, isStr, isBl, isInt, eqP_ii, neP_ii, lenP_t, lenP_l, lenP_s, seqP_t, seqP_l, truP_b, ixP_t, ixP_l, slP_t, slP_l, tupleP_l, tupleP_t, addP_tt, modP_ii, divP_ii, exb, addLP_ll, min2_ii, max2_ii, exTup, exCons, exInt, iaddP_ii, leP_ii, gtP_ii, geP_ii, ltP_ii, intP_i, decide_eq_true_eq, Bool.not_eq_true', decide_eq_false_iff_not, Bool.not_true, Bool.not_false, List.cons_ne_nil, Nat.succ_ne_zero, reduceCtorEq]
  refine c_need_puzzle k ?_
  (try simp only [↓e_mVar, ↓e_mK, ↓e_mOp1, ↓e_mOp2, ↓e_aNil, ↓e_aCons, ↓e_mTup, ↓e_mLst, ↓e_mLstM, ↓e_mIf, ↓e_tTru, ↓e_tNt, ↓e_tAnd2, ↓e_tOr2, ↓e_tOp2, ↓e_mChain, ↓e_tChain', ↓e_mAnd, ↓e_mOr, ↓e_mFld, ↓e_sFldD, ↓e_mMeth, ↓e_mMake, ↓e_mRev, revP_l, ↓e_mAndT, ↓e_mOrT, truP_lc, ↓e_mNot, ↓e_mCall, ↓e_mBlt, ↓e_oNo, ↓e_oSo, ↓e_mSl, ↓e_sPass, ↓e_sBrk, ↓e_sCnt, ↓e_sNever, ↓e_sSeq, ↓e_sAsg, ↓e_gNm, ↓e_gTu, ↓e_gsNil, ↓e_gsCons, ↓e_gSb, ↓e_sPar, ↓e_sExp, ↓e_sRt, ↓e_sRtN, ↓e_sIf, ↓e_sAug, ↓e_sFor, ↓e_sWh, ↓e_mComp, ↓e_mCompM, ↓e_tYs, ↓e_mkFn, ↓e_mApp, ↓e_itSeq, ↓e_itScr, ↓e_itEnum, ↓e_itZip, ↓e_itZip3, ↓e_itR1, ↓e_itR2, ↓e_itR3, ↓e_mDic0, ↓e_mDic1, ↓e_sPar3, ↓e_mAddM, ↓e_aStar, ↓e_mMulM, ↓e_sRaise0, ↓e_sRaise1, ↓e_mErr, ↓e_mCallV, starP_t, starP_l, slot_0, slot_1, slot_2, slot_3, slot_4, slot_5, slot_6, slot_7, slot_8, slot_9, slot_10, slot_11, slot_12, slot_13, slot_14, slot_15, slot_16, slot_17, slot_18, slot_19, slot_20, slot_21, slot_22, slot_23, slot_24, slot_25, slot_26, slot_27, slot_28, slot_29, slot_30, negP_i, ex3, ex2, wipeE, List.map_cons, List.map_nil, List.cons_append, List.nil_append, List.append_nil, List.length_cons, List.length_nil, List.replicate_succ, List.replicate_zero, List.set_cons_zero, List.set_cons_succ, Oc_some, Nat.reduceAdd, Nat.reduceSub, Nat.reduceLeDiff, Nat.zero_le, Int.toNat_natCast, Bool.or_false, Bool.or_true, Bool.or_self, Bool.false_or, Bool.true_or, decide_true, decide_false, Nat.zero_add, Nat.sub_self, Bool.true_eq_false, Bool.false_eq_true, if_true, if_false, ite_true, ite_false, true_and, and_true, addP_ii, subP_ii, mulP_ii, isiP_tup, isiP_lst, isiP_str, isiP_bl, isiP_int, isiP_tl, kd_non, kd_bl, kd_int, kd_str, kd_tup, kd_lst, isTup, isLst, isStr, isBl, isInt, eqP_ii, neP_ii, lenP_t, lenP_l, lenP_s, seqP_t, seqP_l, truP_b, ixP_t, ixP_l, slP_t, slP_l, tupleP_l, tupleP_t, addP_tt, modP_ii, divP_ii, exb, addLP_ll, min2_ii, max2_ii, exTup, exCons, exInt, iaddP_ii, leP_ii, gtP_ii, geP_ii, ltP_ii, intP_i, decide_eq_true_eq, Bool.not_eq_true', decide_eq_false_iff_not, Bool.not_true, Bool.not_false, List.cons_ne_nil, Nat.succ_ne_zero, reduceCtorEq])
  exact c_held_bad m k.2.2 q
theorem hb_can_come (k : OkP p) (m : Hbad p x) (q : E ⟨"BadHeld", none⟩ h) : F_can_come [tP p, x, y, z] h E Q := by
  simp only [↓e_can_come, ↓e_mVar, ↓e_mK, ↓e_mOp1, ↓e_mOp2, ↓e_aNil, ↓e_aCons, ↓e_mTup, ↓e_mLst, ↓e_mLstM, ↓e_mIf, ↓e_tTru, ↓e_tNt, ↓e_tAnd2, ↓e_tOr2, ↓e_tOp2, ↓e_mChain, ↓e_tChain', ↓e_mAnd, ↓e_mOr, ↓e_mFld, ↓e_sFldD, ↓e_mMeth, ↓e_mMake, ↓e_mRev, revP_l, ↓e_mAndT, ↓e_mOrT, truP_lc, ↓e_mNot, ↓e_mCall, ↓e_mBlt, ↓e_oNo, ↓e_oSo, ↓e_mSl, ↓e_sPass, ↓e_sBrk, ↓e_sCnt, ↓e_sNever, ↓e_sSeq, ↓e_sAsg, ↓e_gNm, ↓e_gTu, ↓e_gsNil, ↓e_gsCons, ↓e_gSb, ↓e_sPar, ↓e_sExp, ↓e_sRt, ↓e_sRtN, ↓e_sIf, ↓e_sAug, ↓e_sFor, ↓e_sWh, ↓e_mComp, ↓e_mCompM, ↓e_tYs, ↓e_mkFn, ↓e_mApp, ↓e_itSeq, ↓e_itScr, ↓e_itEnum, ↓e_itZip, ↓e_itZip3, ↓e_itR1, ↓e_itR2, ↓e_itR3, ↓e_mDic0, ↓e_mDic1, ↓e_sPar3, ↓e_mAddM, ↓e_aStar, ↓e_mMulM, ↓e_sRaise0, ↓e_sRaise1, ↓e_mErr, ↓e_mCallV, starP_t, starP_l, slot_0, slot_1, slot_2, slot_3, slot_4, slot_5, slot_6, slot_7, slot_8, slot_9, slot_10, slot_11, slot_12, slot_13, slot_14, slot_15, slot_16, slot_17, slot_18, slot_19, slot_20, slot_21, slot_22, slot_23, slot_24, slot_25, slot_26, slot_27, slot_28, slot_29, slot_30, negP_i, ex3, ex2, wipeE, List.map_cons, List.map_nil, List.cons_append, List.nil_append, List.append_nil, List.length_cons, List.length_nil, List.replicate_succ, List.replicate_zero, List.set_cons_zero, List.set_cons_succ, Oc_some, Nat.reduceAdd, Nat.reduceSub, Nat.reduceLeDiff, Nat.zero_le, Int.toNat_natCast, Bool.or_false, Bool.or_true, Bool.or_self, Bool.false_or, Bool.true_or, decide_true, decide_false, Nat.zero_add, Nat.sub_self, Bool.true_eq_false, Bool.false_eq_true, if_true, if_false, ite_true, ite_false, true_and, and_true, addP_ii, subP_ii, mulP_ii, isiP_tup, isiP_lst, isiP_str, isiP_bl, isiP_int, isiP_tl, kd_non, kd_bl, kd_int, kd_str, kd_tup, kd_lst, isTup, isLst, isStr, isBl, isInt, eqP_ii, neP_ii, lenP_t, lenP_l, lenP_s, seqP_t, seqP_l, truP_b, ixP_t, ixP_l, slP_t, slP_l, tupleP_l, tupleP_t, addP_tt, modP_ii, divP_ii, exb, addLP_ll, min2_ii, max2_ii, exTup, exCons, exInt, iaddP_ii, leP_ii, gtP_ii, geP_ii, ltP_ii, intP_i, decide_eq_true_eq, Bool.not_eq_true', decide_eq_false_iff_not, Bool.not_true, Bool.not_false, List.cons_ne_nil, Nat.succ_ne_zero, reduceCtorEq]
  refine c_need_puzzle k ?_
  (try simp only [↓e_mVar, ↓e_mK, ↓e_mOp1, ↓e_mOp2, ↓e_aNil, ↓e_aCons, ↓e_mTup, ↓e_mLst, ↓e_mLstM, ↓e_mIf, ↓e_tTru, ↓e_tNt, ↓e_tAnd2, ↓e_tOr2, ↓e_tOp2, ↓e_mChain, ↓e_tChain', ↓e_mAnd, ↓e_mOr, ↓e_mFld, ↓e_sFldD, ↓e_mMeth, ↓e_mMake, ↓e_mRev, revP_l, ↓e_mAndT, ↓e_mOrT, truP_lc, ↓e_mNot, ↓e_mCall, ↓e_mBlt, ↓e_oNo, ↓e_oSo, ↓e_mSl, ↓e_sPass, ↓e_sBrk, ↓e_sCnt, ↓e_sNever, ↓e_sSeq, ↓e_sAsg, ↓e_gNm, ↓e_gTu, ↓e_gsNil, ↓e_gsCons, ↓e_gSb, ↓e_sPar, ↓e_sExp, ↓e_sRt, ↓e_sRtN, ↓e_sIf, ↓e_sAug, ↓e_sFor, ↓e_sWh, ↓e_mComp, ↓e_mCompM, ↓e_tYs, ↓e_mkFn, ↓e_mApp, ↓e_itSeq, ↓e_itScr, ↓e_itEnum, ↓e_itZip, ↓e_itZip3, ↓e_itR1, ↓e_itR2, ↓e_itR3, ↓e_mDic0, ↓e_mDic1, ↓e_sPar3, ↓e_mAddM, ↓e_aStar, ↓e_mMulM, ↓e_sRaise0, ↓e_sRaise1, ↓e_mErr, ↓e_mCallV, starP_t, starP_l, slot_0, slot_1, slot_2, slot_3, slot_4, slot_5, slot_6, slot_7, slot_8, slot_9, slot_10, slot_11, slot_12, slot_13, slot_14, slot_15, slot_16, slot_17, slot_18, slot_19, slot_20, slot_21, slot_22, slot_23, slot_24, slot_25, slot_26, slot_27, slot_28, slot_29, slot_30, negP_i, ex3, ex2, wipeE, List.map_cons, List.map_nil, List.cons_append, List.nil_append, List.append_nil, List.length_cons, List.length_nil, List.replicate_succ, List.replicate_zero, List.set_cons_zero, List.set_cons_succ, Oc_some, Nat.reduceAdd, Nat.reduceSub, Nat.reduceLeDiff, Nat.zero_le, Int.toNat_natCast, Bool.or_false, Bool.or_true, Bool.or_self, Bool.false_or, Bool.true_or, decide_true, decide_false, Nat.zero_add, Nat.sub_self, Bool.true_eq_false, Bool.false_eq_true, if_true, if_false, ite_true, ite_false, true_and, and_true, addP_ii, subP_ii, mulP_ii, isiP_tup, isiP_lst, isiP_str, isiP_bl, isiP_int, isiP_tl, kd_non, kd_bl, kd_int, kd_str, kd_tup, kd_lst, isTup, isLst, isStr, isBl, isInt, eqP_ii, neP_ii, lenP_t, lenP_l, lenP_s, seqP_t, seqP_l, truP_b, ixP_t, ixP_l, slP_t, slP_l, tupleP_l, tupleP_t, addP_tt, modP_ii, divP_ii, exb, addLP_ll, min2_ii, max2_ii, exTup, exCons, exInt, iaddP_ii, leP_ii, gtP_ii, geP_ii, ltP_ii, intP_i, decide_eq_true_eq, Bool.not_eq_true', decide_eq_false_iff_not, Bool.not_true, Bool.not_false, List.cons_ne_nil, Nat.succ_ne_zero, reduceCtorEq])
  exact c_held_bad m k.2.2 q
theorem hs_part_size (k : OkP p) (ky : kdW y = true) (b : wordB (setsP p) y = false) (q : E ⟨"BadState", none⟩ h) : F_part_size [tP p, .tup [], y] h E Q := by
  simp only [↓e_part_size, ↓e_mVar, ↓e_mK, ↓e_mOp1, ↓e_mOp2, ↓e_aNil, ↓e_aCons, ↓e_mTup, ↓e_mLst, ↓e_mLstM, ↓e_mIf, ↓e_tTru, ↓e_tNt, ↓e_tAnd2, ↓e_tOr2, ↓e_tOp2, ↓e_mChain, ↓e_tChain', ↓e_mAnd, ↓e_mOr, ↓e_mFld, ↓e_sFldD, ↓e_mMeth, ↓e_mMake, ↓e_mRev, revP_l, ↓e_mAndT, ↓e_mOrT, truP_lc, ↓e_mNot, ↓e_mCall, ↓e_mBlt, ↓e_oNo, ↓e_oSo, ↓e_mSl, ↓e_sPass, ↓e_sBrk, ↓e_sCnt, ↓e_sNever, ↓e_sSeq, ↓e_sAsg, ↓e_gNm, ↓e_gTu, ↓e_gsNil, ↓e_gsCons, ↓e_gSb, ↓e_sPar, ↓e_sExp, ↓e_sRt, ↓e_sRtN, ↓e_sIf, ↓e_sAug, ↓e_sFor, ↓e_sWh, ↓e_mComp, ↓e_mCompM, ↓e_tYs, ↓e_mkFn, ↓e_mApp, ↓e_itSeq, ↓e_itScr, ↓e_itEnum, ↓e_itZip, ↓e_itZip3, ↓e_itR1, ↓e_itR2, ↓e_itR3, ↓e_mDic0, ↓e_mDic1, ↓e_sPar3, ↓e_mAddM, ↓e_aStar, ↓e_mMulM, ↓e_sRaise0, ↓e_sRaise1, ↓e_mErr, ↓e_mCallV, starP_t, starP_l, slot_0, slot_1, slot_2, slot_3, slot_4, slot_5, slot_6, slot_7, slot_8, slot_9, slot_10, slot_11, slot_12, slot_13, slot_14, slot_15, slot_16, slot_17, slot_18, slot_19, slot_20, slot_21, slot_22, slot_23, slot_24, slot_25, slot_26, slot_27, slot_28, slot_29, slot_30, negP_i, ex3, ex2, wipeE, List.map_cons, List.map_nil, List.cons_append, List.nil_append, List.append_nil, List.length_cons, List.length_nil, List.replicate_succ, List.replicate_zero, List.set_cons_zero, List.set_cons_succ, Oc_some, Nat.reduceAdd, Nat.reduceSub, Nat.reduceLeDiff, Nat.zero_le, Int.toNat_natCast, Bool.or_false, Bool.or_true, Bool.or_self, Bool.false_or, Bool.true_or, decide_true, decide_false, Nat.zero_add, Nat.sub_self, Bool.true_eq_false, Bool.false_eq_true, if_true, if_false, ite_true, ite_false, true_and, and_true, addP_ii, subP_ii, mulP_ii, isiP_tup, isiP_lst, isiP_str, isiP_bl, isiP_int, isiP_tl, kd_non, kd_bl, kd_int, kd_str, kd_tup, kd_lst, isTup, isLst, isStr, isBl, isInt, eqP_ii, neP_ii, lenP_t, lenP_l, lenP_s, seqP_t, seqP_l, truP_b, ixP_t, ixP_l, slP_t, slP_l, tupleP_l, tupleP_t, addP_tt, modP_ii, divP_ii, exb, addLP_ll, min2_ii, max2_ii, exTup, exCons, exInt, iaddP_ii, leP_ii, gtP_ii, geP_ii, ltP_ii, intP_i, decide_eq_true_eq, Bool.not_eq_true', decide_eq_false_iff_not, Bool.not_true, Bool.not_false, List.cons_ne_nil, Nat.succ_ne_zero, reduceCtorEq]
  refine c_need_puzzle k ?_
  (try simp only [↓e_mVar, ↓e_mK, ↓e_mOp1, ↓e_mOp2, ↓e_aNil, ↓e_aCons, ↓e_mTup, ↓e_mLst, ↓e_mLstM, ↓e_mIf, ↓e_tTru, ↓e_tNt, ↓e_tAnd2, ↓e_tOr2, ↓e_tOp2, ↓e_mChain, ↓e_tChain', ↓e_mAnd, ↓e_mOr, ↓e_mFld, ↓e_sFldD, ↓e_mMeth, ↓e_mMake, ↓e_mRev, revP_l, ↓e_mAndT, ↓e_mOrT, truP_lc, ↓e_mNot, ↓e_mCall, ↓e_mBlt, ↓e_oNo, ↓e_oSo, ↓e_mSl, ↓e_sPass, ↓e_sBrk, ↓e_sCnt, ↓e_sNever, ↓e_sSeq, ↓e_sAsg, ↓e_gNm, ↓e_gTu, ↓e_gsNil, ↓e_gsCons, ↓e_gSb, ↓e_sPar, ↓e_sExp, ↓e_sRt, ↓e_sRtN, ↓e_sIf, ↓e_sAug, ↓e_sFor, ↓e_sWh, ↓e_mComp, ↓e_mCompM, ↓e_tYs, ↓e_mkFn, ↓e_mApp, ↓e_itSeq, ↓e_itScr, ↓e_itEnum, ↓e_itZip, ↓e_itZip3, ↓e_itR1, ↓e_itR2, ↓e_itR3, ↓e_mDic0, ↓e_mDic1, ↓e_sPar3, ↓e_mAddM, ↓e_aStar, ↓e_mMulM, ↓e_sRaise0, ↓e_sRaise1, ↓e_mErr, ↓e_mCallV, starP_t, starP_l, slot_0, slot_1, slot_2, slot_3, slot_4, slot_5, slot_6, slot_7, slot_8, slot_9, slot_10, slot_11, slot_12, slot_13, slot_14, slot_15, slot_16, slot_17, slot_18, slot_19, slot_20, slot_21, slot_22, slot_23, slot_24, slot_25, slot_26, slot_27, slot_28, slot_29, slot_30, negP_i, ex3, ex2, wipeE, List.map_cons, List.map_nil, List.cons_append, List.nil_append, List.append_nil, List.length_cons, List.length_nil, List.replicate_succ, List.replicate_zero, List.set_cons_zero, List.set_cons_succ, Oc_some, Nat.reduceAdd, Nat.reduceSub, Nat.reduceLeDiff, Nat.zero_le, Int.toNat_natCast, Bool.or_false, Bool.or_true, Bool.or_self, Bool.false_or, Bool.true_or, decide_true, decide_false, Nat.zero_add, Nat.sub_self, Bool.true_eq_false, Bool.false_eq_true, if_true, if_false, ite_true, ite_false, true_and, and_true, addP_ii, subP_ii, mulP_ii, isiP_tup, isiP_lst, isiP_str, isiP_bl, isiP_int, isiP_tl, kd_non, kd_bl, kd_int, kd_str, kd_tup, kd_lst, isTup, isLst, isStr, isBl, isInt, eqP_ii, neP_ii, lenP_t, lenP_l, lenP_s, seqP_t, seqP_l, truP_b, ixP_t, ixP_l, slP_t, slP_l, tupleP_l, tupleP_t, addP_tt, modP_ii, divP_ii, exb, addLP_ll, min2_ii, max2_ii, exTup, exCons, exInt, iaddP_ii, leP_ii, gtP_ii, geP_ii, ltP_ii, intP_i, decide_eq_true_eq, Bool.not_eq_true', decide_eq_false_iff_not, Bool.not_true, Bool.not_false, List.cons_ne_nil, Nat.succ_ne_zero, reduceCtorEq])
  refine c_held_nil k.2.2 ?_
  (try simp only [↓e_mVar, ↓e_mK, ↓e_mOp1, ↓e_mOp2, ↓e_aNil, ↓e_aCons, ↓e_mTup, ↓e_mLst, ↓e_mLstM, ↓e_mIf, ↓e_tTru, ↓e_tNt, ↓e_tAnd2, ↓e_tOr2, ↓e_tOp2, ↓e_mChain, ↓e_tChain', ↓e_mAnd, ↓e_mOr, ↓e_mFld, ↓e_sFldD, ↓e_mMeth, ↓e_mMake, ↓e_mRev, revP_l, ↓e_mAndT, ↓e_mOrT, truP_lc, ↓e_mNot, ↓e_mCall, ↓e_mBlt, ↓e_oNo, ↓e_oSo, ↓e_mSl, ↓e_sPass, ↓e_sBrk, ↓e_sCnt, ↓e_sNever, ↓e_sSeq, ↓e_sAsg, ↓e_gNm, ↓e_gTu, ↓e_gsNil, ↓e_gsCons, ↓e_gSb, ↓e_sPar, ↓e_sExp, ↓e_sRt, ↓e_sRtN, ↓e_sIf, ↓e_sAug, ↓e_sFor, ↓e_sWh, ↓e_mComp, ↓e_mCompM, ↓e_tYs, ↓e_mkFn, ↓e_mApp, ↓e_itSeq, ↓e_itScr, ↓e_itEnum, ↓e_itZip, ↓e_itZip3, ↓e_itR1, ↓e_itR2, ↓e_itR3, ↓e_mDic0, ↓e_mDic1, ↓e_sPar3, ↓e_mAddM, ↓e_aStar, ↓e_mMulM, ↓e_sRaise0, ↓e_sRaise1, ↓e_mErr, ↓e_mCallV, starP_t, starP_l, slot_0, slot_1, slot_2, slot_3, slot_4, slot_5, slot_6, slot_7, slot_8, slot_9, slot_10, slot_11, slot_12, slot_13, slot_14, slot_15, slot_16, slot_17, slot_18, slot_19, slot_20, slot_21, slot_22, slot_23, slot_24, slot_25, slot_26, slot_27, slot_28, slot_29, slot_30, negP_i, ex3, ex2, wipeE, List.map_cons, List.map_nil, List.cons_append, List.nil_append, List.append_nil, List.length_cons, List.length_nil, List.replicate_succ, List.replicate_zero, List.set_cons_zero, List.set_cons_succ, Oc_some, Nat.reduceAdd, Nat.reduceSub, Nat.reduceLeDiff, Nat.zero_le, Int.toNat_natCast, Bool.or_false, Bool.or_true, Bool.or_self, Bool.false_or, Bool.true_or, decide_true, decide_false, Nat.zero_add, Nat.sub_self, Bool.true_eq_false, Bool.false_eq_true, if_true, if_false, ite_true, ite_false, true_and, and_true, addP_ii, subP_ii, mulP_ii, isiP_tup, isiP_lst, isiP_str, isiP_bl, isiP_int, isiP_tl, kd_non, kd_bl, kd_int, kd_str, kd_tup, kd_lst, isTup, isLst, isStr, isBl, isInt, eqP_ii, neP_ii, lenP_t, lenP_l, lenP_s, seqP_t, seqP_l, truP_b, ixP_t, ixP_l, slP_t, slP_l, tupleP_l, tupleP_t, addP_tt, modP_ii, divP_ii, exb, addLP_ll, min2_ii, max2_ii, exTup, exCons, exInt, iaddP_ii, leP_ii, gtP_ii, geP_ii, ltP_ii, intP_i, decide_eq_true_eq, Bool.not_eq_true', decide_eq_false_iff_not, Bool.not_true, Bool.not_false, List.cons_ne_nil, Nat.succ_ne_zero, reduceCtorEq])
  exact c_state_bad k ky b q
theorem hs_can_come (k : OkP p) (ky : kdW y = true) (b : wordB (setsP p) y = false) (q : E ⟨"BadState", none⟩ h) : F_can_come [tP p, .tup [.int 0], y, z] h E Q := by
  simp only [↓e_can_come, ↓e_mVar, ↓e_mK, ↓e_mOp1, ↓e_mOp2, ↓e_aNil, ↓e_aCons, ↓e_mTup, ↓e_mLst, ↓e_mLstM, ↓e_mIf, ↓e_tTru, ↓e_tNt, ↓e_tAnd2, ↓e_tOr2, ↓e_tOp2, ↓e_mChain, ↓e_tChain', ↓e_mAnd, ↓e_mOr, ↓e_mFld, ↓e_sFldD, ↓e_mMeth, ↓e_mMake, ↓e_mRev, revP_l, ↓e_mAndT, ↓e_mOrT, truP_lc, ↓e_mNot, ↓e_mCall, ↓e_mBlt, ↓e_oNo, ↓e_oSo, ↓e_mSl, ↓e_sPass, ↓e_sBrk, ↓e_sCnt, ↓e_sNever, ↓e_sSeq, ↓e_sAsg, ↓e_gNm, ↓e_gTu, ↓e_gsNil, ↓e_gsCons, ↓e_gSb, ↓e_sPar, ↓e_sExp, ↓e_sRt, ↓e_sRtN, ↓e_sIf, ↓e_sAug, ↓e_sFor, ↓e_sWh, ↓e_mComp, ↓e_mCompM, ↓e_tYs, ↓e_mkFn, ↓e_mApp, ↓e_itSeq, ↓e_itScr, ↓e_itEnum, ↓e_itZip, ↓e_itZip3, ↓e_itR1, ↓e_itR2, ↓e_itR3, ↓e_mDic0, ↓e_mDic1, ↓e_sPar3, ↓e_mAddM, ↓e_aStar, ↓e_mMulM, ↓e_sRaise0, ↓e_sRaise1, ↓e_mErr, ↓e_mCallV, starP_t, starP_l, slot_0, slot_1, slot_2, slot_3, slot_4, slot_5, slot_6, slot_7, slot_8, slot_9, slot_10, slot_11, slot_12, slot_13, slot_14, slot_15, slot_16, slot_17, slot_18, slot_19, slot_20, slot_21, slot_22, slot_23, slot_24, slot_25, slot_26, slot_27, slot_28, slot_29, slot_30, negP_i, ex3, ex2, wipeE, List.map_cons, List.map_nil, List.cons_append, List.nil_append, List.append_nil, List.length_cons, List.length_nil, List.replicate_succ, List.replicate_zero, List.set_cons_zero, List.set_cons_succ, Oc_some, Nat.reduceAdd, Nat.reduceSub, Nat.reduceLeDiff, Nat.zero_le, Int.toNat_natCast, Bool.or_false, Bool.or_true, Bool.or_self, Bool.false_or, Bool.true_or, decide_true, decide_false, Nat.zero_add, Nat.sub_self, Bool.true_eq_false, Bool.false_eq_true, if_true, if_false, ite_true, ite_false, true_and, and_true, addP_ii, subP_ii, mulP_ii, isiP_tup, isiP_lst, isiP_str, isiP_bl, isiP_int, isiP_tl, kd_non, kd_bl, kd_int, kd_str, kd_tup, kd_lst, isTup, isLst, isStr, isBl, isInt, eqP_ii, neP_ii, lenP_t, lenP_l, lenP_s, seqP_t, seqP_l, truP_b, ixP_t, ixP_l, slP_t, slP_l, tupleP_l, tupleP_t, addP_tt, modP_ii, divP_ii, exb, addLP_ll, min2_ii, max2_ii, exTup, exCons, exInt, iaddP_ii, leP_ii, gtP_ii, geP_ii, ltP_ii, intP_i, decide_eq_true_eq, Bool.not_eq_true', decide_eq_false_iff_not, Bool.not_true, Bool.not_false, List.cons_ne_nil, Nat.succ_ne_zero, reduceCtorEq]
  refine c_need_puzzle k ?_
  (try simp only [↓e_mVar, ↓e_mK, ↓e_mOp1, ↓e_mOp2, ↓e_aNil, ↓e_aCons, ↓e_mTup, ↓e_mLst, ↓e_mLstM, ↓e_mIf, ↓e_tTru, ↓e_tNt, ↓e_tAnd2, ↓e_tOr2, ↓e_tOp2, ↓e_mChain, ↓e_tChain', ↓e_mAnd, ↓e_mOr, ↓e_mFld, ↓e_sFldD, ↓e_mMeth, ↓e_mMake, ↓e_mRev, revP_l, ↓e_mAndT, ↓e_mOrT, truP_lc, ↓e_mNot, ↓e_mCall, ↓e_mBlt, ↓e_oNo, ↓e_oSo, ↓e_mSl, ↓e_sPass, ↓e_sBrk, ↓e_sCnt, ↓e_sNever, ↓e_sSeq, ↓e_sAsg, ↓e_gNm, ↓e_gTu, ↓e_gsNil, ↓e_gsCons, ↓e_gSb, ↓e_sPar, ↓e_sExp, ↓e_sRt, ↓e_sRtN, ↓e_sIf, ↓e_sAug, ↓e_sFor, ↓e_sWh, ↓e_mComp, ↓e_mCompM, ↓e_tYs, ↓e_mkFn, ↓e_mApp, ↓e_itSeq, ↓e_itScr, ↓e_itEnum, ↓e_itZip, ↓e_itZip3, ↓e_itR1, ↓e_itR2, ↓e_itR3, ↓e_mDic0, ↓e_mDic1, ↓e_sPar3, ↓e_mAddM, ↓e_aStar, ↓e_mMulM, ↓e_sRaise0, ↓e_sRaise1, ↓e_mErr, ↓e_mCallV, starP_t, starP_l, slot_0, slot_1, slot_2, slot_3, slot_4, slot_5, slot_6, slot_7, slot_8, slot_9, slot_10, slot_11, slot_12, slot_13, slot_14, slot_15, slot_16, slot_17, slot_18, slot_19, slot_20, slot_21, slot_22, slot_23, slot_24, slot_25, slot_26, slot_27, slot_28, slot_29, slot_30, negP_i, ex3, ex2, wipeE, List.map_cons, List.map_nil, List.cons_append, List.nil_append, List.append_nil, List.length_cons, List.length_nil, List.replicate_succ, List.replicate_zero, List.set_cons_zero, List.set_cons_succ, Oc_some, Nat.reduceAdd, Nat.reduceSub, Nat.reduceLeDiff, Nat.zero_le, Int.toNat_natCast, Bool.or_false, Bool.or_true, Bool.or_self, Bool.false_or, Bool.true_or, decide_true, decide_false, Nat.zero_add, Nat.sub_self, Bool.true_eq_false, Bool.false_eq_true, if_true, if_false, ite_true, ite_false, true_and, and_true, addP_ii, subP_ii, mulP_ii, isiP_tup, isiP_lst, isiP_str, isiP_bl, isiP_int, isiP_tl, kd_non, kd_bl, kd_int, kd_str, kd_tup, kd_lst, isTup, isLst, isStr, isBl, isInt, eqP_ii, neP_ii, lenP_t, lenP_l, lenP_s, seqP_t, seqP_l, truP_b, ixP_t, ixP_l, slP_t, slP_l, tupleP_l, tupleP_t, addP_tt, modP_ii, divP_ii, exb, addLP_ll, min2_ii, max2_ii, exTup, exCons, exInt, iaddP_ii, leP_ii, gtP_ii, geP_ii, ltP_ii, intP_i, decide_eq_true_eq, Bool.not_eq_true', decide_eq_false_iff_not, Bool.not_true, Bool.not_false, List.cons_ne_nil, Nat.succ_ne_zero, reduceCtorEq])
  refine c_held_one k ?_
  (try simp only [↓e_mVar, ↓e_mK, ↓e_mOp1, ↓e_mOp2, ↓e_aNil, ↓e_aCons, ↓e_mTup, ↓e_mLst, ↓e_mLstM, ↓e_mIf, ↓e_tTru, ↓e_tNt, ↓e_tAnd2, ↓e_tOr2, ↓e_tOp2, ↓e_mChain, ↓e_tChain', ↓e_mAnd, ↓e_mOr, ↓e_mFld, ↓e_sFldD, ↓e_mMeth, ↓e_mMake, ↓e_mRev, revP_l, ↓e_mAndT, ↓e_mOrT, truP_lc, ↓e_mNot, ↓e_mCall, ↓e_mBlt, ↓e_oNo, ↓e_oSo, ↓e_mSl, ↓e_sPass, ↓e_sBrk, ↓e_sCnt, ↓e_sNever, ↓e_sSeq, ↓e_sAsg, ↓e_gNm, ↓e_gTu, ↓e_gsNil, ↓e_gsCons, ↓e_gSb, ↓e_sPar, ↓e_sExp, ↓e_sRt, ↓e_sRtN, ↓e_sIf, ↓e_sAug, ↓e_sFor, ↓e_sWh, ↓e_mComp, ↓e_mCompM, ↓e_tYs, ↓e_mkFn, ↓e_mApp, ↓e_itSeq, ↓e_itScr, ↓e_itEnum, ↓e_itZip, ↓e_itZip3, ↓e_itR1, ↓e_itR2, ↓e_itR3, ↓e_mDic0, ↓e_mDic1, ↓e_sPar3, ↓e_mAddM, ↓e_aStar, ↓e_mMulM, ↓e_sRaise0, ↓e_sRaise1, ↓e_mErr, ↓e_mCallV, starP_t, starP_l, slot_0, slot_1, slot_2, slot_3, slot_4, slot_5, slot_6, slot_7, slot_8, slot_9, slot_10, slot_11, slot_12, slot_13, slot_14, slot_15, slot_16, slot_17, slot_18, slot_19, slot_20, slot_21, slot_22, slot_23, slot_24, slot_25, slot_26, slot_27, slot_28, slot_29, slot_30, negP_i, ex3, ex2, wipeE, List.map_cons, List.map_nil, List.cons_append, List.nil_append, List.append_nil, List.length_cons, List.length_nil, List.replicate_succ, List.replicate_zero, List.set_cons_zero, List.set_cons_succ, Oc_some, Nat.reduceAdd, Nat.reduceSub, Nat.reduceLeDiff, Nat.zero_le, Int.toNat_natCast, Bool.or_false, Bool.or_true, Bool.or_self, Bool.false_or, Bool.true_or, decide_true, decide_false, Nat.zero_add, Nat.sub_self, Bool.true_eq_false, Bool.false_eq_true, if_true, if_false, ite_true, ite_false, true_and, and_true, addP_ii, subP_ii, mulP_ii, isiP_tup, isiP_lst, isiP_str, isiP_bl, isiP_int, isiP_tl, kd_non, kd_bl, kd_int, kd_str, kd_tup, kd_lst, isTup, isLst, isStr, isBl, isInt, eqP_ii, neP_ii, lenP_t, lenP_l, lenP_s, seqP_t, seqP_l, truP_b, ixP_t, ixP_l, slP_t, slP_l, tupleP_l, tupleP_t, addP_tt, modP_ii, divP_ii, exb, addLP_ll, min2_ii, max2_ii, exTup, exCons, exInt, iaddP_ii, leP_ii, gtP_ii, geP_ii, ltP_ii, intP_i, decide_eq_true_eq, Bool.not_eq_true', decide_eq_false_iff_not, Bool.not_true, Bool.not_false, List.cons_ne_nil, Nat.succ_ne_zero, reduceCtorEq])
  exact c_state_bad k ky b q
theorem ht_can_come (k : OkP p) (os : Ok p p.length st) (ky : kdW y = true) (b : wordB (setsP p) y = false) (q : E ⟨"BadState", none⟩ h) : F_can_come [tP p, .tup [.int 0], tI st, y] h E Q := by
  simp only [↓e_can_come, ↓e_mVar, ↓e_mK, ↓e_mOp1, ↓e_mOp2, ↓e_aNil, ↓e_aCons, ↓e_mTup, ↓e_mLst, ↓e_mLstM, ↓e_mIf, ↓e_tTru, ↓e_tNt, ↓e_tAnd2, ↓e_tOr2, ↓e_tOp2, ↓e_mChain, ↓e_tChain', ↓e_mAnd, ↓e_mOr, ↓e_mFld, ↓e_sFldD, ↓e_mMeth, ↓e_mMake, ↓e_mRev, revP_l, ↓e_mAndT, ↓e_mOrT, truP_lc, ↓e_mNot, ↓e_mCall, ↓e_mBlt, ↓e_oNo, ↓e_oSo, ↓e_mSl, ↓e_sPass, ↓e_sBrk, ↓e_sCnt, ↓e_sNever, ↓e_sSeq, ↓e_sAsg, ↓e_gNm, ↓e_gTu, ↓e_gsNil, ↓e_gsCons, ↓e_gSb, ↓e_sPar, ↓e_sExp, ↓e_sRt, ↓e_sRtN, ↓e_sIf, ↓e_sAug, ↓e_sFor, ↓e_sWh, ↓e_mComp, ↓e_mCompM, ↓e_tYs, ↓e_mkFn, ↓e_mApp, ↓e_itSeq, ↓e_itScr, ↓e_itEnum, ↓e_itZip, ↓e_itZip3, ↓e_itR1, ↓e_itR2, ↓e_itR3, ↓e_mDic0, ↓e_mDic1, ↓e_sPar3, ↓e_mAddM, ↓e_aStar, ↓e_mMulM, ↓e_sRaise0, ↓e_sRaise1, ↓e_mErr, ↓e_mCallV, starP_t, starP_l, slot_0, slot_1, slot_2, slot_3, slot_4, slot_5, slot_6, slot_7, slot_8, slot_9, slot_10, slot_11, slot_12, slot_13, slot_14, slot_15, slot_16, slot_17, slot_18, slot_19, slot_20, slot_21, slot_22, slot_23, slot_24, slot_25, slot_26, slot_27, slot_28, slot_29, slot_30, negP_i, ex3, ex2, wipeE, List.map_cons, List.map_nil, List.cons_append, List.nil_append, List.append_nil, List.length_cons, List.length_nil, List.replicate_succ, List.replicate_zero, List.set_cons_zero, List.set_cons_succ, Oc_some, Nat.reduceAdd, Nat.reduceSub, Nat.reduceLeDiff, Nat.zero_le, Int.toNat_natCast, Bool.or_false, Bool.or_true, Bool.or_self, Bool.false_or, Bool.true_or, decide_true, decide_false, Nat.zero_add, Nat.sub_self, Bool.true_eq_false, Bool.false_eq_true, if_true, if_false, ite_true, ite_false, true_and, and_true, addP_ii, subP_ii, mulP_ii, isiP_tup, isiP_lst, isiP_str, isiP_bl, isiP_int, isiP_tl, kd_non, kd_bl, kd_int, kd_str, kd_tup, kd_lst, isTup, isLst, isStr, isBl, isInt, eqP_ii, neP_ii, lenP_t, lenP_l, lenP_s, seqP_t, seqP_l, truP_b, ixP_t, ixP_l, slP_t, slP_l, tupleP_l, tupleP_t, addP_tt, modP_ii, divP_ii, exb, addLP_ll, min2_ii, max2_ii, exTup, exCons, exInt, iaddP_ii, leP_ii, gtP_ii, geP_ii, ltP_ii, intP_i, decide_eq_true_eq, Bool.not_eq_true', decide_eq_false_iff_not, Bool.not_true, Bool.not_false, List.cons_ne_nil, Nat.succ_ne_zero, reduceCtorEq]
  refine c_need_puzzle k ?_
  (try simp only [↓e_mVar, ↓e_mK, ↓e_mOp1, ↓e_mOp2, ↓e_aNil, ↓e_aCons, ↓e_mTup, ↓e_mLst, ↓e_mLstM, ↓e_mIf, ↓e_tTru, ↓e_tNt, ↓e_tAnd2, ↓e_tOr2, ↓e_tOp2, ↓e_mChain, ↓e_tChain', ↓e_mAnd, ↓e_mOr, ↓e_mFld, ↓e_sFldD, ↓e_mMeth, ↓e_mMake, ↓e_mRev, revP_l, ↓e_mAndT, ↓e_mOrT, truP_lc, ↓e_mNot, ↓e_mCall, ↓e_mBlt, ↓e_oNo, ↓e_oSo, ↓e_mSl, ↓e_sPass, ↓e_sBrk, ↓e_sCnt, ↓e_sNever, ↓e_sSeq, ↓e_sAsg, ↓e_gNm, ↓e_gTu, ↓e_gsNil, ↓e_gsCons, ↓e_gSb, ↓e_sPar, ↓e_sExp, ↓e_sRt, ↓e_sRtN, ↓e_sIf, ↓e_sAug, ↓e_sFor, ↓e_sWh, ↓e_mComp, ↓e_mCompM, ↓e_tYs, ↓e_mkFn, ↓e_mApp, ↓e_itSeq, ↓e_itScr, ↓e_itEnum, ↓e_itZip, ↓e_itZip3, ↓e_itR1, ↓e_itR2, ↓e_itR3, ↓e_mDic0, ↓e_mDic1, ↓e_sPar3, ↓e_mAddM, ↓e_aStar, ↓e_mMulM, ↓e_sRaise0, ↓e_sRaise1, ↓e_mErr, ↓e_mCallV, starP_t, starP_l, slot_0, slot_1, slot_2, slot_3, slot_4, slot_5, slot_6, slot_7, slot_8, slot_9, slot_10, slot_11, slot_12, slot_13, slot_14, slot_15, slot_16, slot_17, slot_18, slot_19, slot_20, slot_21, slot_22, slot_23, slot_24, slot_25, slot_26, slot_27, slot_28, slot_29, slot_30, negP_i, ex3, ex2, wipeE, List.map_cons, List.map_nil, List.cons_append, List.nil_append, List.append_nil, List.length_cons, List.length_nil, List.replicate_succ, List.replicate_zero, List.set_cons_zero, List.set_cons_succ, Oc_some, Nat.reduceAdd, Nat.reduceSub, Nat.reduceLeDiff, Nat.zero_le, Int.toNat_natCast, Bool.or_false, Bool.or_true, Bool.or_self, Bool.false_or, Bool.true_or, decide_true, decide_false, Nat.zero_add, Nat.sub_self, Bool.true_eq_false, Bool.false_eq_true, if_true, if_false, ite_true, ite_false, true_and, and_true, addP_ii, subP_ii, mulP_ii, isiP_tup, isiP_lst, isiP_str, isiP_bl, isiP_int, isiP_tl, kd_non, kd_bl, kd_int, kd_str, kd_tup, kd_lst, isTup, isLst, isStr, isBl, isInt, eqP_ii, neP_ii, lenP_t, lenP_l, lenP_s, seqP_t, seqP_l, truP_b, ixP_t, ixP_l, slP_t, slP_l, tupleP_l, tupleP_t, addP_tt, modP_ii, divP_ii, exb, addLP_ll, min2_ii, max2_ii, exTup, exCons, exInt, iaddP_ii, leP_ii, gtP_ii, geP_ii, ltP_ii, intP_i, decide_eq_true_eq, Bool.not_eq_true', decide_eq_false_iff_not, Bool.not_true, Bool.not_false, List.cons_ne_nil, Nat.succ_ne_zero, reduceCtorEq])
  refine c_held_one k ?_
  (try simp only [↓e_mVar, ↓e_mK, ↓e_mOp1, ↓e_mOp2, ↓e_aNil, ↓e_aCons, ↓e_mTup, ↓e_mLst, ↓e_mLstM, ↓e_mIf, ↓e_tTru, ↓e_tNt, ↓e_tAnd2, ↓e_tOr2, ↓e_tOp2, ↓e_mChain, ↓e_tChain', ↓e_mAnd, ↓e_mOr, ↓e_mFld, ↓e_sFldD, ↓e_mMeth, ↓e_mMake, ↓e_mRev, revP_l, ↓e_mAndT, ↓e_mOrT, truP_lc, ↓e_mNot, ↓e_mCall, ↓e_mBlt, ↓e_oNo, ↓e_oSo, ↓e_mSl, ↓e_sPass, ↓e_sBrk, ↓e_sCnt, ↓e_sNever, ↓e_sSeq, ↓e_sAsg, ↓e_gNm, ↓e_gTu, ↓e_gsNil, ↓e_gsCons, ↓e_gSb, ↓e_sPar, ↓e_sExp, ↓e_sRt, ↓e_sRtN, ↓e_sIf, ↓e_sAug, ↓e_sFor, ↓e_sWh, ↓e_mComp, ↓e_mCompM, ↓e_tYs, ↓e_mkFn, ↓e_mApp, ↓e_itSeq, ↓e_itScr, ↓e_itEnum, ↓e_itZip, ↓e_itZip3, ↓e_itR1, ↓e_itR2, ↓e_itR3, ↓e_mDic0, ↓e_mDic1, ↓e_sPar3, ↓e_mAddM, ↓e_aStar, ↓e_mMulM, ↓e_sRaise0, ↓e_sRaise1, ↓e_mErr, ↓e_mCallV, starP_t, starP_l, slot_0, slot_1, slot_2, slot_3, slot_4, slot_5, slot_6, slot_7, slot_8, slot_9, slot_10, slot_11, slot_12, slot_13, slot_14, slot_15, slot_16, slot_17, slot_18, slot_19, slot_20, slot_21, slot_22, slot_23, slot_24, slot_25, slot_26, slot_27, slot_28, slot_29, slot_30, negP_i, ex3, ex2, wipeE, List.map_cons, List.map_nil, List.cons_append, List.nil_append, List.append_nil, List.length_cons, List.length_nil, List.replicate_succ, List.replicate_zero, List.set_cons_zero, List.set_cons_succ, Oc_some, Nat.reduceAdd, Nat.reduceSub, Nat.reduceLeDiff, Nat.zero_le, Int.toNat_natCast, Bool.or_false, Bool.or_true, Bool.or_self, Bool.false_or, Bool.true_or, decide_true, decide_false, Nat.zero_add, Nat.sub_self, Bool.true_eq_false, Bool.false_eq_true, if_true, if_false, ite_true, ite_false, true_and, and_true, addP_ii, subP_ii, mulP_ii, isiP_tup, isiP_lst, isiP_str, isiP_bl, isiP_int, isiP_tl, kd_non, kd_bl, kd_int, kd_str, kd_tup, kd_lst, isTup, isLst, isStr, isBl, isInt, eqP_ii, neP_ii, lenP_t, lenP_l, lenP_s, seqP_t, seqP_l, truP_b, ixP_t, ixP_l, slP_t, slP_l, tupleP_l, tupleP_t, addP_tt, modP_ii, divP_ii, exb, addLP_ll, min2_ii, max2_ii, exTup, exCons, exInt, iaddP_ii, leP_ii, gtP_ii, geP_ii, ltP_ii, intP_i, decide_eq_true_eq, Bool.not_eq_true', decide_eq_false_iff_not, Bool.not_true, Bool.not_false, List.cons_ne_nil, Nat.succ_ne_zero, reduceCtorEq])
  refine c_need_state k.2.2 (ok_state.mpr os) ?_
  (try simp only [↓e_mVar, ↓e_mK, ↓e_mOp1, ↓e_mOp2, ↓e_aNil, ↓e_aCons, ↓e_mTup, ↓e_mLst, ↓e_mLstM, ↓e_mIf, ↓e_tTru, ↓e_tNt, ↓e_tAnd2, ↓e_tOr2, ↓e_tOp2, ↓e_mChain, ↓e_tChain', ↓e_mAnd, ↓e_mOr, ↓e_mFld, ↓e_sFldD, ↓e_mMeth, ↓e_mMake, ↓e_mRev, revP_l, ↓e_mAndT, ↓e_mOrT, truP_lc, ↓e_mNot, ↓e_mCall, ↓e_mBlt, ↓e_oNo, ↓e_oSo, ↓e_mSl, ↓e_sPass, ↓e_sBrk, ↓e_sCnt, ↓e_sNever, ↓e_sSeq, ↓e_sAsg, ↓e_gNm, ↓e_gTu, ↓e_gsNil, ↓e_gsCons, ↓e_gSb, ↓e_sPar, ↓e_sExp, ↓e_sRt, ↓e_sRtN, ↓e_sIf, ↓e_sAug, ↓e_sFor, ↓e_sWh, ↓e_mComp, ↓e_mCompM, ↓e_tYs, ↓e_mkFn, ↓e_mApp, ↓e_itSeq, ↓e_itScr, ↓e_itEnum, ↓e_itZip, ↓e_itZip3, ↓e_itR1, ↓e_itR2, ↓e_itR3, ↓e_mDic0, ↓e_mDic1, ↓e_sPar3, ↓e_mAddM, ↓e_aStar, ↓e_mMulM, ↓e_sRaise0, ↓e_sRaise1, ↓e_mErr, ↓e_mCallV, starP_t, starP_l, slot_0, slot_1, slot_2, slot_3, slot_4, slot_5, slot_6, slot_7, slot_8, slot_9, slot_10, slot_11, slot_12, slot_13, slot_14, slot_15, slot_16, slot_17, slot_18, slot_19, slot_20, slot_21, slot_22, slot_23, slot_24, slot_25, slot_26, slot_27, slot_28, slot_29, slot_30, negP_i, ex3, ex2, wipeE, List.map_cons, List.map_nil, List.cons_append, List.nil_append, List.append_nil, List.length_cons, List.length_nil, List.replicate_succ, List.replicate_zero, List.set_cons_zero, List.set_cons_succ, Oc_some, Nat.reduceAdd, Nat.reduceSub, Nat.reduceLeDiff, Nat.zero_le, Int.toNat_natCast, Bool.or_false, Bool.or_true, Bool.or_self, Bool.false_or, Bool.true_or, decide_true, decide_false, Nat.zero_add, Nat.sub_self, Bool.true_eq_false, Bool.false_eq_true, if_true, if_false, ite_true, ite_false, true_and, and_true, addP_ii, subP_ii, mulP_ii, isiP_tup, isiP_lst, isiP_str, isiP_bl, isiP_int, isiP_tl, kd_non, kd_bl, kd_int, kd_str, kd_tup, kd_lst, isTup, isLst, isStr, isBl, isInt, eqP_ii, neP_ii, lenP_t, lenP_l, lenP_s, seqP_t, seqP_l, truP_b, ixP_t, ixP_l, slP_t, slP_l, tupleP_l, tupleP_t, addP_tt, modP_ii, divP_ii, exb, addLP_ll, min2_ii, max2_ii, exTup, exCons, exInt, iaddP_ii, leP_ii, gtP_ii, geP_ii, ltP_ii, intP_i, decide_eq_true_eq, Bool.not_eq_true', decide_eq_false_iff_not, Bool.not_true, Bool.not_false, List.cons_ne_nil, Nat.succ_ne_zero, reduceCtorEq])
  exact c_state_bad k ky b q
theorem uses_eq {m : Nat} {d : D} (l : st.length ≤ 1000) (q : Q (tI (List.replicate st.length 0)) h) : F_uses_of (m + 1) [tP p, d, tI st, tI st] h E Q := by
  simp only [↓e_uses_of, ↓e_mVar, ↓e_mK, ↓e_mOp1, ↓e_mOp2, ↓e_aNil, ↓e_aCons, ↓e_mTup, ↓e_mLst, ↓e_mLstM, ↓e_mIf, ↓e_tTru, ↓e_tNt, ↓e_tAnd2, ↓e_tOr2, ↓e_tOp2, ↓e_mChain, ↓e_tChain', ↓e_mAnd, ↓e_mOr, ↓e_mFld, ↓e_sFldD, ↓e_mMeth, ↓e_mMake, ↓e_mRev, revP_l, ↓e_mAndT, ↓e_mOrT, truP_lc, ↓e_mNot, ↓e_mCall, ↓e_mBlt, ↓e_oNo, ↓e_oSo, ↓e_mSl, ↓e_sPass, ↓e_sBrk, ↓e_sCnt, ↓e_sNever, ↓e_sSeq, ↓e_sAsg, ↓e_gNm, ↓e_gTu, ↓e_gsNil, ↓e_gsCons, ↓e_gSb, ↓e_sPar, ↓e_sExp, ↓e_sRt, ↓e_sRtN, ↓e_sIf, ↓e_sAug, ↓e_sFor, ↓e_sWh, ↓e_mComp, ↓e_mCompM, ↓e_tYs, ↓e_mkFn, ↓e_mApp, ↓e_itSeq, ↓e_itScr, ↓e_itEnum, ↓e_itZip, ↓e_itZip3, ↓e_itR1, ↓e_itR2, ↓e_itR3, ↓e_mDic0, ↓e_mDic1, ↓e_sPar3, ↓e_mAddM, ↓e_aStar, ↓e_mMulM, ↓e_sRaise0, ↓e_sRaise1, ↓e_mErr, ↓e_mCallV, starP_t, starP_l, slot_0, slot_1, slot_2, slot_3, slot_4, slot_5, slot_6, slot_7, slot_8, slot_9, slot_10, slot_11, slot_12, slot_13, slot_14, slot_15, slot_16, slot_17, slot_18, slot_19, slot_20, slot_21, slot_22, slot_23, slot_24, slot_25, slot_26, slot_27, slot_28, slot_29, slot_30, negP_i, ex3, ex2, wipeE, List.map_cons, List.map_nil, List.cons_append, List.nil_append, List.append_nil, List.length_cons, List.length_nil, List.replicate_succ, List.replicate_zero, List.set_cons_zero, List.set_cons_succ, Oc_some, Nat.reduceAdd, Nat.reduceSub, Nat.reduceLeDiff, Nat.zero_le, Int.toNat_natCast, Bool.or_false, Bool.or_true, Bool.or_self, Bool.false_or, Bool.true_or, decide_true, decide_false, Nat.zero_add, Nat.sub_self, Bool.true_eq_false, Bool.false_eq_true, if_true, if_false, ite_true, ite_false, true_and, and_true, addP_ii, subP_ii, mulP_ii, isiP_tup, isiP_lst, isiP_str, isiP_bl, isiP_int, isiP_tl, kd_non, kd_bl, kd_int, kd_str, kd_tup, kd_lst, isTup, isLst, isStr, isBl, isInt, eqP_ii, neP_ii, lenP_t, lenP_l, lenP_s, seqP_t, seqP_l, truP_b, ixP_t, ixP_l, slP_t, slP_l, tupleP_l, tupleP_t, addP_tt, modP_ii, divP_ii, exb, addLP_ll, min2_ii, max2_ii, exTup, exCons, exInt, iaddP_ii, leP_ii, gtP_ii, geP_ii, ltP_ii, intP_i, decide_eq_true_eq, Bool.not_eq_true', decide_eq_false_iff_not, Bool.not_true, Bool.not_false, List.cons_ne_nil, Nat.succ_ne_zero, reduceCtorEq]
  rw [eqP_tI, decide_eq_true rfl]
  refine ⟨_, rfl, ?_⟩
  rw [if_pos rfl]
  simp only [tI, ↓e_mVar, ↓e_mK, ↓e_mOp1, ↓e_mOp2, ↓e_aNil, ↓e_aCons, ↓e_mTup, ↓e_mLst, ↓e_mLstM, ↓e_mIf, ↓e_tTru, ↓e_tNt, ↓e_tAnd2, ↓e_tOr2, ↓e_tOp2, ↓e_mChain, ↓e_tChain', ↓e_mAnd, ↓e_mOr, ↓e_mFld, ↓e_sFldD, ↓e_mMeth, ↓e_mMake, ↓e_mRev, revP_l, ↓e_mAndT, ↓e_mOrT, truP_lc, ↓e_mNot, ↓e_mCall, ↓e_mBlt, ↓e_oNo, ↓e_oSo, ↓e_mSl, ↓e_sPass, ↓e_sBrk, ↓e_sCnt, ↓e_sNever, ↓e_sSeq, ↓e_sAsg, ↓e_gNm, ↓e_gTu, ↓e_gsNil, ↓e_gsCons, ↓e_gSb, ↓e_sPar, ↓e_sExp, ↓e_sRt, ↓e_sRtN, ↓e_sIf, ↓e_sAug, ↓e_sFor, ↓e_sWh, ↓e_mComp, ↓e_mCompM, ↓e_tYs, ↓e_mkFn, ↓e_mApp, ↓e_itSeq, ↓e_itScr, ↓e_itEnum, ↓e_itZip, ↓e_itZip3, ↓e_itR1, ↓e_itR2, ↓e_itR3, ↓e_mDic0, ↓e_mDic1, ↓e_sPar3, ↓e_mAddM, ↓e_aStar, ↓e_mMulM, ↓e_sRaise0, ↓e_sRaise1, ↓e_mErr, ↓e_mCallV, starP_t, starP_l, slot_0, slot_1, slot_2, slot_3, slot_4, slot_5, slot_6, slot_7, slot_8, slot_9, slot_10, slot_11, slot_12, slot_13, slot_14, slot_15, slot_16, slot_17, slot_18, slot_19, slot_20, slot_21, slot_22, slot_23, slot_24, slot_25, slot_26, slot_27, slot_28, slot_29, slot_30, negP_i, ex3, ex2, wipeE, List.map_cons, List.map_nil, List.cons_append, List.nil_append, List.append_nil, List.length_cons, List.length_nil, List.replicate_succ, List.replicate_zero, List.set_cons_zero, List.set_cons_succ, Oc_some, Nat.reduceAdd, Nat.reduceSub, Nat.reduceLeDiff, Nat.zero_le, Int.toNat_natCast, Bool.or_false, Bool.or_true, Bool.or_self, Bool.false_or, Bool.true_or, decide_true, decide_false, Nat.zero_add, Nat.sub_self, Bool.true_eq_false, Bool.false_eq_true, if_true, if_false, ite_true, ite_false, true_and, and_true, addP_ii, subP_ii, mulP_ii, isiP_tup, isiP_lst, isiP_str, isiP_bl, isiP_int, isiP_tl, kd_non, kd_bl, kd_int, kd_str, kd_tup, kd_lst, isTup, isLst, isStr, isBl, isInt, eqP_ii, neP_ii, lenP_t, lenP_l, lenP_s, seqP_t, seqP_l, truP_b, ixP_t, ixP_l, slP_t, slP_l, tupleP_l, tupleP_t, addP_tt, modP_ii, divP_ii, exb, addLP_ll, min2_ii, max2_ii, exTup, exCons, exInt, iaddP_ii, leP_ii, gtP_ii, geP_ii, ltP_ii, intP_i, decide_eq_true_eq, Bool.not_eq_true', decide_eq_false_iff_not, Bool.not_true, Bool.not_false, List.cons_ne_nil, Nat.succ_ne_zero, reduceCtorEq, List.length_map]
  exact mul_zeros l (.of q)
theorem g_can_come (k : OkP p) (os : Ok p p.length st) (q : ∀ h', Le h h' → Q (.bl true) h') : F_can_come [tP p, .tup [.int 0], tI st, tI st] h E Q := by
  have k30 := k.2.2
  have ls := os.1
  have p1 := k.2.1
  simp only [↓e_can_come, ↓e_mVar, ↓e_mK, ↓e_mOp1, ↓e_mOp2, ↓e_aNil, ↓e_aCons, ↓e_mTup, ↓e_mLst, ↓e_mLstM, ↓e_mIf, ↓e_tTru, ↓e_tNt, ↓e_tAnd2, ↓e_tOr2, ↓e_tOp2, ↓e_mChain, ↓e_tChain', ↓e_mAnd, ↓e_mOr, ↓e_mFld, ↓e_sFldD, ↓e_mMeth, ↓e_mMake, ↓e_mRev, revP_l, ↓e_mAndT, ↓e_mOrT, truP_lc, ↓e_mNot, ↓e_mCall, ↓e_mBlt, ↓e_oNo, ↓e_oSo, ↓e_mSl, ↓e_sPass, ↓e_sBrk, ↓e_sCnt, ↓e_sNever, ↓e_sSeq, ↓e_sAsg, ↓e_gNm, ↓e_gTu, ↓e_gsNil, ↓e_gsCons, ↓e_gSb, ↓e_sPar, ↓e_sExp, ↓e_sRt, ↓e_sRtN, ↓e_sIf, ↓e_sAug, ↓e_sFor, ↓e_sWh, ↓e_mComp, ↓e_mCompM, ↓e_tYs, ↓e_mkFn, ↓e_mApp, ↓e_itSeq, ↓e_itScr, ↓e_itEnum, ↓e_itZip, ↓e_itZip3, ↓e_itR1, ↓e_itR2, ↓e_itR3, ↓e_mDic0, ↓e_mDic1, ↓e_sPar3, ↓e_mAddM, ↓e_aStar, ↓e_mMulM, ↓e_sRaise0, ↓e_sRaise1, ↓e_mErr, ↓e_mCallV, starP_t, starP_l, slot_0, slot_1, slot_2, slot_3, slot_4, slot_5, slot_6, slot_7, slot_8, slot_9, slot_10, slot_11, slot_12, slot_13, slot_14, slot_15, slot_16, slot_17, slot_18, slot_19, slot_20, slot_21, slot_22, slot_23, slot_24, slot_25, slot_26, slot_27, slot_28, slot_29, slot_30, negP_i, ex3, ex2, wipeE, List.map_cons, List.map_nil, List.cons_append, List.nil_append, List.append_nil, List.length_cons, List.length_nil, List.replicate_succ, List.replicate_zero, List.set_cons_zero, List.set_cons_succ, Oc_some, Nat.reduceAdd, Nat.reduceSub, Nat.reduceLeDiff, Nat.zero_le, Int.toNat_natCast, Bool.or_false, Bool.or_true, Bool.or_self, Bool.false_or, Bool.true_or, decide_true, decide_false, Nat.zero_add, Nat.sub_self, Bool.true_eq_false, Bool.false_eq_true, if_true, if_false, ite_true, ite_false, true_and, and_true, addP_ii, subP_ii, mulP_ii, isiP_tup, isiP_lst, isiP_str, isiP_bl, isiP_int, isiP_tl, kd_non, kd_bl, kd_int, kd_str, kd_tup, kd_lst, isTup, isLst, isStr, isBl, isInt, eqP_ii, neP_ii, lenP_t, lenP_l, lenP_s, seqP_t, seqP_l, truP_b, ixP_t, ixP_l, slP_t, slP_l, tupleP_l, tupleP_t, addP_tt, modP_ii, divP_ii, exb, addLP_ll, min2_ii, max2_ii, exTup, exCons, exInt, iaddP_ii, leP_ii, gtP_ii, geP_ii, ltP_ii, intP_i, decide_eq_true_eq, Bool.not_eq_true', decide_eq_false_iff_not, Bool.not_true, Bool.not_false, List.cons_ne_nil, Nat.succ_ne_zero, reduceCtorEq]
  refine c_need_puzzle k ?_
  (try simp only [↓e_mVar, ↓e_mK, ↓e_mOp1, ↓e_mOp2, ↓e_aNil, ↓e_aCons, ↓e_mTup, ↓e_mLst, ↓e_mLstM, ↓e_mIf, ↓e_tTru, ↓e_tNt, ↓e_tAnd2, ↓e_tOr2, ↓e_tOp2, ↓e_mChain, ↓e_tChain', ↓e_mAnd, ↓e_mOr, ↓e_mFld, ↓e_sFldD, ↓e_mMeth, ↓e_mMake, ↓e_mRev, revP_l, ↓e_mAndT, ↓e_mOrT, truP_lc, ↓e_mNot, ↓e_mCall, ↓e_mBlt, ↓e_oNo, ↓e_oSo, ↓e_mSl, ↓e_sPass, ↓e_sBrk, ↓e_sCnt, ↓e_sNever, ↓e_sSeq, ↓e_sAsg, ↓e_gNm, ↓e_gTu, ↓e_gsNil, ↓e_gsCons, ↓e_gSb, ↓e_sPar, ↓e_sExp, ↓e_sRt, ↓e_sRtN, ↓e_sIf, ↓e_sAug, ↓e_sFor, ↓e_sWh, ↓e_mComp, ↓e_mCompM, ↓e_tYs, ↓e_mkFn, ↓e_mApp, ↓e_itSeq, ↓e_itScr, ↓e_itEnum, ↓e_itZip, ↓e_itZip3, ↓e_itR1, ↓e_itR2, ↓e_itR3, ↓e_mDic0, ↓e_mDic1, ↓e_sPar3, ↓e_mAddM, ↓e_aStar, ↓e_mMulM, ↓e_sRaise0, ↓e_sRaise1, ↓e_mErr, ↓e_mCallV, starP_t, starP_l, slot_0, slot_1, slot_2, slot_3, slot_4, slot_5, slot_6, slot_7, slot_8, slot_9, slot_10, slot_11, slot_12, slot_13, slot_14, slot_15, slot_16, slot_17, slot_18, slot_19, slot_20, slot_21, slot_22, slot_23, slot_24, slot_25, slot_26, slot_27, slot_28, slot_29, slot_30, negP_i, ex3, ex2, wipeE, List.map_cons, List.map_nil, List.cons_append, List.nil_append, List.append_nil, List.length_cons, List.length_nil, List.replicate_succ, List.replicate_zero, List.set_cons_zero, List.set_cons_succ, Oc_some, Nat.reduceAdd, Nat.reduceSub, Nat.reduceLeDiff, Nat.zero_le, Int.toNat_natCast, Bool.or_false, Bool.or_true, Bool.or_self, Bool.false_or, Bool.true_or, decide_true, decide_false, Nat.zero_add, Nat.sub_self, Bool.true_eq_false, Bool.false_eq_true, if_true, if_false, ite_true, ite_false, true_and, and_true, addP_ii, subP_ii, mulP_ii, isiP_tup, isiP_lst, isiP_str, isiP_bl, isiP_int, isiP_tl, kd_non, kd_bl, kd_int, kd_str, kd_tup, kd_lst, isTup, isLst, isStr, isBl, isInt, eqP_ii, neP_ii, lenP_t, lenP_l, lenP_s, seqP_t, seqP_l, truP_b, ixP_t, ixP_l, slP_t, slP_l, tupleP_l, tupleP_t, addP_tt, modP_ii, divP_ii, exb, addLP_ll, min2_ii, max2_ii, exTup, exCons, exInt, iaddP_ii, leP_ii, gtP_ii, geP_ii, ltP_ii, intP_i, decide_eq_true_eq, Bool.not_eq_true', decide_eq_false_iff_not, Bool.not_true, Bool.not_false, List.cons_ne_nil, Nat.succ_ne_zero, reduceCtorEq])
  refine c_held_one k ?_
  (try simp only [↓e_mVar, ↓e_mK, ↓e_mOp1, ↓e_mOp2, ↓e_aNil, ↓e_aCons, ↓e_mTup, ↓e_mLst, ↓e_mLstM, ↓e_mIf, ↓e_tTru, ↓e_tNt, ↓e_tAnd2, ↓e_tOr2, ↓e_tOp2, ↓e_mChain, ↓e_tChain', ↓e_mAnd, ↓e_mOr, ↓e_mFld, ↓e_sFldD, ↓e_mMeth, ↓e_mMake, ↓e_mRev, revP_l, ↓e_mAndT, ↓e_mOrT, truP_lc, ↓e_mNot, ↓e_mCall, ↓e_mBlt, ↓e_oNo, ↓e_oSo, ↓e_mSl, ↓e_sPass, ↓e_sBrk, ↓e_sCnt, ↓e_sNever, ↓e_sSeq, ↓e_sAsg, ↓e_gNm, ↓e_gTu, ↓e_gsNil, ↓e_gsCons, ↓e_gSb, ↓e_sPar, ↓e_sExp, ↓e_sRt, ↓e_sRtN, ↓e_sIf, ↓e_sAug, ↓e_sFor, ↓e_sWh, ↓e_mComp, ↓e_mCompM, ↓e_tYs, ↓e_mkFn, ↓e_mApp, ↓e_itSeq, ↓e_itScr, ↓e_itEnum, ↓e_itZip, ↓e_itZip3, ↓e_itR1, ↓e_itR2, ↓e_itR3, ↓e_mDic0, ↓e_mDic1, ↓e_sPar3, ↓e_mAddM, ↓e_aStar, ↓e_mMulM, ↓e_sRaise0, ↓e_sRaise1, ↓e_mErr, ↓e_mCallV, starP_t, starP_l, slot_0, slot_1, slot_2, slot_3, slot_4, slot_5, slot_6, slot_7, slot_8, slot_9, slot_10, slot_11, slot_12, slot_13, slot_14, slot_15, slot_16, slot_17, slot_18, slot_19, slot_20, slot_21, slot_22, slot_23, slot_24, slot_25, slot_26, slot_27, slot_28, slot_29, slot_30, negP_i, ex3, ex2, wipeE, List.map_cons, List.map_nil, List.cons_append, List.nil_append, List.append_nil, List.length_cons, List.length_nil, List.replicate_succ, List.replicate_zero, List.set_cons_zero, List.set_cons_succ, Oc_some, Nat.reduceAdd, Nat.reduceSub, Nat.reduceLeDiff, Nat.zero_le, Int.toNat_natCast, Bool.or_false, Bool.or_true, Bool.or_self, Bool.false_or, Bool.true_or, decide_true, decide_false, Nat.zero_add, Nat.sub_self, Bool.true_eq_false, Bool.false_eq_true, if_true, if_false, ite_true, ite_false, true_and, and_true, addP_ii, subP_ii, mulP_ii, isiP_tup, isiP_lst, isiP_str, isiP_bl, isiP_int, isiP_tl, kd_non, kd_bl, kd_int, kd_str, kd_tup, kd_lst, isTup, isLst, isStr, isBl, isInt, eqP_ii, neP_ii, lenP_t, lenP_l, lenP_s, seqP_t, seqP_l, truP_b, ixP_t, ixP_l, slP_t, slP_l, tupleP_l, tupleP_t, addP_tt, modP_ii, divP_ii, exb, addLP_ll, min2_ii, max2_ii, exTup, exCons, exInt, iaddP_ii, leP_ii, gtP_ii, geP_ii, ltP_ii, intP_i, decide_eq_true_eq, Bool.not_eq_true', decide_eq_false_iff_not, Bool.not_true, Bool.not_false, List.cons_ne_nil, Nat.succ_ne_zero, reduceCtorEq])
  refine c_need_state k.2.2 (ok_state.mpr os) ?_
  (try simp only [↓e_mVar, ↓e_mK, ↓e_mOp1, ↓e_mOp2, ↓e_aNil, ↓e_aCons, ↓e_mTup, ↓e_mLst, ↓e_mLstM, ↓e_mIf, ↓e_tTru, ↓e_tNt, ↓e_tAnd2, ↓e_tOr2, ↓e_tOp2, ↓e_mChain, ↓e_tChain', ↓e_mAnd, ↓e_mOr, ↓e_mFld, ↓e_sFldD, ↓e_mMeth, ↓e_mMake, ↓e_mRev, revP_l, ↓e_mAndT, ↓e_mOrT, truP_lc, ↓e_mNot, ↓e_mCall, ↓e_mBlt, ↓e_oNo, ↓e_oSo, ↓e_mSl, ↓e_sPass, ↓e_sBrk, ↓e_sCnt, ↓e_sNever, ↓e_sSeq, ↓e_sAsg, ↓e_gNm, ↓e_gTu, ↓e_gsNil, ↓e_gsCons, ↓e_gSb, ↓e_sPar, ↓e_sExp, ↓e_sRt, ↓e_sRtN, ↓e_sIf, ↓e_sAug, ↓e_sFor, ↓e_sWh, ↓e_mComp, ↓e_mCompM, ↓e_tYs, ↓e_mkFn, ↓e_mApp, ↓e_itSeq, ↓e_itScr, ↓e_itEnum, ↓e_itZip, ↓e_itZip3, ↓e_itR1, ↓e_itR2, ↓e_itR3, ↓e_mDic0, ↓e_mDic1, ↓e_sPar3, ↓e_mAddM, ↓e_aStar, ↓e_mMulM, ↓e_sRaise0, ↓e_sRaise1, ↓e_mErr, ↓e_mCallV, starP_t, starP_l, slot_0, slot_1, slot_2, slot_3, slot_4, slot_5, slot_6, slot_7, slot_8, slot_9, slot_10, slot_11, slot_12, slot_13, slot_14, slot_15, slot_16, slot_17, slot_18, slot_19, slot_20, slot_21, slot_22, slot_23, slot_24, slot_25, slot_26, slot_27, slot_28, slot_29, slot_30, negP_i, ex3, ex2, wipeE, List.map_cons, List.map_nil, List.cons_append, List.nil_append, List.append_nil, List.length_cons, List.length_nil, List.replicate_succ, List.replicate_zero, List.set_cons_zero, List.set_cons_succ, Oc_some, Nat.reduceAdd, Nat.reduceSub, Nat.reduceLeDiff, Nat.zero_le, Int.toNat_natCast, Bool.or_false, Bool.or_true, Bool.or_self, Bool.false_or, Bool.true_or, decide_true, decide_false, Nat.zero_add, Nat.sub_self, Bool.true_eq_false, Bool.false_eq_true, if_true, if_false, ite_true, ite_false, true_and, and_true, addP_ii, subP_ii, mulP_ii, isiP_tup, isiP_lst, isiP_str, isiP_bl, isiP_int, isiP_tl, kd_non, kd_bl, kd_int, kd_str, kd_tup, kd_lst, isTup, isLst, isStr, isBl, isInt, eqP_ii, neP_ii, lenP_t, lenP_l, lenP_s, seqP_t, seqP_l, truP_b, ixP_t, ixP_l, slP_t, slP_l, tupleP_l, tupleP_t, addP_tt, modP_ii, divP_ii, exb, addLP_ll, min2_ii, max2_ii, exTup, exCons, exInt, iaddP_ii, leP_ii, gtP_ii, geP_ii, ltP_ii, intP_i, decide_eq_true_eq, Bool.not_eq_true', decide_eq_false_iff_not, Bool.not_true, Bool.not_false, List.cons_ne_nil, Nat.succ_ne_zero, reduceCtorEq])
  refine c_need_state k.2.2 (ok_state.mpr os) ?_
  (try simp only [↓e_mVar, ↓e_mK, ↓e_mOp1, ↓e_mOp2, ↓e_aNil, ↓e_aCons, ↓e_mTup, ↓e_mLst, ↓e_mLstM, ↓e_mIf, ↓e_tTru, ↓e_tNt, ↓e_tAnd2, ↓e_tOr2, ↓e_tOp2, ↓e_mChain, ↓e_tChain', ↓e_mAnd, ↓e_mOr, ↓e_mFld, ↓e_sFldD, ↓e_mMeth, ↓e_mMake, ↓e_mRev, revP_l, ↓e_mAndT, ↓e_mOrT, truP_lc, ↓e_mNot, ↓e_mCall, ↓e_mBlt, ↓e_oNo, ↓e_oSo, ↓e_mSl, ↓e_sPass, ↓e_sBrk, ↓e_sCnt, ↓e_sNever, ↓e_sSeq, ↓e_sAsg, ↓e_gNm, ↓e_gTu, ↓e_gsNil, ↓e_gsCons, ↓e_gSb, ↓e_sPar, ↓e_sExp, ↓e_sRt, ↓e_sRtN, ↓e_sIf, ↓e_sAug, ↓e_sFor, ↓e_sWh, ↓e_mComp, ↓e_mCompM, ↓e_tYs, ↓e_mkFn, ↓e_mApp, ↓e_itSeq, ↓e_itScr, ↓e_itEnum, ↓e_itZip, ↓e_itZip3, ↓e_itR1, ↓e_itR2, ↓e_itR3, ↓e_mDic0, ↓e_mDic1, ↓e_sPar3, ↓e_mAddM, ↓e_aStar, ↓e_mMulM, ↓e_sRaise0, ↓e_sRaise1, ↓e_mErr, ↓e_mCallV, starP_t, starP_l, slot_0, slot_1, slot_2, slot_3, slot_4, slot_5, slot_6, slot_7, slot_8, slot_9, slot_10, slot_11, slot_12, slot_13, slot_14, slot_15, slot_16, slot_17, slot_18, slot_19, slot_20, slot_21, slot_22, slot_23, slot_24, slot_25, slot_26, slot_27, slot_28, slot_29, slot_30, negP_i, ex3, ex2, wipeE, List.map_cons, List.map_nil, List.cons_append, List.nil_append, List.append_nil, List.length_cons, List.length_nil, List.replicate_succ, List.replicate_zero, List.set_cons_zero, List.set_cons_succ, Oc_some, Nat.reduceAdd, Nat.reduceSub, Nat.reduceLeDiff, Nat.zero_le, Int.toNat_natCast, Bool.or_false, Bool.or_true, Bool.or_self, Bool.false_or, Bool.true_or, decide_true, decide_false, Nat.zero_add, Nat.sub_self, Bool.true_eq_false, Bool.false_eq_true, if_true, if_false, ite_true, ite_false, true_and, and_true, addP_ii, subP_ii, mulP_ii, isiP_tup, isiP_lst, isiP_str, isiP_bl, isiP_int, isiP_tl, kd_non, kd_bl, kd_int, kd_str, kd_tup, kd_lst, isTup, isLst, isStr, isBl, isInt, eqP_ii, neP_ii, lenP_t, lenP_l, lenP_s, seqP_t, seqP_l, truP_b, ixP_t, ixP_l, slP_t, slP_l, tupleP_l, tupleP_t, addP_tt, modP_ii, divP_ii, exb, addLP_ll, min2_ii, max2_ii, exTup, exCons, exInt, iaddP_ii, leP_ii, gtP_ii, geP_ii, ltP_ii, intP_i, decide_eq_true_eq, Bool.not_eq_true', decide_eq_false_iff_not, Bool.not_true, Bool.not_false, List.cons_ne_nil, Nat.succ_ne_zero, reduceCtorEq])
  intro r hr
  have n1 : (Str.ofString "puzzle" = Str.ofString "lamps") = False := eq_false (by decide +kernel)
  have n2 : (Str.ofString "puzzle" = Str.ofString "known") = False := eq_false (by decide +kernel)
  have n3 : (Str.ofString "lamps" = Str.ofString "known") = False := eq_false (by decide +kernel)
  have n4 : (Str.ofString "puzzle" = Str.ofString "sizes") = False := eq_false (by decide +kernel)
  have n5 : (Str.ofString "lamps" = Str.ofString "sizes") = False := eq_false (by decide +kernel)
  have n6 : (Str.ofString "known" = Str.ofString "sizes") = False := eq_false (by decide +kernel)
  simp only [↓e_Held_init, ↓e_mVar, ↓e_mK, ↓e_mOp1, ↓e_mOp2, ↓e_aNil, ↓e_aCons, ↓e_mTup, ↓e_mLst, ↓e_mLstM, ↓e_mIf, ↓e_tTru, ↓e_tNt, ↓e_tAnd2, ↓e_tOr2, ↓e_tOp2, ↓e_mChain, ↓e_tChain', ↓e_mAnd, ↓e_mOr, ↓e_mFld, ↓e_sFldD, ↓e_mMeth, ↓e_mMake, ↓e_mRev, revP_l, ↓e_mAndT, ↓e_mOrT, truP_lc, ↓e_mNot, ↓e_mCall, ↓e_mBlt, ↓e_oNo, ↓e_oSo, ↓e_mSl, ↓e_sPass, ↓e_sBrk, ↓e_sCnt, ↓e_sNever, ↓e_sSeq, ↓e_sAsg, ↓e_gNm, ↓e_gTu, ↓e_gsNil, ↓e_gsCons, ↓e_gSb, ↓e_sPar, ↓e_sExp, ↓e_sRt, ↓e_sRtN, ↓e_sIf, ↓e_sAug, ↓e_sFor, ↓e_sWh, ↓e_mComp, ↓e_mCompM, ↓e_tYs, ↓e_mkFn, ↓e_mApp, ↓e_itSeq, ↓e_itScr, ↓e_itEnum, ↓e_itZip, ↓e_itZip3, ↓e_itR1, ↓e_itR2, ↓e_itR3, ↓e_mDic0, ↓e_mDic1, ↓e_sPar3, ↓e_mAddM, ↓e_aStar, ↓e_mMulM, ↓e_sRaise0, ↓e_sRaise1, ↓e_mErr, ↓e_mCallV, starP_t, starP_l, slot_0, slot_1, slot_2, slot_3, slot_4, slot_5, slot_6, slot_7, slot_8, slot_9, slot_10, slot_11, slot_12, slot_13, slot_14, slot_15, slot_16, slot_17, slot_18, slot_19, slot_20, slot_21, slot_22, slot_23, slot_24, slot_25, slot_26, slot_27, slot_28, slot_29, slot_30, negP_i, ex3, ex2, wipeE, List.map_cons, List.map_nil, List.cons_append, List.nil_append, List.append_nil, List.length_cons, List.length_nil, List.replicate_succ, List.replicate_zero, List.set_cons_zero, List.set_cons_succ, Oc_some, Nat.reduceAdd, Nat.reduceSub, Nat.reduceLeDiff, Nat.zero_le, Int.toNat_natCast, Bool.or_false, Bool.or_true, Bool.or_self, Bool.false_or, Bool.true_or, decide_true, decide_false, Nat.zero_add, Nat.sub_self, Bool.true_eq_false, Bool.false_eq_true, if_true, if_false, ite_true, ite_false, true_and, and_true, addP_ii, subP_ii, mulP_ii, isiP_tup, isiP_lst, isiP_str, isiP_bl, isiP_int, isiP_tl, kd_non, kd_bl, kd_int, kd_str, kd_tup, kd_lst, isTup, isLst, isStr, isBl, isInt, eqP_ii, neP_ii, lenP_t, lenP_l, lenP_s, seqP_t, seqP_l, truP_b, ixP_t, ixP_l, slP_t, slP_l, tupleP_l, tupleP_t, addP_tt, modP_ii, divP_ii, exb, addLP_ll, min2_ii, max2_ii, exTup, exCons, exInt, iaddP_ii, leP_ii, gtP_ii, geP_ii, ltP_ii, intP_i, decide_eq_true_eq, Bool.not_eq_true', decide_eq_false_iff_not, Bool.not_true, Bool.not_false, List.cons_ne_nil, Nat.succ_ne_zero, reduceCtorEq, insAt_r upO_same, upO_upO, putFD, n1]
  refine ⟨by decide, by decide, ?_⟩
  intro a ha
  have ar : a ≠ r := by rintro rfl; rw [upO_same] at ha; cases ha
  have ha0 : h a = none := by rw [upO_ne ar] at ha; exact ha
  simp only [insAt_r (show (upO (upO h r (.ins "Held" [("puzzle", tP p), ("lamps", .tup [.int 0])])) a (.dic [])) r = some (.ins "Held" [("puzzle", tP p), ("lamps", .tup [.int 0])]) by rw [upO_ne (Ne.symm ar), upO_same]), putFD, n1, n2, n3, if_false]
  refine ⟨by show 2 < 1000; decide, ?_⟩
  intro b hb
  have br : b ≠ r := by rintro rfl; rw [upO_same] at hb; cases hb
  have ba : b ≠ a := by rintro rfl; rw [upO_ne br, upO_same] at hb; cases hb
  have hb0 : h b = none := by rw [upO_ne br, upO_ne ba, upO_ne br] at hb; exact hb
  refine ⟨upO_same, key_tI [], ?_⟩
  have e3 : ∀ X : DH, X r = some (.ins "Held" [("puzzle", tP p), ("lamps", .tup [.int 0]), ("known", .ref a)]) → ∀ w : O, (upO X b w) r = some (.ins "Held" [("puzzle", tP p), ("lamps", .tup [.int 0]), ("known", .ref a)]) := fun X e w => by rw [upO_ne (Ne.symm br)]; exact e
  rw [insAt_r (e3 _ upO_same _)]
  simp only [putFD, n1, n2, n3, n4, n5, n6, if_false]
  refine ⟨by show 3 < 1000; decide, .of ⟨rfl, ?_⟩⟩
  have le : Le h (upO (upO (upO (upO (upO h r (.ins "Held" [("puzzle", tP p), ("lamps", .tup [.int 0])])) a (.dic [])) r (.ins "Held" [("puzzle", tP p), ("lamps", .tup [.int 0]), ("known", .ref a)])) b (.dic [(.tup [], .int 1)])) r (.ins "Held" [("puzzle", tP p), ("lamps", .tup [.int 0]), ("known", .ref a), ("sizes", .ref b)])) := fun c o e => by
    have cr : c ≠ r := by rintro rfl; rw [hr] at e; cases e
    have ca : c ≠ a := by rintro rfl; rw [ha0] at e; cases e
    have cb : c ≠ b := by rintro rfl; rw [hb0] at e; cases e
    rw [upO_ne cr, upO_ne cb, upO_ne cr, upO_ne ca, upO_ne cr]
    exact e
  rw [insAt_r upO_same]
  refine ⟨rfl, ?_⟩
  generalize hH4 : upO (upO (upO (upO (upO h r (.ins "Held" [("puzzle", tP p), ("lamps", .tup [.int 0])])) a (.dic [])) r (.ins "Held" [("puzzle", tP p), ("lamps", .tup [.int 0]), ("known", .ref a)])) b (.dic [(.tup [], .int 1)])) r (.ins "Held" [("puzzle", tP p), ("lamps", .tup [.int 0]), ("known", .ref a), ("sizes", .ref b)]) = H4 at le ⊢
  have e4 : H4 r = some (.ins "Held" [("puzzle", tP p), ("lamps", .tup [.int 0]), ("known", .ref a), ("sizes", .ref b)]) := by rw [← hH4]; exact upO_same
  have lk1 : List.lookup (Str.ofString "puzzle") [(Str.ofString "puzzle", tP p), (Str.ofString "lamps", D.tup [.int 0]), (Str.ofString "known", .ref a), (Str.ofString "sizes", .ref b)] = some (tP p) := rfl
  have lk2 : List.lookup (Str.ofString "lamps") [(Str.ofString "puzzle", tP p), (Str.ofString "lamps", D.tup [.int 0]), (Str.ofString "known", .ref a), (Str.ofString "sizes", .ref b)] = some (.tup [.int 0]) := rfl
  have lk3 : List.lookup (Str.ofString "known") [(Str.ofString "puzzle", tP p), (Str.ofString "lamps", D.tup [.int 0]), (Str.ofString "known", .ref a), (Str.ofString "sizes", .ref b)] = some (.ref a) := rfl
  simp only [↓e_Held_is_open, ↓e_mVar, ↓e_mK, ↓e_mOp1, ↓e_mOp2, ↓e_aNil, ↓e_aCons, ↓e_mTup, ↓e_mLst, ↓e_mLstM, ↓e_mIf, ↓e_tTru, ↓e_tNt, ↓e_tAnd2, ↓e_tOr2, ↓e_tOp2, ↓e_mChain, ↓e_tChain', ↓e_mAnd, ↓e_mOr, ↓e_mFld, ↓e_sFldD, ↓e_mMeth, ↓e_mMake, ↓e_mRev, revP_l, ↓e_mAndT, ↓e_mOrT, truP_lc, ↓e_mNot, ↓e_mCall, ↓e_mBlt, ↓e_oNo, ↓e_oSo, ↓e_mSl, ↓e_sPass, ↓e_sBrk, ↓e_sCnt, ↓e_sNever, ↓e_sSeq, ↓e_sAsg, ↓e_gNm, ↓e_gTu, ↓e_gsNil, ↓e_gsCons, ↓e_gSb, ↓e_sPar, ↓e_sExp, ↓e_sRt, ↓e_sRtN, ↓e_sIf, ↓e_sAug, ↓e_sFor, ↓e_sWh, ↓e_mComp, ↓e_mCompM, ↓e_tYs, ↓e_mkFn, ↓e_mApp, ↓e_itSeq, ↓e_itScr, ↓e_itEnum, ↓e_itZip, ↓e_itZip3, ↓e_itR1, ↓e_itR2, ↓e_itR3, ↓e_mDic0, ↓e_mDic1, ↓e_sPar3, ↓e_mAddM, ↓e_aStar, ↓e_mMulM, ↓e_sRaise0, ↓e_sRaise1, ↓e_mErr, ↓e_mCallV, starP_t, starP_l, slot_0, slot_1, slot_2, slot_3, slot_4, slot_5, slot_6, slot_7, slot_8, slot_9, slot_10, slot_11, slot_12, slot_13, slot_14, slot_15, slot_16, slot_17, slot_18, slot_19, slot_20, slot_21, slot_22, slot_23, slot_24, slot_25, slot_26, slot_27, slot_28, slot_29, slot_30, negP_i, ex3, ex2, wipeE, List.map_cons, List.map_nil, List.cons_append, List.nil_append, List.append_nil, List.length_cons, List.length_nil, List.replicate_succ, List.replicate_zero, List.set_cons_zero, List.set_cons_succ, Oc_some, Nat.reduceAdd, Nat.reduceSub, Nat.reduceLeDiff, Nat.zero_le, Int.toNat_natCast, Bool.or_false, Bool.or_true, Bool.or_self, Bool.false_or, Bool.true_or, decide_true, decide_false, Nat.zero_add, Nat.sub_self, Bool.true_eq_false, Bool.false_eq_true, if_true, if_false, ite_true, ite_false, true_and, and_true, addP_ii, subP_ii, mulP_ii, isiP_tup, isiP_lst, isiP_str, isiP_bl, isiP_int, isiP_tl, kd_non, kd_bl, kd_int, kd_str, kd_tup, kd_lst, isTup, isLst, isStr, isBl, isInt, eqP_ii, neP_ii, lenP_t, lenP_l, lenP_s, seqP_t, seqP_l, truP_b, ixP_t, ixP_l, slP_t, slP_l, tupleP_l, tupleP_t, addP_tt, modP_ii, divP_ii, exb, addLP_ll, min2_ii, max2_ii, exTup, exCons, exInt, iaddP_ii, leP_ii, gtP_ii, geP_ii, ltP_ii, intP_i, decide_eq_true_eq, Bool.not_eq_true', decide_eq_false_iff_not, Bool.not_true, Bool.not_false, List.cons_ne_nil, Nat.succ_ne_zero, reduceCtorEq, insAt_r e4, lk1, lk2, lk3]
  refine uses_eq (by omega) ?_
  simp only [tI, ↓e_mVar, ↓e_mK, ↓e_mOp1, ↓e_mOp2, ↓e_aNil, ↓e_aCons, ↓e_mTup, ↓e_mLst, ↓e_mLstM, ↓e_mIf, ↓e_tTru, ↓e_tNt, ↓e_tAnd2, ↓e_tOr2, ↓e_tOp2, ↓e_mChain, ↓e_tChain', ↓e_mAnd, ↓e_mOr, ↓e_mFld, ↓e_sFldD, ↓e_mMeth, ↓e_mMake, ↓e_mRev, revP_l, ↓e_mAndT, ↓e_mOrT, truP_lc, ↓e_mNot, ↓e_mCall, ↓e_mBlt, ↓e_oNo, ↓e_oSo, ↓e_mSl, ↓e_sPass, ↓e_sBrk, ↓e_sCnt, ↓e_sNever, ↓e_sSeq, ↓e_sAsg, ↓e_gNm, ↓e_gTu, ↓e_gsNil, ↓e_gsCons, ↓e_gSb, ↓e_sPar, ↓e_sExp, ↓e_sRt, ↓e_sRtN, ↓e_sIf, ↓e_sAug, ↓e_sFor, ↓e_sWh, ↓e_mComp, ↓e_mCompM, ↓e_tYs, ↓e_mkFn, ↓e_mApp, ↓e_itSeq, ↓e_itScr, ↓e_itEnum, ↓e_itZip, ↓e_itZip3, ↓e_itR1, ↓e_itR2, ↓e_itR3, ↓e_mDic0, ↓e_mDic1, ↓e_sPar3, ↓e_mAddM, ↓e_aStar, ↓e_mMulM, ↓e_sRaise0, ↓e_sRaise1, ↓e_mErr, ↓e_mCallV, starP_t, starP_l, slot_0, slot_1, slot_2, slot_3, slot_4, slot_5, slot_6, slot_7, slot_8, slot_9, slot_10, slot_11, slot_12, slot_13, slot_14, slot_15, slot_16, slot_17, slot_18, slot_19, slot_20, slot_21, slot_22, slot_23, slot_24, slot_25, slot_26, slot_27, slot_28, slot_29, slot_30, negP_i, ex3, ex2, wipeE, List.map_cons, List.map_nil, List.cons_append, List.nil_append, List.append_nil, List.length_cons, List.length_nil, List.replicate_succ, List.replicate_zero, List.set_cons_zero, List.set_cons_succ, Oc_some, Nat.reduceAdd, Nat.reduceSub, Nat.reduceLeDiff, Nat.zero_le, Int.toNat_natCast, Bool.or_false, Bool.or_true, Bool.or_self, Bool.false_or, Bool.true_or, decide_true, decide_false, Nat.zero_add, Nat.sub_self, Bool.true_eq_false, Bool.false_eq_true, if_true, if_false, ite_true, ite_false, true_and, and_true, addP_ii, subP_ii, mulP_ii, isiP_tup, isiP_lst, isiP_str, isiP_bl, isiP_int, isiP_tl, kd_non, kd_bl, kd_int, kd_str, kd_tup, kd_lst, isTup, isLst, isStr, isBl, isInt, eqP_ii, neP_ii, lenP_t, lenP_l, lenP_s, seqP_t, seqP_l, truP_b, ixP_t, ixP_l, slP_t, slP_l, tupleP_l, tupleP_t, addP_tt, modP_ii, divP_ii, exb, addLP_ll, min2_ii, max2_ii, exTup, exCons, exInt, iaddP_ii, leP_ii, gtP_ii, geP_ii, ltP_ii, intP_i, decide_eq_true_eq, Bool.not_eq_true', decide_eq_false_iff_not, Bool.not_true, Bool.not_false, List.cons_ne_nil, Nat.succ_ne_zero, reduceCtorEq, insAt_r e4, lk2]
  have at0 : atI ((List.replicate st.length (0 : Int)).map D.int) 0 = some (.int 0) := atI_nat (j := 0) (by rw [List.map_replicate, List.getElem?_replicate, if_pos (by omega)])
  refine comp_map [D.int 0] (fun _ => .bl false) trivial (by simp) (fun x K K2 mx kx => ?_) ?_
  · rw [List.mem_singleton.mp mx]
    simp only [↓e_mVar, ↓e_mK, ↓e_mOp1, ↓e_mOp2, ↓e_aNil, ↓e_aCons, ↓e_mTup, ↓e_mLst, ↓e_mLstM, ↓e_mIf, ↓e_tTru, ↓e_tNt, ↓e_tAnd2, ↓e_tOr2, ↓e_tOp2, ↓e_mChain, ↓e_tChain', ↓e_mAnd, ↓e_mOr, ↓e_mFld, ↓e_sFldD, ↓e_mMeth, ↓e_mMake, ↓e_mRev, revP_l, ↓e_mAndT, ↓e_mOrT, truP_lc, ↓e_mNot, ↓e_mCall, ↓e_mBlt, ↓e_oNo, ↓e_oSo, ↓e_mSl, ↓e_sPass, ↓e_sBrk, ↓e_sCnt, ↓e_sNever, ↓e_sSeq, ↓e_sAsg, ↓e_gNm, ↓e_gTu, ↓e_gsNil, ↓e_gsCons, ↓e_gSb, ↓e_sPar, ↓e_sExp, ↓e_sRt, ↓e_sRtN, ↓e_sIf, ↓e_sAug, ↓e_sFor, ↓e_sWh, ↓e_mComp, ↓e_mCompM, ↓e_tYs, ↓e_mkFn, ↓e_mApp, ↓e_itSeq, ↓e_itScr, ↓e_itEnum, ↓e_itZip, ↓e_itZip3, ↓e_itR1, ↓e_itR2, ↓e_itR3, ↓e_mDic0, ↓e_mDic1, ↓e_sPar3, ↓e_mAddM, ↓e_aStar, ↓e_mMulM, ↓e_sRaise0, ↓e_sRaise1, ↓e_mErr, ↓e_mCallV, starP_t, starP_l, slot_0, slot_1, slot_2, slot_3, slot_4, slot_5, slot_6, slot_7, slot_8, slot_9, slot_10, slot_11, slot_12, slot_13, slot_14, slot_15, slot_16, slot_17, slot_18, slot_19, slot_20, slot_21, slot_22, slot_23, slot_24, slot_25, slot_26, slot_27, slot_28, slot_29, slot_30, negP_i, ex3, ex2, wipeE, List.map_cons, List.map_nil, List.cons_append, List.nil_append, List.append_nil, List.length_cons, List.length_nil, List.replicate_succ, List.replicate_zero, List.set_cons_zero, List.set_cons_succ, Oc_some, Nat.reduceAdd, Nat.reduceSub, Nat.reduceLeDiff, Nat.zero_le, Int.toNat_natCast, Bool.or_false, Bool.or_true, Bool.or_self, Bool.false_or, Bool.true_or, decide_true, decide_false, Nat.zero_add, Nat.sub_self, Bool.true_eq_false, Bool.false_eq_true, if_true, if_false, ite_true, ite_false, true_and, and_true, addP_ii, subP_ii, mulP_ii, isiP_tup, isiP_lst, isiP_str, isiP_bl, isiP_int, isiP_tl, kd_non, kd_bl, kd_int, kd_str, kd_tup, kd_lst, isTup, isLst, isStr, isBl, isInt, eqP_ii, neP_ii, lenP_t, lenP_l, lenP_s, seqP_t, seqP_l, truP_b, ixP_t, ixP_l, slP_t, slP_l, tupleP_l, tupleP_t, addP_tt, modP_ii, divP_ii, exb, addLP_ll, min2_ii, max2_ii, exTup, exCons, exInt, iaddP_ii, leP_ii, gtP_ii, geP_ii, ltP_ii, intP_i, decide_eq_true_eq, Bool.not_eq_true', decide_eq_false_iff_not, Bool.not_true, Bool.not_false, List.cons_ne_nil, Nat.succ_ne_zero, reduceCtorEq, at0, List.length_map, List.length_replicate]
    rw [if_pos (by omega)]
    (try simp only [↓e_mVar, ↓e_mK, ↓e_mOp1, ↓e_mOp2, ↓e_aNil, ↓e_aCons, ↓e_mTup, ↓e_mLst, ↓e_mLstM, ↓e_mIf, ↓e_tTru, ↓e_tNt, ↓e_tAnd2, ↓e_tOr2, ↓e_tOp2, ↓e_mChain, ↓e_tChain', ↓e_mAnd, ↓e_mOr, ↓e_mFld, ↓e_sFldD, ↓e_mMeth, ↓e_mMake, ↓e_mRev, revP_l, ↓e_mAndT, ↓e_mOrT, truP_lc, ↓e_mNot, ↓e_mCall, ↓e_mBlt, ↓e_oNo, ↓e_oSo, ↓e_mSl, ↓e_sPass, ↓e_sBrk, ↓e_sCnt, ↓e_sNever, ↓e_sSeq, ↓e_sAsg, ↓e_gNm, ↓e_gTu, ↓e_gsNil, ↓e_gsCons, ↓e_gSb, ↓e_sPar, ↓e_sExp, ↓e_sRt, ↓e_sRtN, ↓e_sIf, ↓e_sAug, ↓e_sFor, ↓e_sWh, ↓e_mComp, ↓e_mCompM, ↓e_tYs, ↓e_mkFn, ↓e_mApp, ↓e_itSeq, ↓e_itScr, ↓e_itEnum, ↓e_itZip, ↓e_itZip3, ↓e_itR1, ↓e_itR2, ↓e_itR3, ↓e_mDic0, ↓e_mDic1, ↓e_sPar3, ↓e_mAddM, ↓e_aStar, ↓e_mMulM, ↓e_sRaise0, ↓e_sRaise1, ↓e_mErr, ↓e_mCallV, starP_t, starP_l, slot_0, slot_1, slot_2, slot_3, slot_4, slot_5, slot_6, slot_7, slot_8, slot_9, slot_10, slot_11, slot_12, slot_13, slot_14, slot_15, slot_16, slot_17, slot_18, slot_19, slot_20, slot_21, slot_22, slot_23, slot_24, slot_25, slot_26, slot_27, slot_28, slot_29, slot_30, negP_i, ex3, ex2, wipeE, List.map_cons, List.map_nil, List.cons_append, List.nil_append, List.append_nil, List.length_cons, List.length_nil, List.replicate_succ, List.replicate_zero, List.set_cons_zero, List.set_cons_succ, Oc_some, Nat.reduceAdd, Nat.reduceSub, Nat.reduceLeDiff, Nat.zero_le, Int.toNat_natCast, Bool.or_false, Bool.or_true, Bool.or_self, Bool.false_or, Bool.true_or, decide_true, decide_false, Nat.zero_add, Nat.sub_self, Bool.true_eq_false, Bool.false_eq_true, if_true, if_false, ite_true, ite_false, true_and, and_true, addP_ii, subP_ii, mulP_ii, isiP_tup, isiP_lst, isiP_str, isiP_bl, isiP_int, isiP_tl, kd_non, kd_bl, kd_int, kd_str, kd_tup, kd_lst, isTup, isLst, isStr, isBl, isInt, eqP_ii, neP_ii, lenP_t, lenP_l, lenP_s, seqP_t, seqP_l, truP_b, ixP_t, ixP_l, slP_t, slP_l, tupleP_l, tupleP_t, addP_tt, modP_ii, divP_ii, exb, addLP_ll, min2_ii, max2_ii, exTup, exCons, exInt, iaddP_ii, leP_ii, gtP_ii, geP_ii, ltP_ii, intP_i, decide_eq_true_eq, Bool.not_eq_true', decide_eq_false_iff_not, Bool.not_true, Bool.not_false, List.cons_ne_nil, Nat.succ_ne_zero, reduceCtorEq])
    exact kx
  · (try simp only [↓e_mVar, ↓e_mK, ↓e_mOp1, ↓e_mOp2, ↓e_aNil, ↓e_aCons, ↓e_mTup, ↓e_mLst, ↓e_mLstM, ↓e_mIf, ↓e_tTru, ↓e_tNt, ↓e_tAnd2, ↓e_tOr2, ↓e_tOp2, ↓e_mChain, ↓e_tChain', ↓e_mAnd, ↓e_mOr, ↓e_mFld, ↓e_sFldD, ↓e_mMeth, ↓e_mMake, ↓e_mRev, revP_l, ↓e_mAndT, ↓e_mOrT, truP_lc, ↓e_mNot, ↓e_mCall, ↓e_mBlt, ↓e_oNo, ↓e_oSo, ↓e_mSl, ↓e_sPass, ↓e_sBrk, ↓e_sCnt, ↓e_sNever, ↓e_sSeq, ↓e_sAsg, ↓e_gNm, ↓e_gTu, ↓e_gsNil, ↓e_gsCons, ↓e_gSb, ↓e_sPar, ↓e_sExp, ↓e_sRt, ↓e_sRtN, ↓e_sIf, ↓e_sAug, ↓e_sFor, ↓e_sWh, ↓e_mComp, ↓e_mCompM, ↓e_tYs, ↓e_mkFn, ↓e_mApp, ↓e_itSeq, ↓e_itScr, ↓e_itEnum, ↓e_itZip, ↓e_itZip3, ↓e_itR1, ↓e_itR2, ↓e_itR3, ↓e_mDic0, ↓e_mDic1, ↓e_sPar3, ↓e_mAddM, ↓e_aStar, ↓e_mMulM, ↓e_sRaise0, ↓e_sRaise1, ↓e_mErr, ↓e_mCallV, starP_t, starP_l, slot_0, slot_1, slot_2, slot_3, slot_4, slot_5, slot_6, slot_7, slot_8, slot_9, slot_10, slot_11, slot_12, slot_13, slot_14, slot_15, slot_16, slot_17, slot_18, slot_19, slot_20, slot_21, slot_22, slot_23, slot_24, slot_25, slot_26, slot_27, slot_28, slot_29, slot_30, negP_i, ex3, ex2, wipeE, List.map_cons, List.map_nil, List.cons_append, List.nil_append, List.append_nil, List.length_cons, List.length_nil, List.replicate_succ, List.replicate_zero, List.set_cons_zero, List.set_cons_succ, Oc_some, Nat.reduceAdd, Nat.reduceSub, Nat.reduceLeDiff, Nat.zero_le, Int.toNat_natCast, Bool.or_false, Bool.or_true, Bool.or_self, Bool.false_or, Bool.true_or, decide_true, decide_false, Nat.zero_add, Nat.sub_self, Bool.true_eq_false, Bool.false_eq_true, if_true, if_false, ite_true, ite_false, true_and, and_true, addP_ii, subP_ii, mulP_ii, isiP_tup, isiP_lst, isiP_str, isiP_bl, isiP_int, isiP_tl, kd_non, kd_bl, kd_int, kd_str, kd_tup, kd_lst, isTup, isLst, isStr, isBl, isInt, eqP_ii, neP_ii, lenP_t, lenP_l, lenP_s, seqP_t, seqP_l, truP_b, ixP_t, ixP_l, slP_t, slP_l, tupleP_l, tupleP_t, addP_tt, modP_ii, divP_ii, exb, addLP_ll, min2_ii, max2_ii, exTup, exCons, exInt, iaddP_ii, leP_ii, gtP_ii, geP_ii, ltP_ii, intP_i, decide_eq_true_eq, Bool.not_eq_true', decide_eq_false_iff_not, Bool.not_true, Bool.not_false, List.cons_ne_nil, Nat.succ_ne_zero, reduceCtorEq])
    refine ⟨[false], rfl, ?_⟩
    (try simp only [↓e_mVar, ↓e_mK, ↓e_mOp1, ↓e_mOp2, ↓e_aNil, ↓e_aCons, ↓e_mTup, ↓e_mLst, ↓e_mLstM, ↓e_mIf, ↓e_tTru, ↓e_tNt, ↓e_tAnd2, ↓e_tOr2, ↓e_tOp2, ↓e_mChain, ↓e_tChain', ↓e_mAnd, ↓e_mOr, ↓e_mFld, ↓e_sFldD, ↓e_mMeth, ↓e_mMake, ↓e_mRev, revP_l, ↓e_mAndT, ↓e_mOrT, truP_lc, ↓e_mNot, ↓e_mCall, ↓e_mBlt, ↓e_oNo, ↓e_oSo, ↓e_mSl, ↓e_sPass, ↓e_sBrk, ↓e_sCnt, ↓e_sNever, ↓e_sSeq, ↓e_sAsg, ↓e_gNm, ↓e_gTu, ↓e_gsNil, ↓e_gsCons, ↓e_gSb, ↓e_sPar, ↓e_sExp, ↓e_sRt, ↓e_sRtN, ↓e_sIf, ↓e_sAug, ↓e_sFor, ↓e_sWh, ↓e_mComp, ↓e_mCompM, ↓e_tYs, ↓e_mkFn, ↓e_mApp, ↓e_itSeq, ↓e_itScr, ↓e_itEnum, ↓e_itZip, ↓e_itZip3, ↓e_itR1, ↓e_itR2, ↓e_itR3, ↓e_mDic0, ↓e_mDic1, ↓e_sPar3, ↓e_mAddM, ↓e_aStar, ↓e_mMulM, ↓e_sRaise0, ↓e_sRaise1, ↓e_mErr, ↓e_mCallV, starP_t, starP_l, slot_0, slot_1, slot_2, slot_3, slot_4, slot_5, slot_6, slot_7, slot_8, slot_9, slot_10, slot_11, slot_12, slot_13, slot_14, slot_15, slot_16, slot_17, slot_18, slot_19, slot_20, slot_21, slot_22, slot_23, slot_24, slot_25, slot_26, slot_27, slot_28, slot_29, slot_30, negP_i, ex3, ex2, wipeE, List.map_cons, List.map_nil, List.cons_append, List.nil_append, List.append_nil, List.length_cons, List.length_nil, List.replicate_succ, List.replicate_zero, List.set_cons_zero, List.set_cons_succ, Oc_some, Nat.reduceAdd, Nat.reduceSub, Nat.reduceLeDiff, Nat.zero_le, Int.toNat_natCast, Bool.or_false, Bool.or_true, Bool.or_self, Bool.false_or, Bool.true_or, decide_true, decide_false, Nat.zero_add, Nat.sub_self, Bool.true_eq_false, Bool.false_eq_true, if_true, if_false, ite_true, ite_false, true_and, and_true, addP_ii, subP_ii, mulP_ii, isiP_tup, isiP_lst, isiP_str, isiP_bl, isiP_int, isiP_tl, kd_non, kd_bl, kd_int, kd_str, kd_tup, kd_lst, isTup, isLst, isStr, isBl, isInt, eqP_ii, neP_ii, lenP_t, lenP_l, lenP_s, seqP_t, seqP_l, truP_b, ixP_t, ixP_l, slP_t, slP_l, tupleP_l, tupleP_t, addP_tt, modP_ii, divP_ii, exb, addLP_ll, min2_ii, max2_ii, exTup, exCons, exInt, iaddP_ii, leP_ii, gtP_ii, geP_ii, ltP_ii, intP_i, decide_eq_true_eq, Bool.not_eq_true', decide_eq_false_iff_not, Bool.not_true, Bool.not_false, List.cons_ne_nil, Nat.succ_ne_zero, reduceCtorEq])
    exact .of (.of (q _ le))
theorem g_least_free (k : OkP p) (os : Ok p p.length st) (q : ∀ h', Le h h' → Q (.tup []) h') : F_least_free [tP p, tI st, tI st] h E Q := by
  have k30 := k.2.2
  have ls := os.1
  simp only [↓e_least_free, ↓e_mVar, ↓e_mK, ↓e_mOp1, ↓e_mOp2, ↓e_aNil, ↓e_aCons, ↓e_mTup, ↓e_mLst, ↓e_mLstM, ↓e_mIf, ↓e_tTru, ↓e_tNt, ↓e_tAnd2, ↓e_tOr2, ↓e_tOp2, ↓e_mChain, ↓e_tChain', ↓e_mAnd, ↓e_mOr, ↓e_mFld, ↓e_sFldD, ↓e_mMeth, ↓e_mMake, ↓e_mRev, revP_l, ↓e_mAndT, ↓e_mOrT, truP_lc, ↓e_mNot, ↓e_mCall, ↓e_mBlt, ↓e_oNo, ↓e_oSo, ↓e_mSl, ↓e_sPass, ↓e_sBrk, ↓e_sCnt, ↓e_sNever, ↓e_sSeq, ↓e_sAsg, ↓e_gNm, ↓e_gTu, ↓e_gsNil, ↓e_gsCons, ↓e_gSb, ↓e_sPar, ↓e_sExp, ↓e_sRt, ↓e_sRtN, ↓e_sIf, ↓e_sAug, ↓e_sFor, ↓e_sWh, ↓e_mComp, ↓e_mCompM, ↓e_tYs, ↓e_mkFn, ↓e_mApp, ↓e_itSeq, ↓e_itScr, ↓e_itEnum, ↓e_itZip, ↓e_itZip3, ↓e_itR1, ↓e_itR2, ↓e_itR3, ↓e_mDic0, ↓e_mDic1, ↓e_sPar3, ↓e_mAddM, ↓e_aStar, ↓e_mMulM, ↓e_sRaise0, ↓e_sRaise1, ↓e_mErr, ↓e_mCallV, starP_t, starP_l, slot_0, slot_1, slot_2, slot_3, slot_4, slot_5, slot_6, slot_7, slot_8, slot_9, slot_10, slot_11, slot_12, slot_13, slot_14, slot_15, slot_16, slot_17, slot_18, slot_19, slot_20, slot_21, slot_22, slot_23, slot_24, slot_25, slot_26, slot_27, slot_28, slot_29, slot_30, negP_i, ex3, ex2, wipeE, List.map_cons, List.map_nil, List.cons_append, List.nil_append, List.append_nil, List.length_cons, List.length_nil, List.replicate_succ, List.replicate_zero, List.set_cons_zero, List.set_cons_succ, Oc_some, Nat.reduceAdd, Nat.reduceSub, Nat.reduceLeDiff, Nat.zero_le, Int.toNat_natCast, Bool.or_false, Bool.or_true, Bool.or_self, Bool.false_or, Bool.true_or, decide_true, decide_false, Nat.zero_add, Nat.sub_self, Bool.true_eq_false, Bool.false_eq_true, if_true, if_false, ite_true, ite_false, true_and, and_true, addP_ii, subP_ii, mulP_ii, isiP_tup, isiP_lst, isiP_str, isiP_bl, isiP_int, isiP_tl, kd_non, kd_bl, kd_int, kd_str, kd_tup, kd_lst, isTup, isLst, isStr, isBl, isInt, eqP_ii, neP_ii, lenP_t, lenP_l, lenP_s, seqP_t, seqP_l, truP_b, ixP_t, ixP_l, slP_t, slP_l, tupleP_l, tupleP_t, addP_tt, modP_ii, divP_ii, exb, addLP_ll, min2_ii, max2_ii, exTup, exCons, exInt, iaddP_ii, leP_ii, gtP_ii, geP_ii, ltP_ii, intP_i, decide_eq_true_eq, Bool.not_eq_true', decide_eq_false_iff_not, Bool.not_true, Bool.not_false, List.cons_ne_nil, Nat.succ_ne_zero, reduceCtorEq]
  refine c_need_two k os os ?_
  (try simp only [↓e_mVar, ↓e_mK, ↓e_mOp1, ↓e_mOp2, ↓e_aNil, ↓e_aCons, ↓e_mTup, ↓e_mLst, ↓e_mLstM, ↓e_mIf, ↓e_tTru, ↓e_tNt, ↓e_tAnd2, ↓e_tOr2, ↓e_tOp2, ↓e_mChain, ↓e_tChain', ↓e_mAnd, ↓e_mOr, ↓e_mFld, ↓e_sFldD, ↓e_mMeth, ↓e_mMake, ↓e_mRev, revP_l, ↓e_mAndT, ↓e_mOrT, truP_lc, ↓e_mNot, ↓e_mCall, ↓e_mBlt, ↓e_oNo, ↓e_oSo, ↓e_mSl, ↓e_sPass, ↓e_sBrk, ↓e_sCnt, ↓e_sNever, ↓e_sSeq, ↓e_sAsg, ↓e_gNm, ↓e_gTu, ↓e_gsNil, ↓e_gsCons, ↓e_gSb, ↓e_sPar, ↓e_sExp, ↓e_sRt, ↓e_sRtN, ↓e_sIf, ↓e_sAug, ↓e_sFor, ↓e_sWh, ↓e_mComp, ↓e_mCompM, ↓e_tYs, ↓e_mkFn, ↓e_mApp, ↓e_itSeq, ↓e_itScr, ↓e_itEnum, ↓e_itZip, ↓e_itZip3, ↓e_itR1, ↓e_itR2, ↓e_itR3, ↓e_mDic0, ↓e_mDic1, ↓e_sPar3, ↓e_mAddM, ↓e_aStar, ↓e_mMulM, ↓e_sRaise0, ↓e_sRaise1, ↓e_mErr, ↓e_mCallV, starP_t, starP_l, slot_0, slot_1, slot_2, slot_3, slot_4, slot_5, slot_6, slot_7, slot_8, slot_9, slot_10, slot_11, slot_12, slot_13, slot_14, slot_15, slot_16, slot_17, slot_18, slot_19, slot_20, slot_21, slot_22, slot_23, slot_24, slot_25, slot_26, slot_27, slot_28, slot_29, slot_30, negP_i, ex3, ex2, wipeE, List.map_cons, List.map_nil, List.cons_append, List.nil_append, List.append_nil, List.length_cons, List.length_nil, List.replicate_succ, List.replicate_zero, List.set_cons_zero, List.set_cons_succ, Oc_some, Nat.reduceAdd, Nat.reduceSub, Nat.reduceLeDiff, Nat.zero_le, Int.toNat_natCast, Bool.or_false, Bool.or_true, Bool.or_self, Bool.false_or, Bool.true_or, decide_true, decide_false, Nat.zero_add, Nat.sub_self, Bool.true_eq_false, Bool.false_eq_true, if_true, if_false, ite_true, ite_false, true_and, and_true, addP_ii, subP_ii, mulP_ii, isiP_tup, isiP_lst, isiP_str, isiP_bl, isiP_int, isiP_tl, kd_non, kd_bl, kd_int, kd_str, kd_tup, kd_lst, isTup, isLst, isStr, isBl, isInt, eqP_ii, neP_ii, lenP_t, lenP_l, lenP_s, seqP_t, seqP_l, truP_b, ixP_t, ixP_l, slP_t, slP_l, tupleP_l, tupleP_t, addP_tt, modP_ii, divP_ii, exb, addLP_ll, min2_ii, max2_ii, exTup, exCons, exInt, iaddP_ii, leP_ii, gtP_ii, geP_ii, ltP_ii, intP_i, decide_eq_true_eq, Bool.not_eq_true', decide_eq_false_iff_not, Bool.not_true, Bool.not_false, List.cons_ne_nil, Nat.succ_ne_zero, reduceCtorEq])
  intro r hr
  refine uses_eq (by omega) ?_
  simp only [tI, ↓e_mVar, ↓e_mK, ↓e_mOp1, ↓e_mOp2, ↓e_aNil, ↓e_aCons, ↓e_mTup, ↓e_mLst, ↓e_mLstM, ↓e_mIf, ↓e_tTru, ↓e_tNt, ↓e_tAnd2, ↓e_tOr2, ↓e_tOp2, ↓e_mChain, ↓e_tChain', ↓e_mAnd, ↓e_mOr, ↓e_mFld, ↓e_sFldD, ↓e_mMeth, ↓e_mMake, ↓e_mRev, revP_l, ↓e_mAndT, ↓e_mOrT, truP_lc, ↓e_mNot, ↓e_mCall, ↓e_mBlt, ↓e_oNo, ↓e_oSo, ↓e_mSl, ↓e_sPass, ↓e_sBrk, ↓e_sCnt, ↓e_sNever, ↓e_sSeq, ↓e_sAsg, ↓e_gNm, ↓e_gTu, ↓e_gsNil, ↓e_gsCons, ↓e_gSb, ↓e_sPar, ↓e_sExp, ↓e_sRt, ↓e_sRtN, ↓e_sIf, ↓e_sAug, ↓e_sFor, ↓e_sWh, ↓e_mComp, ↓e_mCompM, ↓e_tYs, ↓e_mkFn, ↓e_mApp, ↓e_itSeq, ↓e_itScr, ↓e_itEnum, ↓e_itZip, ↓e_itZip3, ↓e_itR1, ↓e_itR2, ↓e_itR3, ↓e_mDic0, ↓e_mDic1, ↓e_sPar3, ↓e_mAddM, ↓e_aStar, ↓e_mMulM, ↓e_sRaise0, ↓e_sRaise1, ↓e_mErr, ↓e_mCallV, starP_t, starP_l, slot_0, slot_1, slot_2, slot_3, slot_4, slot_5, slot_6, slot_7, slot_8, slot_9, slot_10, slot_11, slot_12, slot_13, slot_14, slot_15, slot_16, slot_17, slot_18, slot_19, slot_20, slot_21, slot_22, slot_23, slot_24, slot_25, slot_26, slot_27, slot_28, slot_29, slot_30, negP_i, ex3, ex2, wipeE, List.map_cons, List.map_nil, List.cons_append, List.nil_append, List.append_nil, List.length_cons, List.length_nil, List.replicate_succ, List.replicate_zero, List.set_cons_zero, List.set_cons_succ, Oc_some, Nat.reduceAdd, Nat.reduceSub, Nat.reduceLeDiff, Nat.zero_le, Int.toNat_natCast, Bool.or_false, Bool.or_true, Bool.or_self, Bool.false_or, Bool.true_or, decide_true, decide_false, Nat.zero_add, Nat.sub_self, Bool.true_eq_false, Bool.false_eq_true, if_true, if_false, ite_true, ite_false, true_and, and_true, addP_ii, subP_ii, mulP_ii, isiP_tup, isiP_lst, isiP_str, isiP_bl, isiP_int, isiP_tl, kd_non, kd_bl, kd_int, kd_str, kd_tup, kd_lst, isTup, isLst, isStr, isBl, isInt, eqP_ii, neP_ii, lenP_t, lenP_l, lenP_s, seqP_t, seqP_l, truP_b, ixP_t, ixP_l, slP_t, slP_l, tupleP_l, tupleP_t, addP_tt, modP_ii, divP_ii, exb, addLP_ll, min2_ii, max2_ii, exTup, exCons, exInt, iaddP_ii, leP_ii, gtP_ii, geP_ii, ltP_ii, intP_i, decide_eq_true_eq, Bool.not_eq_true', decide_eq_false_iff_not, Bool.not_true, Bool.not_false, List.cons_ne_nil, Nat.succ_ne_zero, reduceCtorEq]
  refine comp_fm _ (fun _ => none) trivial ?_ (fun x K K2 mx k1 k2 => ?_) ?_
  · rw [enumD_length, List.length_map, List.length_replicate]; omega
  · obtain ⟨j, hj⟩ := List.getElem?_of_mem mx
    rw [enumD_get, List.map_replicate, List.getElem?_replicate] at hj
    split at hj
    · cases hj
      (try simp only [↓e_mVar, ↓e_mK, ↓e_mOp1, ↓e_mOp2, ↓e_aNil, ↓e_aCons, ↓e_mTup, ↓e_mLst, ↓e_mLstM, ↓e_mIf, ↓e_tTru, ↓e_tNt, ↓e_tAnd2, ↓e_tOr2, ↓e_tOp2, ↓e_mChain, ↓e_tChain', ↓e_mAnd, ↓e_mOr, ↓e_mFld, ↓e_sFldD, ↓e_mMeth, ↓e_mMake, ↓e_mRev, revP_l, ↓e_mAndT, ↓e_mOrT, truP_lc, ↓e_mNot, ↓e_mCall, ↓e_mBlt, ↓e_oNo, ↓e_oSo, ↓e_mSl, ↓e_sPass, ↓e_sBrk, ↓e_sCnt, ↓e_sNever, ↓e_sSeq, ↓e_sAsg, ↓e_gNm, ↓e_gTu, ↓e_gsNil, ↓e_gsCons, ↓e_gSb, ↓e_sPar, ↓e_sExp, ↓e_sRt, ↓e_sRtN, ↓e_sIf, ↓e_sAug, ↓e_sFor, ↓e_sWh, ↓e_mComp, ↓e_mCompM, ↓e_tYs, ↓e_mkFn, ↓e_mApp, ↓e_itSeq, ↓e_itScr, ↓e_itEnum, ↓e_itZip, ↓e_itZip3, ↓e_itR1, ↓e_itR2, ↓e_itR3, ↓e_mDic0, ↓e_mDic1, ↓e_sPar3, ↓e_mAddM, ↓e_aStar, ↓e_mMulM, ↓e_sRaise0, ↓e_sRaise1, ↓e_mErr, ↓e_mCallV, starP_t, starP_l, slot_0, slot_1, slot_2, slot_3, slot_4, slot_5, slot_6, slot_7, slot_8, slot_9, slot_10, slot_11, slot_12, slot_13, slot_14, slot_15, slot_16, slot_17, slot_18, slot_19, slot_20, slot_21, slot_22, slot_23, slot_24, slot_25, slot_26, slot_27, slot_28, slot_29, slot_30, negP_i, ex3, ex2, wipeE, List.map_cons, List.map_nil, List.cons_append, List.nil_append, List.append_nil, List.length_cons, List.length_nil, List.replicate_succ, List.replicate_zero, List.set_cons_zero, List.set_cons_succ, Oc_some, Nat.reduceAdd, Nat.reduceSub, Nat.reduceLeDiff, Nat.zero_le, Int.toNat_natCast, Bool.or_false, Bool.or_true, Bool.or_self, Bool.false_or, Bool.true_or, decide_true, decide_false, Nat.zero_add, Nat.sub_self, Bool.true_eq_false, Bool.false_eq_true, if_true, if_false, ite_true, ite_false, true_and, and_true, addP_ii, subP_ii, mulP_ii, isiP_tup, isiP_lst, isiP_str, isiP_bl, isiP_int, isiP_tl, kd_non, kd_bl, kd_int, kd_str, kd_tup, kd_lst, isTup, isLst, isStr, isBl, isInt, eqP_ii, neP_ii, lenP_t, lenP_l, lenP_s, seqP_t, seqP_l, truP_b, ixP_t, ixP_l, slP_t, slP_l, tupleP_l, tupleP_t, addP_tt, modP_ii, divP_ii, exb, addLP_ll, min2_ii, max2_ii, exTup, exCons, exInt, iaddP_ii, leP_ii, gtP_ii, geP_ii, ltP_ii, intP_i, decide_eq_true_eq, Bool.not_eq_true', decide_eq_false_iff_not, Bool.not_true, Bool.not_false, List.cons_ne_nil, Nat.succ_ne_zero, reduceCtorEq])
      exact k2 rfl
    · cases hj
  · rw [List.filterMap_eq_nil_iff.mpr fun _ _ => rfl]
    exact .of (q _ (Le.up hr))
end
theorem pl_pair {x : Str} {ix : D} (hx : PyData.strOk x = true) (pix : pl 1 ix) : pl 2 (.tup [.str x, ix]) := ⟨by show 2 ≤ _; omega, fun z m => by
  simp only [List.mem_cons, List.not_mem_nil, or_false] at m
  rcases m with rfl | rfl
  · exact pl_str hx
  · exact pix⟩
theorem hlaw (P : Addr) (ns : List Int) (h : DH) (E : EK) (Q : DK) (hl : ns.length ≤ 63) (hP : h P = some (.tbl "law.<locals>.<lambda>")) (q : ∀ h', Q (.bl true) h') : F_law P [.scr ns] h E Q := by
  simp only [↓e_law, ↓e_mVar, ↓e_mK, ↓e_mOp1, ↓e_mOp2, ↓e_aNil, ↓e_aCons, ↓e_mTup, ↓e_mLst, ↓e_mLstM, ↓e_mIf, ↓e_tTru, ↓e_tNt, ↓e_tAnd2, ↓e_tOr2, ↓e_tOp2, ↓e_mChain, ↓e_tChain', ↓e_mAnd, ↓e_mOr, ↓e_mFld, ↓e_sFldD, ↓e_mMeth, ↓e_mMake, ↓e_mRev, revP_l, ↓e_mAndT, ↓e_mOrT, truP_lc, ↓e_mNot, ↓e_mCall, ↓e_mBlt, ↓e_oNo, ↓e_oSo, ↓e_mSl, ↓e_sPass, ↓e_sBrk, ↓e_sCnt, ↓e_sNever, ↓e_sSeq, ↓e_sAsg, ↓e_gNm, ↓e_gTu, ↓e_gsNil, ↓e_gsCons, ↓e_gSb, ↓e_sPar, ↓e_sExp, ↓e_sRt, ↓e_sRtN, ↓e_sIf, ↓e_sAug, ↓e_sFor, ↓e_sWh, ↓e_mComp, ↓e_mCompM, ↓e_tYs, ↓e_mkFn, ↓e_mApp, ↓e_itSeq, ↓e_itScr, ↓e_itEnum, ↓e_itZip, ↓e_itZip3, ↓e_itR1, ↓e_itR2, ↓e_itR3, ↓e_mDic0, ↓e_mDic1, ↓e_sPar3, ↓e_mAddM, ↓e_aStar, ↓e_mMulM, ↓e_sRaise0, ↓e_sRaise1, ↓e_mErr, ↓e_mCallV, starP_t, starP_l, slot_0, slot_1, slot_2, slot_3, slot_4, slot_5, slot_6, slot_7, slot_8, slot_9, slot_10, slot_11, slot_12, slot_13, slot_14, slot_15, slot_16, slot_17, slot_18, slot_19, slot_20, slot_21, slot_22, slot_23, slot_24, slot_25, slot_26, slot_27, slot_28, slot_29, slot_30, negP_i, ex3, ex2, wipeE, List.map_cons, List.map_nil, List.cons_append, List.nil_append, List.append_nil, List.length_cons, List.length_nil, List.replicate_succ, List.replicate_zero, List.set_cons_zero, List.set_cons_succ, Oc_some, Nat.reduceAdd, Nat.reduceSub, Nat.reduceLeDiff, Nat.zero_le, Int.toNat_natCast, Bool.or_false, Bool.or_true, Bool.or_self, Bool.false_or, Bool.true_or, decide_true, decide_false, Nat.zero_add, Nat.sub_self, Bool.true_eq_false, Bool.false_eq_true, if_true, if_false, ite_true, ite_false, true_and, and_true, addP_ii, subP_ii, mulP_ii, isiP_tup, isiP_lst, isiP_str, isiP_bl, isiP_int, isiP_tl, kd_non, kd_bl, kd_int, kd_str, kd_tup, kd_lst, isTup, isLst, isStr, isBl, isInt, eqP_ii, neP_ii, lenP_t, lenP_l, lenP_s, seqP_t, seqP_l, truP_b, ixP_t, ixP_l, slP_t, slP_l, tupleP_l, tupleP_t, addP_tt, modP_ii, divP_ii, exb, addLP_ll, min2_ii, max2_ii, exTup, exCons, exInt, iaddP_ii, leP_ii, gtP_ii, geP_ii, ltP_ii, intP_i, decide_eq_true_eq, Bool.not_eq_true', decide_eq_false_iff_not, Bool.not_true, Bool.not_false, List.cons_ne_nil, Nat.succ_ne_zero, reduceCtorEq]
  intro a ha
  refine ⟨by decide, by decide, ?_⟩
  have Pa : P ≠ a := by rintro rfl; rw [ha] at hP; cases hP
  refine for_ind _ (fun i e h' => ∃ o, RowO ns o ∧ h' = upO h a o ∧ ((∃ x2 x3 x4 x5 x6 x7 x8 x9 x10, i = 0 ∧ e = [some (.scr ns), some (.ref a), x2, x3, x4, x5, x6, x7, x8, x9, x10]) ∨ ∃ p st x2 x5 x6 x7 x8 x9 x10, OkP p ∧ Ok p p.length st ∧ e = [some (.scr ns), some (.ref a), x2, some (tP p), some (tI st), x5, x6, x7, x8, x9, x10])) ⟨_, rowO0 (by decide) (by decide), rfl, .inl ⟨none, none, none, none, none, none, none, none, none, rfl, rfl⟩⟩ (fun _ _ _ _ => trivial) ?_ ?_
  · rintro i z e' h1 K ⟨o, ro, rfl, he⟩ hz hK
    obtain ⟨x2, x3, x4, x5, x6, x7, x8, x9, x10, rfl⟩ : ∃ x2 x3 x4 x5 x6 x7 x8 x9 x10, e' = [some (.scr ns), some (.ref a), x2, x3, x4, x5, x6, x7, x8, x9, x10] := by
      rcases he with ⟨x2, x3, x4, x5, x6, x7, x8, x9, x10, _, rfl⟩ | ⟨p, st, x2, x5, x6, x7, x8, x9, x10, _, _, rfl⟩
      · exact ⟨_, _, _, _, _, _, _, _, _, rfl⟩
      · exact ⟨_, _, _, _, _, _, _, _, _, rfl⟩
    (try simp only [↓e_mVar, ↓e_mK, ↓e_mOp1, ↓e_mOp2, ↓e_aNil, ↓e_aCons, ↓e_mTup, ↓e_mLst, ↓e_mLstM, ↓e_mIf, ↓e_tTru, ↓e_tNt, ↓e_tAnd2, ↓e_tOr2, ↓e_tOp2, ↓e_mChain, ↓e_tChain', ↓e_mAnd, ↓e_mOr, ↓e_mFld, ↓e_sFldD, ↓e_mMeth, ↓e_mMake, ↓e_mRev, revP_l, ↓e_mAndT, ↓e_mOrT, truP_lc, ↓e_mNot, ↓e_mCall, ↓e_mBlt, ↓e_oNo, ↓e_oSo, ↓e_mSl, ↓e_sPass, ↓e_sBrk, ↓e_sCnt, ↓e_sNever, ↓e_sSeq, ↓e_sAsg, ↓e_gNm, ↓e_gTu, ↓e_gsNil, ↓e_gsCons, ↓e_gSb, ↓e_sPar, ↓e_sExp, ↓e_sRt, ↓e_sRtN, ↓e_sIf, ↓e_sAug, ↓e_sFor, ↓e_sWh, ↓e_mComp, ↓e_mCompM, ↓e_tYs, ↓e_mkFn, ↓e_mApp, ↓e_itSeq, ↓e_itScr, ↓e_itEnum, ↓e_itZip, ↓e_itZip3, ↓e_itR1, ↓e_itR2, ↓e_itR3, ↓e_mDic0, ↓e_mDic1, ↓e_sPar3, ↓e_mAddM, ↓e_aStar, ↓e_mMulM, ↓e_sRaise0, ↓e_sRaise1, ↓e_mErr, ↓e_mCallV, starP_t, starP_l, slot_0, slot_1, slot_2, slot_3, slot_4, slot_5, slot_6, slot_7, slot_8, slot_9, slot_10, slot_11, slot_12, slot_13, slot_14, slot_15, slot_16, slot_17, slot_18, slot_19, slot_20, slot_21, slot_22, slot_23, slot_24, slot_25, slot_26, slot_27, slot_28, slot_29, slot_30, negP_i, ex3, ex2, wipeE, List.map_cons, List.map_nil, List.cons_append, List.nil_append, List.append_nil, List.length_cons, List.length_nil, List.replicate_succ, List.replicate_zero, List.set_cons_zero, List.set_cons_succ, Oc_some, Nat.reduceAdd, Nat.reduceSub, Nat.reduceLeDiff, Nat.zero_le, Int.toNat_natCast, Bool.or_false, Bool.or_true, Bool.or_self, Bool.false_or, Bool.true_or, decide_true, decide_false, Nat.zero_add, Nat.sub_self, Bool.true_eq_false, Bool.false_eq_true, if_true, if_false, ite_true, ite_false, true_and, and_true, addP_ii, subP_ii, mulP_ii, isiP_tup, isiP_lst, isiP_str, isiP_bl, isiP_int, isiP_tl, kd_non, kd_bl, kd_int, kd_str, kd_tup, kd_lst, isTup, isLst, isStr, isBl, isInt, eqP_ii, neP_ii, lenP_t, lenP_l, lenP_s, seqP_t, seqP_l, truP_b, ixP_t, ixP_l, slP_t, slP_l, tupleP_l, tupleP_t, addP_tt, modP_ii, divP_ii, exb, addLP_ll, min2_ii, max2_ii, exTup, exCons, exInt, iaddP_ii, leP_ii, gtP_ii, geP_ii, ltP_ii, intP_i, decide_eq_true_eq, Bool.not_eq_true', decide_eq_false_iff_not, Bool.not_true, Bool.not_false, List.cons_ne_nil, Nat.succ_ne_zero, reduceCtorEq])
    refine c_law_puzzle ro (by decide) (by decide) fun p o2 k pm ro2 => ?_
    have k30 := k.2.2
    have p1 : 1 ≤ p.length := k.2.1
    have len_tP : ∀ {h : DH} {P : D → Prop}, lenP h [tP p] P = P (.int p.length) := by
      intro h P
      simp only [tP, ↓e_mVar, ↓e_mK, ↓e_mOp1, ↓e_mOp2, ↓e_aNil, ↓e_aCons, ↓e_mTup, ↓e_mLst, ↓e_mLstM, ↓e_mIf, ↓e_tTru, ↓e_tNt, ↓e_tAnd2, ↓e_tOr2, ↓e_tOp2, ↓e_mChain, ↓e_tChain', ↓e_mAnd, ↓e_mOr, ↓e_mFld, ↓e_sFldD, ↓e_mMeth, ↓e_mMake, ↓e_mRev, revP_l, ↓e_mAndT, ↓e_mOrT, truP_lc, ↓e_mNot, ↓e_mCall, ↓e_mBlt, ↓e_oNo, ↓e_oSo, ↓e_mSl, ↓e_sPass, ↓e_sBrk, ↓e_sCnt, ↓e_sNever, ↓e_sSeq, ↓e_sAsg, ↓e_gNm, ↓e_gTu, ↓e_gsNil, ↓e_gsCons, ↓e_gSb, ↓e_sPar, ↓e_sExp, ↓e_sRt, ↓e_sRtN, ↓e_sIf, ↓e_sAug, ↓e_sFor, ↓e_sWh, ↓e_mComp, ↓e_mCompM, ↓e_tYs, ↓e_mkFn, ↓e_mApp, ↓e_itSeq, ↓e_itScr, ↓e_itEnum, ↓e_itZip, ↓e_itZip3, ↓e_itR1, ↓e_itR2, ↓e_itR3, ↓e_mDic0, ↓e_mDic1, ↓e_sPar3, ↓e_mAddM, ↓e_aStar, ↓e_mMulM, ↓e_sRaise0, ↓e_sRaise1, ↓e_mErr, ↓e_mCallV, starP_t, starP_l, slot_0, slot_1, slot_2, slot_3, slot_4, slot_5, slot_6, slot_7, slot_8, slot_9, slot_10, slot_11, slot_12, slot_13, slot_14, slot_15, slot_16, slot_17, slot_18, slot_19, slot_20, slot_21, slot_22, slot_23, slot_24, slot_25, slot_26, slot_27, slot_28, slot_29, slot_30, negP_i, ex3, ex2, wipeE, List.map_cons, List.map_nil, List.cons_append, List.nil_append, List.append_nil, List.length_cons, List.length_nil, List.replicate_succ, List.replicate_zero, List.set_cons_zero, List.set_cons_succ, Oc_some, Nat.reduceAdd, Nat.reduceSub, Nat.reduceLeDiff, Nat.zero_le, Int.toNat_natCast, Bool.or_false, Bool.or_true, Bool.or_self, Bool.false_or, Bool.true_or, decide_true, decide_false, Nat.zero_add, Nat.sub_self, Bool.true_eq_false, Bool.false_eq_true, if_true, if_false, ite_true, ite_false, true_and, and_true, addP_ii, subP_ii, mulP_ii, isiP_tup, isiP_lst, isiP_str, isiP_bl, isiP_int, isiP_tl, kd_non, kd_bl, kd_int, kd_str, kd_tup, kd_lst, isTup, isLst, isStr, isBl, isInt, eqP_ii, neP_ii, lenP_t, lenP_l, lenP_s, seqP_t, seqP_l, truP_b, ixP_t, ixP_l, slP_t, slP_l, tupleP_l, tupleP_t, addP_tt, modP_ii, divP_ii, exb, addLP_ll, min2_ii, max2_ii, exTup, exCons, exInt, iaddP_ii, leP_ii, gtP_ii, geP_ii, ltP_ii, intP_i, decide_eq_true_eq, Bool.not_eq_true', decide_eq_false_iff_not, Bool.not_true, Bool.not_false, List.cons_ne_nil, Nat.succ_ne_zero, reduceCtorEq, List.length_map]
    (try simp only [↓e_mVar, ↓e_mK, ↓e_mOp1, ↓e_mOp2, ↓e_aNil, ↓e_aCons, ↓e_mTup, ↓e_mLst, ↓e_mLstM, ↓e_mIf, ↓e_tTru, ↓e_tNt, ↓e_tAnd2, ↓e_tOr2, ↓e_tOp2, ↓e_mChain, ↓e_tChain', ↓e_mAnd, ↓e_mOr, ↓e_mFld, ↓e_sFldD, ↓e_mMeth, ↓e_mMake, ↓e_mRev, revP_l, ↓e_mAndT, ↓e_mOrT, truP_lc, ↓e_mNot, ↓e_mCall, ↓e_mBlt, ↓e_oNo, ↓e_oSo, ↓e_mSl, ↓e_sPass, ↓e_sBrk, ↓e_sCnt, ↓e_sNever, ↓e_sSeq, ↓e_sAsg, ↓e_gNm, ↓e_gTu, ↓e_gsNil, ↓e_gsCons, ↓e_gSb, ↓e_sPar, ↓e_sExp, ↓e_sRt, ↓e_sRtN, ↓e_sIf, ↓e_sAug, ↓e_sFor, ↓e_sWh, ↓e_mComp, ↓e_mCompM, ↓e_tYs, ↓e_mkFn, ↓e_mApp, ↓e_itSeq, ↓e_itScr, ↓e_itEnum, ↓e_itZip, ↓e_itZip3, ↓e_itR1, ↓e_itR2, ↓e_itR3, ↓e_mDic0, ↓e_mDic1, ↓e_sPar3, ↓e_mAddM, ↓e_aStar, ↓e_mMulM, ↓e_sRaise0, ↓e_sRaise1, ↓e_mErr, ↓e_mCallV, starP_t, starP_l, slot_0, slot_1, slot_2, slot_3, slot_4, slot_5, slot_6, slot_7, slot_8, slot_9, slot_10, slot_11, slot_12, slot_13, slot_14, slot_15, slot_16, slot_17, slot_18, slot_19, slot_20, slot_21, slot_22, slot_23, slot_24, slot_25, slot_26, slot_27, slot_28, slot_29, slot_30, negP_i, ex3, ex2, wipeE, List.map_cons, List.map_nil, List.cons_append, List.nil_append, List.append_nil, List.length_cons, List.length_nil, List.replicate_succ, List.replicate_zero, List.set_cons_zero, List.set_cons_succ, Oc_some, Nat.reduceAdd, Nat.reduceSub, Nat.reduceLeDiff, Nat.zero_le, Int.toNat_natCast, Bool.or_false, Bool.or_true, Bool.or_self, Bool.false_or, Bool.true_or, decide_true, decide_false, Nat.zero_add, Nat.sub_self, Bool.true_eq_false, Bool.false_eq_true, if_true, if_false, ite_true, ite_false, true_and, and_true, addP_ii, subP_ii, mulP_ii, isiP_tup, isiP_lst, isiP_str, isiP_bl, isiP_int, isiP_tl, kd_non, kd_bl, kd_int, kd_str, kd_tup, kd_lst, isTup, isLst, isStr, isBl, isInt, eqP_ii, neP_ii, lenP_t, lenP_l, lenP_s, seqP_t, seqP_l, truP_b, ixP_t, ixP_l, slP_t, slP_l, tupleP_l, tupleP_t, addP_tt, modP_ii, divP_ii, exb, addLP_ll, min2_ii, max2_ii, exTup, exCons, exInt, iaddP_ii, leP_ii, gtP_ii, geP_ii, ltP_ii, intP_i, decide_eq_true_eq, Bool.not_eq_true', decide_eq_false_iff_not, Bool.not_true, Bool.not_false, List.cons_ne_nil, Nat.succ_ne_zero, reduceCtorEq])
    refine c_law_state k ro2 fun st o3 os ro3 => ?_
    have ls := os.1
    (try simp only [↓e_mVar, ↓e_mK, ↓e_mOp1, ↓e_mOp2, ↓e_aNil, ↓e_aCons, ↓e_mTup, ↓e_mLst, ↓e_mLstM, ↓e_mIf, ↓e_tTru, ↓e_tNt, ↓e_tAnd2, ↓e_tOr2, ↓e_tOp2, ↓e_mChain, ↓e_tChain', ↓e_mAnd, ↓e_mOr, ↓e_mFld, ↓e_sFldD, ↓e_mMeth, ↓e_mMake, ↓e_mRev, revP_l, ↓e_mAndT, ↓e_mOrT, truP_lc, ↓e_mNot, ↓e_mCall, ↓e_mBlt, ↓e_oNo, ↓e_oSo, ↓e_mSl, ↓e_sPass, ↓e_sBrk, ↓e_sCnt, ↓e_sNever, ↓e_sSeq, ↓e_sAsg, ↓e_gNm, ↓e_gTu, ↓e_gsNil, ↓e_gsCons, ↓e_gSb, ↓e_sPar, ↓e_sExp, ↓e_sRt, ↓e_sRtN, ↓e_sIf, ↓e_sAug, ↓e_sFor, ↓e_sWh, ↓e_mComp, ↓e_mCompM, ↓e_tYs, ↓e_mkFn, ↓e_mApp, ↓e_itSeq, ↓e_itScr, ↓e_itEnum, ↓e_itZip, ↓e_itZip3, ↓e_itR1, ↓e_itR2, ↓e_itR3, ↓e_mDic0, ↓e_mDic1, ↓e_sPar3, ↓e_mAddM, ↓e_aStar, ↓e_mMulM, ↓e_sRaise0, ↓e_sRaise1, ↓e_mErr, ↓e_mCallV, starP_t, starP_l, slot_0, slot_1, slot_2, slot_3, slot_4, slot_5, slot_6, slot_7, slot_8, slot_9, slot_10, slot_11, slot_12, slot_13, slot_14, slot_15, slot_16, slot_17, slot_18, slot_19, slot_20, slot_21, slot_22, slot_23, slot_24, slot_25, slot_26, slot_27, slot_28, slot_29, slot_30, negP_i, ex3, ex2, wipeE, List.map_cons, List.map_nil, List.cons_append, List.nil_append, List.append_nil, List.length_cons, List.length_nil, List.replicate_succ, List.replicate_zero, List.set_cons_zero, List.set_cons_succ, Oc_some, Nat.reduceAdd, Nat.reduceSub, Nat.reduceLeDiff, Nat.zero_le, Int.toNat_natCast, Bool.or_false, Bool.or_true, Bool.or_self, Bool.false_or, Bool.true_or, decide_true, decide_false, Nat.zero_add, Nat.sub_self, Bool.true_eq_false, Bool.false_eq_true, if_true, if_false, ite_true, ite_false, true_and, and_true, addP_ii, subP_ii, mulP_ii, isiP_tup, isiP_lst, isiP_str, isiP_bl, isiP_int, isiP_tl, kd_non, kd_bl, kd_int, kd_str, kd_tup, kd_lst, isTup, isLst, isStr, isBl, isInt, eqP_ii, neP_ii, lenP_t, lenP_l, lenP_s, seqP_t, seqP_l, truP_b, ixP_t, ixP_l, slP_t, slP_l, tupleP_l, tupleP_t, addP_tt, modP_ii, divP_ii, exb, addLP_ll, min2_ii, max2_ii, exTup, exCons, exInt, iaddP_ii, leP_ii, gtP_ii, geP_ii, ltP_ii, intP_i, decide_eq_true_eq, Bool.not_eq_true', decide_eq_false_iff_not, Bool.not_true, Bool.not_false, List.cons_ne_nil, Nat.succ_ne_zero, reduceCtorEq])
    refine c_law_pick (b := false) ro3 (by simp) (by simp) fun od o4 mo ro4 => ?_
    have hodd : ∃ x i, od = .tup [x, i] ∧ Odd x i ∧ pl 1 i := by
      simp only [List.mem_cons, List.not_mem_nil, or_false] at mo
      rcases mo with rfl | rfl | rfl | rfl | rfl
      · exact ⟨_, _, rfl, .a, trivial⟩
      · exact ⟨_, _, rfl, .b, trivial⟩
      · exact ⟨_, _, rfl, .c, trivial⟩
      · exact ⟨_, _, rfl, .d, trivial⟩
      · exact ⟨_, _, rfl, .e, trivial⟩
    obtain ⟨od1, idx, rfl, hod, pli⟩ := hodd
    clear mo
    simp only [↓e_mVar, ↓e_mK, ↓e_mOp1, ↓e_mOp2, ↓e_aNil, ↓e_aCons, ↓e_mTup, ↓e_mLst, ↓e_mLstM, ↓e_mIf, ↓e_tTru, ↓e_tNt, ↓e_tAnd2, ↓e_tOr2, ↓e_tOp2, ↓e_mChain, ↓e_tChain', ↓e_mAnd, ↓e_mOr, ↓e_mFld, ↓e_sFldD, ↓e_mMeth, ↓e_mMake, ↓e_mRev, revP_l, ↓e_mAndT, ↓e_mOrT, truP_lc, ↓e_mNot, ↓e_mCall, ↓e_mBlt, ↓e_oNo, ↓e_oSo, ↓e_mSl, ↓e_sPass, ↓e_sBrk, ↓e_sCnt, ↓e_sNever, ↓e_sSeq, ↓e_sAsg, ↓e_gNm, ↓e_gTu, ↓e_gsNil, ↓e_gsCons, ↓e_gSb, ↓e_sPar, ↓e_sExp, ↓e_sRt, ↓e_sRtN, ↓e_sIf, ↓e_sAug, ↓e_sFor, ↓e_sWh, ↓e_mComp, ↓e_mCompM, ↓e_tYs, ↓e_mkFn, ↓e_mApp, ↓e_itSeq, ↓e_itScr, ↓e_itEnum, ↓e_itZip, ↓e_itZip3, ↓e_itR1, ↓e_itR2, ↓e_itR3, ↓e_mDic0, ↓e_mDic1, ↓e_sPar3, ↓e_mAddM, ↓e_aStar, ↓e_mMulM, ↓e_sRaise0, ↓e_sRaise1, ↓e_mErr, ↓e_mCallV, starP_t, starP_l, slot_0, slot_1, slot_2, slot_3, slot_4, slot_5, slot_6, slot_7, slot_8, slot_9, slot_10, slot_11, slot_12, slot_13, slot_14, slot_15, slot_16, slot_17, slot_18, slot_19, slot_20, slot_21, slot_22, slot_23, slot_24, slot_25, slot_26, slot_27, slot_28, slot_29, slot_30, negP_i, ex3, ex2, wipeE, List.map_cons, List.map_nil, List.cons_append, List.nil_append, List.append_nil, List.length_cons, List.length_nil, List.replicate_succ, List.replicate_zero, List.set_cons_zero, List.set_cons_succ, Oc_some, Nat.reduceAdd, Nat.reduceSub, Nat.reduceLeDiff, Nat.zero_le, Int.toNat_natCast, Bool.or_false, Bool.or_true, Bool.or_self, Bool.false_or, Bool.true_or, decide_true, decide_false, Nat.zero_add, Nat.sub_self, Bool.true_eq_false, Bool.false_eq_true, if_true, if_false, ite_true, ite_false, true_and, and_true, addP_ii, subP_ii, mulP_ii, isiP_tup, isiP_lst, isiP_str, isiP_bl, isiP_int, isiP_tl, kd_non, kd_bl, kd_int, kd_str, kd_tup, kd_lst, isTup, isLst, isStr, isBl, isInt, eqP_ii, neP_ii, lenP_t, lenP_l, lenP_s, seqP_t, seqP_l, truP_b, ixP_t, ixP_l, slP_t, slP_l, tupleP_l, tupleP_t, addP_tt, modP_ii, divP_ii, exb, addLP_ll, min2_ii, max2_ii, exTup, exCons, exInt, iaddP_ii, leP_ii, gtP_ii, geP_ii, ltP_ii, intP_i, decide_eq_true_eq, Bool.not_eq_true', decide_eq_false_iff_not, Bool.not_true, Bool.not_false, List.cons_ne_nil, Nat.succ_ne_zero, reduceCtorEq, len_tP]
    refine c_law_pick (b := false) ro4 (by simp) (by simp) fun bad o5 mb ro5 => ?_
    have hbad : Hbad p bad := by
      simp only [List.mem_cons, List.not_mem_nil, or_false] at mb
      rcases mb with rfl | rfl | rfl | rfl | rfl | rfl | rfl | rfl | rfl | rfl
      · exact .non
      · exact .lst
      · exact .twice
      · exact .more
      · exact .neg
      · exact .down
      · exact .tru
      · exact .none
      · exact .str
      · exact .int
    clear mb
    have hst : tI st = .tup (st.map D.int) := rfl
    have lsm : (st.map D.int).length = p.length := by rw [List.length_map]; exact ls
    simp only [hst, ↓e_mVar, ↓e_mK, ↓e_mOp1, ↓e_mOp2, ↓e_aNil, ↓e_aCons, ↓e_mTup, ↓e_mLst, ↓e_mLstM, ↓e_mIf, ↓e_tTru, ↓e_tNt, ↓e_tAnd2, ↓e_tOr2, ↓e_tOp2, ↓e_mChain, ↓e_tChain', ↓e_mAnd, ↓e_mOr, ↓e_mFld, ↓e_sFldD, ↓e_mMeth, ↓e_mMake, ↓e_mRev, revP_l, ↓e_mAndT, ↓e_mOrT, truP_lc, ↓e_mNot, ↓e_mCall, ↓e_mBlt, ↓e_oNo, ↓e_oSo, ↓e_mSl, ↓e_sPass, ↓e_sBrk, ↓e_sCnt, ↓e_sNever, ↓e_sSeq, ↓e_sAsg, ↓e_gNm, ↓e_gTu, ↓e_gsNil, ↓e_gsCons, ↓e_gSb, ↓e_sPar, ↓e_sExp, ↓e_sRt, ↓e_sRtN, ↓e_sIf, ↓e_sAug, ↓e_sFor, ↓e_sWh, ↓e_mComp, ↓e_mCompM, ↓e_tYs, ↓e_mkFn, ↓e_mApp, ↓e_itSeq, ↓e_itScr, ↓e_itEnum, ↓e_itZip, ↓e_itZip3, ↓e_itR1, ↓e_itR2, ↓e_itR3, ↓e_mDic0, ↓e_mDic1, ↓e_sPar3, ↓e_mAddM, ↓e_aStar, ↓e_mMulM, ↓e_sRaise0, ↓e_sRaise1, ↓e_mErr, ↓e_mCallV, starP_t, starP_l, slot_0, slot_1, slot_2, slot_3, slot_4, slot_5, slot_6, slot_7, slot_8, slot_9, slot_10, slot_11, slot_12, slot_13, slot_14, slot_15, slot_16, slot_17, slot_18, slot_19, slot_20, slot_21, slot_22, slot_23, slot_24, slot_25, slot_26, slot_27, slot_28, slot_29, slot_30, negP_i, ex3, ex2, wipeE, List.map_cons, List.map_nil, List.cons_append, List.nil_append, List.append_nil, List.length_cons, List.length_nil, List.replicate_succ, List.replicate_zero, List.set_cons_zero, List.set_cons_succ, Oc_some, Nat.reduceAdd, Nat.reduceSub, Nat.reduceLeDiff, Nat.zero_le, Int.toNat_natCast, Bool.or_false, Bool.or_true, Bool.or_self, Bool.false_or, Bool.true_or, decide_true, decide_false, Nat.zero_add, Nat.sub_self, Bool.true_eq_false, Bool.false_eq_true, if_true, if_false, ite_true, ite_false, true_and, and_true, addP_ii, subP_ii, mulP_ii, isiP_tup, isiP_lst, isiP_str, isiP_bl, isiP_int, isiP_tl, kd_non, kd_bl, kd_int, kd_str, kd_tup, kd_lst, isTup, isLst, isStr, isBl, isInt, eqP_ii, neP_ii, lenP_t, lenP_l, lenP_s, seqP_t, seqP_l, truP_b, ixP_t, ixP_l, slP_t, slP_l, tupleP_l, tupleP_t, addP_tt, modP_ii, divP_ii, exb, addLP_ll, min2_ii, max2_ii, exTup, exCons, exInt, iaddP_ii, leP_ii, gtP_ii, geP_ii, ltP_ii, intP_i, decide_eq_true_eq, Bool.not_eq_true', decide_eq_false_iff_not, Bool.not_true, Bool.not_false, List.cons_ne_nil, Nat.succ_ne_zero, reduceCtorEq, listP_t, List.length_map]
    refine ⟨by omega, ?_⟩
    rw [cut_in (by omega), lsm]
    simp only [↓e_mVar, ↓e_mK, ↓e_mOp1, ↓e_mOp2, ↓e_aNil, ↓e_aCons, ↓e_mTup, ↓e_mLst, ↓e_mLstM, ↓e_mIf, ↓e_tTru, ↓e_tNt, ↓e_tAnd2, ↓e_tOr2, ↓e_tOp2, ↓e_mChain, ↓e_tChain', ↓e_mAnd, ↓e_mOr, ↓e_mFld, ↓e_sFldD, ↓e_mMeth, ↓e_mMake, ↓e_mRev, revP_l, ↓e_mAndT, ↓e_mOrT, truP_lc, ↓e_mNot, ↓e_mCall, ↓e_mBlt, ↓e_oNo, ↓e_oSo, ↓e_mSl, ↓e_sPass, ↓e_sBrk, ↓e_sCnt, ↓e_sNever, ↓e_sSeq, ↓e_sAsg, ↓e_gNm, ↓e_gTu, ↓e_gsNil, ↓e_gsCons, ↓e_gSb, ↓e_sPar, ↓e_sExp, ↓e_sRt, ↓e_sRtN, ↓e_sIf, ↓e_sAug, ↓e_sFor, ↓e_sWh, ↓e_mComp, ↓e_mCompM, ↓e_tYs, ↓e_mkFn, ↓e_mApp, ↓e_itSeq, ↓e_itScr, ↓e_itEnum, ↓e_itZip, ↓e_itZip3, ↓e_itR1, ↓e_itR2, ↓e_itR3, ↓e_mDic0, ↓e_mDic1, ↓e_sPar3, ↓e_mAddM, ↓e_aStar, ↓e_mMulM, ↓e_sRaise0, ↓e_sRaise1, ↓e_mErr, ↓e_mCallV, starP_t, starP_l, slot_0, slot_1, slot_2, slot_3, slot_4, slot_5, slot_6, slot_7, slot_8, slot_9, slot_10, slot_11, slot_12, slot_13, slot_14, slot_15, slot_16, slot_17, slot_18, slot_19, slot_20, slot_21, slot_22, slot_23, slot_24, slot_25, slot_26, slot_27, slot_28, slot_29, slot_30, negP_i, ex3, ex2, wipeE, List.map_cons, List.map_nil, List.cons_append, List.nil_append, List.append_nil, List.length_cons, List.length_nil, List.replicate_succ, List.replicate_zero, List.set_cons_zero, List.set_cons_succ, Oc_some, Nat.reduceAdd, Nat.reduceSub, Nat.reduceLeDiff, Nat.zero_le, Int.toNat_natCast, Bool.or_false, Bool.or_true, Bool.or_self, Bool.false_or, Bool.true_or, decide_true, decide_false, Nat.zero_add, Nat.sub_self, Bool.true_eq_false, Bool.false_eq_true, if_true, if_false, ite_true, ite_false, true_and, and_true, addP_ii, subP_ii, mulP_ii, isiP_tup, isiP_lst, isiP_str, isiP_bl, isiP_int, isiP_tl, kd_non, kd_bl, kd_int, kd_str, kd_tup, kd_lst, isTup, isLst, isStr, isBl, isInt, eqP_ii, neP_ii, lenP_t, lenP_l, lenP_s, seqP_t, seqP_l, truP_b, ixP_t, ixP_l, slP_t, slP_l, tupleP_l, tupleP_t, addP_tt, modP_ii, divP_ii, exb, addLP_ll, min2_ii, max2_ii, exTup, exCons, exInt, iaddP_ii, leP_ii, gtP_ii, geP_ii, ltP_ii, intP_i, decide_eq_true_eq, Bool.not_eq_true', decide_eq_false_iff_not, Bool.not_true, Bool.not_false, List.cons_ne_nil, Nat.succ_ne_zero, reduceCtorEq, List.length_take, lsm]
    refine ⟨by omega, by omega, ?_⟩
    refine c_law_pick (b := false) ro5 (by simp) (by simp) fun ill o6 mi ro6 => ?_
    have hill : kdW ill = true ∧ wordB (setsP p) ill = false := by
      refine ill_bad (st := st) k os ?_
      simp only [List.mem_cons, List.not_mem_nil, or_false] at mi
      rcases mi with rfl | rfl | rfl | rfl | rfl | rfl
      · exact .non
      · exact .nil
      · exact .lst
      · exact .more
      · exact .nine
      · exact .none
    obtain ⟨ki, wi⟩ := hill
    clear mi
    rw [← hst]
    have hH : upO h a o6 P = some (.tbl "law.<locals>.<lambda>") := by rw [upO_ne Pa]; exact hP
    have wst : wordB (setsP p) (tI st) = true := ok_state.mpr os
    have kst : kdW (tI st) = true := kdW_tI
    (try simp only [↓e_mVar, ↓e_mK, ↓e_mOp1, ↓e_mOp2, ↓e_aNil, ↓e_aCons, ↓e_mTup, ↓e_mLst, ↓e_mLstM, ↓e_mIf, ↓e_tTru, ↓e_tNt, ↓e_tAnd2, ↓e_tOr2, ↓e_tOp2, ↓e_mChain, ↓e_tChain', ↓e_mAnd, ↓e_mOr, ↓e_mFld, ↓e_sFldD, ↓e_mMeth, ↓e_mMake, ↓e_mRev, revP_l, ↓e_mAndT, ↓e_mOrT, truP_lc, ↓e_mNot, ↓e_mCall, ↓e_mBlt, ↓e_oNo, ↓e_oSo, ↓e_mSl, ↓e_sPass, ↓e_sBrk, ↓e_sCnt, ↓e_sNever, ↓e_sSeq, ↓e_sAsg, ↓e_gNm, ↓e_gTu, ↓e_gsNil, ↓e_gsCons, ↓e_gSb, ↓e_sPar, ↓e_sExp, ↓e_sRt, ↓e_sRtN, ↓e_sIf, ↓e_sAug, ↓e_sFor, ↓e_sWh, ↓e_mComp, ↓e_mCompM, ↓e_tYs, ↓e_mkFn, ↓e_mApp, ↓e_itSeq, ↓e_itScr, ↓e_itEnum, ↓e_itZip, ↓e_itZip3, ↓e_itR1, ↓e_itR2, ↓e_itR3, ↓e_mDic0, ↓e_mDic1, ↓e_sPar3, ↓e_mAddM, ↓e_aStar, ↓e_mMulM, ↓e_sRaise0, ↓e_sRaise1, ↓e_mErr, ↓e_mCallV, starP_t, starP_l, slot_0, slot_1, slot_2, slot_3, slot_4, slot_5, slot_6, slot_7, slot_8, slot_9, slot_10, slot_11, slot_12, slot_13, slot_14, slot_15, slot_16, slot_17, slot_18, slot_19, slot_20, slot_21, slot_22, slot_23, slot_24, slot_25, slot_26, slot_27, slot_28, slot_29, slot_30, negP_i, ex3, ex2, wipeE, List.map_cons, List.map_nil, List.cons_append, List.nil_append, List.append_nil, List.length_cons, List.length_nil, List.replicate_succ, List.replicate_zero, List.set_cons_zero, List.set_cons_succ, Oc_some, Nat.reduceAdd, Nat.reduceSub, Nat.reduceLeDiff, Nat.zero_le, Int.toNat_natCast, Bool.or_false, Bool.or_true, Bool.or_self, Bool.false_or, Bool.true_or, decide_true, decide_false, Nat.zero_add, Nat.sub_self, Bool.true_eq_false, Bool.false_eq_true, if_true, if_false, ite_true, ite_false, true_and, and_true, addP_ii, subP_ii, mulP_ii, isiP_tup, isiP_lst, isiP_str, isiP_bl, isiP_int, isiP_tl, kd_non, kd_bl, kd_int, kd_str, kd_tup, kd_lst, isTup, isLst, isStr, isBl, isInt, eqP_ii, neP_ii, lenP_t, lenP_l, lenP_s, seqP_t, seqP_l, truP_b, ixP_t, ixP_l, slP_t, slP_l, tupleP_l, tupleP_t, addP_tt, modP_ii, divP_ii, exb, addLP_ll, min2_ii, max2_ii, exTup, exCons, exInt, iaddP_ii, leP_ii, gtP_ii, geP_ii, ltP_ii, intP_i, decide_eq_true_eq, Bool.not_eq_true', decide_eq_false_iff_not, Bool.not_true, Bool.not_false, List.cons_ne_nil, Nat.succ_ne_zero, reduceCtorEq])
    refine ⟨hH, o_count_parts hod (hdE_fld rfl ?_)⟩
    refine ⟨hH, hb_count_parts k hbad (hdE_nam rfl ?_)⟩
    refine ⟨hH, hb_part_size k hbad (hdE_nam rfl ?_)⟩
    simp only [↓u_t_law_4, ↓e_mVar, ↓e_mK, ↓e_mOp1, ↓e_mOp2, ↓e_aNil, ↓e_aCons, ↓e_mTup, ↓e_mLst, ↓e_mLstM, ↓e_mIf, ↓e_tTru, ↓e_tNt, ↓e_tAnd2, ↓e_tOr2, ↓e_tOp2, ↓e_mChain, ↓e_tChain', ↓e_mAnd, ↓e_mOr, ↓e_mFld, ↓e_sFldD, ↓e_mMeth, ↓e_mMake, ↓e_mRev, revP_l, ↓e_mAndT, ↓e_mOrT, truP_lc, ↓e_mNot, ↓e_mCall, ↓e_mBlt, ↓e_oNo, ↓e_oSo, ↓e_mSl, ↓e_sPass, ↓e_sBrk, ↓e_sCnt, ↓e_sNever, ↓e_sSeq, ↓e_sAsg, ↓e_gNm, ↓e_gTu, ↓e_gsNil, ↓e_gsCons, ↓e_gSb, ↓e_sPar, ↓e_sExp, ↓e_sRt, ↓e_sRtN, ↓e_sIf, ↓e_sAug, ↓e_sFor, ↓e_sWh, ↓e_mComp, ↓e_mCompM, ↓e_tYs, ↓e_mkFn, ↓e_mApp, ↓e_itSeq, ↓e_itScr, ↓e_itEnum, ↓e_itZip, ↓e_itZip3, ↓e_itR1, ↓e_itR2, ↓e_itR3, ↓e_mDic0, ↓e_mDic1, ↓e_sPar3, ↓e_mAddM, ↓e_aStar, ↓e_mMulM, ↓e_sRaise0, ↓e_sRaise1, ↓e_mErr, ↓e_mCallV, starP_t, starP_l, slot_0, slot_1, slot_2, slot_3, slot_4, slot_5, slot_6, slot_7, slot_8, slot_9, slot_10, slot_11, slot_12, slot_13, slot_14, slot_15, slot_16, slot_17, slot_18, slot_19, slot_20, slot_21, slot_22, slot_23, slot_24, slot_25, slot_26, slot_27, slot_28, slot_29, slot_30, negP_i, ex3, ex2, wipeE, List.map_cons, List.map_nil, List.cons_append, List.nil_append, List.append_nil, List.length_cons, List.length_nil, List.replicate_succ, List.replicate_zero, List.set_cons_zero, List.set_cons_succ, Oc_some, Nat.reduceAdd, Nat.reduceSub, Nat.reduceLeDiff, Nat.zero_le, Int.toNat_natCast, Bool.or_false, Bool.or_true, Bool.or_self, Bool.false_or, Bool.true_or, decide_true, decide_false, Nat.zero_add, Nat.sub_self, Bool.true_eq_false, Bool.false_eq_true, if_true, if_false, ite_true, ite_false, true_and, and_true, addP_ii, subP_ii, mulP_ii, isiP_tup, isiP_lst, isiP_str, isiP_bl, isiP_int, isiP_tl, kd_non, kd_bl, kd_int, kd_str, kd_tup, kd_lst, isTup, isLst, isStr, isBl, isInt, eqP_ii, neP_ii, lenP_t, lenP_l, lenP_s, seqP_t, seqP_l, truP_b, ixP_t, ixP_l, slP_t, slP_l, tupleP_l, tupleP_t, addP_tt, modP_ii, divP_ii, exb, addLP_ll, min2_ii, max2_ii, exTup, exCons, exInt, iaddP_ii, leP_ii, gtP_ii, geP_ii, ltP_ii, intP_i, decide_eq_true_eq, Bool.not_eq_true', decide_eq_false_iff_not, Bool.not_true, Bool.not_false, List.cons_ne_nil, Nat.succ_ne_zero, reduceCtorEq]
    refine ⟨hH, hs_part_size k ki wi (hdE_nam rfl ?_)⟩
    refine ⟨hH, hb_can_come k hbad (hdE_nam rfl ?_)⟩
    simp only [↓u_t_law_3, ↓e_mVar, ↓e_mK, ↓e_mOp1, ↓e_mOp2, ↓e_aNil, ↓e_aCons, ↓e_mTup, ↓e_mLst, ↓e_mLstM, ↓e_mIf, ↓e_tTru, ↓e_tNt, ↓e_tAnd2, ↓e_tOr2, ↓e_tOp2, ↓e_mChain, ↓e_tChain', ↓e_mAnd, ↓e_mOr, ↓e_mFld, ↓e_sFldD, ↓e_mMeth, ↓e_mMake, ↓e_mRev, revP_l, ↓e_mAndT, ↓e_mOrT, truP_lc, ↓e_mNot, ↓e_mCall, ↓e_mBlt, ↓e_oNo, ↓e_oSo, ↓e_mSl, ↓e_sPass, ↓e_sBrk, ↓e_sCnt, ↓e_sNever, ↓e_sSeq, ↓e_sAsg, ↓e_gNm, ↓e_gTu, ↓e_gsNil, ↓e_gsCons, ↓e_gSb, ↓e_sPar, ↓e_sExp, ↓e_sRt, ↓e_sRtN, ↓e_sIf, ↓e_sAug, ↓e_sFor, ↓e_sWh, ↓e_mComp, ↓e_mCompM, ↓e_tYs, ↓e_mkFn, ↓e_mApp, ↓e_itSeq, ↓e_itScr, ↓e_itEnum, ↓e_itZip, ↓e_itZip3, ↓e_itR1, ↓e_itR2, ↓e_itR3, ↓e_mDic0, ↓e_mDic1, ↓e_sPar3, ↓e_mAddM, ↓e_aStar, ↓e_mMulM, ↓e_sRaise0, ↓e_sRaise1, ↓e_mErr, ↓e_mCallV, starP_t, starP_l, slot_0, slot_1, slot_2, slot_3, slot_4, slot_5, slot_6, slot_7, slot_8, slot_9, slot_10, slot_11, slot_12, slot_13, slot_14, slot_15, slot_16, slot_17, slot_18, slot_19, slot_20, slot_21, slot_22, slot_23, slot_24, slot_25, slot_26, slot_27, slot_28, slot_29, slot_30, negP_i, ex3, ex2, wipeE, List.map_cons, List.map_nil, List.cons_append, List.nil_append, List.append_nil, List.length_cons, List.length_nil, List.replicate_succ, List.replicate_zero, List.set_cons_zero, List.set_cons_succ, Oc_some, Nat.reduceAdd, Nat.reduceSub, Nat.reduceLeDiff, Nat.zero_le, Int.toNat_natCast, Bool.or_false, Bool.or_true, Bool.or_self, Bool.false_or, Bool.true_or, decide_true, decide_false, Nat.zero_add, Nat.sub_self, Bool.true_eq_false, Bool.false_eq_true, if_true, if_false, ite_true, ite_false, true_and, and_true, addP_ii, subP_ii, mulP_ii, isiP_tup, isiP_lst, isiP_str, isiP_bl, isiP_int, isiP_tl, kd_non, kd_bl, kd_int, kd_str, kd_tup, kd_lst, isTup, isLst, isStr, isBl, isInt, eqP_ii, neP_ii, lenP_t, lenP_l, lenP_s, seqP_t, seqP_l, truP_b, ixP_t, ixP_l, slP_t, slP_l, tupleP_l, tupleP_t, addP_tt, modP_ii, divP_ii, exb, addLP_ll, min2_ii, max2_ii, exTup, exCons, exInt, iaddP_ii, leP_ii, gtP_ii, geP_ii, ltP_ii, intP_i, decide_eq_true_eq, Bool.not_eq_true', decide_eq_false_iff_not, Bool.not_true, Bool.not_false, List.cons_ne_nil, Nat.succ_ne_zero, reduceCtorEq]
    refine ⟨hH, hs_can_come k ki wi (hdE_nam rfl ?_)⟩
    refine ⟨hH, ht_can_come k os ki wi (hdE_nam rfl ?_)⟩
    simp only [↓u_t_law_2, ↓e_mVar, ↓e_mK, ↓e_mOp1, ↓e_mOp2, ↓e_aNil, ↓e_aCons, ↓e_mTup, ↓e_mLst, ↓e_mLstM, ↓e_mIf, ↓e_tTru, ↓e_tNt, ↓e_tAnd2, ↓e_tOr2, ↓e_tOp2, ↓e_mChain, ↓e_tChain', ↓e_mAnd, ↓e_mOr, ↓e_mFld, ↓e_sFldD, ↓e_mMeth, ↓e_mMake, ↓e_mRev, revP_l, ↓e_mAndT, ↓e_mOrT, truP_lc, ↓e_mNot, ↓e_mCall, ↓e_mBlt, ↓e_oNo, ↓e_oSo, ↓e_mSl, ↓e_sPass, ↓e_sBrk, ↓e_sCnt, ↓e_sNever, ↓e_sSeq, ↓e_sAsg, ↓e_gNm, ↓e_gTu, ↓e_gsNil, ↓e_gsCons, ↓e_gSb, ↓e_sPar, ↓e_sExp, ↓e_sRt, ↓e_sRtN, ↓e_sIf, ↓e_sAug, ↓e_sFor, ↓e_sWh, ↓e_mComp, ↓e_mCompM, ↓e_tYs, ↓e_mkFn, ↓e_mApp, ↓e_itSeq, ↓e_itScr, ↓e_itEnum, ↓e_itZip, ↓e_itZip3, ↓e_itR1, ↓e_itR2, ↓e_itR3, ↓e_mDic0, ↓e_mDic1, ↓e_sPar3, ↓e_mAddM, ↓e_aStar, ↓e_mMulM, ↓e_sRaise0, ↓e_sRaise1, ↓e_mErr, ↓e_mCallV, starP_t, starP_l, slot_0, slot_1, slot_2, slot_3, slot_4, slot_5, slot_6, slot_7, slot_8, slot_9, slot_10, slot_11, slot_12, slot_13, slot_14, slot_15, slot_16, slot_17, slot_18, slot_19, slot_20, slot_21, slot_22, slot_23, slot_24, slot_25, slot_26, slot_27, slot_28, slot_29, slot_30, negP_i, ex3, ex2, wipeE, List.map_cons, List.map_nil, List.cons_append, List.nil_append, List.append_nil, List.length_cons, List.length_nil, List.replicate_succ, List.replicate_zero, List.set_cons_zero, List.set_cons_succ, Oc_some, Nat.reduceAdd, Nat.reduceSub, Nat.reduceLeDiff, Nat.zero_le, Int.toNat_natCast, Bool.or_false, Bool.or_true, Bool.or_self, Bool.false_or, Bool.true_or, decide_true, decide_false, Nat.zero_add, Nat.sub_self, Bool.true_eq_false, Bool.false_eq_true, if_true, if_false, ite_true, ite_false, true_and, and_true, addP_ii, subP_ii, mulP_ii, isiP_tup, isiP_lst, isiP_str, isiP_bl, isiP_int, isiP_tl, kd_non, kd_bl, kd_int, kd_str, kd_tup, kd_lst, isTup, isLst, isStr, isBl, isInt, eqP_ii, neP_ii, lenP_t, lenP_l, lenP_s, seqP_t, seqP_l, truP_b, ixP_t, ixP_l, slP_t, slP_l, tupleP_l, tupleP_t, addP_tt, modP_ii, divP_ii, exb, addLP_ll, min2_ii, max2_ii, exTup, exCons, exInt, iaddP_ii, leP_ii, gtP_ii, geP_ii, ltP_ii, intP_i, decide_eq_true_eq, Bool.not_eq_true', decide_eq_false_iff_not, Bool.not_true, Bool.not_false, List.cons_ne_nil, Nat.succ_ne_zero, reduceCtorEq]
    refine ⟨hH, o_edge_counts hod (hdE_fld rfl ?_)⟩
    refine ⟨hH, sb_least_free k ki wi (hdE_nam rfl ?_)⟩
    refine ⟨hH, tb_least_free k kst wst ki wi (hdE_nam rfl ?_)⟩
    simp only [↓u_t_law_1, ↓e_mVar, ↓e_mK, ↓e_mOp1, ↓e_mOp2, ↓e_aNil, ↓e_aCons, ↓e_mTup, ↓e_mLst, ↓e_mLstM, ↓e_mIf, ↓e_tTru, ↓e_tNt, ↓e_tAnd2, ↓e_tOr2, ↓e_tOp2, ↓e_mChain, ↓e_tChain', ↓e_mAnd, ↓e_mOr, ↓e_mFld, ↓e_sFldD, ↓e_mMeth, ↓e_mMake, ↓e_mRev, revP_l, ↓e_mAndT, ↓e_mOrT, truP_lc, ↓e_mNot, ↓e_mCall, ↓e_mBlt, ↓e_oNo, ↓e_oSo, ↓e_mSl, ↓e_sPass, ↓e_sBrk, ↓e_sCnt, ↓e_sNever, ↓e_sSeq, ↓e_sAsg, ↓e_gNm, ↓e_gTu, ↓e_gsNil, ↓e_gsCons, ↓e_gSb, ↓e_sPar, ↓e_sExp, ↓e_sRt, ↓e_sRtN, ↓e_sIf, ↓e_sAug, ↓e_sFor, ↓e_sWh, ↓e_mComp, ↓e_mCompM, ↓e_tYs, ↓e_mkFn, ↓e_mApp, ↓e_itSeq, ↓e_itScr, ↓e_itEnum, ↓e_itZip, ↓e_itZip3, ↓e_itR1, ↓e_itR2, ↓e_itR3, ↓e_mDic0, ↓e_mDic1, ↓e_sPar3, ↓e_mAddM, ↓e_aStar, ↓e_mMulM, ↓e_sRaise0, ↓e_sRaise1, ↓e_mErr, ↓e_mCallV, starP_t, starP_l, slot_0, slot_1, slot_2, slot_3, slot_4, slot_5, slot_6, slot_7, slot_8, slot_9, slot_10, slot_11, slot_12, slot_13, slot_14, slot_15, slot_16, slot_17, slot_18, slot_19, slot_20, slot_21, slot_22, slot_23, slot_24, slot_25, slot_26, slot_27, slot_28, slot_29, slot_30, negP_i, ex3, ex2, wipeE, List.map_cons, List.map_nil, List.cons_append, List.nil_append, List.append_nil, List.length_cons, List.length_nil, List.replicate_succ, List.replicate_zero, List.set_cons_zero, List.set_cons_succ, Oc_some, Nat.reduceAdd, Nat.reduceSub, Nat.reduceLeDiff, Nat.zero_le, Int.toNat_natCast, Bool.or_false, Bool.or_true, Bool.or_self, Bool.false_or, Bool.true_or, decide_true, decide_false, Nat.zero_add, Nat.sub_self, Bool.true_eq_false, Bool.false_eq_true, if_true, if_false, ite_true, ite_false, true_and, and_true, addP_ii, subP_ii, mulP_ii, isiP_tup, isiP_lst, isiP_str, isiP_bl, isiP_int, isiP_tl, kd_non, kd_bl, kd_int, kd_str, kd_tup, kd_lst, isTup, isLst, isStr, isBl, isInt, eqP_ii, neP_ii, lenP_t, lenP_l, lenP_s, seqP_t, seqP_l, truP_b, ixP_t, ixP_l, slP_t, slP_l, tupleP_l, tupleP_t, addP_tt, modP_ii, divP_ii, exb, addLP_ll, min2_ii, max2_ii, exTup, exCons, exInt, iaddP_ii, leP_ii, gtP_ii, geP_ii, ltP_ii, intP_i, decide_eq_true_eq, Bool.not_eq_true', decide_eq_false_iff_not, Bool.not_true, Bool.not_false, List.cons_ne_nil, Nat.succ_ne_zero, reduceCtorEq]
    have p10 : pl 3 (.lst [.tup [.str "BadPuzzle", idx], .str "BadHeld", .str "BadHeld", .str "BadState", .str "BadHeld", .str "BadState", .str "BadState", .tup [.str "BadPuzzle", idx], .str "BadState", .str "BadState"]) := ⟨by show 10 ≤ _; omega, fun z m => by
      simp only [List.mem_cons, List.not_mem_nil, or_false] at m
      rcases m with rfl | rfl | rfl | rfl | rfl | rfl | rfl | rfl | rfl | rfl <;> first | exact pl_pair (by decide +kernel) pli | exact pl_str (by decide +kernel)⟩
    rw [neP_pl (n := 3) (by decide) p10]
    (try simp only [↓e_mVar, ↓e_mK, ↓e_mOp1, ↓e_mOp2, ↓e_aNil, ↓e_aCons, ↓e_mTup, ↓e_mLst, ↓e_mLstM, ↓e_mIf, ↓e_tTru, ↓e_tNt, ↓e_tAnd2, ↓e_tOr2, ↓e_tOp2, ↓e_mChain, ↓e_tChain', ↓e_mAnd, ↓e_mOr, ↓e_mFld, ↓e_sFldD, ↓e_mMeth, ↓e_mMake, ↓e_mRev, revP_l, ↓e_mAndT, ↓e_mOrT, truP_lc, ↓e_mNot, ↓e_mCall, ↓e_mBlt, ↓e_oNo, ↓e_oSo, ↓e_mSl, ↓e_sPass, ↓e_sBrk, ↓e_sCnt, ↓e_sNever, ↓e_sSeq, ↓e_sAsg, ↓e_gNm, ↓e_gTu, ↓e_gsNil, ↓e_gsCons, ↓e_gSb, ↓e_sPar, ↓e_sExp, ↓e_sRt, ↓e_sRtN, ↓e_sIf, ↓e_sAug, ↓e_sFor, ↓e_sWh, ↓e_mComp, ↓e_mCompM, ↓e_tYs, ↓e_mkFn, ↓e_mApp, ↓e_itSeq, ↓e_itScr, ↓e_itEnum, ↓e_itZip, ↓e_itZip3, ↓e_itR1, ↓e_itR2, ↓e_itR3, ↓e_mDic0, ↓e_mDic1, ↓e_sPar3, ↓e_mAddM, ↓e_aStar, ↓e_mMulM, ↓e_sRaise0, ↓e_sRaise1, ↓e_mErr, ↓e_mCallV, starP_t, starP_l, slot_0, slot_1, slot_2, slot_3, slot_4, slot_5, slot_6, slot_7, slot_8, slot_9, slot_10, slot_11, slot_12, slot_13, slot_14, slot_15, slot_16, slot_17, slot_18, slot_19, slot_20, slot_21, slot_22, slot_23, slot_24, slot_25, slot_26, slot_27, slot_28, slot_29, slot_30, negP_i, ex3, ex2, wipeE, List.map_cons, List.map_nil, List.cons_append, List.nil_append, List.append_nil, List.length_cons, List.length_nil, List.replicate_succ, List.replicate_zero, List.set_cons_zero, List.set_cons_succ, Oc_some, Nat.reduceAdd, Nat.reduceSub, Nat.reduceLeDiff, Nat.zero_le, Int.toNat_natCast, Bool.or_false, Bool.or_true, Bool.or_self, Bool.false_or, Bool.true_or, decide_true, decide_false, Nat.zero_add, Nat.sub_self, Bool.true_eq_false, Bool.false_eq_true, if_true, if_false, ite_true, ite_false, true_and, and_true, addP_ii, subP_ii, mulP_ii, isiP_tup, isiP_lst, isiP_str, isiP_bl, isiP_int, isiP_tl, kd_non, kd_bl, kd_int, kd_str, kd_tup, kd_lst, isTup, isLst, isStr, isBl, isInt, eqP_ii, neP_ii, lenP_t, lenP_l, lenP_s, seqP_t, seqP_l, truP_b, ixP_t, ixP_l, slP_t, slP_l, tupleP_l, tupleP_t, addP_tt, modP_ii, divP_ii, exb, addLP_ll, min2_ii, max2_ii, exTup, exCons, exInt, iaddP_ii, leP_ii, gtP_ii, geP_ii, ltP_ii, intP_i, decide_eq_true_eq, Bool.not_eq_true', decide_eq_false_iff_not, Bool.not_true, Bool.not_false, List.cons_ne_nil, Nat.succ_ne_zero, reduceCtorEq])
    exact .of (hK _ _ ⟨o6, ro6, rfl, .inr ⟨p, st, _, _, _, _, _, _, _, k, os, rfl⟩⟩)
  · rintro e' h1 ⟨o, ro, rfl, he⟩
    rcases he with ⟨x2, x3, x4, x5, x6, x7, x8, x9, x10, e0, rfl⟩ | ⟨p, st, x2, x5, x6, x7, x8, x9, x10, k, os, rfl⟩
    · rw [rngD_length] at e0
      cases e0
    · simp only [↓u_t_law_5, ↓e_mVar, ↓e_mK, ↓e_mOp1, ↓e_mOp2, ↓e_aNil, ↓e_aCons, ↓e_mTup, ↓e_mLst, ↓e_mLstM, ↓e_mIf, ↓e_tTru, ↓e_tNt, ↓e_tAnd2, ↓e_tOr2, ↓e_tOp2, ↓e_mChain, ↓e_tChain', ↓e_mAnd, ↓e_mOr, ↓e_mFld, ↓e_sFldD, ↓e_mMeth, ↓e_mMake, ↓e_mRev, revP_l, ↓e_mAndT, ↓e_mOrT, truP_lc, ↓e_mNot, ↓e_mCall, ↓e_mBlt, ↓e_oNo, ↓e_oSo, ↓e_mSl, ↓e_sPass, ↓e_sBrk, ↓e_sCnt, ↓e_sNever, ↓e_sSeq, ↓e_sAsg, ↓e_gNm, ↓e_gTu, ↓e_gsNil, ↓e_gsCons, ↓e_gSb, ↓e_sPar, ↓e_sExp, ↓e_sRt, ↓e_sRtN, ↓e_sIf, ↓e_sAug, ↓e_sFor, ↓e_sWh, ↓e_mComp, ↓e_mCompM, ↓e_tYs, ↓e_mkFn, ↓e_mApp, ↓e_itSeq, ↓e_itScr, ↓e_itEnum, ↓e_itZip, ↓e_itZip3, ↓e_itR1, ↓e_itR2, ↓e_itR3, ↓e_mDic0, ↓e_mDic1, ↓e_sPar3, ↓e_mAddM, ↓e_aStar, ↓e_mMulM, ↓e_sRaise0, ↓e_sRaise1, ↓e_mErr, ↓e_mCallV, starP_t, starP_l, slot_0, slot_1, slot_2, slot_3, slot_4, slot_5, slot_6, slot_7, slot_8, slot_9, slot_10, slot_11, slot_12, slot_13, slot_14, slot_15, slot_16, slot_17, slot_18, slot_19, slot_20, slot_21, slot_22, slot_23, slot_24, slot_25, slot_26, slot_27, slot_28, slot_29, slot_30, negP_i, ex3, ex2, wipeE, List.map_cons, List.map_nil, List.cons_append, List.nil_append, List.append_nil, List.length_cons, List.length_nil, List.replicate_succ, List.replicate_zero, List.set_cons_zero, List.set_cons_succ, Oc_some, Nat.reduceAdd, Nat.reduceSub, Nat.reduceLeDiff, Nat.zero_le, Int.toNat_natCast, Bool.or_false, Bool.or_true, Bool.or_self, Bool.false_or, Bool.true_or, decide_true, decide_false, Nat.zero_add, Nat.sub_self, Bool.true_eq_false, Bool.false_eq_true, if_true, if_false, ite_true, ite_false, true_and, and_true, addP_ii, subP_ii, mulP_ii, isiP_tup, isiP_lst, isiP_str, isiP_bl, isiP_int, isiP_tl, kd_non, kd_bl, kd_int, kd_str, kd_tup, kd_lst, isTup, isLst, isStr, isBl, isInt, eqP_ii, neP_ii, lenP_t, lenP_l, lenP_s, seqP_t, seqP_l, truP_b, ixP_t, ixP_l, slP_t, slP_l, tupleP_l, tupleP_t, addP_tt, modP_ii, divP_ii, exb, addLP_ll, min2_ii, max2_ii, exTup, exCons, exInt, iaddP_ii, leP_ii, gtP_ii, geP_ii, ltP_ii, intP_i, decide_eq_true_eq, Bool.not_eq_true', decide_eq_false_iff_not, Bool.not_true, Bool.not_false, List.cons_ne_nil, Nat.succ_ne_zero, reduceCtorEq]
      refine g_can_come k os fun h2 le => ?_
      show isP h2 (.bl true) (.bl true) _
      refine ⟨_, rfl, ?_⟩
      rw [if_pos (by decide)]
      refine g_least_free k os fun h3 le3 => ?_
      have p0 : pl 2 (.tup []) := ⟨by decide, fun _ m => (nomatch m)⟩
      rw [eqP_pl (n := 2) (by decide) p0]
      exact .of (q _)
end L2.Lmp

set_option maxHeartbeats 4000000
namespace L2.Lmp
open PySem PySem.Spec PyProof.Rows
theorem all_mk {P : Program} {w : World} {K : PySem.W.Frag} {h : Heap} {mg : Str → Option Value} {fa cT PT : Addr} (X : K.In h) (G : h.Ns mainGlobals mg) (hfa : mg "law" = some (.ref fa)) (ht : PySem.W.tabIn K "law" = some (cT, PT))
    (z_ValueError : PySem.W.nsIn K mainGlobals "ValueError" = some none)
    (z_abs : PySem.W.nsIn K mainGlobals "abs" = some none)
    (z_all : PySem.W.nsIn K mainGlobals "all" = some none)
    (z_any : PySem.W.nsIn K mainGlobals "any" = some none)
    (z_bool : PySem.W.nsIn K mainGlobals "bool" = some none)
    (z_enumerate : PySem.W.nsIn K mainGlobals "enumerate" = some none)
    (z_int : PySem.W.nsIn K mainGlobals "int" = some none)
    (z_isinstance : PySem.W.nsIn K mainGlobals "isinstance" = some none)
    (z_len : PySem.W.nsIn K mainGlobals "len" = some none)
    (z_list : PySem.W.nsIn K mainGlobals "list" = some none)
    (z_range : PySem.W.nsIn K mainGlobals "range" = some none)
    (z_tuple : PySem.W.nsIn K mainGlobals "tuple" = some none)
    (z_zip : PySem.W.nsIn K mainGlobals "zip" = some none)
    {t_LEAST_SETTINGS : _} (i_LEAST_SETTINGS : PySem.W.nsIn K mainGlobals "LEAST_SETTINGS" = some (some (Value.int 2 t_LEAST_SETTINGS)))
    {t_MOST_LAMPS : _} (i_MOST_LAMPS : PySem.W.nsIn K mainGlobals "MOST_LAMPS" = some (some (Value.int 30 t_MOST_LAMPS)))
    {t_MOST_SETTINGS : _} (i_MOST_SETTINGS : PySem.W.nsIn K mainGlobals "MOST_SETTINGS" = some (some (Value.int 4 t_MOST_SETTINGS)))
    (fn0 : PySem.W.specialIn K (.builtin "object.__class__") "__get__" = some (some (.builtin "getset_descriptor.__get__"))) (ft0 : PySem.W.takesIn K (.builtin "object.__class__") = some true)
    {c_BadPuzzle : Addr} (a_BadPuzzle : PySem.W.nsIn K mainGlobals "BadPuzzle" = some (some (.ref c_BadPuzzle)))
    (k_BadPuzzle : PySem.W.keepIn K (.ref c_BadPuzzle) = true) (e_BadPuzzle : PySem.W.subIn K (.ref c_BadPuzzle) (.type "BaseException") = some true) (t_BadPuzzle : PySem.W.typeIn K (.ref c_BadPuzzle) = some (.type "type")) (h_BadPuzzle : PySem.W.hasDictIn K c_BadPuzzle = true) (s_BadPuzzle : PySem.W.subIn K (.ref c_BadPuzzle) (.ref c_BadPuzzle) = some true)
    {nm_BadPuzzle q_BadPuzzle qn_BadPuzzle : Str} {N_BadPuzzle fi_BadPuzzle : Addr} {bs_BadPuzzle bm_BadPuzzle sub_BadPuzzle : List Value} {sn_BadPuzzle : List Str} {ab_BadPuzzle : Bool} {col_BadPuzzle : Option Bool} {dd_BadPuzzle odi_BadPuzzle ani_BadPuzzle : Option Addr} {m0_BadPuzzle m1_BadPuzzle m2_BadPuzzle m3_BadPuzzle m5_BadPuzzle : Option Value} {sli_BadPuzzle : Array (Option Value)} {oci_BadPuzzle dci_BadPuzzle pmi_BadPuzzle cdi_BadPuzzle cti_BadPuzzle : Value} {p1_BadPuzzle p2_BadPuzzle r1_BadPuzzle r2_BadPuzzle r3_BadPuzzle r4_BadPuzzle : Pos}
    (L_BadPuzzle : K.lookup c_BadPuzzle = some (excClassObj nm_BadPuzzle q_BadPuzzle c_BadPuzzle N_BadPuzzle bs_BadPuzzle bm_BadPuzzle true sn_BadPuzzle sub_BadPuzzle ab_BadPuzzle col_BadPuzzle dd_BadPuzzle m0_BadPuzzle m1_BadPuzzle m2_BadPuzzle m3_BadPuzzle m5_BadPuzzle "ValueError.__new__")) (R_BadPuzzle : PySem.HandSPX.refsVE bm_BadPuzzle = true)
    (sa_BadPuzzle : PySem.W.findIn K (.ref c_BadPuzzle) "__setattr__" = some (some (.builtin "object.__setattr__"))) (ga_BadPuzzle : PySem.W.findIn K (.ref c_BadPuzzle) "__getattribute__" = some (some (.builtin "BaseException.__getattribute__"))) (gg_BadPuzzle : PySem.W.findIn K (.ref c_BadPuzzle) "__getattr__" = some none) (nb_BadPuzzle : PySem.W.findIn K (.ref c_BadPuzzle) "index" = some none)
    (ai_BadPuzzle : PySem.W.findIn K (.ref c_BadPuzzle) "__init__" = some (some (.ref fi_BadPuzzle))) (ti_BadPuzzle : PySem.W.typeIn K (.ref fi_BadPuzzle) = some (.type "function"))
    (li_BadPuzzle : K.lookup fi_BadPuzzle = some ⟨oci_BadPuzzle, odi_BadPuzzle, .func (PySem.W.fnOf "__init__" qn_BadPuzzle (PySem.OwnX.iA "index" p1_BadPuzzle p2_BadPuzzle) (PySem.OwnX.iB "index" r1_BadPuzzle r2_BadPuzzle r3_BadPuzzle r4_BadPuzzle) (PySem.OwnX.iS "index") .none .none dci_BadPuzzle pmi_BadPuzzle ani_BadPuzzle cdi_BadPuzzle cti_BadPuzzle), sli_BadPuzzle⟩) (ci_BadPuzzle : PySem.W.codeIn K cdi_BadPuzzle qn_BadPuzzle = true)
    (cc_BadPuzzle : PySem.W.findIn K (.ref c_BadPuzzle) "__class__" = some (some (.builtin "object.__class__"))) (mr_BadPuzzle : PySem.W.mroIn K c_BadPuzzle (.type "object") = some true) (sv_BadPuzzle : PySem.W.subIn K (.ref c_BadPuzzle) (.type "ValueError") = some true)
    {c_BadState : Addr} (a_BadState : PySem.W.nsIn K mainGlobals "BadState" = some (some (.ref c_BadState)))
    (k_BadState : PySem.W.keepIn K (.ref c_BadState) = true) (e_BadState : PySem.W.subIn K (.ref c_BadState) (.type "BaseException") = some true) (t_BadState : PySem.W.typeIn K (.ref c_BadState) = some (.type "type")) (h_BadState : PySem.W.hasDictIn K c_BadState = true) (s_BadState : PySem.W.subIn K (.ref c_BadState) (.ref c_BadState) = some true)
    (x_BadState : PySem.W.excIn K c_BadState [.type "ValueError", .type "Exception", .type "BaseException", .type "object"] "ValueError.__new__" = true)
    {c_BadHeld : Addr} (a_BadHeld : PySem.W.nsIn K mainGlobals "BadHeld" = some (some (.ref c_BadHeld)))
    (k_BadHeld : PySem.W.keepIn K (.ref c_BadHeld) = true) (e_BadHeld : PySem.W.subIn K (.ref c_BadHeld) (.type "BaseException") = some true) (t_BadHeld : PySem.W.typeIn K (.ref c_BadHeld) = some (.type "type")) (h_BadHeld : PySem.W.hasDictIn K c_BadHeld = true) (s_BadHeld : PySem.W.subIn K (.ref c_BadHeld) (.ref c_BadHeld) = some true)
    (x_BadHeld : PySem.W.excIn K c_BadHeld [.type "ValueError", .type "Exception", .type "BaseException", .type "object"] "ValueError.__new__" = true)
    {c_LampError : Addr} (a_LampError : PySem.W.nsIn K mainGlobals "LampError" = some (some (.ref c_LampError)))
    (b_BadPuzzle_BadState : PySem.W.subIn K (.ref c_BadPuzzle) (.ref c_BadState) = some false)
    (b_BadPuzzle_BadHeld : PySem.W.subIn K (.ref c_BadPuzzle) (.ref c_BadHeld) = some false)
    (b_BadState_BadPuzzle : PySem.W.subIn K (.ref c_BadState) (.ref c_BadPuzzle) = some false)
    (b_BadState_BadHeld : PySem.W.subIn K (.ref c_BadState) (.ref c_BadHeld) = some false)
    (b_BadHeld_BadPuzzle : PySem.W.subIn K (.ref c_BadHeld) (.ref c_BadPuzzle) = some false)
    (b_BadHeld_BadState : PySem.W.subIn K (.ref c_BadHeld) (.ref c_BadState) = some false)
    {c_Held : Addr} (a_Held : PySem.W.nsIn K mainGlobals "Held" = some (some (.ref c_Held))) (pg_Held : PySem.W.plainGet K c_Held Str.empty = true) (hd_Held : PySem.W.hasDictIn K c_Held = true) (po_Held : PySem.W.plainOver K c_Held = true) (sa_Held : PySem.W.findIn K (.ref c_Held) "__setattr__" = some (some (.builtin "object.__setattr__"))) (mk_Held : PySem.W.makesIn K c_Held = true) (kp_Held : PySem.W.keepIn K (.ref c_Held) = true)
    (n_Held_puzzle : PySem.W.findIn K (.ref c_Held) "puzzle" = some none)
    (n_Held_lamps : PySem.W.findIn K (.ref c_Held) "lamps" = some none)
    (n_Held_known : PySem.W.findIn K (.ref c_Held) "known" = some none)
    (n_Held_sizes : PySem.W.findIn K (.ref c_Held) "sizes" = some none)
    {f0 : Addr} {od0 an0 : Option Addr} {sl0 : Array (Option Value)} {oc0 kV0 dc0 pm0 cd0 ct0 : Value}
    (a0 : PySem.W.nsIn K mainGlobals "is_int" = some (some (.ref f0))) (l0 : K.lookup f0 = some ⟨oc0, od0, .func (PySem.W.fnOf "is_int" "is_int" (defArgs s_is_int) (defBody s_is_int) (defScope s_is_int) .none kV0 dc0 pm0 an0 cd0 ct0), sl0⟩) (c0 : PySem.W.codeIn K cd0 "is_int" = true) (k0 : PySem.W.keepIn K (.ref f0) = true)
    {f1 : Addr} {od1 an1 : Option Addr} {sl1 : Array (Option Value)} {oc1 kV1 dc1 pm1 cd1 ct1 : Value}
    (a1 : PySem.W.nsIn K mainGlobals "is_in" = some (some (.ref f1))) (l1 : K.lookup f1 = some ⟨oc1, od1, .func (PySem.W.fnOf "is_in" "is_in" (defArgs s_is_in) (defBody s_is_in) (defScope s_is_in) .none kV1 dc1 pm1 an1 cd1 ct1), sl1⟩) (c1 : PySem.W.codeIn K cd1 "is_in" = true) (k1 : PySem.W.keepIn K (.ref f1) = true)
    {f2 : Addr} {od2 an2 : Option Addr} {sl2 : Array (Option Value)} {oc2 kV2 dc2 pm2 cd2 ct2 : Value}
    (a2 : PySem.W.nsIn K mainGlobals "settings_of" = some (some (.ref f2))) (l2 : K.lookup f2 = some ⟨oc2, od2, .func (PySem.W.fnOf "settings_of" "settings_of" (defArgs s_settings_of) (defBody s_settings_of) (defScope s_settings_of) .none kV2 dc2 pm2 an2 cd2 ct2), sl2⟩) (c2 : PySem.W.codeIn K cd2 "settings_of" = true) (k2 : PySem.W.keepIn K (.ref f2) = true)
    {f3 : Addr} {od3 an3 : Option Addr} {sl3 : Array (Option Value)} {oc3 kV3 dc3 pm3 cd3 ct3 : Value}
    (a3 : PySem.W.nsIn K mainGlobals "is_word" = some (some (.ref f3))) (l3 : K.lookup f3 = some ⟨oc3, od3, .func (PySem.W.fnOf "is_word" "is_word" (defArgs s_is_word) (defBody s_is_word) (defScope s_is_word) .none kV3 dc3 pm3 an3 cd3 ct3), sl3⟩) (c3 : PySem.W.codeIn K cd3 "is_word" = true) (k3 : PySem.W.keepIn K (.ref f3) = true)
    {f4 : Addr} {od4 an4 : Option Addr} {sl4 : Array (Option Value)} {oc4 kV4 dc4 pm4 cd4 ct4 : Value}
    (a4 : PySem.W.nsIn K mainGlobals "need_puzzle" = some (some (.ref f4))) (l4 : K.lookup f4 = some ⟨oc4, od4, .func (PySem.W.fnOf "need_puzzle" "need_puzzle" (defArgs s_need_puzzle) (defBody s_need_puzzle) (defScope s_need_puzzle) .none kV4 dc4 pm4 an4 cd4 ct4), sl4⟩) (c4 : PySem.W.codeIn K cd4 "need_puzzle" = true) (k4 : PySem.W.keepIn K (.ref f4) = true)
    {f5 : Addr} {od5 an5 : Option Addr} {sl5 : Array (Option Value)} {oc5 kV5 dc5 pm5 cd5 ct5 : Value}
    (a5 : PySem.W.nsIn K mainGlobals "need_state" = some (some (.ref f5))) (l5 : K.lookup f5 = some ⟨oc5, od5, .func (PySem.W.fnOf "need_state" "need_state" (defArgs s_need_state) (defBody s_need_state) (defScope s_need_state) .none kV5 dc5 pm5 an5 cd5 ct5), sl5⟩) (c5 : PySem.W.codeIn K cd5 "need_state" = true) (k5 : PySem.W.keepIn K (.ref f5) = true)
    {f6 : Addr} {od6 an6 : Option Addr} {sl6 : Array (Option Value)} {oc6 kV6 dc6 pm6 cd6 ct6 : Value}
    (a6 : PySem.W.nsIn K mainGlobals "need_two" = some (some (.ref f6))) (l6 : K.lookup f6 = some ⟨oc6, od6, .func (PySem.W.fnOf "need_two" "need_two" (defArgs s_need_two) (defBody s_need_two) (defScope s_need_two) .none kV6 dc6 pm6 an6 cd6 ct6), sl6⟩) (c6 : PySem.W.codeIn K cd6 "need_two" = true) (k6 : PySem.W.keepIn K (.ref f6) = true)
    {f7 : Addr} {od7 an7 : Option Addr} {sl7 : Array (Option Value)} {oc7 kV7 dc7 pm7 cd7 ct7 : Value}
    (a7 : PySem.W.nsIn K mainGlobals "product" = some (some (.ref f7))) (l7 : K.lookup f7 = some ⟨oc7, od7, .func (PySem.W.fnOf "product" "product" (defArgs s_product) (defBody s_product) (defScope s_product) .none kV7 dc7 pm7 an7 cd7 ct7), sl7⟩) (c7 : PySem.W.codeIn K cd7 "product" = true) (k7 : PySem.W.keepIn K (.ref f7) = true)
    {f8 : Addr} {od8 an8 : Option Addr} {sl8 : Array (Option Value)} {oc8 kV8 dc8 pm8 cd8 ct8 : Value}
    (a8 : PySem.W.nsIn K mainGlobals "parts_of" = some (some (.ref f8))) (l8 : K.lookup f8 = some ⟨oc8, od8, .func (PySem.W.fnOf "parts_of" "parts_of" (defArgs s_parts_of) (defBody s_parts_of) (defScope s_parts_of) .none kV8 dc8 pm8 an8 cd8 ct8), sl8⟩) (c8 : PySem.W.codeIn K cd8 "parts_of" = true) (k8 : PySem.W.keepIn K (.ref f8) = true)
    {f9 : Addr} {od9 an9 : Option Addr} {sl9 : Array (Option Value)} {oc9 kV9 dc9 pm9 cd9 ct9 : Value}
    (a9 : PySem.W.nsIn K mainGlobals "uses_of" = some (some (.ref f9))) (l9 : K.lookup f9 = some ⟨oc9, od9, .func (PySem.W.fnOf "uses_of" "uses_of" (defArgs s_uses_of) (defBody s_uses_of) (defScope s_uses_of) .none kV9 dc9 pm9 an9 cd9 ct9), sl9⟩) (c9 : PySem.W.codeIn K cd9 "uses_of" = true) (k9 : PySem.W.keepIn K (.ref f9) = true)
    {f10 : Addr} {od10 an10 : Option Addr} {sl10 : Array (Option Value)} {oc10 kV10 dc10 pm10 cd10 ct10 : Value}
    (a10 : PySem.W.nsIn K mainGlobals "need_held" = some (some (.ref f10))) (l10 : K.lookup f10 = some ⟨oc10, od10, .func (PySem.W.fnOf "need_held" "need_held" (defArgs s_need_held) (defBody s_need_held) (defScope s_need_held) .none kV10 dc10 pm10 an10 cd10 ct10), sl10⟩) (c10 : PySem.W.codeIn K cd10 "need_held" = true) (k10 : PySem.W.keepIn K (.ref f10) = true)
    {f11 : Addr} {od11 an11 : Option Addr} {sl11 : Array (Option Value)} {oc11 kV11 dc11 pm11 cd11 ct11 : Value}
    (a11 : PySem.W.nsIn K mainGlobals "count_parts" = some (some (.ref f11))) (l11 : K.lookup f11 = some ⟨oc11, od11, .func (PySem.W.fnOf "count_parts" "count_parts" (defArgs s_count_parts) (defBody s_count_parts) (defScope s_count_parts) .none kV11 dc11 pm11 an11 cd11 ct11), sl11⟩) (c11 : PySem.W.codeIn K cd11 "count_parts" = true) (k11 : PySem.W.keepIn K (.ref f11) = true)
    {f12 : Addr} {od12 an12 : Option Addr} {sl12 : Array (Option Value)} {oc12 kV12 dc12 pm12 cd12 ct12 : Value}
    (a12 : PySem.W.findIn K (.ref c_Held) "__init__" = some (some (.ref f12))) (l12 : K.lookup f12 = some ⟨oc12, od12, .func (PySem.W.fnOf "__init__" "Held.__init__" (defArgs s_Held_init) (defBody s_Held_init) (defScope s_Held_init) .none kV12 dc12 pm12 an12 cd12 ct12), sl12⟩) (c12 : PySem.W.codeIn K cd12 "Held.__init__" = true) (k12 : PySem.W.keepIn K (.ref f12) = true) (q12 : PySem.W.isFn K (.ref f12) = true)
    {f13 : Addr} {od13 an13 : Option Addr} {sl13 : Array (Option Value)} {oc13 kV13 dc13 pm13 cd13 ct13 : Value}
    (a13 : PySem.W.findIn K (.ref c_Held) "is_open" = some (some (.ref f13))) (l13 : K.lookup f13 = some ⟨oc13, od13, .func (PySem.W.fnOf "is_open" "Held.is_open" (defArgs s_Held_is_open) (defBody s_Held_is_open) (defScope s_Held_is_open) .none kV13 dc13 pm13 an13 cd13 ct13), sl13⟩) (c13 : PySem.W.codeIn K cd13 "Held.is_open" = true) (k13 : PySem.W.keepIn K (.ref f13) = true) (q13 : PySem.W.isFn K (.ref f13) = true)
    {f14 : Addr} {od14 an14 : Option Addr} {sl14 : Array (Option Value)} {oc14 kV14 dc14 pm14 cd14 ct14 : Value}
    (a14 : PySem.W.findIn K (.ref c_Held) "size" = some (some (.ref f14))) (l14 : K.lookup f14 = some ⟨oc14, od14, .func (PySem.W.fnOf "size" "Held.size" (defArgs s_Held_size) (defBody s_Held_size) (defScope s_Held_size) .none kV14 dc14 pm14 an14 cd14 ct14), sl14⟩) (c14 : PySem.W.codeIn K cd14 "Held.size" = true) (k14 : PySem.W.keepIn K (.ref f14) = true) (q14 : PySem.W.isFn K (.ref f14) = true)
    {f15 : Addr} {od15 an15 : Option Addr} {sl15 : Array (Option Value)} {oc15 kV15 dc15 pm15 cd15 ct15 : Value}
    (a15 : PySem.W.nsIn K mainGlobals "part_size" = some (some (.ref f15))) (l15 : K.lookup f15 = some ⟨oc15, od15, .func (PySem.W.fnOf "part_size" "part_size" (defArgs s_part_size) (defBody s_part_size) (defScope s_part_size) .none kV15 dc15 pm15 an15 cd15 ct15), sl15⟩) (c15 : PySem.W.codeIn K cd15 "part_size" = true) (k15 : PySem.W.keepIn K (.ref f15) = true)
    {f16 : Addr} {od16 an16 : Option Addr} {sl16 : Array (Option Value)} {oc16 kV16 dc16 pm16 cd16 ct16 : Value}
    (a16 : PySem.W.nsIn K mainGlobals "can_come" = some (some (.ref f16))) (l16 : K.lookup f16 = some ⟨oc16, od16, .func (PySem.W.fnOf "can_come" "can_come" (defArgs s_can_come) (defBody s_can_come) (defScope s_can_come) .none kV16 dc16 pm16 an16 cd16 ct16), sl16⟩) (c16 : PySem.W.codeIn K cd16 "can_come" = true) (k16 : PySem.W.keepIn K (.ref f16) = true)
    {f17 : Addr} {od17 an17 : Option Addr} {sl17 : Array (Option Value)} {oc17 kV17 dc17 pm17 cd17 ct17 : Value}
    (a17 : PySem.W.nsIn K mainGlobals "least_free" = some (some (.ref f17))) (l17 : K.lookup f17 = some ⟨oc17, od17, .func (PySem.W.fnOf "least_free" "least_free" (defArgs s_least_free) (defBody s_least_free) (defScope s_least_free) .none kV17 dc17 pm17 an17 cd17 ct17), sl17⟩) (c17 : PySem.W.codeIn K cd17 "least_free" = true) (k17 : PySem.W.keepIn K (.ref f17) = true)
    {f18 : Addr} {od18 an18 : Option Addr} {sl18 : Array (Option Value)} {oc18 kV18 dc18 pm18 cd18 ct18 : Value}
    (a18 : PySem.W.nsIn K mainGlobals "edge_counts" = some (some (.ref f18))) (l18 : K.lookup f18 = some ⟨oc18, od18, .func (PySem.W.fnOf "edge_counts" "edge_counts" (defArgs s_edge_counts) (defBody s_edge_counts) (defScope s_edge_counts) .none kV18 dc18 pm18 an18 cd18 ct18), sl18⟩) (c18 : PySem.W.codeIn K cd18 "edge_counts" = true) (k18 : PySem.W.keepIn K (.ref f18) = true)
    {f19 : Addr} {od19 an19 : Option Addr} {sl19 : Array (Option Value)} {oc19 kV19 dc19 pm19 cd19 ct19 : Value}
    (a19 : PySem.W.nsIn K mainGlobals "_law_taken" = some (some (.ref f19))) (l19 : K.lookup f19 = some ⟨oc19, od19, .func (PySem.W.fnOf "_law_taken" "_law_taken" (defArgs s_law_taken) (defBody s_law_taken) (defScope s_law_taken) .none kV19 dc19 pm19 an19 cd19 ct19), sl19⟩) (c19 : PySem.W.codeIn K cd19 "_law_taken" = true) (k19 : PySem.W.keepIn K (.ref f19) = true)
    {f20 : Addr} {od20 an20 : Option Addr} {sl20 : Array (Option Value)} {oc20 kV20 dc20 pm20 cd20 ct20 : Value}
    (a20 : PySem.W.nsIn K mainGlobals "_law_pick" = some (some (.ref f20))) (l20 : K.lookup f20 = some ⟨oc20, od20, .func (PySem.W.fnOf "_law_pick" "_law_pick" (defArgs s_law_pick) (defBody s_law_pick) (defScope s_law_pick) .none kV20 dc20 pm20 an20 cd20 ct20), sl20⟩) (c20 : PySem.W.codeIn K cd20 "_law_pick" = true) (k20 : PySem.W.keepIn K (.ref f20) = true)
    {f21 : Addr} {od21 an21 : Option Addr} {sl21 : Array (Option Value)} {oc21 kV21 dc21 pm21 cd21 ct21 : Value}
    (a21 : PySem.W.nsIn K mainGlobals "_law_product" = some (some (.ref f21))) (l21 : K.lookup f21 = some ⟨oc21, od21, .func (PySem.W.fnOf "_law_product" "_law_product" (defArgs s_law_product) (defBody s_law_product) (defScope s_law_product) .none kV21 dc21 pm21 an21 cd21 ct21), sl21⟩) (c21 : PySem.W.codeIn K cd21 "_law_product" = true) (k21 : PySem.W.keepIn K (.ref f21) = true)
    {f22 : Addr} {od22 an22 : Option Addr} {sl22 : Array (Option Value)} {oc22 kV22 dc22 pm22 cd22 ct22 : Value}
    (a22 : PySem.W.nsIn K mainGlobals "_law_settings" = some (some (.ref f22))) (l22 : K.lookup f22 = some ⟨oc22, od22, .func (PySem.W.fnOf "_law_settings" "_law_settings" (defArgs s_law_settings) (defBody s_law_settings) (defScope s_law_settings) .none kV22 dc22 pm22 an22 cd22 ct22), sl22⟩) (c22 : PySem.W.codeIn K cd22 "_law_settings" = true) (k22 : PySem.W.keepIn K (.ref f22) = true)
    {f23 : Addr} {od23 an23 : Option Addr} {sl23 : Array (Option Value)} {oc23 kV23 dc23 pm23 cd23 ct23 : Value}
    (a23 : PySem.W.nsIn K mainGlobals "_law_of" = some (some (.ref f23))) (l23 : K.lookup f23 = some ⟨oc23, od23, .func (PySem.W.fnOf "_law_of" "_law_of" (defArgs s_law_of) (defBody s_law_of) (defScope s_law_of) .none kV23 dc23 pm23 an23 cd23 ct23), sl23⟩) (c23 : PySem.W.codeIn K cd23 "_law_of" = true) (k23 : PySem.W.keepIn K (.ref f23) = true)
    {f24 : Addr} {od24 an24 : Option Addr} {sl24 : Array (Option Value)} {oc24 kV24 dc24 pm24 cd24 ct24 : Value}
    (a24 : PySem.W.nsIn K mainGlobals "_law_puzzle" = some (some (.ref f24))) (l24 : K.lookup f24 = some ⟨oc24, od24, .func (PySem.W.fnOf "_law_puzzle" "_law_puzzle" (defArgs s_law_puzzle) (defBody s_law_puzzle) (defScope s_law_puzzle) .none kV24 dc24 pm24 an24 cd24 ct24), sl24⟩) (c24 : PySem.W.codeIn K cd24 "_law_puzzle" = true) (k24 : PySem.W.keepIn K (.ref f24) = true)
    {f25 : Addr} {od25 an25 : Option Addr} {sl25 : Array (Option Value)} {oc25 kV25 dc25 pm25 cd25 ct25 : Value}
    (a25 : PySem.W.nsIn K mainGlobals "_law_state" = some (some (.ref f25))) (l25 : K.lookup f25 = some ⟨oc25, od25, .func (PySem.W.fnOf "_law_state" "_law_state" (defArgs s_law_state) (defBody s_law_state) (defScope s_law_state) .none kV25 dc25 pm25 an25 cd25 ct25), sl25⟩) (c25 : PySem.W.codeIn K cd25 "_law_state" = true) (k25 : PySem.W.keepIn K (.ref f25) = true)
    {f26 : Addr} {od26 an26 : Option Addr} {sl26 : Array (Option Value)} {oc26 kV26 dc26 pm26 cd26 ct26 : Value}
    (a26 : PySem.W.nsIn K mainGlobals "_law_error" = some (some (.ref f26))) (l26 : K.lookup f26 = some ⟨oc26, od26, .func (PySem.W.fnOf "_law_error" "_law_error" (defArgs s_law_error) (defBody s_law_error) (defScope s_law_error) .none kV26 dc26 pm26 an26 cd26 ct26), sl26⟩) (c26 : PySem.W.codeIn K cd26 "_law_error" = true) (k26 : PySem.W.keepIn K (.ref f26) = true)
    {f27 : Addr} {od27 an27 : Option Addr} {sl27 : Array (Option Value)} {oc27 kV27 dc27 pm27 cd27 ct27 : Value}
    (a27 : PySem.W.nsIn K mainGlobals "law" = some (some (.ref f27))) (l27 : K.lookup f27 = some ⟨oc27, od27, .func (PySem.W.fnOf "law" "law" (defArgs s_law) (defBody s_law) (defScope s_law) .none kV27 dc27 pm27 an27 cd27 ct27), sl27⟩) (c27 : PySem.W.codeIn K cd27 "law" = true) (k27 : PySem.W.keepIn K (.ref f27) = true) :
    ∃ fd : FuncData, (∀ (s : Shared) (v : Value), BindsTo s fd ⟨[v], []⟩ [("_law_script", v)]) ∧ ∀ base : Heap, LamX.TabB base mg cT PT → FnOk P w K mg base (L2.CX P w) 86 fa fd ["_law_script"] (spLawT K PT) := by
  have e := hfa.symm.trans (PySem.W.mg_of X G a27)
  cases e
  have ec : cd27 = .ref cT := PySem.W.law_code X G ht hfa (X _ _ l27) rfl
  subst ec
  refine ⟨PySem.W.fnOf "law" "law" (defArgs s_law) (defBody s_law) (defScope s_law) .none kV27 dc27 pm27 an27 (.ref cT) ct27, fun s v => .of_eq rfl, fun base TB => ?_⟩
  have T : Txt mg := ⟨PySem.W.mg_none_of X G z_ValueError, PySem.W.mg_none_of X G z_abs, PySem.W.mg_none_of X G z_all, PySem.W.mg_none_of X G z_any, PySem.W.mg_none_of X G z_bool, PySem.W.mg_none_of X G z_enumerate, PySem.W.mg_none_of X G z_int, PySem.W.mg_none_of X G z_isinstance, PySem.W.mg_none_of X G z_len, PySem.W.mg_none_of X G z_list, PySem.W.mg_none_of X G z_range, PySem.W.mg_none_of X G z_tuple, PySem.W.mg_none_of X G z_zip, ⟨_, PySem.W.mg_of X G i_LEAST_SETTINGS⟩, ⟨_, PySem.W.mg_of X G i_MOST_LAMPS⟩, ⟨_, PySem.W.mg_of X G i_MOST_SETTINGS⟩⟩
  have V : Xs ⟨P, w, K, mg⟩ := ⟨⟨c_BadPuzzle, fi_BadPuzzle, { gC := PySem.W.mg_of X G a_BadPuzzle, fOk := .inl rfl, cls := ⟨nm_BadPuzzle, q_BadPuzzle, N_BadPuzzle, bs_BadPuzzle, bm_BadPuzzle, sn_BadPuzzle, sub_BadPuzzle, ab_BadPuzzle, col_BadPuzzle, dd_BadPuzzle, m0_BadPuzzle, m1_BadPuzzle, m2_BadPuzzle, m3_BadPuzzle, m5_BadPuzzle, L_BadPuzzle, R_BadPuzzle⟩, sa := sa_BadPuzzle, ga := ga_BadPuzzle, gg := gg_BadPuzzle, noN := nb_BadPuzzle, iC := ai_BadPuzzle, tC := ti_BadPuzzle, kC := k_BadPuzzle, exC := e_BadPuzzle, tyC := t_BadPuzzle, hdC := h_BadPuzzle, te := exm_self e_BadPuzzle h_BadPuzzle t_BadPuzzle s_BadPuzzle, fn := ⟨qn_BadPuzzle, _, _, _, _, _, _, _, _, _, _, _, _, _, _, li_BadPuzzle, ci_BadPuzzle⟩ }⟩, ⟨c_BadState, xc0_mk (PySem.W.mg_of X G a_BadState) x_BadState k_BadState e_BadState t_BadState⟩, ⟨c_BadHeld, xc0_mk (PySem.W.mg_of X G a_BadHeld) x_BadHeld k_BadHeld e_BadHeld t_BadHeld⟩, ⟨c_BadPuzzle, PySem.W.mg_of X G a_BadPuzzle, ⟨ga_BadPuzzle, gg_BadPuzzle, e_BadPuzzle, h_BadPuzzle, cc_BadPuzzle, fn0, ft0, mr_BadPuzzle⟩, ⟨ga_BadPuzzle, gg_BadPuzzle, e_BadPuzzle, h_BadPuzzle⟩, nb_BadPuzzle, kit_ve sv_BadPuzzle⟩, ⟨c_LampError, PySem.W.mg_of X G a_LampError⟩, ext_of (cs := [("BadPuzzle", c_BadPuzzle), ("BadState", c_BadState), ("BadHeld", c_BadHeld)]) (List.forall_mem_cons.mpr ⟨(PySem.W.mg_of X G a_BadPuzzle), (List.forall_mem_cons.mpr ⟨(PySem.W.mg_of X G a_BadState), (List.forall_mem_cons.mpr ⟨(PySem.W.mg_of X G a_BadHeld), (fun _ h => nomatch h)⟩)⟩)⟩) (List.forall_mem_cons.mpr ⟨(List.forall_mem_cons.mpr ⟨(exm_self e_BadPuzzle h_BadPuzzle t_BadPuzzle s_BadPuzzle), (List.forall_mem_cons.mpr ⟨(PySem.W.exm_ref e_BadState h_BadState t_BadState b_BadPuzzle_BadState), (List.forall_mem_cons.mpr ⟨(PySem.W.exm_ref e_BadHeld h_BadHeld t_BadHeld b_BadPuzzle_BadHeld), (fun _ h => nomatch h)⟩)⟩)⟩), (List.forall_mem_cons.mpr ⟨(List.forall_mem_cons.mpr ⟨(PySem.W.exm_ref e_BadPuzzle h_BadPuzzle t_BadPuzzle b_BadState_BadPuzzle), (List.forall_mem_cons.mpr ⟨(exm_self e_BadState h_BadState t_BadState s_BadState), (List.forall_mem_cons.mpr ⟨(PySem.W.exm_ref e_BadHeld h_BadHeld t_BadHeld b_BadState_BadHeld), (fun _ h => nomatch h)⟩)⟩)⟩), (List.forall_mem_cons.mpr ⟨(List.forall_mem_cons.mpr ⟨(PySem.W.exm_ref e_BadPuzzle h_BadPuzzle t_BadPuzzle b_BadHeld_BadPuzzle), (List.forall_mem_cons.mpr ⟨(PySem.W.exm_ref e_BadState h_BadState t_BadState b_BadHeld_BadState), (List.forall_mem_cons.mpr ⟨(exm_self e_BadHeld h_BadHeld t_BadHeld s_BadHeld), (fun _ h => nomatch h)⟩)⟩)⟩), (fun _ h => nomatch h)⟩)⟩)⟩)⟩
  have K_Held : Kc_Held ⟨P, w, K, mg⟩ c_Held f12 f13 f14 := ⟨⟨PySem.W.mg_of X G a_Held, ⟨pg_Held, hd_Held, po_Held, sa_Held⟩⟩, ⟨mk_Held, a12, q12, kp_Held⟩, ⟨a13, q13, k13⟩, ⟨a14, q14, k14⟩, n_Held_puzzle, n_Held_lamps, n_Held_known, n_Held_sizes⟩
  have F_0 := fun_mk (st := s_is_int) l0 c0 k0
  have G_is_int : Def ⟨P, w, K, mg⟩ base 1 "is_int" 1 F_is_int := def_mk F_0 (ok_is_int F_0 T V  ) (PySem.W.mg_of X G a0) (F_0.binds (ps := ["value"]) fun _ _ _ _ _ _ us hl => match us, hl with | [_], _ => rfl)
  have F_1 := fun_mk (st := s_is_in) l1 c1 k1
  have G_is_in : Def ⟨P, w, K, mg⟩ base 2 "is_in" 3 F_is_in := def_mk F_1 (ok_is_in F_1 T V G_is_int ) (PySem.W.mg_of X G a1) (F_1.binds (ps := ["value", "least", "most"]) fun _ _ _ _ _ _ us hl => match us, hl with | [_, _, _], _ => rfl)
  have F_2 := fun_mk (st := s_settings_of) l2 c2 k2
  have G_settings_of : Def ⟨P, w, K, mg⟩ base 1 "settings_of" 1 F_settings_of := def_mk F_2 (ok_settings_of F_2 T V  ) (PySem.W.mg_of X G a2) (F_2.binds (ps := ["puzzle"]) fun _ _ _ _ _ _ us hl => match us, hl with | [_], _ => rfl)
  have F_3 := fun_mk (st := s_is_word) l3 c3 k3
  have G_is_word : Def ⟨P, w, K, mg⟩ base 3 "is_word" 2 F_is_word := def_mk F_3 (ok_is_word F_3 T V G_is_in ) (PySem.W.mg_of X G a3) (F_3.binds (ps := ["settings", "value"]) fun _ _ _ _ _ _ us hl => match us, hl with | [_, _], _ => rfl)
  have F_4 := fun_mk (st := s_need_puzzle) l4 c4 k4
  have G_need_puzzle : Def ⟨P, w, K, mg⟩ base 4 "need_puzzle" 1 F_need_puzzle := def_mk F_4 (ok_need_puzzle F_4 T V G_is_word ) (PySem.W.mg_of X G a4) (F_4.binds (ps := ["value"]) fun _ _ _ _ _ _ us hl => match us, hl with | [_], _ => rfl)
  have F_5 := fun_mk (st := s_need_state) l5 c5 k5
  have G_need_state : Def ⟨P, w, K, mg⟩ base 4 "need_state" 2 F_need_state := def_mk F_5 (ok_need_state F_5 T V G_is_word G_settings_of ) (PySem.W.mg_of X G a5) (F_5.binds (ps := ["puzzle", "value"]) fun _ _ _ _ _ _ us hl => match us, hl with | [_, _], _ => rfl)
  have F_6 := fun_mk (st := s_need_two) l6 c6 k6
  have G_need_two : Def ⟨P, w, K, mg⟩ base 5 "need_two" 3 F_need_two := def_mk F_6 (ok_need_two F_6 T V G_need_state G_need_puzzle ) (PySem.W.mg_of X G a6) (F_6.binds (ps := ["puzzle", "one", "other"]) fun _ _ _ _ _ _ us hl => match us, hl with | [_, _, _], _ => rfl)
  have F_7 := fun_mk (st := s_product) l7 c7 k7
  have G_product : Def ⟨P, w, K, mg⟩ base 1 "product" 1 F_product := def_mk F_7 (ok_product F_7 T V  ) (PySem.W.mg_of X G a7) (F_7.binds (ps := ["numbers"]) fun _ _ _ _ _ _ us hl => match us, hl with | [_], _ => rfl)
  have F_8 := fun_mk (st := s_parts_of) l8 c8 k8
  have G_parts_of : Def ⟨P, w, K, mg⟩ base 1 "parts_of" 3 F_parts_of := def_mk F_8 (ok_parts_of F_8 T V  ) (PySem.W.mg_of X G a8) (F_8.binds (ps := ["puzzle", "one", "other"]) fun _ _ _ _ _ _ us hl => match us, hl with | [_, _, _], _ => rfl)
  have F_9 := fun_mk (st := s_uses_of) l9 c9 k9
  have G_uses_of : Def ⟨P, w, K, mg⟩ base 41 "uses_of" 4 (F_uses_of 40) := def_rec (k := 1) (F := F_uses_of) F_9 rfl (fun _ _ _ _ z => z) (fun j G => ok_uses_of F_9 T V G_parts_of G ) (PySem.W.mg_of X G a9) (F_9.binds (ps := ["puzzle", "known", "one", "other"]) fun _ _ _ _ _ _ us hl => match us, hl with | [_, _, _, _], _ => rfl) 40
  have F_10 := fun_mk (st := s_need_held) l10 c10 k10
  have G_need_held : Def ⟨P, w, K, mg⟩ base 3 "need_held" 2 F_need_held := def_mk F_10 (ok_need_held F_10 T V G_is_in ) (PySem.W.mg_of X G a10) (F_10.binds (ps := ["puzzle", "value"]) fun _ _ _ _ _ _ us hl => match us, hl with | [_, _], _ => rfl)
  have F_11 := fun_mk (st := s_count_parts) l11 c11 k11
  have G_count_parts : Def ⟨P, w, K, mg⟩ base 5 "count_parts" 2 F_count_parts := def_mk F_11 (ok_count_parts F_11 T V G_product G_settings_of G_need_held G_need_puzzle ) (PySem.W.mg_of X G a11) (F_11.binds (ps := ["puzzle", "held"]) fun _ _ _ _ _ _ us hl => match us, hl with | [_, _], _ => rfl)
  have F_12 := fun_mk (st := s_Held_init) l12 c12 k12
  have G_Held_init : DefA ⟨P, w, K, mg⟩ base 1 f12 3 F_Held_init := ⟨_, _, ok_Held_init F_12 T V  K_Held, (F_12.binds (ps := ["self", "puzzle", "lamps"]) fun _ _ _ _ _ _ us hl => match us, hl with | [_, _, _], _ => rfl)⟩
  have F_13 := fun_mk (st := s_Held_is_open) l13 c13 k13
  have G_Held_is_open : DefA ⟨P, w, K, mg⟩ base 42 f13 3 F_Held_is_open := ⟨_, _, ok_Held_is_open F_13 T V G_uses_of K_Held, (F_13.binds (ps := ["self", "one", "other"]) fun _ _ _ _ _ _ us hl => match us, hl with | [_, _, _], _ => rfl)⟩
  have F_14 := fun_mk (st := s_Held_size) l14 c14 k14
  have G_Held_size : DefA ⟨P, w, K, mg⟩ base 82 f14 2 (F_Held_size 40) := defA_rec (k := 42) (F := F_Held_size) rfl (fun _ _ _ _ z => z) (fun j G => ok_Held_size F_14 T V G_Held_is_open G K_Held) (F_14.binds (ps := ["self", "state"]) fun _ _ _ _ _ _ us hl => match us, hl with | [_, _], _ => rfl) 40
  have F_15 := fun_mk (st := s_part_size) l15 c15 k15
  have G_part_size : Def ⟨P, w, K, mg⟩ base 83 "part_size" 3 F_part_size := def_mk F_15 (ok_part_size F_15 T V G_Held_size G_Held_init G_need_state G_need_held G_need_puzzle K_Held) (PySem.W.mg_of X G a15) (F_15.binds (ps := ["puzzle", "held", "state"]) fun _ _ _ _ _ _ us hl => match us, hl with | [_, _, _], _ => rfl)
  have F_16 := fun_mk (st := s_can_come) l16 c16 k16
  have G_can_come : Def ⟨P, w, K, mg⟩ base 43 "can_come" 4 F_can_come := def_mk F_16 (ok_can_come F_16 T V G_Held_is_open G_Held_init G_need_state G_need_held G_need_puzzle K_Held) (PySem.W.mg_of X G a16) (F_16.binds (ps := ["puzzle", "held", "one", "other"]) fun _ _ _ _ _ _ us hl => match us, hl with | [_, _, _, _], _ => rfl)
  have F_17 := fun_mk (st := s_least_free) l17 c17 k17
  have G_least_free : Def ⟨P, w, K, mg⟩ base 42 "least_free" 3 F_least_free := def_mk F_17 (ok_least_free F_17 T V G_uses_of G_need_two ) (PySem.W.mg_of X G a17) (F_17.binds (ps := ["puzzle", "one", "other"]) fun _ _ _ _ _ _ us hl => match us, hl with | [_, _, _], _ => rfl)
  have F_18 := fun_mk (st := s_edge_counts) l18 c18 k18
  have G_edge_counts : Def ⟨P, w, K, mg⟩ base 5 "edge_counts" 1 F_edge_counts := def_mk F_18 (ok_edge_counts F_18 T V G_product G_settings_of G_need_puzzle ) (PySem.W.mg_of X G a18) (F_18.binds (ps := ["puzzle"]) fun _ _ _ _ _ _ us hl => match us, hl with | [_], _ => rfl)
  have F_19 := fun_mk (st := s_law_taken) l19 c19 k19
  have G_law_taken : Def ⟨P, w, K, mg⟩ base 1 "_law_taken" 2 F_law_taken := def_mk F_19 (ok_law_taken F_19 T V  ) (PySem.W.mg_of X G a19) (F_19.binds (ps := ["_law_row", "_law_many"]) fun _ _ _ _ _ _ us hl => match us, hl with | [_, _], _ => rfl)
  have F_20 := fun_mk (st := s_law_pick) l20 c20 k20
  have G_law_pick : Def ⟨P, w, K, mg⟩ base 2 "_law_pick" 2 F_law_pick := def_mk F_20 (ok_law_pick F_20 T V G_law_taken ) (PySem.W.mg_of X G a20) (F_20.binds (ps := ["_law_row", "_law_things"]) fun _ _ _ _ _ _ us hl => match us, hl with | [_, _], _ => rfl)
  have F_21 := fun_mk (st := s_law_product) l21 c21 k21
  have G_law_product : Def ⟨P, w, K, mg⟩ base 1 "_law_product" 1 F_law_product := def_mk F_21 (ok_law_product F_21 T V  ) (PySem.W.mg_of X G a21) (F_21.binds (ps := ["_law_numbers"]) fun _ _ _ _ _ _ us hl => match us, hl with | [_], _ => rfl)
  have F_22 := fun_mk (st := s_law_settings) l22 c22 k22
  have G_law_settings : Def ⟨P, w, K, mg⟩ base 3 "_law_settings" 2 F_law_settings := def_mk F_22 (ok_law_settings F_22 T V G_law_taken G_law_product G_law_pick ) (PySem.W.mg_of X G a22) (F_22.binds (ps := ["_law_row", "_law_most"]) fun _ _ _ _ _ _ us hl => match us, hl with | [_, _], _ => rfl)
  have F_23 := fun_mk (st := s_law_of) l23 c23 k23
  have G_law_of : Def ⟨P, w, K, mg⟩ base 2 "_law_of" 2 F_law_of := def_mk F_23 (ok_law_of F_23 T V G_law_taken ) (PySem.W.mg_of X G a23) (F_23.binds (ps := ["_law_row", "_law_settings_here"]) fun _ _ _ _ _ _ us hl => match us, hl with | [_, _], _ => rfl)
  have F_24 := fun_mk (st := s_law_puzzle) l24 c24 k24
  have G_law_puzzle : Def ⟨P, w, K, mg⟩ base 4 "_law_puzzle" 2 F_law_puzzle := def_mk F_24 (ok_law_puzzle F_24 T V G_law_of G_law_settings ) (PySem.W.mg_of X G a24) (F_24.binds (ps := ["_law_row", "_law_most"]) fun _ _ _ _ _ _ us hl => match us, hl with | [_, _], _ => rfl)
  have F_25 := fun_mk (st := s_law_state) l25 c25 k25
  have G_law_state : Def ⟨P, w, K, mg⟩ base 2 "_law_state" 2 F_law_state := def_mk F_25 (ok_law_state F_25 T V G_law_taken ) (PySem.W.mg_of X G a25) (F_25.binds (ps := ["_law_row", "_law_puzzle_here"]) fun _ _ _ _ _ _ us hl => match us, hl with | [_, _], _ => rfl)
  have F_26 := fun_mk (st := s_law_error) l26 c26 k26
  have DE : LamD.ErrD ⟨P, w, K, mg⟩ base "_law_error" hs_law := err_mk (c := ⟨P, w, K, mg⟩) l26 c26 k26 (PySem.W.mg_of X G a26) (F_26.binds (ps := ["_law_work"]) fun _ _ _ _ _ _ us hl => match us, hl with | [_], _ => rfl) T V
  exact law_ofT (c := ⟨P, w, K, mg⟩) (q := "law.<locals>.<lambda>") (ok_law (c := ⟨P, w, K, mg⟩) l27 c27 T V TB DE G_least_free G_can_come G_edge_counts G_part_size G_count_parts G_law_pick G_law_state G_law_puzzle ) (fun ns h E Q a b d => hlaw PT ns h E Q a b d)
end L2.Lmp
open PySem PySem.W PyProof.Rows
set_option maxHeartbeats 0 in
theorem PySem.Challenge.cw_wardlamps_k51_held_refused_holds : PySem.Challenge.rw_wardlamps_k51_held_refused.Holds := by
  w_on; o_law; k_head; (case hw => w_witness2)
  k_fill
  refine L2.Lmp.walk_ofT2 (l := PySem.Challenge.rw_wardlamps_k51_held_refused) (n := 63) (k := 86) (x := "_law_script") (CX := fun w => L2.CX (PySem.Challenge.rw_wardlamps_k51_held_refused).prog w) rfl (by decide) rfl ⟨rfl, by decide, by decide⟩ (fun w h Y => by first | exact PySem.W.kIn_of Y | exact PySem.W.km_in_of Y) ?F (fun _ _ _ _ _ ⟨_, _, _, _, _, _, _, _, _, _, _, _, z⟩ => z)
  case F =>
    intro w mg mb fa h lo me KX T hmg
    refine L2.Lmp.lawT_mk KX T (by rfl) (by kernel_rfl) (by kernel_rfl) fun cT PT ht => ?_
    refine' L2.Lmp.all_mk (P := (PySem.Challenge.rw_wardlamps_k51_held_refused).prog) (w := w) KX T.g hmg ht ?z_ValueError ?z_abs ?z_all ?z_any ?z_bool ?z_enumerate ?z_int ?z_isinstance ?z_len ?z_list ?z_range ?z_tuple ?z_zip ?i_LEAST_SETTINGS ?i_MOST_LAMPS ?i_MOST_SETTINGS ?fn0 ?ft0 ?a_BadPuzzle ?k_BadPuzzle ?e_BadPuzzle ?t_BadPuzzle ?h_BadPuzzle ?s_BadPuzzle ?L_BadPuzzle ?R_BadPuzzle ?sa_BadPuzzle ?ga_BadPuzzle ?gg_BadPuzzle ?nb_BadPuzzle ?ai_BadPuzzle ?ti_BadPuzzle ?li_BadPuzzle ?ci_BadPuzzle ?cc_BadPuzzle ?mr_BadPuzzle ?sv_BadPuzzle ?a_BadState ?k_BadState ?e_BadState ?t_BadState ?h_BadState ?s_BadState ?x_BadState ?a_BadHeld ?k_BadHeld ?e_BadHeld ?t_BadHeld ?h_BadHeld ?s_BadHeld ?x_BadHeld ?a_LampError ?b_BadPuzzle_BadState ?b_BadPuzzle_BadHeld ?b_BadState_BadPuzzle ?b_BadState_BadHeld ?b_BadHeld_BadPuzzle ?b_BadHeld_BadState ?a_Held ?pg_Held ?hd_Held ?po_Held ?sa_Held ?mk_Held ?kp_Held ?n_Held_puzzle ?n_Held_lamps ?n_Held_known ?n_Held_sizes ?a0 ?l0 ?c0 ?k0 ?a1 ?l1 ?c1 ?k1 ?a2 ?l2 ?c2 ?k2 ?a3 ?l3 ?c3 ?k3 ?a4 ?l4 ?c4 ?k4 ?a5 ?l5 ?c5 ?k5 ?a6 ?l6 ?c6 ?k6 ?a7 ?l7 ?c7 ?k7 ?a8 ?l8 ?c8 ?k8 ?a9 ?l9 ?c9 ?k9 ?a10 ?l10 ?c10 ?k10 ?a11 ?l11 ?c11 ?k11 ?a12 ?l12 ?c12 ?k12 ?q12 ?a13 ?l13 ?c13 ?k13 ?q13 ?a14 ?l14 ?c14 ?k14 ?q14 ?a15 ?l15 ?c15 ?k15 ?a16 ?l16 ?c16 ?k16 ?a17 ?l17 ?c17 ?k17 ?a18 ?l18 ?c18 ?k18 ?a19 ?l19 ?c19 ?k19 ?a20 ?l20 ?c20 ?k20 ?a21 ?l21 ?c21 ?k21 ?a22 ?l22 ?c22 ?k22 ?a23 ?l23 ?c23 ?k23 ?a24 ?l24 ?c24 ?k24 ?a25 ?l25 ?c25 ?k25 ?a26 ?l26 ?c26 ?k26 ?a27 ?l27 ?c27 ?k27
    (case z_ValueError => k_is)
    (case z_abs => k_is)
    (case z_all => k_is)
    (case z_any => k_is)
    (case z_bool => k_is)
    (case z_enumerate => k_is)
    (case z_int => k_is)
    (case z_isinstance => k_is)
    (case z_len => k_is)
    (case z_list => k_is)
    (case z_range => k_is)
    (case z_tuple => k_is)
    (case z_zip => k_is)
    (case i_LEAST_SETTINGS => k_is)
    (case i_MOST_LAMPS => k_is)
    (case i_MOST_SETTINGS => k_is)
    (case fn0 => k_is)
    (case ft0 => k_is)
    (case a_BadPuzzle => k_is)
    (case k_BadPuzzle => k_is)
    (case e_BadPuzzle => k_is)
    (case t_BadPuzzle => k_is)
    (case h_BadPuzzle => k_is)
    (case s_BadPuzzle => first | rfl | k_is)
    (case L_BadPuzzle => k_is)
    (case R_BadPuzzle => decide +kernel)
    (case sa_BadPuzzle => k_is)
    (case ga_BadPuzzle => k_is)
    (case gg_BadPuzzle => k_is)
    (case nb_BadPuzzle => k_is)
    (case ai_BadPuzzle => k_is)
    (case ti_BadPuzzle => k_is)
    (case li_BadPuzzle => k_is)
    (case ci_BadPuzzle => k_is)
    (case cc_BadPuzzle => k_is)
    (case mr_BadPuzzle => k_is)
    (case sv_BadPuzzle => k_is)
    (case a_BadState => k_is)
    (case k_BadState => k_is)
    (case e_BadState => k_is)
    (case t_BadState => k_is)
    (case h_BadState => k_is)
    (case s_BadState => first | rfl | k_is)
    (case x_BadState => k_exc)
    (case a_BadHeld => k_is)
    (case k_BadHeld => k_is)
    (case e_BadHeld => k_is)
    (case t_BadHeld => k_is)
    (case h_BadHeld => k_is)
    (case s_BadHeld => first | rfl | k_is)
    (case x_BadHeld => k_exc)
    (case a_LampError => k_is)
    (case b_BadPuzzle_BadState => k_is)
    (case b_BadPuzzle_BadHeld => k_is)
    (case b_BadState_BadPuzzle => k_is)
    (case b_BadState_BadHeld => k_is)
    (case b_BadHeld_BadPuzzle => k_is)
    (case b_BadHeld_BadState => k_is)
    (case a_Held => k_is)
    (case pg_Held => k_is)
    (case hd_Held => k_is)
    (case po_Held => k_is)
    (case sa_Held => k_is)
    (case mk_Held => k_is)
    (case kp_Held => k_is)
    (case n_Held_puzzle => k_is)
    (case n_Held_lamps => k_is)
    (case n_Held_known => k_is)
    (case n_Held_sizes => k_is)
    (case a0 => k_is)
    (case l0 => k_is)
    (case c0 => k_is)
    (case k0 => k_is)
    (case a1 => k_is)
    (case l1 => k_is)
    (case c1 => k_is)
    (case k1 => k_is)
    (case a2 => k_is)
    (case l2 => k_is)
    (case c2 => k_is)
    (case k2 => k_is)
    (case a3 => k_is)
    (case l3 => k_is)
    (case c3 => k_is)
    (case k3 => k_is)
    (case a4 => k_is)
    (case l4 => k_is)
    (case c4 => k_is)
    (case k4 => k_is)
    (case a5 => k_is)
    (case l5 => k_is)
    (case c5 => k_is)
    (case k5 => k_is)
    (case a6 => k_is)
    (case l6 => k_is)
    (case c6 => k_is)
    (case k6 => k_is)
    (case a7 => k_is)
    (case l7 => k_is)
    (case c7 => k_is)
    (case k7 => k_is)
    (case a8 => k_is)
    (case l8 => k_is)
    (case c8 => k_is)
    (case k8 => k_is)
    (case a9 => k_is)
    (case l9 => k_is)
    (case c9 => k_is)
    (case k9 => k_is)
    (case a10 => k_is)
    (case l10 => k_is)
    (case c10 => k_is)
    (case k10 => k_is)
    (case a11 => k_is)
    (case l11 => k_is)
    (case c11 => k_is)
    (case k11 => k_is)
    (case a12 => k_is)
    (case l12 => k_is)
    (case c12 => k_is)
    (case k12 => k_is)
    (case q12 => k_is)
    (case a13 => k_is)
    (case l13 => k_is)
    (case c13 => k_is)
    (case k13 => k_is)
    (case q13 => k_is)
    (case a14 => k_is)
    (case l14 => k_is)
    (case c14 => k_is)
    (case k14 => k_is)
    (case q14 => k_is)
    (case a15 => k_is)
    (case l15 => k_is)
    (case c15 => k_is)
    (case k15 => k_is)
    (case a16 => k_is)
    (case l16 => k_is)
    (case c16 => k_is)
    (case k16 => k_is)
    (case a17 => k_is)
    (case l17 => k_is)
    (case c17 => k_is)
    (case k17 => k_is)
    (case a18 => k_is)
    (case l18 => k_is)
    (case c18 => k_is)
    (case k18 => k_is)
    (case a19 => k_is)
    (case l19 => k_is)
    (case c19 => k_is)
    (case k19 => k_is)
    (case a20 => k_is)
    (case l20 => k_is)
    (case c20 => k_is)
    (case k20 => k_is)
    (case a21 => k_is)
    (case l21 => k_is)
    (case c21 => k_is)
    (case k21 => k_is)
    (case a22 => k_is)
    (case l22 => k_is)
    (case c22 => k_is)
    (case k22 => k_is)
    (case a23 => k_is)
    (case l23 => k_is)
    (case c23 => k_is)
    (case k23 => k_is)
    (case a24 => k_is)
    (case l24 => k_is)
    (case c24 => k_is)
    (case k24 => k_is)
    (case a25 => k_is)
    (case l25 => k_is)
    (case c25 => k_is)
    (case k25 => k_is)
    (case a26 => k_is)
    (case l26 => k_is)
    (case c26 => k_is)
    (case k26 => k_is)
    (case a27 => k_is)
    (case l27 => k_is)
    (case c27 => k_is)
    (case k27 => k_is)

