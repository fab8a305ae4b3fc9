import PyProof.Rows.All
import Wide.All
import OpenK.AllK
import Wide.FinOn
import HandS.ForMost
import HandS.IsInst
import HandS.Deep
import HandS.TupAny
import HandS.SortInts
import HandS.TupMul
import HandS.Wide
import KE.DataCmp
import KE.DataMinMax
import KE.SortData
import HandS.Small
import HandS.Conv
import HandS.Style
import KE.LtData
import KE.LtSeq
import KE.KSortTup
import HandS.WordsDict
import HandS.TupLen
import HandS.More
import HandS.FStr
import HandS.RaiseMore
import KE.KTupSum
import HandS.Comp
import HandS.Strs
import HandS.SetFor
import HandS.DictComp
import HandS.TupSets
import PyProof.ReprReads
import PyProof.StrHeap
import HandS.Rev
import HandS.Zip
import HandS.TupLe
import PySem.Challenge.RW_sureland_k48_whole_times_and_gaps
set_option Elab.async false
set_option linter.all false
set_option maxRecDepth 100000
set_option maxHeartbeats 4000000
/-! SL1: states as lists of slots of plain data; how they stand for the abstract heap. -/
namespace SL
open PySem PySem.Spec PyProof.Rows L2

inductive Sl where
  | no | val (d : PyData) | own (d : PyData) | lent (d : PyData)
abbrev En := List Sl
def En.at (e : En) (i : Nat) : Sl := (e[i]?).getD .no
def En.put (e : En) (i : Nat) (s : Sl) : Option En := match e.at i with | .lent _ => none | _ => some (e.set i s)

def dat : HO → Prop | .frz _ _ => False | _ => True
/-- what may be changed -/
def mutb : HO → Prop | .lst _ => True | .dK _ => True | .dT _ => True | .ins _ _ _ => True | _ => False
theorem mutb.dat {u : HO} (h : mutb u) : dat u := by cases u <;> first | trivial | exact h.elim
/-- u stands at a; a dict may be locked -/
def Rq (H : Hp) (a : Addr) (u : HO) : Prop := match u with | .dK _ => Rd H a u | .dT _ => Rd H a u | u => H a = some u
def wrT (K : PySem.W.Frag) (a : Addr) (xs : List V) : Prop :=
  ∃ (o : Obj) (its : Array Value) (n : Nat), K.lookup a = some o ∧ o.cls = .type "tuple" ∧ o.data = .seq its n ∧ its.size ≤ sizeLine ∧ Vals xs its.toList
def StL (H : Hp) (A : Addr → Prop) (a : Addr) (xs : List V) : Prop := H a = some (.lst xs) ∧ ¬ A a
/-- the data of the module's own tuples that are read as values (none of them a key) -/
def cst : List PyData → Bool
  | [.int a, .int b] => a == -99 && b == 99
  | [.tuple [.int a, .int b]] => a == -99 && b == 99
  | .str _ :: _ => true
  | _ => false
def StT (K : PySem.W.Frag) (H : Hp) (A : Addr → Prop) (a : Addr) (xs : List V) (ds : List PyData) : Prop := (H a = some (.tup xs) ∧ ¬ A a) ∨ (wrT K a xs ∧ cst ds = true)
theorem StL.sq {K H A a xs} (h : StL H A a xs) : SqL K H a xs := .inl (.inl h.1)
theorem StT.sq {K H A a xs ds} (h : StT K H A a xs ds) : SqT K H a xs := h.elim (fun q => .inl (.inl q.1)) fun q => .inr q.1
/-- a key as data -/
def kd : Key → PyData | .inl i => .int i | .inr x => .str x

mutual
inductive Rp (K : PySem.W.Frag) (H : Hp) (A : Addr → Prop) : V → PyData → Prop
  | non : Rp K H A .non .none
  | bl (b : Bool) : Rp K H A (.bl b) (.bool b)
  | int (i : Int) : Rp K H A (.int i) (.int i)
  | str (x : Str) : Rp K H A (.str x) (.str x)
  | lst {a : Addr} {vs : List V} {ds : List PyData} : StL H A a vs → RpAll K H A vs ds → Rp K H A (.ref a) (.list ds)
  | tup {a : Addr} {vs : List V} {ds : List PyData} : StT K H A a vs ds → RpAll K H A vs ds → Rp K H A (.ref a) (.tuple ds)
  | dk {a : Addr} {kvs : List (Key × V)} {ps : List (PyData × PyData)} : Rd H a (.dK kvs) → ¬ A a → RpK K H A kvs ps → Rp K H A (.ref a) (.dict ps)
  | dt {a : Addr} {kvs : List (List Key × V)} {ps : List (PyData × PyData)} : Rd H a (.dT kvs) → ¬ A a → RpT K H A kvs ps → Rp K H A (.ref a) (.dict ((.none, .none) :: ps))
inductive RpAll (K : PySem.W.Frag) (H : Hp) (A : Addr → Prop) : List V → List PyData → Prop
  | nil : RpAll K H A [] []
  | cons {v : V} {vs : List V} {d : PyData} {ds : List PyData} : Rp K H A v d → RpAll K H A vs ds → RpAll K H A (v :: vs) (d :: ds)
inductive RpK (K : PySem.W.Frag) (H : Hp) (A : Addr → Prop) : List (Key × V) → List (PyData × PyData) → Prop
  | nil : RpK K H A [] []
  | cons {k : Key} {v : V} {vs : List (Key × V)} {d : PyData} {ds : List (PyData × PyData)} : Rp K H A v d → RpK K H A vs ds → RpK K H A ((k, v) :: vs) ((kd k, d) :: ds)
inductive RpT (K : PySem.W.Frag) (H : Hp) (A : Addr → Prop) : List (List Key × V) → List (PyData × PyData) → Prop
  | nil : RpT K H A [] []
  | cons {k : List Key} {v : V} {vs : List (List Key × V)} {d : PyData} {ds : List (PyData × PyData)} : Rp K H A v d → RpT K H A vs ds → RpT K H A ((k, v) :: vs) ((.tuple (k.map kd), d) :: ds)
end

/-- what passes the descriptions on -/
def Keeps (H H' : Hp) (A A' : Addr → Prop) : Prop := ∀ a u, dat u → Rq H a u → ¬ A a → Rq H' a u ∧ ¬ A' a
mutual
theorem Rp.map {K H H' A A'} (h : Keeps H H' A A') : ∀ {v d}, Rp K H A v d → Rp K H' A' v d
  | _, _, .non => .non
  | _, _, .bl b => .bl b
  | _, _, .int i => .int i
  | _, _, .str x => .str x
  | _, _, @Rp.lst _ _ _ a vs _ s r => .lst (h a (.lst vs) trivial s.1 s.2) (RpAll.map h r)
  | _, _, @Rp.tup _ _ _ a vs _ s r => .tup (s.elim (fun q => .inl (h a (.tup vs) trivial q.1 q.2)) .inr) (RpAll.map h r)
  | _, _, @Rp.dk _ _ _ a kvs _ s n r => .dk (h a (.dK kvs) trivial s n).1 (h a (.dK kvs) trivial s n).2 (RpK.map h r)
  | _, _, @Rp.dt _ _ _ a kvs _ s n r => .dt (h a (.dT kvs) trivial s n).1 (h a (.dT kvs) trivial s n).2 (RpT.map h r)
theorem RpAll.map {K H H' A A'} (h : Keeps H H' A A') : ∀ {v d}, RpAll K H A v d → RpAll K H' A' v d
  | _, _, .nil => .nil
  | _, _, .cons a b => .cons (Rp.map h a) (RpAll.map h b)
theorem RpK.map {K H H' A A'} (h : Keeps H H' A A') : ∀ {v d}, RpK K H A v d → RpK K H' A' v d
  | _, _, .nil => .nil
  | _, _, .cons a b => .cons (Rp.map h a) (RpK.map h b)
theorem RpT.map {K H H' A A'} (h : Keeps H H' A A') : ∀ {v d}, RpT K H A v d → RpT K H' A' v d
  | _, _, .nil => .nil
  | _, _, .cons a b => .cons (Rp.map h a) (RpT.map h b)
end
theorem Keeps.refl (H A) : Keeps H H A A := fun _ _ _ r n => ⟨r, n⟩
theorem Keeps.sub {H : Hp} {A A' : Addr → Prop} (h : ∀ a, A' a → A a) : Keeps H H A A' := fun a _ _ r n => ⟨r, fun z => n (h a z)⟩
theorem rq_upd {H H' : Hp} {a u} (e : H' a = H a) (r : Rq H a u) : Rq H' a u := by
  cases u <;> first | exact e.trans r | exact r.elim (fun q => .inl (e.trans q)) fun ⟨o, q⟩ => .inr ⟨o, e.trans q⟩
theorem rdSame {H H' : Hp} (s : Same H H') {a u} (r : Rq H a u) : Rq H' a u := by
  cases u <;> first | exact s _ _ r | exact r.elim (fun q => .inl (s _ _ q)) fun ⟨o, q⟩ => .inr ⟨o, s _ _ q⟩
theorem rdSome {H : Hp} {a u} (r : Rq H a u) : H a ≠ none := by
  have k : ∀ {x : HO}, H a = some x → H a ≠ none := fun q z => by rw [q] at z; cases z
  cases u <;> first | exact k r | exact r.elim (fun q => k q) fun ⟨o, q⟩ => k q
theorem rqOf {H : Hp} {a u} (r : H a = some u) : Rq H a u := by
  cases u <;> first | exact r | exact .inl r
theorem Keeps.same {H H' : Hp} (s : Same H H') (A : Addr → Prop) : Keeps H H' A A := fun _ _ _ r n => ⟨rdSame s r, n⟩
theorem RpAll.length {K H A} : ∀ {vs ds}, RpAll K H A vs ds → vs.length = ds.length
  | _, _, .nil => rfl
  | _, _, .cons _ b => congrArg (· + 1) (RpAll.length b)
theorem RpAll.get {K H A} : ∀ {vs ds} {i : Nat} {d}, RpAll K H A vs ds → ds[i]? = some d → ∃ v, vs[i]? = some v ∧ Rp K H A v d
  | _, _, _, _, .nil, e => by simp at e
  | _, _, 0, _, .cons a _, e => by simp at e; subst e; exact ⟨_, by simp, a⟩
  | _, _, i + 1, _, .cons _ b, e => by
    obtain ⟨v, h1, h2⟩ := RpAll.get (i := i) b (by simpa using e)
    exact ⟨v, by simpa using h1, h2⟩
theorem RpAll.getV {K H A} : ∀ {vs ds} {i : Nat} {v}, RpAll K H A vs ds → vs[i]? = some v → ∃ d, ds[i]? = some d ∧ Rp K H A v d
  | _, _, _, _, .nil, e => by simp at e
  | _, _, 0, _, .cons a _, e => by simp at e; subst e; exact ⟨_, by simp, a⟩
  | _, _, i + 1, _, .cons _ b, e => by
    obtain ⟨v, h1, h2⟩ := RpAll.getV (i := i) b (by simpa using e)
    exact ⟨v, by simpa using h1, h2⟩
theorem RpAll.append {K H A} : ∀ {vs ds ws es}, RpAll K H A vs ds → RpAll K H A ws es → RpAll K H A (vs ++ ws) (ds ++ es)
  | _, _, _, _, .nil, s => s
  | _, _, _, _, .cons a b, s => .cons a (RpAll.append b s)
theorem RpAll.take {K H A} : ∀ {vs ds} (n : Nat), RpAll K H A vs ds → RpAll K H A (vs.take n) (ds.take n)
  | _, _, 0, _ => by simp; exact .nil
  | _, _, _ + 1, .nil => .nil
  | _, _, n + 1, .cons a b => by simp only [List.take_succ_cons]; exact .cons a (RpAll.take n b)
theorem RpAll.drop {K H A} : ∀ {vs ds} (n : Nat), RpAll K H A vs ds → RpAll K H A (vs.drop n) (ds.drop n)
  | _, _, 0, r => r
  | _, _, _ + 1, .nil => .nil
  | _, _, n + 1, .cons _ b => by simp only [List.drop_succ_cons]; exact RpAll.drop n b
theorem RpAll.set {K H A v d} (r : Rp K H A v d) : ∀ {vs ds} (n : Nat), RpAll K H A vs ds → RpAll K H A (vs.set n v) (ds.set n d)
  | _, _, _, .nil => .nil
  | _, _, 0, .cons _ b => .cons r b
  | _, _, n + 1, .cons a b => .cons a (RpAll.set r n b)
theorem RpAll.rev {K H A} {vs ds} (r : RpAll K H A vs ds) : RpAll K H A vs.reverse ds.reverse := by
  induction r using RpAll.rec (motive_1 := fun _ _ _ => True) (motive_3 := fun _ _ _ => True) (motive_4 := fun _ _ _ => True) with
  | nil => exact .nil
  | cons a b _ ih => simp only [List.reverse_cons]; exact RpAll.append ih (.cons a .nil)
  | _ => trivial
theorem RpAll.one {K H A v d} (r : Rp K H A v d) : RpAll K H A [v] [d] := .cons r .nil

/-! ### what is owned -/
inductive OwnAt (K : PySem.W.Frag) (H : Hp) (A : Addr → Prop) (a : Addr) : PyData → Prop
  | lst {vs : List V} {ds : List PyData} : H a = some (.lst vs) → RpAll K H A vs ds → OwnAt K H A a (.list ds)
  | dk {kvs : List (Key × V)} {ps : List (PyData × PyData)} : H a = some (.dK kvs) → RpK K H A kvs ps → OwnAt K H A a (.dict ps)
  | dt {kvs : List (List Key × V)} {ps : List (PyData × PyData)} : H a = some (.dT kvs) → RpT K H A kvs ps → OwnAt K H A a (.dict ((.none, .none) :: ps))
theorem OwnAt.map {K H H' A A' a d} (o : OwnAt K H A a d) (h : Keeps H H' A A') (e : H' a = H a) : OwnAt K H' A' a d := by
  cases o with
  | lst x r => exact .lst (e.trans x) (r.map h)
  | dk x r => exact .dk (e.trans x) (r.map h)
  | dt x r => exact .dt (e.trans x) (r.map h)
theorem OwnAt.rd {K H A a d} (o : OwnAt K H A a d) : ∃ u, mutb u ∧ H a = some u := by
  cases o with
  | @lst vs ds x r => exact ⟨.lst vs, trivial, x⟩
  | @dk vs ds x r => exact ⟨.dK vs, trivial, x⟩
  | @dt vs ds x r => exact ⟨.dT vs, trivial, x⟩
theorem OwnAt.rp {K H A a d} (o : OwnAt K H A a d) (n : ¬ A a) : Rp K H A (.ref a) d := by
  cases o with
  | lst x r => exact .lst ⟨x, n⟩ r
  | dk x r => exact .dk (.inl x) n r
  | dt x r => exact .dt (.inl x) n r

structure Gh where
  Fr : Addr → Prop
  L : Nat → Option Addr
abbrev Os := Nat → Option Addr
def Av (os : Os) (Fr : Addr → Prop) (a : Addr) : Prop := (∃ i, os i = some a) ∨ Fr a
def RSl (K : PySem.W.Frag) (H : Hp) (A : Addr → Prop) : Sl → Option (Option V) → Option Addr → Prop
  | .no, _, o => o = none
  | .val d, x, o => o = none ∧ ∃ v, x = some (some v) ∧ Rp K H A v d
  | .own d, x, o => ∃ a, o = some a ∧ x = some (some (.ref a)) ∧ OwnAt K H A a d
  | .lent d, x, o => ∃ a, o = some a ∧ x = some (some (.ref a)) ∧ OwnAt K H A a d
structure Rel (K : PySem.W.Frag) (H : Hp) (env : En) (σ : L2.St) (os : Os) (G : Gh) : Prop where
  sl : ∀ i, RSl K H (Av os G.Fr) (env.at i) (σ[i]?) (os i)
  inj : ∀ i j a, os i = some a → os j = some a → i = j
  fr : ∀ a, G.Fr a → (∃ u, mutb u ∧ Rq H a u) ∧ ∀ i, os i ≠ some a
  len : env.length = σ.length
  lt : ∀ i a, G.L i = some a → os i = some a ∧ ∃ d, env.at i = .lent d
structure Ext (os os' : Os) (H H' : Hp) : Prop where
  keep : ∀ a o, H a = some o → (∀ i, os i ≠ some a) → H' a = some o
  own : ∀ a o, H a = some o → (∀ i, os i ≠ some a) → ∀ i, os' i ≠ some a
  trk : ∀ a, H a ≠ none → H' a ≠ none
theorem Ext.refl (os H) : Ext os os H H := ⟨fun _ _ r _ => r, fun _ _ _ n => n, fun _ z => z⟩
theorem Ext.free {os os' H H'} (e : Ext os os' H H') {a} (h : H' a = none) : H a = none := by
  cases q : H a with
  | none => rfl
  | some w => exact absurd h (e.trk a (by rw [q]; exact fun z => nomatch z))
theorem Ext.trans {o0 o1 o2 H0 H1 H2} (a : Ext o0 o1 H0 H1) (b : Ext o1 o2 H1 H2) : Ext o0 o2 H0 H2 :=
  ⟨fun x u r n => b.keep x u (a.keep x u r n) (a.own x u r n), fun x u r n => b.own x u (a.keep x u r n) (a.own x u r n), fun x h => b.trk x (a.trk x h)⟩
theorem some_of {H : Hp} {a} (h : H a ≠ none) : ∃ o, H a = some o := by
  cases q : H a with
  | none => exact absurd q h
  | some o => exact ⟨o, rfl⟩
theorem Ext.same (os : Os) {H H' : Hp} (s : Same H H') : Ext os os H H' := ⟨fun _ _ r _ => s _ _ r, fun _ _ _ n => n, fun a h => by
  obtain ⟨w, q⟩ := some_of h
  rw [s _ _ q]; exact fun z => nomatch z⟩
theorem Ext.keeps {os os' H H' Fr} (e : Ext os os' H H') : Keeps H H' (Av os Fr) (Av os' Fr) := fun a u d r n => by
  obtain ⟨o, q⟩ := some_of (rdSome r)
  have nn : ∀ i, os i ≠ some a := fun i z => n (.inl ⟨i, z⟩)
  exact ⟨rq_upd ((e.keep a o q nn).trans q.symm) r, fun z => z.elim (fun ⟨i, z⟩ => e.own a o q nn i z) fun z => n (.inr z)⟩
theorem Ext.keeps2 {os os' H H'} {Fr Fr2 : Addr → Prop} (e : Ext os os' H H') (h : ∀ a, Fr2 a → Fr a ∨ H a = none) : Keeps H H' (Av os Fr) (Av os' Fr2) := fun a u d r n => by
  obtain ⟨o, q⟩ := some_of (rdSome r)
  have nn : ∀ i, os i ≠ some a := fun i z => n (.inl ⟨i, z⟩)
  exact ⟨rq_upd ((e.keep a o q nn).trans q.symm) r, fun z => z.elim (fun ⟨i, z⟩ => e.own a o q nn i z) fun z => (h a z).elim (fun z => n (.inr z)) (fun z => rdSome r z)⟩
theorem Rp.ext {K os os' H H' Fr v d} (r : Rp K H (Av os Fr) v d) (e : Ext os os' H H') : Rp K H' (Av os' Fr) v d := r.map e.keeps
theorem RpAll.ext {K os os' H H' Fr v d} (r : RpAll K H (Av os Fr) v d) (e : Ext os os' H H') : RpAll K H' (Av os' Fr) v d := r.map e.keeps
def Trk (H : Hp) (A : Addr → Prop) : Prop := ∀ a, A a → ∃ u, mutb u ∧ Rq H a u
theorem Trk.no {H A} (t : Trk H A) {a} (h : A a) : H a ≠ none := let ⟨_, _, r⟩ := t a h; rdSome r
theorem Rel.trk {K H env σ os G} (R : Rel K H env σ os G) : Trk H (Av os G.Fr) := fun a h => by
  rcases h with ⟨i, h⟩ | h
  · have q := R.sl i
    cases e : env.at i with
    | no => rw [e] at q; rw [show os i = none from q] at h; cases h
    | val d => rw [e] at q; rw [q.1] at h; cases h
    | own d =>
      rw [e] at q; obtain ⟨b, e1, _, o⟩ := q
      rw [e1] at h; cases h
      obtain ⟨u, m, z⟩ := o.rd; exact ⟨u, m, rqOf z⟩
    | lent d =>
      rw [e] at q; obtain ⟨b, e1, _, o⟩ := q
      rw [e1] at h; cases h
      obtain ⟨u, m, z⟩ := o.rd; exact ⟨u, m, rqOf z⟩
  · exact (R.fr a h).1
theorem Rel.tracked {K H env σ os G} (R : Rel K H env σ os G) {a} (h : Av os G.Fr a) : H a ≠ none := R.trk.no h
theorem Rel.new {K H env σ os G} (R : Rel K H env σ os G) {p} (h : H p = none) : ¬ Av os G.Fr p := fun z => R.tracked z h
/-- nothing that stood has changed -/
theorem RSl.map {K H H' A A' s x o} (r : RSl K H A s x o) (h : Keeps H H' A A') (e : ∀ a, o = some a → H' a = H a) : RSl K H' A' s x o := by
  cases s with
  | no => exact r
  | val d => obtain ⟨a, v, b, c⟩ := r; exact ⟨a, v, b, c.map h⟩
  | own d => obtain ⟨a, b, c, d⟩ := r; exact ⟨a, b, c, d.map h (e a b)⟩
  | lent d => obtain ⟨a, b, c, d⟩ := r; exact ⟨a, b, c, d.map h (e a b)⟩
theorem Rel.ofSame {K H H' env σ os G} (R : Rel K H env σ os G) (s : Same H H') : Rel K H' env σ os G where
  sl := fun i => (R.sl i).map (Keeps.same s _) fun a e => by
    have t := R.tracked (a := a) (.inl ⟨i, e⟩)
    cases q : H a with
    | none => exact absurd q t
    | some u => exact s _ _ q
  inj := R.inj
  fr := fun a h => let ⟨⟨u, d, r⟩, n⟩ := R.fr a h; ⟨⟨u, d, rdSame s r⟩, n⟩
  len := R.len
  lt := R.lt
/-- an avoided object of ours that is none of the slots' is changed -/
theorem Rel.upd {K H env σ os G a o} (R : Rel K H env σ os G) (h : G.Fr a) (d : mutb o) : Rel K (L2.upd H a o) env σ os G := by
  have ne : ∀ b, ¬ Av os G.Fr b → b ≠ a := fun b n z => n (.inr (z ▸ h))
  have kp : Keeps H (L2.upd H a o) (Av os G.Fr) (Av os G.Fr) := fun b u _ r n => ⟨rq_upd (upd_ne (ne b n)) r, n⟩
  refine ⟨fun i => (R.sl i).map kp fun b e => upd_ne fun z => (R.fr a h).2 i (z ▸ e), R.inj, fun b hb => ⟨?_, (R.fr b hb).2⟩, R.len, R.lt⟩
  by_cases e : b = a
  · subst e; exact ⟨o, d, rqOf upd_same⟩
  · obtain ⟨u, d, r⟩ := (R.fr b hb).1
    exact ⟨u, d, rq_upd (upd_ne e) r⟩
theorem Rel.weaken {K H env σ os G} {Fr : Addr → Prop} (R : Rel K H env σ os G) (h : ∀ a, Fr a → G.Fr a) : Rel K H env σ os { G with Fr := Fr } where
  sl := fun i => (R.sl i).map (Keeps.sub fun a z => z.elim .inl fun q => .inr (h a q)) fun _ _ => rfl
  inj := R.inj
  fr := fun a z => R.fr a (h a z)
  len := R.len
  lt := R.lt
abbrev Gh.plus (G : Gh) (a : Addr) : Gh := { G with Fr := fun b => G.Fr b ∨ b = a }
theorem Rel.plus {K H env σ os G a u} (R : Rel K H env σ os G) (h : H a = none) (d : mutb u) : Rel K (L2.upd H a u) env σ os (G.plus a) := by
  have sm : Same H (L2.upd H a u) := fun b x e => by rw [upd_ne (ne_of_none e h)]; exact e
  have kp : Keeps H (L2.upd H a u) (Av os G.Fr) (Av os (G.plus a).Fr) := fun b x _ r n => ⟨rdSame sm r, fun z => z.elim (fun q => n (.inl q)) fun q => q.elim (fun q => n (.inr q)) fun q => by subst q; exact rdSome r h⟩
  refine ⟨fun i => (R.sl i).map kp fun b e => ?_, R.inj, fun b hb => ?_, R.len, R.lt⟩
  · exact upd_ne fun z => by subst z; exact R.tracked (.inl ⟨i, e⟩) h
  · rcases hb with hb | hb
    · obtain ⟨⟨x, dx, r⟩, n⟩ := R.fr b hb
      exact ⟨⟨x, dx, rdSame sm r⟩, n⟩
    · subst hb
      exact ⟨⟨u, d, rqOf upd_same⟩, fun i z => R.tracked (.inl ⟨i, z⟩) h⟩
theorem same_upd {H : Hp} {p : Addr} {o : HO} (h : H p = none) : Same H (L2.upd H p o) := fun b x e => by rw [upd_ne (ne_of_none e h)]; exact e

theorem at_set {env : En} {i j : Nat} {s : Sl} : En.at (env.set i s) j = if i = j ∧ i < env.length then s else env.at j := by
  unfold En.at
  by_cases h : i = j
  · subst h
    by_cases l : i < env.length
    · rw [if_pos ⟨rfl, l⟩, List.getElem?_set_self l]; rfl
    · rw [if_neg (fun z => l z.2)]
      rw [List.set_eq_of_length_le (by omega)]
  · rw [if_neg (fun z => h z.1), List.getElem?_set_ne h]
theorem at_none {env : En} {i : Nat} (h : env.length ≤ i) : env.at i = .no := by
  unfold En.at; rw [List.getElem?_eq_none h]; rfl
theorem put_inv {env env' : En} {i s} (h : env.put i s = some env') : env' = env.set i s ∧ ∀ d, env.at i ≠ .lent d := by
  unfold En.put at h
  cases e : env.at i with
  | lent d => rw [e] at h; cases h
  | no => rw [e] at h; cases h; exact ⟨rfl, fun _ z => nomatch z⟩
  | val d => rw [e] at h; cases h; exact ⟨rfl, fun _ z => nomatch z⟩
  | own d => rw [e] at h; cases h; exact ⟨rfl, fun _ z => nomatch z⟩
def osDel (os : Os) (i : Nat) : Os := fun j => if j = i then none else os j
def osPut (os : Os) (i : Nat) (a : Addr) : Os := fun j => if j = i then some a else os j
theorem osDel_sub {os : Os} {i j a} (h : osDel os i j = some a) : os j = some a := by
  unfold osDel at h; split at h; cases h; exact h
theorem Ext.del (os : Os) (i : Nat) (H) : Ext os (osDel os i) H H := ⟨fun _ _ r _ => r, fun _ _ _ n j z => n j (osDel_sub z), fun _ z => z⟩
theorem Rel.put_val {K H env σ os G v d env'} {i : Nat} (R : Rel K H env σ os G) (r : Rp K H (Av os G.Fr) v d) (h : env.put i (.val d) = some env') :
    Rel K H env' (σ.set i (some v)) (osDel os i) G := by
  obtain ⟨rfl, nl⟩ := put_inv h
  have kp : Keeps H H (Av os G.Fr) (Av (osDel os i) G.Fr) := Keeps.sub fun a z => z.elim (fun ⟨j, q⟩ => .inl ⟨j, osDel_sub q⟩) .inr
  refine ⟨fun j => ?_, fun j k a h1 h2 => R.inj j k a (osDel_sub h1) (osDel_sub h2), fun a z => ⟨(R.fr a z).1, fun j q => (R.fr a z).2 j (osDel_sub q)⟩, by simp [R.len], fun j a z => ?_⟩
  · rw [at_set]
    by_cases hj : i = j
    · subst hj
      have e0 : osDel os i i = none := by unfold osDel; rw [if_pos rfl]
      rw [e0]
      by_cases l : i < env.length
      · rw [if_pos ⟨rfl, l⟩]
        exact ⟨rfl, v, by rw [List.getElem?_set_self (R.len ▸ l)], r.map kp⟩
      · rw [if_neg (fun z => l z.2), at_none (by omega : env.length ≤ i)]; rfl
    · have e0 : osDel os i j = os j := by unfold osDel; rw [if_neg (fun z => hj z.symm)]
      rw [if_neg (fun z => hj z.1), List.getElem?_set_ne hj, e0]
      exact (R.sl j).map kp fun _ _ => rfl
  · obtain ⟨h1, dd, h2⟩ := R.lt j a z
    have hj : i ≠ j := fun e => by subst e; exact nl _ h2
    refine ⟨by unfold osDel; rw [if_neg (fun z => hj z.symm)]; exact h1, dd, ?_⟩
    rw [at_set, if_neg (fun z => hj z.1)]; exact h2
theorem Rel.put_own {K H env σ os G a d env'} {i : Nat} (R : Rel K H env σ os (G.plus a)) (r : OwnAt K H (Av os (G.plus a).Fr) a d) (nF : ¬ G.Fr a) (h : env.put i (.own d) = some env') :
    ∃ os', Rel K H env' (σ.set i (some (.ref a))) os' G ∧ ∀ j b, os' j = some b → os j = some b ∨ b = a := by
  obtain ⟨rfl, nl⟩ := put_inv h
  by_cases l : i < env.length
  · refine ⟨osPut os i a, ⟨fun j => ?_, fun j k b h1 h2 => ?_, fun b z => ⟨(R.fr b (.inl z)).1, fun j q => ?_⟩, by simp [R.len], fun j b z => ?_⟩, fun j b q => ?_⟩
    · have kp : Keeps H H (Av os (G.plus a).Fr) (Av (osPut os i a) G.Fr) := Keeps.sub fun b z => z.elim (fun ⟨j, q⟩ => by
        unfold osPut at q; split at q
        · cases q; exact .inr (.inr rfl)
        · exact .inl ⟨j, q⟩) fun q => .inr (.inl q)
      rw [at_set]
      by_cases hj : i = j
      · subst hj
        rw [if_pos ⟨rfl, l⟩]
        exact ⟨a, by unfold osPut; rw [if_pos rfl], by rw [List.getElem?_set_self (R.len ▸ l)], r.map kp rfl⟩
      · have e0 : osPut os i a j = os j := by unfold osPut; rw [if_neg (fun z => hj z.symm)]
        rw [if_neg (fun z => hj z.1), List.getElem?_set_ne hj, e0]
        exact (R.sl j).map kp fun _ _ => rfl
    · unfold osPut at h1 h2
      have na := (R.fr a (.inr rfl)).2
      split at h1 <;> split at h2
      · omega
      · cases h1; exact absurd h2 (na k)
      · cases h2; exact absurd h1 (na j)
      · exact R.inj j k b h1 h2
    · unfold osPut at q; split at q
      · cases q; exact nF z
      · exact (R.fr b (.inl z)).2 j q
    · obtain ⟨h1, dd, h2⟩ := R.lt j b z
      have hj : i ≠ j := fun e => by subst e; exact nl _ h2
      refine ⟨by unfold osPut; rw [if_neg (fun z => hj z.symm)]; exact h1, dd, ?_⟩
      rw [at_set, if_neg (fun z => hj z.1)]; exact h2
    · unfold osPut at q; split at q
      · cases q; exact .inr rfl
      · exact .inl q
  · have e0 : (env.set i (.own d) : En) = env := List.set_eq_of_length_le (by omega)
    have e1 : σ.set i (some (.ref a)) = σ := List.set_eq_of_length_le (by have := R.len; omega)
    rw [e0, e1]
    exact ⟨os, R.weaken fun _ => .inl, fun j b q => .inl q⟩
end SL

set_option Elab.async false
set_option linter.all false
set_option maxRecDepth 100000
set_option maxHeartbeats 4000000
/-! SL2: expressions by what they reckon with plain data. -/
namespace SL
open PySem PySem.Spec PyProof.Rows L2

abbrev M (α : Type) := En → Option (α × En)
def ret {α} (x : α) : M α := fun e => some (x, e)
def bnd {α β} (m : M α) (f : α → M β) : M β := fun e => (m e).bind fun p => f p.1 p.2
def lft {α} (o : Option α) : M α := fun e => o.map fun x => (x, e)
theorem bnd_inv {α β} {m : M α} {f : α → M β} {e r} (h : bnd m f e = some r) : ∃ x e1, m e = some (x, e1) ∧ f x e1 = some r := by
  unfold bnd at h
  cases q : m e with
  | none => rw [q] at h; cases h
  | some p => rw [q] at h; exact ⟨p.1, p.2, rfl, h⟩
theorem lft_inv {α} {o : Option α} {e x e'} (h : lft o e = some (x, e')) : o = some x ∧ e' = e := by
  unfold lft at h
  cases q : o with
  | none => rw [q] at h; cases h
  | some p => rw [q] at h; cases h; exact ⟨rfl, rfl⟩
def Pur {α} (m : M α) : Prop := ∀ e r e', m e = some (r, e') → e' = e

def En.obj (e : En) (i : Nat) : Option PyData := match e.at i with | .own d => some d | .lent d => some d | _ => none
def En.mut (e : En) (i : Nat) (d : PyData) : En := match e.at i with | .own _ => e.set i (.own d) | .lent _ => e.set i (.lent d) | _ => e
theorem Rel.obj {K H env σ os G d} {i : Nat} (R : Rel K H env σ os G) (h : env.obj i = some d) : ∃ a, os i = some a ∧ σ[i]? = some (some (.ref a)) ∧ OwnAt K H (Av os G.Fr) a d := by
  have q := R.sl i
  unfold En.obj at h
  cases e : env.at i with
  | no => rw [e] at h; cases h
  | val d => rw [e] at h; cases h
  | own d => rw [e] at h q; cases h; exact q
  | lent d => rw [e] at h q; cases h; exact q

/-- what an operation may lean on: the value as it stands now -/
def Rw (K : PySem.W.Frag) (H : Hp) (A : Addr → Prop) (v : V) (d : PyData) : Prop := Rp K H A v d ∨ ∃ a, v = .ref a ∧ OwnAt K H A a d
def RpX (w : Bool) (K : PySem.W.Frag) (H : Hp) (env : En) (σ : L2.St) (os : Os) (G : Gh) (v : V) (r : PyData) : Prop :=
  Rp K H (Av os G.Fr) v r ∨ (w = true ∧ ∃ i, env.obj i = some r ∧ σ[i]? = some (some v))
theorem RpX.rw {w K H env σ os G v r} (x : RpX w K H env σ os G v r) (R : Rel K H env σ os G) : Rw K H (Av os G.Fr) v r := by
  rcases x with x | ⟨_, i, e, s⟩
  · exact .inl x
  · obtain ⟨a, _, h2, h3⟩ := R.obj e
    rw [s] at h2; cases h2
    exact .inr ⟨a, rfl, h3⟩
theorem RpX.strong {K H env σ os G v r} (x : RpX false K H env σ os G v r) : Rp K H (Av os G.Fr) v r := x.elim id fun z => nomatch z.1
theorem RpX.ext {w K H H' env σ os os' G v r} (x : RpX w K H env σ os G v r) (e : Ext os os' H H') : RpX w K H' env σ os' G v r := x.elim (fun q => .inl (q.ext e)) .inr
theorem Rw.int {K H A v i} (r : Rw K H A v (.int i)) : v = .int i := by
  rcases r with r | ⟨a, _, o⟩
  · cases r; rfl
  · cases o
theorem Rw.bool {K H A v i} (r : Rw K H A v (.bool i)) : v = .bl i := by
  rcases r with r | ⟨a, _, o⟩
  · cases r; rfl
  · cases o
theorem Rw.str {K H A v i} (r : Rw K H A v (.str i)) : v = .str i := by
  rcases r with r | ⟨a, _, o⟩
  · cases r; rfl
  · cases o
theorem Rw.non {K H A v} (r : Rw K H A v .none) : v = .non := by
  rcases r with r | ⟨a, _, o⟩
  · cases r; rfl
  · cases o
theorem Rw.lst {K H A v ds} (r : Rw K H A v (.list ds)) : ∃ a vs, v = .ref a ∧ H a = some (.lst vs) ∧ RpAll K H A vs ds := by
  rcases r with r | ⟨a, e, o⟩
  · cases r with | lst s q => exact ⟨_, _, rfl, s.1, q⟩
  · cases o with | lst s q => exact ⟨_, _, e, s, q⟩
theorem Rw.tup {K H A v ds} (r : Rw K H A v (.tuple ds)) : ∃ a vs, v = .ref a ∧ StT K H A a vs ds ∧ RpAll K H A vs ds := by
  rcases r with r | ⟨a, e, o⟩
  · cases r with | tup s q => exact ⟨_, _, rfl, s, q⟩
  · cases o

/-! ### readings -/
def rdV (w : Bool) (K : PySem.W.Frag) (d : M PyData) : TE := fun σ H Q => ∃ env os G r env', Rel K H env σ os G ∧ d env = some (r, env') ∧
  ∀ H' os' v, Ext os os' H H' → Rel K H' env' σ os' G → RpX w K H' env' σ os' G v r → Q v H'
def rdT (K : PySem.W.Frag) (d : M Bool) : TT := fun σ H Q => ∃ env os G r env', Rel K H env σ os G ∧ d env = some (r, env') ∧
  ∀ H' os', Ext os os' H H' → Rel K H' env' σ os' G → Q r H'
def rdA (K : PySem.W.Frag) (d : M (List PyData)) : TA := fun σ H Q => ∃ env os G r env', Rel K H env σ os G ∧ d env = some (r, env') ∧
  ∀ H' os' vs, Ext os os' H H' → Rel K H' env' σ os' G → RpAll K H' (Av os' G.Fr) vs r → Q vs H'
/-- a new object that nothing else names -/
def rdF (K : PySem.W.Frag) (d : M PyData) : TE := fun σ H Q => ∃ env os G r env', Rel K H env σ os G ∧ d env = some (r, env') ∧
  ∀ H' os' a, Ext os os' H H' → H a = none → Rel K H' env' σ os' (G.plus a) → OwnAt K H' (Av os' (G.plus a).Fr) a r → Q (.ref a) H'
abbrev SE (X : Cx) (e : Expr) (d : M PyData) : Prop := PE X e (rdV false X.K d)
abbrev SW (X : Cx) (e : Expr) (d : M PyData) : Prop := PE X e (rdV true X.K d)
abbrev SF (X : Cx) (e : Expr) (d : M PyData) : Prop := PE X e (rdF X.K d)
abbrev ST (X : Cx) (e : Expr) (d : M Bool) : Prop := PT X e (rdT X.K d)
abbrev SA (X : Cx) (es : List Expr) (d : M (List PyData)) : Prop := PA X es (rdA X.K d)
theorem PE.imp {X : Cx} {e t t'} (h : PE X e t) (f : ∀ σ H Q, t' σ H Q → t σ H Q) : PE X e t' := ⟨fun pins s σ H Q I q => h.run pins s σ H Q I (f _ _ _ q)⟩
theorem PT.imp {X : Cx} {e t t'} (h : PT X e t) (f : ∀ σ H Q, t' σ H Q → t σ H Q) : PT X e t' := ⟨fun pins s σ H Q I q => h.run pins s σ H Q I (f _ _ _ q)⟩
theorem PA.imp {X : Cx} {e t t'} (h : PA X e t) (f : ∀ σ H Q, t' σ H Q → t σ H Q) : PA X e t' := ⟨fun pos pins s σ H Q I q => h.run pos pins s σ H Q I (f _ _ _ q)⟩
section
variable {X : Cx} {a b c e o : Expr} {es : List Expr} {da db dc d : M PyData} {pos : Pos}
theorem sw_of (h : SE X e d) : SW X e d := PE.imp h fun σ H Q ⟨env, os, G, r, env', R, q, k⟩ => ⟨env, os, G, r, env', R, q, fun H' os' v x R' p => k H' os' v x R' (.inl p.strong)⟩
theorem Rel.unplus {K H env σ os G a} (R : Rel K H env σ os (Gh.plus G a)) : Rel K H env σ os G := R.weaken fun _ => .inl
theorem se_ofF (h : SF X e d) : SE X e d := PE.imp h fun σ H Q ⟨env, os, G, r, env', R, q, k⟩ => ⟨env, os, G, r, env', R, q, fun H' os' a x n R' o => by
  refine k H' os' (.ref a) x R'.unplus (.inl ?_)
  have kp : Keeps H' H' (Av os' (G.plus a).Fr) (Av os' G.Fr) := Keeps.sub fun b z => z.elim .inl fun q => .inr (.inl q)
  refine (o.map kp rfl).rp fun z => ?_
  rcases z with ⟨i, z⟩ | z
  · exact (R'.fr a (.inr rfl)).2 i z
  · exact absurd n (by obtain ⟨⟨u, _, t⟩, _⟩ := R.fr a z; exact rdSome t)⟩
/-! ### names -/
def dVar (i : Nat) : M PyData := fun env => match env.at i with | .val d => some (d, env) | _ => none
theorem se_var (i : Nat) {x : Str} {pos : Pos} (hN : X.N[i]? = some x := by rfl) (hv : Vis X.env.scope x := by first | exact Or.inl rfl | exact Or.inr (Or.inl rfl) | exact Or.inr (Or.inr rfl)) (hd : (x == ("__debug__" : Str)) = false := by decide)
    (hcd : (x == ("__classdict__" : Str)) = false := by decide) : SE X (.Name x pos) (dVar i) := PE.imp (pe_var hN hv hd hcd) fun σ H Q ⟨env, os, G, r, env', R, q, k⟩ => by
  have s := R.sl i
  unfold dVar at q
  cases z : env.at i with
  | val d =>
    rw [z] at q s; cases q
    obtain ⟨_, v, e, p⟩ := s
    exact ⟨v, e, k H os v (Ext.refl _ _) R (.inl p)⟩
  | no => rw [z] at q; cases q
  | own d => rw [z] at q; cases q
  | lent d => rw [z] at q; cases q
def dOwn (i : Nat) : M PyData := fun env => match env.obj i with | some d => some (d, env) | none => none
theorem sw_own (i : Nat) {x : Str} {pos : Pos} (hN : X.N[i]? = some x := by rfl) (hv : Vis X.env.scope x := by first | exact Or.inl rfl | exact Or.inr (Or.inl rfl) | exact Or.inr (Or.inr rfl)) (hd : (x == ("__debug__" : Str)) = false := by decide)
    (hcd : (x == ("__classdict__" : Str)) = false := by decide) : SW X (.Name x pos) (dOwn i) := PE.imp (pe_var hN hv hd hcd) fun σ H Q ⟨env, os, G, r, env', R, q, k⟩ => by
  unfold dOwn at q
  cases z : env.obj i with
  | none => rw [z] at q; cases q
  | some d =>
    rw [z] at q; cases q
    obtain ⟨a, _, e, _⟩ := R.obj z
    exact ⟨.ref a, e, k H os (.ref a) (Ext.refl _ _) R (.inr ⟨rfl, i, z, e⟩)⟩
/-- an owned object is given away for good -/
def dFrz (i : Nat) : M PyData := fun env => match env.at i with | .own d => some (d, env.set i (.val d)) | _ => none
theorem Rel.freeze {K H env σ os G d} {i : Nat} (R : Rel K H env σ os G) (h : env.at i = .own d) : ∃ a, σ[i]? = some (some (.ref a)) ∧ Rel K H (env.set i (.val d)) σ (osDel os i) G ∧ Rp K H (Av (osDel os i) G.Fr) (.ref a) d := by
  have s := R.sl i
  rw [h] at s
  obtain ⟨a, e1, e2, o⟩ := s
  have kp : Keeps H H (Av os G.Fr) (Av (osDel os i) G.Fr) := Keeps.sub fun a z => z.elim (fun ⟨j, q⟩ => .inl ⟨j, osDel_sub q⟩) .inr
  have na : ¬ Av (osDel os i) G.Fr a := fun z => by
    rcases z with ⟨j, z⟩ | z
    · have j' := R.inj i j a e1 (osDel_sub z)
      subst j'
      unfold osDel at z; rw [if_pos rfl] at z; cases z
    · exact (R.fr a z).2 i e1
  have p : Rp K H (Av (osDel os i) G.Fr) (.ref a) d := (o.map kp rfl).rp na
  refine ⟨a, e2, ⟨fun j => ?_, fun j k b h1 h2 => R.inj j k b (osDel_sub h1) (osDel_sub h2), fun b z => ⟨(R.fr b z).1, fun j q => (R.fr b z).2 j (osDel_sub q)⟩, by simp [R.len], fun j b z => ?_⟩, p⟩
  · rw [at_set]
    by_cases hj : i = j
    · subst hj
      have e0 : osDel os i i = none := by unfold osDel; rw [if_pos rfl]
      have l : i < env.length := Nat.lt_of_not_le fun l => by rw [at_none l] at h; cases h
      rw [e0, if_pos ⟨rfl, l⟩]
      exact ⟨rfl, _, e2, p⟩
    · have e0 : osDel os i j = os j := by unfold osDel; rw [if_neg (fun z => hj z.symm)]
      rw [if_neg (fun z => hj z.1), e0]
      exact (R.sl j).map kp fun _ _ => rfl
  · obtain ⟨h1, dd, h2⟩ := R.lt j b z
    have hj : i ≠ j := fun e => by subst e; rw [h] at h2; cases h2
    refine ⟨by unfold osDel; rw [if_neg (fun z => hj z.symm)]; exact h1, dd, ?_⟩
    rw [at_set, if_neg (fun z => hj z.1)]; exact h2
theorem se_frz (i : Nat) {x : Str} {pos : Pos} (hN : X.N[i]? = some x := by rfl) (hv : Vis X.env.scope x := by first | exact Or.inl rfl | exact Or.inr (Or.inl rfl) | exact Or.inr (Or.inr rfl)) (hd : (x == ("__debug__" : Str)) = false := by decide)
    (hcd : (x == ("__classdict__" : Str)) = false := by decide) : SE X (.Name x pos) (dFrz i) := PE.imp (pe_var hN hv hd hcd) fun σ H Q ⟨env, os, G, r, env', R, q, k⟩ => by
  unfold dFrz at q
  cases z : env.at i with
  | own d =>
    rw [z] at q; cases q
    obtain ⟨a, e, R', p⟩ := R.freeze z
    exact ⟨.ref a, e, k H _ (.ref a) (Ext.del _ _ _) R' (.inl p)⟩
  | no => rw [z] at q; cases q
  | val d => rw [z] at q; cases q
  | lent d => rw [z] at q; cases q
/-- constants -/
def dC (x : PyData) : M PyData := ret x
theorem se_c {v : V} {x : PyData} (h : PE X e (tC v)) (p : ∀ H A, Rp X.K H A v x) : SE X e (dC x) := PE.imp h fun σ H Q ⟨env, os, G, r, env', R, q, k⟩ => by
  cases q
  exact k H os v (Ext.refl _ _) R (.inl (p H _))
theorem se_int {i j} : SE X (.Constant (.int i) j pos) (dC (.int i)) := se_c pe_int fun _ _ => .int i
theorem se_bl {i j} : SE X (.Constant (.bool i) j pos) (dC (.bool i)) := se_c pe_bl fun _ _ => .bl i
theorem se_non {j} : SE X (.Constant .none j pos) (dC .none) := se_c pe_non fun _ _ => .non
theorem se_str {i j} : SE X (.Constant (.str i) j pos) (dC (.str i)) := se_c pe_str fun _ _ => .str i
/-! ### one and two places -/
def d1 (f : PyData → Option PyData) (da : M PyData) : M PyData := bnd da fun x => lft (f x)
def d2 (f : PyData → PyData → Option PyData) (da db : M PyData) : M PyData := bnd da fun x => bnd db fun y => lft (f x y)
def t2 (f : PyData → PyData → Option Bool) (da db : M PyData) : M Bool := bnd da fun x => bnd db fun y => lft (f x y)
def vB (d : M Bool) : M PyData := bnd d fun b => ret (.bool b)
/-- by values: args as they stand, the result -/
def OpS (K : PySem.W.Frag) (r : R2) (f : PyData → PyData → Option PyData) : Prop := ∀ H A vx vy x y z Q, Trk H A → Rw K H A vx x → Rw K H A vy y → f x y = some z →
  (∀ H' v, Same H H' → Rp K H' A v z → Q v H') → r vx vy H Q
def OpB (K : PySem.W.Frag) (r : R2) (f : PyData → PyData → Option Bool) : Prop := ∀ H A vx vy x y z Q, Rw K H A vx x → Rw K H A vy y → f x y = some z → Q (.bl z) H → r vx vy H Q
def OpF (K : PySem.W.Frag) (r : R2) (f : PyData → PyData → Option PyData) : Prop := ∀ H A vx vy x y z Q, Trk H A → Rw K H A vx x → Rw K H A vy y → f x y = some z →
  (∀ a u, H a = none → mutb u → OwnAt K (upd H a u) (fun b => A b ∨ b = a) a z → Q (.ref a) (upd H a u)) → r vx vy H Q
/-- the left one is kept, or the right one leaves the slots as they are -/
def Lf (w : Bool) (db : M PyData) : Prop := w = false ∨ Pur db
/-- two in a row -/
theorem two {α : Type} {K : PySem.W.Frag} {w : Bool} {σ : L2.St} {H : Hp} {env os G env'} {z : α} {f : PyData → PyData → Option α} {R2' : V → V → Hp → Prop} (hl : Lf w db) (R : Rel K H env σ os G) (q : (bnd da fun x => bnd db fun y => lft (f x y)) env = some (z, env'))
    (k : ∀ H2 os2 vx vy x y, Ext os os2 H H2 → Rel K H2 env' σ os2 G → Rw K H2 (Av os2 G.Fr) vx x → Rw K H2 (Av os2 G.Fr) vy y → f x y = some z → R2' vx vy H2) :
    rdV w K da σ H fun vx H1 => rdV true K db σ H1 fun vy H2 => R2' vx vy H2 := by
  obtain ⟨x, e1, q1, q⟩ := bnd_inv q
  obtain ⟨y, e2, q2, q⟩ := bnd_inv q
  obtain ⟨q3, rfl⟩ := lft_inv q
  refine ⟨env, os, G, x, e1, R, q1, fun H1 os1 vx x1 R1 p1 => ⟨e1, os1, G, y, env', R1, q2, fun H2 os2 vy x2 R2 p2 => ?_⟩⟩
  refine k H2 os2 vx vy x y (x1.trans x2) R2 ?_ (p2.rw R2) q3
  rcases hl with rfl | hp
  · exact .inl (p1.strong.ext x2)
  · have := hp _ _ _ q2
    subst this
    exact (p1.ext x2).rw R2
theorem se_op {w : Bool} {op : Operator} {r : R2} {f} (ho : OpR X (binaryOp op) r) (hs : OpS X.K r f) (ha : PE X a (rdV w X.K da)) (hb : SW X b db) (hl : Lf w db) : SE X (.BinOp a op b pos) (d2 f da db) :=
  PE.imp (pe_op ho ha hb) fun σ H Q ⟨env, os, G, z, env', R, q, k⟩ => two hl R q fun H2 os2 vx vy x y x2 R2 px py q3 =>
    hs H2 _ vx vy x y z Q R2.trk px py q3 fun H3 v s p => k H3 os2 v (x2.trans (Ext.same _ s)) (R2.ofSame s) (.inl p)
theorem sf_op {w : Bool} {op : Operator} {r : R2} {f} (ho : OpR X (binaryOp op) r) (hs : OpF X.K r f) (ha : PE X a (rdV w X.K da)) (hb : SW X b db) (hl : Lf w db) : SF X (.BinOp a op b pos) (d2 f da db) :=
  PE.imp (pe_op ho ha hb) fun σ H Q ⟨env, os, G, z, env', R, q, k⟩ => two hl R q fun H2 os2 vx vy x y x2 R2 px py q3 => by
    refine hs H2 _ vx vy x y z Q R2.trk px py q3 fun p u n d o => ?_
    refine k _ os2 p (x2.trans (Ext.same _ (same_upd n))) (x2.free n) (R2.plus n d) (o.map (Keeps.sub fun b z => ?_) rfl)
    rcases z with z | z | z
    · exact .inl (.inl z)
    · exact .inl (.inr z)
    · exact .inr z
end
end SL

set_option Elab.async false
set_option linter.all false
set_option maxRecDepth 100000
set_option maxHeartbeats 4000000
/-! SLD: dicts as data: keys numbers, texts, or tuples of them (these begin with the pair (None, None)). -/
namespace SL
open PySem PySem.Spec PyProof.Rows L2
def ksOf : List PyData → Option (List Key)
  | [] => some []
  | .int i :: r => (ksOf r).map (.inl i :: ·)
  | .str x :: r => (ksOf r).map (.inr x :: ·)
  | _ => none
theorem ksOf_inv : ∀ {ds ks}, ksOf ds = some ks → ds = ks.map kd
  | [], _, h => by cases h; rfl
  | d :: r, ks, h => by
    cases d <;> simp [ksOf] at h
    · obtain ⟨ms, h1, rfl⟩ := h; rw [ksOf_inv h1]; rfl
    · obtain ⟨ms, h1, rfl⟩ := h; rw [ksOf_inv h1]; rfl
def dkOf : PyData → Option (Key ⊕ List Key)
  | .int i => some (.inl (.inl i))
  | .str x => some (.inl (.inr x))
  | .tuple ds => if cst ds = true then none else (ksOf ds).map .inr
  | _ => none
theorem eqv_kd (a b : Key) : PyData.eqv (kd a) (kd b) = decide (a = b) := by
  cases a <;> cases b <;> simp [kd, PyData.eqv] <;> rw [Bool.eq_iff_iff] <;> simp
theorem eqv_kds : ∀ (a b : List Key), PyData.eqvAll (a.map kd) (b.map kd) = decide (a = b)
  | [], [] => by simp [PyData.eqvAll]
  | [], y :: ys => by simp [PyData.eqvAll]
  | x :: xs, [] => by simp [PyData.eqvAll]
  | x :: xs, y :: ys => by
    simp only [List.map_cons, PyData.eqvAll, eqv_kd, eqv_kds xs ys]
    rw [Bool.eq_iff_iff]; simp
theorem eqv_kt (a b : List Key) : PyData.eqv (.tuple (a.map kd)) (.tuple (b.map kd)) = decide (a = b) := by rw [PyData.eqv]; exact eqv_kds a b
def dFind (ps : List (PyData × PyData)) (k : PyData) : Option PyData := (ps.find? fun kv => PyData.eqv kv.1 k).map (·.2)
def dPutL (ps : List (PyData × PyData)) (k v : PyData) : List (PyData × PyData) := if (ps.any fun kv => PyData.eqv kv.1 k) = true then ps.map (fun kv => if PyData.eqv kv.1 k = true then (kv.1, v) else kv) else ps ++ [(k, v)]
/-- a table and its data, by a way of writing keys -/
def Tab {κ : Type} (en : κ → PyData) (K : PySem.W.Frag) (H : Hp) (A : Addr → Prop) (kvs : List (κ × V)) (ps : List (PyData × PyData)) : Prop := Paired (fun (kv : κ × V) (p : PyData × PyData) => p.1 = en kv.1 ∧ Rp K H A kv.2 p.2) kvs ps
theorem RpK.tab {K H A} : ∀ {kvs ps}, RpK K H A kvs ps → Tab kd K H A kvs ps
  | _, _, .nil => .nil
  | _, _, .cons a b => .cons ⟨rfl, a⟩ (RpK.tab b)
theorem RpT.tab {K H A} : ∀ {kvs ps}, RpT K H A kvs ps → Tab (fun k : List Key => .tuple (k.map kd)) K H A kvs ps
  | _, _, .nil => .nil
  | _, _, .cons a b => .cons ⟨rfl, a⟩ (RpT.tab b)
theorem Tab.rpK {K H A} : ∀ {kvs ps}, Tab kd K H A kvs ps → RpK K H A kvs ps
  | [], [], _ => .nil
  | (k, v) :: kvs, (e, d) :: ps, .cons ⟨h, r⟩ t => by cases h; exact .cons r (Tab.rpK t)
theorem Tab.rpT {K H A} : ∀ {kvs ps}, Tab (fun k : List Key => .tuple (k.map kd)) K H A kvs ps → RpT K H A kvs ps
  | [], [], _ => .nil
  | (k, v) :: kvs, (e, d) :: ps, .cons ⟨h, r⟩ t => by cases h; exact .cons r (Tab.rpT t)
section
variable {κ : Type} [DecidableEq κ] {en : κ → PyData} {K : PySem.W.Frag} {H : Hp} {A : Addr → Prop} (he : ∀ a b, PyData.eqv (en a) (en b) = decide (a = b))
def Hit (K : PySem.W.Frag) (H : Hp) (A : Addr → Prop) : Option V → Option PyData → Prop
  | some v, some d => Rp K H A v d
  | none, none => True
  | _, _ => False
include he
theorem Tab.find {k : κ} : ∀ {kvs ps}, Tab en K H A kvs ps → Hit K H A (valV kvs k) (dFind ps (en k))
  | [], [], _ => trivial
  | (k', v) :: kvs, (e, d) :: ps, .cons ⟨h, r⟩ t => by
    cases h
    have q := he k' k
    by_cases z : k' = k
    · rw [valV_pos z]
      unfold dFind; rw [List.find?_cons, q, decide_eq_true z]; exact r
    · rw [valV_neg z]
      unfold dFind; rw [List.find?_cons, q, decide_eq_false z]
      exact Tab.find t
theorem Tab.anyK {k : κ} : ∀ {kvs ps}, Tab en K H A kvs ps → (kvs.any fun kv => decide (kv.1 = k)) = ps.any fun kv => PyData.eqv kv.1 (en k)
  | [], [], _ => rfl
  | (k', v) :: kvs, (e, d) :: ps, .cons ⟨h, r⟩ t => by
    cases h
    rw [List.any_cons, List.any_cons, he k' k, Tab.anyK t]
theorem Tab.snoc {k : κ} {v : V} {d : PyData} (r : Rp K H A v d) : ∀ {kvs ps}, Tab en K H A kvs ps → Tab en K H A (kvs ++ [(k, v)]) (ps ++ [(en k, d)])
  | [], [], _ => .cons ⟨rfl, r⟩ .nil
  | _ :: _, _ :: _, .cons h t => .cons h (Tab.snoc r t)
theorem Tab.repl {k : κ} {v : V} {d : PyData} (r : Rp K H A v d) : ∀ {kvs ps}, Tab en K H A kvs ps → Tab en K H A (kvs.map fun kv => if kv.1 = k then (kv.1, v) else kv) (ps.map fun kv => if PyData.eqv kv.1 (en k) = true then (kv.1, d) else kv)
  | [], [], _ => .nil
  | (k', v') :: kvs, (e, d') :: ps, .cons ⟨h, r'⟩ t => by
    cases h
    have q := he k' k
    rw [List.map_cons, List.map_cons]
    refine .cons ?_ (Tab.repl r t)
    by_cases z : k' = k
    · rw [if_pos z, if_pos (by rw [q]; exact decide_eq_true z)]; exact ⟨rfl, r⟩
    · rw [if_neg z, if_neg (by rw [q, decide_eq_false z]; simp)]; exact ⟨rfl, r'⟩
theorem Tab.put {k : κ} {v : V} {d : PyData} {kvs ps} (t : Tab en K H A kvs ps) (r : Rp K H A v d) : Tab en K H A (putK kvs k v) (dPutL ps (en k) d) := by
  unfold putK dPutL
  rw [Tab.anyK he t]
  split
  · exact Tab.repl he r t
  · exact Tab.snoc he r t
end
theorem Paired.len {α β} {F : α → β → Prop} : ∀ {l : List α} {m : List β}, Paired F l m → l.length = m.length
  | _, _, .nil => rfl
  | _, _, .cons _ t => congrArg (· + 1) (Paired.len t)
theorem RpK.no {K H A kvs z ps} (h : RpK K H A kvs ((.none, z) :: ps)) : False := by
  have t := h.tab
  cases kvs with
  | nil => cases t
  | cons kv kvs => cases t with
    | cons a b =>
      have e : PyData.none = kd kv.1 := a.1
      cases q : kv.1 <;> rw [q] at e <;> cases e
/-- a key as it stands -/
theorem RpAll.keys {K H A} : ∀ {vs} {ks : List Key}, RpAll K H A vs (ks.map kd) → vs = ks.map kV
  | _, [], h => by cases h; rfl
  | _, k :: ks, h => by
    cases h with
    | cons a b =>
      have e := RpAll.keys b
      subst e
      cases k with
      | inl i => cases a; rfl
      | inr x => cases a; rfl
def keyD : Key ⊕ List Key → PyData | .inl k => kd k | .inr ks => .tuple (ks.map kd)
def KeyAt (H : Hp) (v : V) : Key ⊕ List Key → Prop
  | .inl k => v = kV k
  | .inr ks => ∃ b, v = .ref b ∧ H b = some (.tup (ks.map kV))
theorem Rw.key {K H A v d k} (r : Rw K H A v d) (h : dkOf d = some k) : KeyAt H v k ∧ d = keyD k := by
  cases d <;> simp only [dkOf, reduceCtorEq] at h
  · cases h; rw [r.int]; exact ⟨rfl, rfl⟩
  · cases h; rw [r.str]; exact ⟨rfl, rfl⟩
  · split at h
    · cases h
    · rename_i ds c
      obtain ⟨ks, h1, rfl⟩ := Option.map_eq_some_iff.mp h
      have e := ksOf_inv h1
      subst e
      obtain ⟨a, vs, rfl, s, q⟩ := r.tup
      rw [q.keys] at s
      rcases s with s | s
      · exact ⟨⟨a, rfl, s.1⟩, rfl⟩
      · exact absurd s.2 c
def fDLook : PyData → PyData → Option (Option PyData)
  | .dict ((.none, _) :: ps), k => match dkOf k with | some (.inr _) => some (dFind ps k) | _ => none
  | .dict ps, k => match dkOf k with | some (.inl _) => some (dFind ps k) | _ => none
  | _, _ => none
theorem look {K H A vx vy x y o} (rx : Rw K H A vx x) (ry : Rw K H A vy y) (h : fDLook x y = some o) : ∃ a ov, vx = .ref a ∧ DGet H a vy ov ∧ Hit K H A ov o := by
  unfold fDLook at h
  split at h
  · rename_i z ps
    split at h
    · rename_i ks hk
      cases h
      obtain ⟨⟨b, rfl, hb⟩, e⟩ := ry.key hk
      have e : y = .tuple (ks.map kd) := e
      subst e
      rcases rx with r | ⟨a, rfl, r⟩
      · cases r with
        | dk s n q => exact (RpK.no q).elim
        | dt s n q => exact ⟨_, _, rfl, .inr ⟨_, ks, b, s, rfl, hb, rfl⟩, Tab.find eqv_kt q.tab⟩
      · cases r with
        | dk s q => exact (RpK.no q).elim
        | dt s q => exact ⟨_, _, rfl, .inr ⟨_, ks, b, .inl s, rfl, hb, rfl⟩, Tab.find eqv_kt q.tab⟩
    · cases h
  · rename_i ps hn
    split at h
    · rename_i k hk
      cases h
      obtain ⟨e1, e⟩ := ry.key hk
      have e1 : vy = kV k := e1
      have e : y = kd k := e
      subst e1 e
      rcases rx with r | ⟨a, rfl, r⟩
      · cases r with
        | dk s n q => exact ⟨_, _, rfl, .inl ⟨_, k, s, rfl, rfl⟩, Tab.find eqv_kd q.tab⟩
        | dt s n q => exact absurd rfl (hn _ _)
      · cases r with
        | dk s q => exact ⟨_, _, rfl, .inl ⟨_, k, .inl s, rfl, rfl⟩, Tab.find eqv_kd q.tab⟩
        | dt s q => exact absurd rfl (hn _ _)
    · cases h
  · cases h
def fDPut : PyData → PyData → PyData → Option PyData
  | .dict ((.none, z) :: ps), k, v => match dkOf k with | some (.inr _) => if ps.length < 16777216 then some (.dict ((.none, z) :: dPutL ps k v)) else none | _ => none
  | .dict ps, k, v => match dkOf k with | some (.inl _) => if ps.length < 16777216 then some (.dict (dPutL ps k v)) else none | _ => none
  | _, _, _ => none
/-- putting into an owned dict: the object behind -/
theorem dput {K H A a vy vv x y d z} (o : OwnAt K H A a x) (ry : Rw K H A vy y) (rv : Rp K H A vv d) (h : fDPut x y d = some z) :
    ∃ u, mutb u ∧ DPut H a vy vv (upd H a u) ∧ ∀ H' A', Keeps H H' A A' → H' a = some u → OwnAt K H' A' a z := by
  unfold fDPut at h
  split at h
  · rename_i z0 ps
    split at h
    · rename_i ks hk
      split at h
      · rename_i hl
        cases h
        obtain ⟨⟨b, rfl, hb⟩, e⟩ := ry.key hk
        have e : y = .tuple (ks.map kd) := e
        subst e
        cases o with
        | dk s q => exact (RpK.no q).elim
        | @dt kvs _ s q =>
          have hl' : kvs.length < sizeLine := by rw [Paired.len q.tab]; exact hl
          refine ⟨.dT (putK kvs ks vv), trivial, .inr ⟨kvs, ks, b, s, rfl, hb, hl', rfl⟩, fun H' A' k e => .dt e (Tab.rpT (Tab.put eqv_kt (q.map k).tab (rv.map k)))⟩
      · cases h
    · cases h
  · rename_i ps hn
    split at h
    · rename_i k hk
      split at h
      · rename_i hl
        cases h
        obtain ⟨e1, e⟩ := ry.key hk
        have e1 : vy = kV k := e1
        have e : y = kd k := e
        subst e1 e
        cases o with
        | @dk kvs _ s q =>
          have hl' : kvs.length < sizeLine := by rw [Paired.len q.tab]; exact hl
          refine ⟨.dK (putK kvs k vv), trivial, .inl ⟨kvs, k, s, rfl, hl', rfl⟩, fun H' A' kp e => .dk e (Tab.rpK (Tab.put eqv_kd (q.map kp).tab (rv.map kp)))⟩
        | dt s q => exact absurd rfl (hn _ _)
      · cases h
    · cases h
  · cases h
/-! the readings by values -/
section
variable {X : Cx}
def rDIx : R2 := fun x y H Q => ∃ a v, x = .ref a ∧ DGet H a y (some v) ∧ Q v H
theorem ix_dict (hu : X.A.units + 1 < cLine) : IxR X rDIx := by
  intro value slice pins s σ H x y v u Q I rx ry h hs
  obtain ⟨a, w, rfl, g, q⟩ := h
  cases rx
  have hT := dict_typeIs I g
  unfold subscriptTail
  refine wpAny_bind ?_
  rw [getitemInPython_of_ne hT.not_modules]
  refine wpAny_bind (wpAny_specialOf hT PySem.F.slot_dict_getitem.lookup ?_)
  have fin : wpAny (model X.prog X.w) X.A (subscripted slice false (.ref a) u >>= fun r => (letTemporaryGo value (.ref a) r >>= fun _ => pure r)) (EP X pins σ Q) X.xe s := by
    refine wpAny_bind ?_
    rw [hs]
    exact wpAny_operating (wpAny_mono (d_getItem hu I g ry fun w' s' I' rw' => (⟨w, H, I', rw', q⟩ : EP X pins σ Q w' s')) (fun r s₃ h₃ => wpAny_bind (wpAny_letTemporaryGo (wpAny_pure h₃))) fun _ _ x => x)
  first
    | exact wpAny_pure fin
    | exact wpAny_bind (wpAny_pure fin)
    | exact fin
def rDIn (neg : Bool) : R2 := fun y x H Q => ∃ a o, x = .ref a ∧ DGet H a y o ∧ Q (.bl (if neg then !o.isSome else o.isSome)) H
theorem op_inD2 (hu : X.A.units + 1 < cLine) : OpR X (compareOp .In) (rDIn false) := by
  intro pins s σ H x y v u Q I rx ry h
  obtain ⟨a, o, rfl, g, q⟩ := h
  cases ry
  exact d_in hu I g rx fun s' I' => ⟨.bl _, H, I', rfl, q⟩
theorem op_notInD2 (hu : X.A.units + 1 < cLine) : OpR X (compareOp .NotIn) (rDIn true) := by
  intro pins s σ H x y v u Q I rx ry h
  obtain ⟨a, o, rfl, g, q⟩ := h
  cases ry
  exact d_notIn hu I g rx fun s' I' => ⟨.bl _, H, I', rfl, q⟩
def rDSet : V → V → V → Hp → (Hp → Prop) → Prop := fun o i v H Q => ∃ p H', o = .ref p ∧ DPut H p i v H' ∧ Q H'
theorem set_dict (hu : X.A.units + 1 < cLine) : PSet X rDSet := by
  intro pins s σ H o i v ov iv u Q I ro ri rv h
  obtain ⟨p, H', rfl, g, q⟩ := h
  cases ro
  exact d_setItem hu I g ri rv fun s' I' => ⟨H', I', q⟩
end
end SL

set_option Elab.async false
set_option linter.all false
set_option maxRecDepth 100000
set_option maxHeartbeats 4000000
/-! SL3: operators and comparisons over plain data. -/
namespace SL
open PySem PySem.Spec PyProof.Rows L2

mutual
theorem Rp.dp {K H A} : ∀ {v d}, Rp K H A v d → d.canLay0 = true → Dp K H v d
  | _, _, .non, _ => .non
  | _, _, .bl b, _ => .bl b
  | _, _, .int i, _ => .int i
  | _, _, .str x, _ => .str x
  | _, _, .lst s r, h => .lst s.sq (RpAll.dp r (by simpa [PyData.canLay0] using h))
  | _, _, .tup s r, h => .tup s.sq (RpAll.dp r (by simpa [PyData.canLay0] using h))
  | _, _, .dk _ _ _, h => by simp [PyData.canLay0] at h
  | _, _, .dt _ _ _, h => by simp [PyData.canLay0] at h
theorem RpAll.dp {K H A} : ∀ {v d}, RpAll K H A v d → PyData.canLayAll0 d = true → DpAll K H v d
  | _, _, .nil, _ => .nil
  | _, _, .cons a b, h => by
    rw [PyData.canLayAll0, Bool.and_eq_true] at h
    exact .cons (Rp.dp a h.1) (RpAll.dp b h.2)
end
theorem Rw.dp {K H A v d} (r : Rw K H A v d) (h : d.canLay0 = true) : Dp K H v d := by
  rcases r with r | ⟨a, rfl, o⟩
  · exact r.dp h
  · cases o with
    | lst x q => exact .lst (.inl (.inl x)) (q.dp (by simpa [PyData.canLay0] using h))
    | dk => simp [PyData.canLay0] at h
    | dt => simp [PyData.canLay0] at h
abbrev shp (d : PyData) : Bool := SeqAt.shaped d

/-! ### arithmetic -/
def fAdd : PyData → PyData → Option PyData
  | .int a, .int b => some (.int (a + b))
  | .str a, .str b => if a.length + b.length ≤ 16777216 then some (.str (a ++ b)) else none
  | .tuple a, .tuple b => if a.length + b.length ≤ 16777216 then some (.tuple (a ++ b)) else none
  | .list a, .list b => if a.length + b.length ≤ 16777216 then some (.list (a ++ b)) else none
  | _, _ => none
def rAddA (K : PySem.W.Frag) : R2 := fun x y H Q => (((∃ i j, x = .int i ∧ y = .int j ∧ Q (.int (i + j)) H) ∨ (∃ i j, x = .str i ∧ y = .str j ∧ i.length + j.length ≤ sizeLine ∧ Q (.str (i ++ j)) H)) ∨ rCatA K x y H Q) ∨ rCat x y H Q
theorem op_addA {X : Cx} : OpR X (binaryOp .Add) (rAddA X.K) := ((op_add.or op_add_str).or op_catA).or op_cat
theorem szl {n : Nat} (h : n ≤ 16777216) : n ≤ sizeLine := by rw [sizeLine_eq]; exact h
theorem os_add {K : PySem.W.Frag} : OpS K (rAddA K) fAdd := by
  intro H A vx vy x y z Q tr rx ry h k
  unfold fAdd at h
  split at h
  · cases h
    rw [rx.int, ry.int]
    exact .inl (.inl (.inl ⟨_, _, rfl, rfl, k _ _ (Same.refl H) (.int _)⟩))
  · split at h
    · rename_i hz; cases h
      rw [rx.str, ry.str]
      exact .inl (.inl (.inr ⟨_, _, rfl, rfl, szl hz, k _ _ (Same.refl H) (.str _)⟩))
    · cases h
  · split at h
    · rename_i hz; cases h
      obtain ⟨a, vs, rfl, s, r⟩ := rx.tup
      obtain ⟨b, us, rfl, s', r'⟩ := ry.tup
      refine .inl (.inr ⟨a, b, vs, us, rfl, rfl, s.sq, s'.sq, by rw [r.length, r'.length]; exact szl hz, fun e => ?_, fun e e' => ?_, fun e e' p np => ?_⟩)
      · subst e; cases r; exact k _ _ (Same.refl H) (.tup s' r')
      · subst e'; cases r'; exact k _ _ (Same.refl H) (by rw [List.append_nil]; exact .tup s r)
      · have sm := same_upd (o := .tup (vs ++ us)) np
        exact k _ _ sm (.tup (.inl ⟨upd_same, fun z => tr.no z np⟩) ((r.append r').map (Keeps.same sm A)))
    · cases h
  · split at h
    · rename_i hz; cases h
      obtain ⟨a, vs, rfl, s, r⟩ := rx.lst
      obtain ⟨b, us, rfl, s', r'⟩ := ry.lst
      refine .inr ⟨a, b, vs, us, rfl, rfl, s, s', by rw [r.length, r'.length]; exact szl hz, fun p np => ?_⟩
      have sm := same_upd (o := .lst (vs ++ us)) np
      exact k _ _ sm (.lst ⟨upd_same, fun z => tr.no z np⟩ ((r.append r').map (Keeps.same sm A)))
    · cases h
  · cases h
def fAddL : PyData → PyData → Option PyData
  | .list a, .list b => if a.length + b.length ≤ 16777216 then some (.list (a ++ b)) else none
  | _, _ => none
theorem keeps_new {H : Hp} {A : Addr → Prop} {p : Addr} {o : HO} (n : H p = none) : Keeps H (upd H p o) A (fun b => A b ∨ b = p) := fun b u _ r m =>
  ⟨rdSame (same_upd n) r, fun z => z.elim m fun e => by subst e; exact rdSome r n⟩
theorem of_addL {K : PySem.W.Frag} : OpF K rCat fAddL := by
  intro H A vx vy x y z Q tr rx ry h k
  unfold fAddL at h
  split at h
  · split at h
    · rename_i hz; cases h
      obtain ⟨a, vs, rfl, s, r⟩ := rx.lst
      obtain ⟨b, us, rfl, s', r'⟩ := ry.lst
      refine ⟨a, b, vs, us, rfl, rfl, s, s', by rw [r.length, r'.length]; exact szl hz, fun p np => ?_⟩
      exact k p _ np trivial (.lst upd_same ((r.append r').map (keeps_new np)))
    · cases h
  · cases h
def fI2 (g : Int → Int → Option Int) : PyData → PyData → Option PyData
  | .int a, .int b => (g a b).map .int
  | _, _ => none
theorem os_int {K : PySem.W.Frag} {C : Int → Int → Prop} {g : Int → Int → Int} {g' : Int → Int → Option Int} (h' : ∀ a b z, g' a b = some z → C a b ∧ z = g a b) : OpS K (rI C fun i j => .int (g i j)) (fI2 g') := by
  intro H A vx vy x y z Q tr rx ry h k
  unfold fI2 at h
  split at h
  · rename_i a b
    cases q : g' a b with
    | none => rw [q] at h; cases h
    | some r =>
      rw [q] at h; cases h
      rw [rx.int, ry.int]
      obtain ⟨c, rfl⟩ := h' a b r q
      exact ⟨a, b, rfl, rfl, c, k _ _ (Same.refl H) (.int _)⟩
  · cases h
def gSub' (a b : Int) : Option Int := some (a - b)
def gMul' (a b : Int) : Option Int := if a.natAbs < 2 ^ 64 ∨ b.natAbs < 2 ^ 64 then some (a * b) else none
def gDiv' (a b : Int) : Option Int := if 0 < b ∧ b < 1073741824 then some (a / b) else none
def gMod' (a b : Int) : Option Int := if 0 < b then some (a % b) else none
def gPow' (a b : Int) : Option Int := if 0 ≤ b ∧ b ≤ 1000000 ∧ a.natAbs < 2 ^ 64 then some (a ^ b.toNat) else none
theorem rI0_rI {g : Int → Int → V} : rI0 g = rI (fun _ _ => True) g := by
  funext x y H Q
  exact propext ⟨fun ⟨i, j, a, b, c⟩ => ⟨i, j, a, b, trivial, c⟩, fun ⟨i, j, a, b, _, c⟩ => ⟨i, j, a, b, c⟩⟩
theorem os_sub {K : PySem.W.Frag} : OpS K (rI0 fun i j => .int (i - j)) (fI2 gSub') := by
  rw [rI0_rI]
  exact os_int fun a b z h => by cases h; exact ⟨trivial, rfl⟩
theorem os_mul {K : PySem.W.Frag} : OpS K (rI CMul fun i j => .int (i * j)) (fI2 gMul') := os_int fun a b z h => by
  unfold gMul' at h; split at h
  · rename_i c; cases h; refine ⟨?_, rfl⟩
    unfold CMul; omega
  · cases h
theorem os_div {K : PySem.W.Frag} : OpS K (rI CDiv fun i j => .int (i / j)) (fI2 gDiv') := os_int fun a b z h => by
  unfold gDiv' at h; split at h
  · rename_i c; cases h; exact ⟨c, rfl⟩
  · cases h
theorem os_mod {K : PySem.W.Frag} : OpS K (rI (fun _ j => 0 < j) fun i j => .int (i % j)) (fI2 gMod') := os_int fun a b z h => by
  unfold gMod' at h; split at h
  · rename_i c; cases h; exact ⟨c, rfl⟩
  · cases h
theorem os_pow {K : PySem.W.Frag} : OpS K (rI CPow fun i j => .int (i ^ j.toNat)) (fI2 gPow') := os_int fun a b z h => by
  unfold gPow' at h; split at h
  · rename_i c; cases h; exact ⟨c, rfl⟩
  · cases h
/-! ### order and equality -/
def fEq : PyData → PyData → Option Bool
  | .int a, .int b => some (decide (a = b))
  | .str a, .str b => some (decide (a = b))
  | x, y => if shp x && shp y then some (PyData.eqv x y) else none
def rEqA (K : PySem.W.Frag) : R2 := fun x y H Q => rEq x y H Q ∨ rEqD K x y H Q
def rNeA (K : PySem.W.Frag) : R2 := fun x y H Q => rNe x y H Q ∨ rNeD K x y H Q
theorem op_eqA {X : Cx} (hu : X.A.units + 64 < cLine) : OpR X (compareOp .Eq) (rEqA X.K) := op_eq.or (op_eqD hu)
theorem op_neA {X : Cx} (hu : X.A.units + 64 < cLine) : OpR X (compareOp .NotEq) (rNeA X.K) := op_ne.or (op_neD hu)
theorem ob_eq {K : PySem.W.Frag} : OpB K (rEqA K) fEq := by
  intro H A vx vy x y z Q rx ry h k
  unfold fEq at h
  split at h
  · cases h; rw [rx.int, ry.int]
    exact .inl ⟨rfl, by rw [show (decide (V.int _ = V.int _)) = decide _ from decide_eq_decide.mpr ⟨V.int.inj, congrArg _⟩]; exact k⟩
  · cases h; rw [rx.str, ry.str]
    exact .inl ⟨rfl, by rw [show (decide (V.str _ = V.str _)) = decide _ from decide_eq_decide.mpr ⟨V.str.inj, congrArg _⟩]; exact k⟩
  · split at h
    · rename_i c; cases h
      rw [Bool.and_eq_true] at c
      exact .inr ⟨x, y, rx.dp (SeqAt.canLay_of_shaped c.1), ry.dp (SeqAt.canLay_of_shaped c.2), c.1, c.2, k⟩
    · cases h
def fNe (x y : PyData) : Option Bool := (fEq x y).map (!·)
theorem ob_ne {K : PySem.W.Frag} : OpB K (rNeA K) fNe := by
  intro H A vx vy x y z Q rx ry h k
  unfold fNe at h
  cases q : fEq x y with
  | none => rw [q] at h; cases h
  | some b =>
    rw [q] at h; cases h
    unfold fEq at q
    split at q
    · cases q; rw [rx.int, ry.int]
      exact .inl ⟨rfl, by rw [show (decide (V.int _ = V.int _)) = decide _ from decide_eq_decide.mpr ⟨V.int.inj, congrArg _⟩]; exact k⟩
    · cases q; rw [rx.str, ry.str]
      exact .inl ⟨rfl, by rw [show (decide (V.str _ = V.str _)) = decide _ from decide_eq_decide.mpr ⟨V.str.inj, congrArg _⟩]; exact k⟩
    · split at q
      · rename_i c; cases q
        rw [Bool.and_eq_true] at c
        exact .inr ⟨x, y, rx.dp (SeqAt.canLay_of_shaped c.1), ry.dp (SeqAt.canLay_of_shaped c.2), c.1, c.2, k⟩
      · cases q
/-- < for alike data -/
def notN : PyData → Bool | .none => false | _ => true
def fLt : PyData → PyData → Option Bool
  | .int a, .int b => some (decide (a < b))
  | x, y => if shp x && shp y && PySem.W.alike x y && notN x then some (PySem.W.dataLt x y) else none
def rOrd (K : PySem.W.Frag) (f : PyData → PyData → Option Bool) (x y : V) (H : Hp) (Q : VK) : Prop := ∃ d e b, Dp K H x d ∧ Dp K H y e ∧ SeqAt.shaped d = true ∧ SeqAt.shaped e = true ∧ PySem.W.alike d e = true ∧ d ≠ .none ∧ f d e = some b ∧ Q (.bl b) H
theorem op_ord {X : Cx} {op : CmpOp} {f : PyData → PyData → Bool} (hu : X.A.units + 64 < cLine)
    (rule : ∀ {s : Shared} {a b : Value} {da db : PyData} {as bs : List Addr} {Q E : Value → Shared → Prop}, Reads s.heap a da as → Reads s.heap b db bs → PySem.W.alike da db = true → da ≠ .none → X.A.units + min da.depth db.depth < cLine → Q (.bool (f da db)) s → wpAny (model X.prog X.w) X.A (compareOp op a b) Q E s) :
    OpR X (compareOp op) (rOrd X.K fun d e => some (f d e)) := by
  intro pins s σ H x y v u Q I rx ry h
  obtain ⟨d, e, b, hd, he, sd, se, al, nn, q, k⟩ := h
  cases q
  obtain ⟨as, r1⟩ := Dp.reads I d x v hd rx
  obtain ⟨bs, r2⟩ := Dp.reads I e y u he ry
  exact rule r1 r2 al nn (SeqAt.room_of_shaped sd hu) ⟨.bl _, H, I, rfl, k⟩
def rLtA (K : PySem.W.Frag) : R2 := fun x y H Q => (rI0 fun i j => .bl (decide (i < j))) x y H Q ∨ rOrd K (fun d e => some (PySem.W.dataLt d e)) x y H Q
def rGtA (K : PySem.W.Frag) : R2 := fun x y H Q => (rI0 fun i j => .bl (decide (j < i))) x y H Q ∨ rOrd K (fun d e => some (PySem.W.dataLt e d)) x y H Q
def rLeA (K : PySem.W.Frag) : R2 := fun x y H Q => (rI0 fun i j => .bl (decide (i ≤ j))) x y H Q ∨ rOrd K (fun d e => some (!PySem.W.dataLt e d)) x y H Q
def rGeA (K : PySem.W.Frag) : R2 := fun x y H Q => (rI0 fun i j => .bl (decide (j ≤ i))) x y H Q ∨ rOrd K (fun d e => some (!PySem.W.dataLt d e)) x y H Q
section
variable {X : Cx} (hu : X.A.units + 64 < cLine)
include hu
theorem op_ltA : OpR X (compareOp .Lt) (rLtA X.K) := op_lt.or (op_ord (f := fun d e => PySem.W.dataLt d e) hu fun a b c d e q => PySem.W.lt_data a b c d e q)
theorem op_gtA : OpR X (compareOp .Gt) (rGtA X.K) := op_gt.or (op_ord (f := fun d e => PySem.W.dataLt e d) hu fun a b c d e q => PySem.W.gt_data a b c d e q)
theorem op_leA : OpR X (compareOp .LtE) (rLeA X.K) := op_le.or (op_ord (f := fun d e => !PySem.W.dataLt e d) hu fun a b c d e q => PySem.W.le_data a b c d e q)
theorem op_geA : OpR X (compareOp .GtE) (rGeA X.K) := op_ge.or (op_ord (f := fun d e => !PySem.W.dataLt d e) hu fun a b c d e q => PySem.W.ge_data a b c d e q)
end
theorem lt_inv {x y : PyData} {b} (h : fLt x y = some b) : (∃ i j, x = .int i ∧ y = .int j ∧ b = decide (i < j)) ∨ (SeqAt.shaped x = true ∧ SeqAt.shaped y = true ∧ PySem.W.alike x y = true ∧ x ≠ .none ∧ b = PySem.W.dataLt x y) := by
  unfold fLt at h
  split at h
  · cases h; exact .inl ⟨_, _, rfl, rfl, rfl⟩
  · split at h
    · rename_i c; cases h
      simp only [Bool.and_eq_true] at c
      exact .inr ⟨c.1.1.1, c.1.1.2, c.1.2, fun z => (by have c2 := c.2; rw [z] at c2; cases c2), rfl⟩
    · cases h
theorem ob_lt {K : PySem.W.Frag} : OpB K (rLtA K) fLt := by
  intro H A vx vy x y z Q rx ry h k
  rcases lt_inv h with ⟨i, j, rfl, rfl, rfl⟩ | ⟨a, b, c, d, rfl⟩
  · rw [rx.int, ry.int]; exact .inl ⟨_, _, rfl, rfl, k⟩
  · exact .inr ⟨x, y, _, rx.dp (SeqAt.canLay_of_shaped a), ry.dp (SeqAt.canLay_of_shaped b), a, b, c, d, rfl, k⟩
theorem some_none {x y : PyData} (h : PySem.W.alike x y = true) (d : y ≠ .none) : x ≠ .none := PySem.W.ne_none_both (by rw [PySem.W.alike_comm]; exact h) d
def fGt (x y : PyData) : Option Bool := fLt y x
theorem ob_gt {K : PySem.W.Frag} : OpB K (rGtA K) fGt := by
  intro H A vx vy x y z Q rx ry h k
  rcases lt_inv h with ⟨i, j, rfl, rfl, rfl⟩ | ⟨a, b, c, d, rfl⟩
  · rw [rx.int, ry.int]; exact .inl ⟨_, _, rfl, rfl, k⟩
  · have c' : PySem.W.alike x y = true := by rw [PySem.W.alike_comm]; exact c
    exact .inr ⟨x, y, _, rx.dp (SeqAt.canLay_of_shaped b), ry.dp (SeqAt.canLay_of_shaped a), b, a, c', some_none c' d, rfl, k⟩
def fLe (x y : PyData) : Option Bool := match x, y with
  | .int a, .int b => some (decide (a ≤ b))
  | x, y => (fLt y x).map (!·)
theorem le_inv {x y : PyData} {b} (h : fLe x y = some b) : (∃ i j, x = .int i ∧ y = .int j ∧ b = decide (i ≤ j)) ∨ (SeqAt.shaped x = true ∧ SeqAt.shaped y = true ∧ PySem.W.alike x y = true ∧ x ≠ .none ∧ b = !PySem.W.dataLt y x) := by
  unfold fLe at h
  split at h
  · cases h; exact .inl ⟨_, _, rfl, rfl, rfl⟩
  · rename_i hn
    cases q : fLt y x with
    | none => rw [q] at h; cases h
    | some b =>
      rw [q] at h; cases h
      rcases lt_inv q with ⟨i, j, rfl, rfl, rfl⟩ | ⟨a, b, c, d, rfl⟩
      · exact (hn _ _ rfl rfl).elim
      · have c' : PySem.W.alike x y = true := by rw [PySem.W.alike_comm]; exact c
        exact .inr ⟨b, a, c', some_none c' d, rfl⟩
theorem ob_le {K : PySem.W.Frag} : OpB K (rLeA K) fLe := by
  intro H A vx vy x y z Q rx ry h k
  rcases le_inv h with ⟨i, j, rfl, rfl, rfl⟩ | ⟨a, b, c, d, rfl⟩
  · rw [rx.int, ry.int]; exact .inl ⟨_, _, rfl, rfl, k⟩
  · exact .inr ⟨x, y, _, rx.dp (SeqAt.canLay_of_shaped a), ry.dp (SeqAt.canLay_of_shaped b), a, b, c, d, rfl, k⟩
def fGe (x y : PyData) : Option Bool := fLe y x
theorem ob_ge {K : PySem.W.Frag} : OpB K (rGeA K) fGe := by
  intro H A vx vy x y z Q rx ry h k
  rcases le_inv h with ⟨i, j, rfl, rfl, rfl⟩ | ⟨a, b, c, d, rfl⟩
  · rw [rx.int, ry.int]; exact .inl ⟨_, _, rfl, rfl, k⟩
  · have c' : PySem.W.alike x y = true := by rw [PySem.W.alike_comm]; exact c
    exact .inr ⟨x, y, _, rx.dp (SeqAt.canLay_of_shaped b), ry.dp (SeqAt.canLay_of_shaped a), b, a, c', some_none c' d, rfl, k⟩
/-! ### in -/
def rInS (K : PySem.W.Frag) (neg : Bool) : R2 := fun x y H Q => ∃ d ds, Dp K H x d ∧ (Dp K H y (.list ds) ∨ Dp K H y (.tuple ds)) ∧ SeqAt.shaped d = true ∧ SeqAt.shaped (.list ds) = true ∧ Q (.bl (if neg then !(ds.any fun z => PyData.eqv z d) else ds.any fun z => PyData.eqv z d)) H
theorem op_inS {X : Cx} (hu : X.A.units + 65 < cLine) : OpR X (compareOp .In) (rInS X.K false) := by
  intro pins s σ H x y v u Q I rx ry h
  obtain ⟨d, ds, hd, he, sd, se, q⟩ := h
  obtain ⟨as, r1⟩ := Dp.reads I d x v hd rx
  rcases he with he | he
  · obtain ⟨bs, r2⟩ := Dp.reads I (.list ds) y u he ry
    exact SeqAt.in_list_reads r2 r1 (SeqAt.canLay_of_shaped se) (SeqAt.canLay_of_shaped sd) (room_in_shaped sd hu) ⟨.bl _, H, I, rfl, q⟩
  · obtain ⟨bs, r2⟩ := Dp.reads I (.tuple ds) y u he ry
    exact SeqAt.in_tuple_reads r2 r1 (SeqAt.canLay_of_shaped se) (SeqAt.canLay_of_shaped sd) (room_in_shaped sd hu) ⟨.bl _, H, I, rfl, q⟩
theorem op_notInS {X : Cx} (hu : X.A.units + 65 < cLine) : OpR X (compareOp .NotIn) (rInS X.K true) := by
  intro pins s σ H x y v u Q I rx ry h
  obtain ⟨d, ds, hd, he, sd, se, q⟩ := h
  obtain ⟨as, r1⟩ := Dp.reads I d x v hd rx
  rcases he with he | he
  · obtain ⟨bs, r2⟩ := Dp.reads I (.list ds) y u he ry
    exact SeqAt.notIn_list_reads r2 r1 (SeqAt.canLay_of_shaped se) (SeqAt.canLay_of_shaped sd) (room_in_shaped sd hu) ⟨.bl _, H, I, rfl, q⟩
  · obtain ⟨bs, r2⟩ := Dp.reads I (.tuple ds) y u he ry
    exact SeqAt.notIn_tuple_reads r2 r1 (SeqAt.canLay_of_shaped se) (SeqAt.canLay_of_shaped sd) (room_in_shaped sd hu) ⟨.bl _, H, I, rfl, q⟩
def seqOf : PyData → Option (List PyData) | .list ds => some ds | .tuple ds => some ds | _ => none
def fInS (x y : PyData) : Option Bool := (seqOf y).bind fun ds => if shp x && shp (.list ds) then some (ds.any fun z => PyData.eqv z x) else none
def fNotInS (x y : PyData) : Option Bool := (fInS x y).map (!·)
theorem in_inv {x y : PyData} {b} (h : fInS x y = some b) : ∃ ds, (y = .list ds ∨ y = .tuple ds) ∧ SeqAt.shaped x = true ∧ SeqAt.shaped (.list ds) = true ∧ b = ds.any fun z => PyData.eqv z x := by
  unfold fInS at h
  cases y <;> simp only [seqOf, Option.bind_none, Option.bind_some, reduceCtorEq] at h
  all_goals
    split at h
    · rename_i c; cases h
      rw [Bool.and_eq_true] at c
      exact ⟨_, by first | exact .inl rfl | exact .inr rfl, c.1, c.2, rfl⟩
    · cases h
theorem Rw.seq {K H A v ds y} (r : Rw K H A v y) (e : y = .list ds ∨ y = .tuple ds) (h : SeqAt.shaped (.list ds) = true) : Dp K H v (.list ds) ∨ Dp K H v (.tuple ds) := by
  have c := SeqAt.canLay_of_shaped h
  rcases e with rfl | rfl
  · exact .inl (r.dp c)
  · exact .inr (r.dp (by simpa [PyData.canLay0] using c))
theorem ob_inS {K : PySem.W.Frag} : OpB K (rInS K false) fInS := by
  intro H A vx vy x y z Q rx ry h k
  obtain ⟨ds, e, a, b, rfl⟩ := in_inv h
  exact ⟨x, ds, rx.dp (SeqAt.canLay_of_shaped a), ry.seq e b, a, b, k⟩
theorem ob_notInS {K : PySem.W.Frag} : OpB K (rInS K true) fNotInS := by
  intro H A vx vy x y z Q rx ry h k
  unfold fNotInS at h
  cases q : fInS x y with
  | none => rw [q] at h; cases h
  | some b =>
    rw [q] at h; cases h
    obtain ⟨ds, e, a, b, rfl⟩ := in_inv q
    exact ⟨x, ds, rx.dp (SeqAt.canLay_of_shaped a), ry.seq e b, a, b, k⟩
def fIn (x y : PyData) : Option Bool := match y with | .dict ps => (fDLook (.dict ps) x).map (·.isSome) | y => fInS x y
def fNotIn (x y : PyData) : Option Bool := (fIn x y).map (!·)
def rInA (K : PySem.W.Frag) (neg : Bool) : R2 := fun x y H Q => rInS K neg x y H Q ∨ rDIn neg x y H Q
theorem op_inA {X : Cx} (hu : X.A.units + 65 < cLine) : OpR X (compareOp .In) (rInA X.K false) := (op_inS hu).or (op_inD2 (by omega))
theorem op_notInA {X : Cx} (hu : X.A.units + 65 < cLine) : OpR X (compareOp .NotIn) (rInA X.K true) := (op_notInS hu).or (op_notInD2 (by omega))
theorem hit_some {K H A ov o} (h : Hit K H A ov o) : ov.isSome = o.isSome := by cases ov <;> cases o <;> first | rfl | exact h.elim
theorem ob_in {K : PySem.W.Frag} : OpB K (rInA K false) fIn := by
  intro H A vx vy x y z Q rx ry h k
  unfold fIn at h
  split at h
  · obtain ⟨o, h1, rfl⟩ := Option.map_eq_some_iff.mp h
    obtain ⟨a, ov, e, g, hit⟩ := look ry rx h1
    exact .inr ⟨a, ov, e, g, by rw [← hit_some hit] at k; exact k⟩
  · exact .inl (ob_inS H A vx vy x y z Q rx ry h k)
theorem ob_notIn {K : PySem.W.Frag} : OpB K (rInA K true) fNotIn := by
  intro H A vx vy x y z Q rx ry h k
  unfold fNotIn fIn at h
  split at h
  · obtain ⟨b, h0, rfl⟩ := Option.map_eq_some_iff.mp h
    obtain ⟨o, h1, rfl⟩ := Option.map_eq_some_iff.mp h0
    obtain ⟨a, ov, e, g, hit⟩ := look ry rx h1
    exact .inr ⟨a, ov, e, g, by rw [← hit_some hit] at k; exact k⟩
  · exact .inl (ob_notInS H A vx vy x y z Q rx ry h k)
/-! ### comparisons as tests and values -/
section
variable {X : Cx} {a b c : Expr} {da db dc : M PyData} {pos : Pos}
theorem se_cmp {w : Bool} {op : CmpOp} {r : R2} {f} (ho : OpR X (compareOp op) r) (hs : OpB X.K r f) (ha : PE X a (rdV w X.K da)) (hb : SW X b db) (hl : Lf w db) (hm : behindInMarks op b = false) : SE X (.Compare a [op] [b] pos) (vB (t2 f da db)) :=
  PE.imp (pe_cmpR ho ha hb hm) fun σ H Q ⟨env, os, G, z, env', R, q, k⟩ => by
    obtain ⟨x, e1, q1, q2⟩ := bnd_inv q
    cases q2
    exact two hl R q1 fun H2 os2 vx vy x y x2 R2 px py q3 => hs H2 _ vx vy x y _ Q px py q3 (k H2 os2 _ x2 R2 (.inl (.bl _)))
theorem st_cmp {w : Bool} {op : CmpOp} {r : R2} {f} (ho : OpR X (compareOp op) r) (hs : OpB X.K r f) (ha : PE X a (rdV w X.K da)) (hb : SW X b db) (hl : Lf w db) (hm : behindInMarks op b = false) : ST X (.Compare a [op] [b] pos) (t2 f da db) :=
  PT.imp (pt_cmpR ho ha hb hm) fun σ H Q ⟨env, os, G, z, env', R, q, k⟩ =>
    two hl R q fun H2 os2 vx vy x y x2 R2 px py q3 => hs H2 _ vx vy x y z _ px py q3 ⟨_, rfl, k H2 os2 x2 R2⟩
/-- a op b op' c -/
def t3 (f f' : PyData → PyData → Option Bool) (da db dc : M PyData) : M Bool := bnd da fun x => bnd db fun y => bnd (lft (f x y)) fun k => if k = true then bnd dc fun z => lft (f' y z) else ret false
theorem chain_rd {K : PySem.W.Frag} {w : Bool} {r r' : R2} {f f'} (hs : OpB K r f) (hs' : OpB K r' f') (hl : Lf w db) (hl' : Lf true dc) {σ H env os G z env'} {Q : VK} (R : Rel K H env σ os G) (q : t3 f f' da db dc env = some (z, env'))
    (k : ∀ H2 os2, Ext os os2 H H2 → Rel K H2 env' σ os2 G → Q (.bl z) H2) : tChain r r' (rdV w K da) (rdV true K db) (rdV true K dc) σ H Q := by
  obtain ⟨x, e1, q1, q⟩ := bnd_inv q
  obtain ⟨y, e2, q2, q⟩ := bnd_inv q
  obtain ⟨b, e3, q3, q⟩ := bnd_inv q
  obtain ⟨q6, rfl⟩ := lft_inv q3
  refine ⟨env, os, G, x, e1, R, q1, fun H1 os1 vx x1 R1 p1 => ⟨e1, os1, G, y, e3, R1, q2, fun H2 os2 vy x2 R2 p2 => ?_⟩⟩
  have px : Rw K H2 (Av os2 G.Fr) vx x := by
    rcases hl with rfl | hp
    · exact .inl (p1.strong.ext x2)
    · have := hp _ _ _ q2
      subst this
      exact (p1.ext x2).rw R2
  refine hs H2 _ vx vy x y b _ px (p2.rw R2) q6 ⟨b, rfl, ?_⟩
  cases b with
  | false =>
    rw [if_neg Bool.false_ne_true] at q ⊢
    cases q
    exact k H2 os2 (x1.trans x2) R2
  | true =>
    rw [if_pos rfl] at q ⊢
    obtain ⟨u, e4, q4, q⟩ := bnd_inv q
    obtain ⟨q5, rfl⟩ := lft_inv q
    refine ⟨e3, os2, G, u, env', R2, q4, fun H3 os3 vz x3 R3 p3 => ?_⟩
    have py : Rw K H3 (Av os3 G.Fr) vy y := by
      rcases hl' with h | hp
      · cases h
      · have := hp _ _ _ q4
        subst this
        exact (p2.ext x3).rw R3
    exact hs' H3 _ vy vz y u z Q py (p3.rw R3) q5 (k H3 os3 ((x1.trans x2).trans x3) R3)
theorem se_chain {w : Bool} {op op' : CmpOp} {r r' : R2} {f f'} (ho : OpR X (compareOp op) r) (ho' : OpR X (compareOp op') r') (hs : OpB X.K r f) (hs' : OpB X.K r' f') (ha : PE X a (rdV w X.K da)) (hb : SW X b db) (hc : SW X c dc) (hl : Lf w db) (hl' : Lf true dc)
    (hm : lastMarks [op, op'] [b, c] = false := by with_unfolding_all rfl) : SE X (.Compare a [op, op'] [b, c] pos) (vB (t3 f f' da db dc)) :=
  PE.imp (pe_chain ho ho' ha hb hc hm) fun σ H Q ⟨env, os, G, z, env', R, q, k⟩ => by
    obtain ⟨x, e1, q1, q2⟩ := bnd_inv q
    cases q2
    exact chain_rd hs hs' hl hl' R q1 fun H2 os2 x2 R2 => k H2 os2 _ x2 R2 (.inl (.bl _))
theorem st_chain {w : Bool} {op op' : CmpOp} {r r' : R2} {f f'} (ho : OpR X (compareOp op) r) (ho' : OpR X (compareOp op') r') (hs : OpB X.K r f) (hs' : OpB X.K r' f') (ha : PE X a (rdV w X.K da)) (hb : SW X b db) (hc : SW X c dc) (hl : Lf w db) (hl' : Lf true dc)
    (hm : lastMarks [op, op'] [b, c] = false := by with_unfolding_all rfl) : ST X (.Compare a [op, op'] [b, c] pos) (t3 f f' da db dc) :=
  PT.imp (pt_chain ho ho' ha hb hc hm) fun σ H Q ⟨env, os, G, z, env', R, q, k⟩ =>
    chain_rd hs hs' hl hl' R q fun H2 os2 x2 R2 => ⟨_, rfl, k H2 os2 x2 R2⟩
end
end SL

set_option Elab.async false
set_option linter.all false
set_option maxRecDepth 100000
set_option maxHeartbeats 4000000
/-! SL4: truth, subscripts, displays, calls of builtins. -/
namespace SL
open PySem PySem.Spec PyProof.Rows L2

section
variable {X : Cx} {a b c e o : Expr} {es rest : List Expr} {da db dc d : M PyData} {ta tb : M Bool} {pos : Pos}
/-! ### is None -/
def isNon : PyData → Bool | .none => true | _ => false
theorem Rw.isNon {K H A v d} (r : Rw K H A v d) : decide (v = .non) = isNon d := by
  rcases r with r | ⟨a, rfl, o⟩
  · cases r <;> first | rfl | exact decide_eq_false (fun z => nomatch z)
  · cases o <;> exact decide_eq_false (fun z => nomatch z)
def tIsNon (da : M PyData) : M Bool := bnd da fun x => ret (isNon x)
def tIsNot (da : M PyData) : M Bool := bnd da fun x => ret (!isNon x)
theorem se_isN {j pos'} (ha : SW X a da) : SE X (.Compare a [.Is] [.Constant .none j pos'] pos) (vB (tIsNon da)) := PE.imp (pe_cmp (pc_isN ha)) fun σ H Q ⟨env, os, G, z, env', R, q, k⟩ => by
  obtain ⟨x, e1, q1, q2⟩ := bnd_inv q
  cases q2
  obtain ⟨y, e2, q3, q4⟩ := bnd_inv q1
  cases q4
  exact ⟨env, os, G, y, env', R, q3, fun H' os' v x R' p => k H' os' _ x R' (.inl (by rw [(p.rw R').isNon]; exact .bl _))⟩
theorem se_notN {j pos'} (ha : SW X a da) : SE X (.Compare a [.IsNot] [.Constant .none j pos'] pos) (vB (tIsNot da)) := PE.imp (pe_cmp (pc_notN ha)) fun σ H Q ⟨env, os, G, z, env', R, q, k⟩ => by
  obtain ⟨x, e1, q1, q2⟩ := bnd_inv q
  cases q2
  obtain ⟨y, e2, q3, q4⟩ := bnd_inv q1
  cases q4
  exact ⟨env, os, G, y, env', R, q3, fun H' os' v x R' p => k H' os' _ x R' (.inl (by rw [(p.rw R').isNon]; exact .bl _))⟩
theorem st_isN {j pos'} (ha : SW X a da) : ST X (.Compare a [.Is] [.Constant .none j pos'] pos) (tIsNon da) := PT.imp (pt_cmp (pc_isN ha)) fun σ H Q ⟨env, os, G, z, env', R, q, k⟩ => by
  obtain ⟨y, e2, q3, q4⟩ := bnd_inv q
  cases q4
  exact ⟨env, os, G, y, env', R, q3, fun H' os' v x R' p => ⟨_, rfl, by rw [(p.rw R').isNon]; exact k H' os' x R'⟩⟩
theorem st_notN {j pos'} (ha : SW X a da) : ST X (.Compare a [.IsNot] [.Constant .none j pos'] pos) (tIsNot da) := PT.imp (pt_cmp (pc_notN ha)) fun σ H Q ⟨env, os, G, z, env', R, q, k⟩ => by
  obtain ⟨y, e2, q3, q4⟩ := bnd_inv q
  cases q4
  exact ⟨env, os, G, y, env', R, q3, fun H' os' v x R' p => ⟨_, rfl, by rw [(p.rw R').isNon]; exact k H' os' x R'⟩⟩
/-! ### and, or, not, if -/
def boolOf : PyData → Option Bool | .bool b => some b | _ => none
theorem boolOf_inv {x b} (h : boolOf x = some b) : x = .bool b := by cases x <;> simp [boolOf] at h; rw [h]
def tVal (d : M PyData) : M Bool := bnd d fun x => lft (boolOf x)
theorem st_val (h : SE X e d) (he : ∀ whole, isTrue e X.env whole = (do let v ← whole; standAt e.pos; holding [v] (truthy v)) := by intro _; rfl) : ST X e (tVal d) := PT.imp (pt_val h he) fun σ H Q ⟨env, os, G, z, env', R, q, k⟩ => by
  obtain ⟨y, e2, q3, q4⟩ := bnd_inv q
  obtain ⟨q5, rfl⟩ := lft_inv q4
  have := boolOf_inv q5; subst this
  exact ⟨env, os, G, _, env', R, q3, fun H' os' v x R' p => ⟨z, (Rw.bool (.inl p.strong)), k H' os' x R'⟩⟩
def tAnd2 (ta tb : M Bool) : M Bool := bnd ta fun c => if c = true then tb else ret false
def tOr2 (ta tb : M Bool) : M Bool := bnd ta fun c => if c = true then ret true else tb
def tNot1 (ta : M Bool) : M Bool := bnd ta fun c => ret (!c)
abbrev SPW (X : Cx) (e : Expr) (d : M Bool) : Prop := PW X e (rdT X.K d)
theorem PW.imp {t t'} (h : PW X e t) (f : ∀ σ H Q, t' σ H Q → t σ H Q) : PW X e t' := ⟨fun w pins s σ H Q I q => h.run w pins s σ H Q I (f _ _ _ q)⟩
theorem sw_and1 (ha : ST X a ta) : SPW X (.BoolOp .And [a] pos) ta := pw_and1 ha
theorem sw_or1 (ha : ST X a ta) : SPW X (.BoolOp .Or [a] pos) ta := pw_or1 ha
theorem sw_and (ha : ST X a ta) (hb : SPW X (.BoolOp .And (b :: rest) pos) tb) : SPW X (.BoolOp .And (a :: b :: rest) pos) (tAnd2 ta tb) := PW.imp (pw_and ha hb) fun σ H Q ⟨env, os, G, z, env', R, q, k⟩ => by
  obtain ⟨y, e2, q3, q4⟩ := bnd_inv q
  refine ⟨env, os, G, y, e2, R, q3, fun H' os' x R' => ?_⟩
  cases y with
  | true => exact ⟨e2, os', G, z, env', R', q4, fun H2 os2 x2 R2 => k H2 os2 (x.trans x2) R2⟩
  | false => cases q4; exact k H' os' x R'
theorem sw_or (ha : ST X a ta) (hb : SPW X (.BoolOp .Or (b :: rest) pos) tb) : SPW X (.BoolOp .Or (a :: b :: rest) pos) (tOr2 ta tb) := PW.imp (pw_or ha hb) fun σ H Q ⟨env, os, G, z, env', R, q, k⟩ => by
  obtain ⟨y, e2, q3, q4⟩ := bnd_inv q
  refine ⟨env, os, G, y, e2, R, q3, fun H' os' x R' => ?_⟩
  cases y with
  | false => exact ⟨e2, os', G, z, env', R', q4, fun H2 os2 x2 R2 => k H2 os2 (x.trans x2) R2⟩
  | true => cases q4; exact k H' os' x R'
theorem st_bo {op} (h : SPW X (.BoolOp op es pos) ta) : ST X (.BoolOp op es pos) ta := h.pt
theorem st_not (ha : ST X a ta) : ST X (.UnaryOp .Not a pos) (tNot1 ta) := PT.imp (pt_not ha) fun σ H Q ⟨env, os, G, z, env', R, q, k⟩ => by
  obtain ⟨y, e2, q3, q4⟩ := bnd_inv q
  cases q4
  exact ⟨env, os, G, y, env', R, q3, fun H' os' x R' => k H' os' x R'⟩
def dAnd (da db : M PyData) : M PyData := bnd (tVal da) fun c => if c = true then db else ret (.bool false)
def dOr (da db : M PyData) : M PyData := bnd (tVal da) fun c => if c = true then ret (.bool true) else db
def dNot (da : M PyData) : M PyData := bnd (tVal da) fun c => ret (.bool (!c))
theorem se_one {op} (h : SE X a d) : SE X (.BoolOp op [a] pos) d := pe_one h
theorem val_inv {env z env'} (q : tVal d env = some (z, env')) : d env = some (.bool z, env') := by
  obtain ⟨y, e2, q3, q4⟩ := bnd_inv q
  obtain ⟨q5, rfl⟩ := lft_inv q4
  have := boolOf_inv q5; subst this
  exact q3
theorem se_and (ha : SE X a da) (hb : SE X (.BoolOp .And (b :: rest) pos) db) : SE X (.BoolOp .And (a :: b :: rest) pos) (dAnd da db) := PE.imp (pe_and ha hb) fun σ H Q ⟨env, os, G, z, env', R, q, k⟩ => by
  obtain ⟨y, e2, q3, q4⟩ := bnd_inv q
  refine ⟨env, os, G, _, e2, R, val_inv q3, fun H' os' v x R' p => ⟨y, Rw.bool (.inl p.strong), ?_⟩⟩
  cases y with
  | true => exact ⟨e2, os', G, z, env', R', q4, fun H2 os2 v2 x2 R2 p2 => k H2 os2 v2 (x.trans x2) R2 p2⟩
  | false => cases q4; exact k H' os' _ x R' (.inl (.bl _))
theorem se_or (ha : SE X a da) (hb : SE X (.BoolOp .Or (b :: rest) pos) db) : SE X (.BoolOp .Or (a :: b :: rest) pos) (dOr da db) := PE.imp (pe_or ha hb) fun σ H Q ⟨env, os, G, z, env', R, q, k⟩ => by
  obtain ⟨y, e2, q3, q4⟩ := bnd_inv q
  refine ⟨env, os, G, _, e2, R, val_inv q3, fun H' os' v x R' p => ⟨y, Rw.bool (.inl p.strong), ?_⟩⟩
  cases y with
  | false => exact ⟨e2, os', G, z, env', R', q4, fun H2 os2 v2 x2 R2 p2 => k H2 os2 v2 (x.trans x2) R2 p2⟩
  | true => cases q4; exact k H' os' _ x R' (.inl (.bl _))
theorem se_not (ha : SE X a da) : SE X (.UnaryOp .Not a pos) (dNot da) := PE.imp (pe_not ha) fun σ H Q ⟨env, os, G, z, env', R, q, k⟩ => by
  obtain ⟨y, e2, q3, q4⟩ := bnd_inv q
  cases q4
  exact ⟨env, os, G, _, env', R, val_inv q3, fun H' os' v x R' p => ⟨y, Rw.bool (.inl p.strong), k H' os' _ x R' (.inl (.bl _))⟩⟩
def dIf (tc : M Bool) (da db : M PyData) : M PyData := bnd tc fun c => if c = true then da else db
theorem se_if (hc : ST X c ta) (ha : SE X a da) (hb : SE X b db) : SE X (.IfExp c a b pos) (dIf ta da db) := PE.imp (pe_ifExp hc ha hb) fun σ H Q ⟨env, os, G, z, env', R, q, k⟩ => by
  obtain ⟨y, e2, q3, q4⟩ := bnd_inv q
  refine ⟨env, os, G, y, e2, R, q3, fun H' os' x R' => ?_⟩
  cases y with
  | true => exact ⟨e2, os', G, z, env', R', q4, fun H2 os2 v2 x2 R2 p2 => k H2 os2 v2 (x.trans x2) R2 p2⟩
  | false => exact ⟨e2, os', G, z, env', R', q4, fun H2 os2 v2 x2 R2 p2 => k H2 os2 v2 (x.trans x2) R2 p2⟩
/-! ### one place -/
def fNeg : PyData → Option PyData | .int i => some (.int (-i)) | _ => none
theorem se_neg (ha : SE X a da) : SE X (.UnaryOp .USub a pos) (d1 fNeg da) := PE.imp (pe_un un_neg ha) fun σ H Q ⟨env, os, G, z, env', R, q, k⟩ => by
  obtain ⟨y, e2, q3, q4⟩ := bnd_inv q
  obtain ⟨q5, rfl⟩ := lft_inv q4
  refine ⟨env, os, G, y, env', R, q3, fun H' os' v x R' p => ?_⟩
  cases y with
  | int i => cases q5; exact ⟨i, Rw.int (.inl p.strong), k H' os' _ x R' (.inl (.int _))⟩
  | _ => cases q5
/-! ### subscripts -/
def fIx : PyData → PyData → Option PyData
  | .list ds, .int i => atI ds i
  | .tuple ds, .int i => atI ds i
  | .str z, .int i => if z.length ≤ 16777216 then (atI z.cps.toList i).map fun c => .str ⟨#[c]⟩ else none
  | _, _ => none
def fIxD (x y : PyData) : Option PyData := match x with | .dict ps => (fDLook (.dict ps) y).bind id | x => fIx x y
theorem RpAll.atI {K H A vs ds i d} (r : RpAll K H A vs ds) (h : atI ds i = some d) : ∃ v, L2.atI vs i = some v ∧ Rp K H A v d := by
  unfold L2.atI at h ⊢
  rw [r.length]
  cases q : ixN ds.length i with
  | none => rw [q] at h; cases h
  | some j => rw [q] at h; exact r.get h
theorem os_ix {K : PySem.W.Frag} : OpS K (rIx K) fIx := by
  intro H A vx vy x y z Q tr rx ry h k
  unfold fIx at h
  split at h
  · obtain ⟨a, vs, rfl, s, r⟩ := rx.lst
    obtain ⟨v, e, p⟩ := r.atI h
    exact .inl ⟨a, vs, _, v, rfl, ry.int, .inl (.inl s), e, k H v (Same.refl H) p⟩
  · obtain ⟨a, vs, rfl, s, r⟩ := rx.tup
    obtain ⟨v, e, p⟩ := r.atI h
    exact .inr (.inl ⟨a, vs, _, v, rfl, ry.int, s.sq, e, k H v (Same.refl H) p⟩)
  · split at h
    · rename_i hz
      rw [rx.str, ry.int]
      rename_i z i
      cases q : L2.atI z.cps.toList i with
      | none => rw [q] at h; cases h
      | some c => rw [q] at h; cases h; exact .inr (.inr ⟨z, i, c, rfl, rfl, szl hz, q, k H _ (Same.refl H) (.str _)⟩)
    · cases h
  · cases h
theorem os_ixD {K : PySem.W.Frag} : OpS K (fun x y H Q => rIx K x y H Q ∨ rDIx x y H Q) fIxD := by
  intro H A vx vy x y z Q tr rx ry h k
  unfold fIxD at h
  split at h
  · obtain ⟨o, h1, h2⟩ := Option.bind_eq_some_iff.mp h
    have h2 : o = some z := h2
    subst h2
    obtain ⟨a, ov, e, g, hit⟩ := look rx ry h1
    cases ov with
    | none => exact hit.elim
    | some v => exact .inr ⟨a, v, e, g, k H v (Same.refl H) hit⟩
  · exact .inl (os_ix H A vx vy x y z Q tr rx ry h k)
theorem se_ix {w : Bool} (ha : PE X a (rdV w X.K da)) (hb : SW X b db) (hl : Lf w db) (hs : PlainIx b := by intro _ _; rfl) : SE X (.Subscript a b pos) (d2 fIx da db) :=
  PE.imp (pe_ix ix_seq ha hb hs) fun σ H Q ⟨env, os, G, z, env', R, q, k⟩ => two hl R q fun H2 os2 vx vy x y x2 R2 px py q3 =>
    os_ix H2 _ vx vy x y z Q R2.trk px py q3 fun H3 v s p => k H3 os2 v (x2.trans (Ext.same _ s)) (R2.ofSame s) (.inl p)
theorem se_ixD {w : Bool} (hu : X.A.units + 64 < cLine) (ha : PE X a (rdV w X.K da)) (hb : SW X b db) (hl : Lf w db) (hs : PlainIx b := by intro _ _; rfl) : SE X (.Subscript a b pos) (d2 fIxD da db) :=
  PE.imp (pe_ix (ix_seq.or (ix_dict (by omega))) ha hb hs) fun σ H Q ⟨env, os, G, z, env', R, q, k⟩ => two hl R q fun H2 os2 vx vy x y x2 R2 px py q3 =>
    os_ixD H2 _ vx vy x y z Q R2.trk px py q3 fun H3 v s p => k H3 os2 v (x2.trans (Ext.same _ s)) (R2.ofSame s) (.inl p)
/-! slices -/
def rdO (K : PySem.W.Frag) (d : M (Option Int)) : TO := fun σ H Q => ∃ env os G r env', Rel K H env σ os G ∧ d env = some (r, env') ∧
  ∀ H' os', Ext os os' H H' → Rel K H' env' σ os' G → Q r H'
abbrev SO (X : Cx) (e : Option Expr) (d : M (Option Int)) : Prop := PO X e (rdO X.K d)
theorem PO.imp {e t t'} (h : PO X e t) (f : ∀ σ H Q, t' σ H Q → t σ H Q) : PO X e t' := ⟨fun pins s σ H Q I q => h.run pins s σ H Q I (f _ _ _ q)⟩
def dNoP : M (Option Int) := ret none
def intOf : PyData → Option Int | .int i => some i | _ => none
theorem intOf_inv {x b} (h : intOf x = some b) : x = .int b := by cases x <;> simp [intOf] at h; rw [h]
def dPart (d : M PyData) : M (Option Int) := bnd d fun x => lft ((intOf x).map some)
theorem so_none : SO X none dNoP := PO.imp po_none fun σ H Q ⟨env, os, G, z, env', R, q, k⟩ => by cases q; exact k H os (Ext.refl _ _) R
theorem so_some (h : SE X e d) : SO X (some e) (dPart d) := PO.imp (po_some h) fun σ H Q ⟨env, os, G, z, env', R, q, k⟩ => by
  obtain ⟨y, e2, q3, q4⟩ := bnd_inv q
  obtain ⟨q5, rfl⟩ := lft_inv q4
  cases y with
  | int i => cases q5; exact ⟨env, os, G, _, env', R, q3, fun H' os' v x R' p => ⟨i, Rw.int (.inl p.strong), k H' os' x R'⟩⟩
  | _ => cases q5
def cutD (ds : List PyData) (lo hi : Option Int) : List PyData := (ds.drop (HT.sIx ds.length 0 lo)).take (HT.sIx ds.length ds.length hi - HT.sIx ds.length 0 lo)
theorem RpAll.cut {K H A vs ds} (r : RpAll K H A vs ds) (lo hi : Option Int) : RpAll K H A (cutV vs lo hi) (cutD ds lo hi) := by
  unfold cutV cutD; rw [r.length]; exact (r.drop _).take _
theorem cutV_all {vs : List V} {lo hi : Option Int} (h1 : HT.sIx vs.length 0 lo = 0) (h2 : HT.sIx vs.length vs.length hi = vs.length) : cutV vs lo hi = vs := by
  unfold cutV; rw [h1, h2]; simp
def fSl : PyData → Option Int → Option Int → Option PyData
  | .list ds, lo, hi => some (.list (cutD ds lo hi))
  | .tuple ds, lo, hi => some (.tuple (cutD ds lo hi))
  | .str z, lo, hi => if z.length ≤ 16777216 then some (.str (cutS z lo hi)) else none
  | _, _, _ => none
def rSlA' (K : PySem.W.Frag) : V → Option Int → Option Int → Hp → VK → Prop := fun x lo hi H Q => (rSlL K x lo hi H Q ∨ rSlA K x lo hi H Q) ∨ rSlS x lo hi H Q
theorem sl_any : SlR X (rSlA' X.K) := (sl_list.or sl_tupA).or sl_str
def dSl (da : M PyData) (dl dh : M (Option Int)) : M PyData := bnd da fun x => bnd dl fun l => bnd dh fun h => lft (fSl x l h)
def Lf2 (w : Bool) (dl dh : M (Option Int)) : Prop := w = false ∨ (Pur dl ∧ Pur dh)
theorem slice_rd {K : PySem.W.Frag} {w : Bool} {dl dh : M (Option Int)} (hl' : Lf2 w dl dh) {σ H Q env os G z env'} (R : Rel K H env σ os G) (q : dSl da dl dh env = some (z, env'))
    (k : ∀ H2 os2 vx x l u, Ext os os2 H H2 → Rel K H2 env' σ os2 G → Rw K H2 (Av os2 G.Fr) vx x → fSl x l u = some z → rSlA' K vx l u H2 Q) : tSl (rSlA' K) (rdV w K da) (rdO K dl) (rdO K dh) σ H Q := by
  obtain ⟨x, e1, q1, q⟩ := bnd_inv q
  obtain ⟨l, e2, q2, q⟩ := bnd_inv q
  obtain ⟨u, e3, q3, q⟩ := bnd_inv q
  obtain ⟨q4, rfl⟩ := lft_inv q
  refine ⟨env, os, G, x, e1, R, q1, fun H1 os1 vx x1 R1 p1 => ⟨e1, os1, G, l, e2, R1, q2, fun H2 os2 x2 R2 => ⟨e2, os2, G, u, env', R2, q3, fun H3 os3 x3 R3 => ?_⟩⟩⟩
  refine k H3 os3 vx x l u ((x1.trans x2).trans x3) R3 ?_ q4
  rcases hl' with rfl | ⟨hp, hp'⟩
  · exact .inl ((p1.strong.ext x2).ext x3)
  · have := hp _ _ _ q2; subst this
    have := hp' _ _ _ q3; subst this
    exact ((p1.ext x2).ext x3).rw R3
theorem se_sl {w : Bool} {lo hi : Option Expr} {p2 : Pos} {dl dh : M (Option Int)} (ha : PE X a (rdV w X.K da)) (hl : SO X lo dl) (hh : SO X hi dh) (hl' : Lf2 w dl dh) : SE X (.Subscript a (.Slice lo hi none p2) pos) (dSl da dl dh) :=
  PE.imp (pe_slice sl_any ha hl hh) fun σ H Q ⟨env, os, G, z, env', R, q, k⟩ => slice_rd hl' R q fun H3 os3 vx x l u x3 R3 px q4 => by
    have new := fun {p : Addr} (n : H3 p = none) (z : Av os3 G.Fr p) => R3.tracked z n
    unfold fSl at q4
    split at q4
    · cases q4
      obtain ⟨a, vs, rfl, s, r⟩ := px.lst
      refine .inl (.inl ⟨a, vs, rfl, .inl (.inl s), fun p np => ?_⟩)
      have sm := same_upd (o := .lst (cutV vs l u)) np
      exact k _ os3 _ (x3.trans (Ext.same _ sm)) (R3.ofSame sm) (.inl (.lst ⟨upd_same, new np⟩ ((r.cut l u).map (Keeps.same sm _))))
    · cases q4
      obtain ⟨a, vs, rfl, s, r⟩ := px.tup
      refine .inl (.inr ⟨a, vs, rfl, s.sq, fun e => ?_, fun e p np => ?_⟩)
      · have ec : cutV vs l u = vs := cutV_all e.1 e.2
        have ed : ∀ ds0 : List PyData, vs.length = ds0.length → cutD ds0 l u = ds0 := fun ds0 hl => by unfold cutD; rw [← hl, e.1, e.2, List.drop_zero, Nat.sub_zero, List.take_of_length_le (by omega)]
        exact k H3 os3 _ x3 R3 (.inl (.tup (by rw [ed _ r.length]; exact s) (ec ▸ r.cut l u)))
      · have sm := same_upd (o := .tup (cutV vs l u)) np
        exact k _ os3 _ (x3.trans (Ext.same _ sm)) (R3.ofSame sm) (.inl (.tup (.inl ⟨upd_same, new np⟩) ((r.cut l u).map (Keeps.same sm _))))
    · split at q4
      · rename_i hz; cases q4
        exact .inr ⟨_, px.str, szl hz, k H3 os3 _ x3 R3 (.inl (.str _))⟩
      · cases q4
    · cases q4
/-- xs[::-1] of a list -/
def fRev : PyData → Option PyData | .list ds => some (.list ds.reverse) | _ => none
theorem RpAll.reverse' {K H A} : ∀ {vs ds}, RpAll K H A vs ds → RpAll K H A vs.reverse ds.reverse
  | _, _, .nil => .nil
  | _, _, .cons a b => by simp only [List.reverse_cons]; exact RpAll.append (RpAll.reverse' b) (.cons a .nil)
theorem se_rev {k : Nat} {p1 p2 p3 : Pos} (ha : SW X a da) : SE X (.Subscript a (.Slice none none (some (.UnaryOp .USub (.Constant (.int 1) k p1) p2)) p3) pos) (d1 fRev da) :=
  PE.imp (pe_revL ha) fun σ H Q ⟨env, os, G, z, env', R, q, k⟩ => by
    obtain ⟨y, e2, q3, q4⟩ := bnd_inv q
    obtain ⟨q5, rfl⟩ := lft_inv q4
    refine ⟨env, os, G, y, env', R, q3, fun H' os' v x R' p => ?_⟩
    cases y with
    | list ds =>
      cases q5
      obtain ⟨a, vs, rfl, s, r⟩ := (p.rw R').lst
      refine ⟨a, vs, rfl, .inl (.inl s), fun p np => ?_⟩
      have sm := same_upd (o := .lst vs.reverse) np
      exact k _ os' _ (x.trans (Ext.same _ sm)) (R'.ofSame sm) (.inl (.lst ⟨upd_same, R'.new np⟩ (r.reverse'.map (Keeps.same sm _))))
    | _ => cases q5
/-! ### displays and arguments -/
def aNil : M (List PyData) := ret []
def aCons (d : M PyData) (ds : M (List PyData)) : M (List PyData) := bnd d fun x => bnd ds fun xs => ret (x :: xs)
variable {ds : M (List PyData)}
theorem sa_nil : SA X [] aNil := PA.imp pa_nil fun σ H Q ⟨env, os, G, z, env', R, q, k⟩ => by cases q; exact k H os [] (Ext.refl _ _) R .nil
theorem sa_cons (ha : SE X e d) (hr : SA X es ds) (hs : starEach (e :: es) X.env = (false, eval e X.env) :: starEach es X.env := by rfl) : SA X (e :: es) (aCons d ds) := PA.imp (pa_cons ha hr hs) fun σ H Q ⟨env, os, G, z, env', R, q, k⟩ => by
  obtain ⟨x, e1, q1, q⟩ := bnd_inv q
  obtain ⟨xs, e2, q2, q⟩ := bnd_inv q
  cases q
  exact ⟨env, os, G, x, e1, R, q1, fun H1 os1 v x1 R1 p1 => ⟨e1, os1, G, xs, env', R1, q2, fun H2 os2 vs x2 R2 p2 => k H2 os2 _ (x1.trans x2) R2 (.cons (p1.strong.ext x2) p2)⟩⟩
def Len (ds : M (List PyData)) (n : Nat) : Prop := ∀ env r env', ds env = some (r, env') → r.length = n
theorem len_nil : Len aNil 0 := fun _ _ _ h => by cases h; rfl
theorem len_cons {n : Nat} (h : Len ds n) : Len (aCons d ds) (n + 1) := fun env r env' q => by
  obtain ⟨x, e1, q1, q⟩ := bnd_inv q
  obtain ⟨xs, e2, q2, q⟩ := bnd_inv q
  cases q
  exact congrArg (· + 1) (h _ _ _ q2)
def dTup (ds : M (List PyData)) : M PyData := bnd ds fun xs => ret (.tuple xs)
def dLst (ds : M (List PyData)) : M PyData := bnd ds fun xs => ret (.list xs)
theorem se_tup {k1} {n : Nat} (h : SA X es ds) (hn : Len ds n) (hz : decide (n ≤ 16777216) = true := by rfl) : SE X (.Tuple es k1 pos) (dTup ds) := PE.imp (pe_tup h) fun σ H Q ⟨env, os, G, z, env', R, q, k⟩ => by
  obtain ⟨xs, e1, q1, q⟩ := bnd_inv q
  cases q
  refine ⟨env, os, G, xs, env', R, q1, fun H1 os1 vs x1 R1 p1 => ⟨?_, fun p np => ?_⟩⟩
  · rw [p1.length, hn _ _ _ q1]; exact szl (of_decide_eq_true hz)
  · have sm := same_upd (o := .tup vs) np
    exact k _ os1 _ (x1.trans (Ext.same _ sm)) (R1.ofSame sm) (.inl (.tup (.inl ⟨upd_same, R1.new np⟩) (p1.map (Keeps.same sm _))))
theorem own_new {K H env σ os G} (R : Rel K H env σ os G) {p : Addr} {vs xs} (np : H p = none) (r : RpAll K H (Av os G.Fr) vs xs) : OwnAt K (upd H p (.lst vs)) (Av os (G.plus p).Fr) p (.list xs) := by
  refine .lst upd_same (r.map fun b u _ q n => ⟨rdSame (same_upd np) q, fun z => ?_⟩)
  rcases z with z | z | z
  · exact n (.inl z)
  · exact n (.inr z)
  · subst z; exact rdSome q np
theorem sf_lst {n : Nat} (h : SA X es ds) (hn : Len ds n) (hz : decide (n ≤ 16777216) = true := by rfl) : SF X (.List es pos) (dLst ds) := PE.imp (pe_lst h) fun σ H Q ⟨env, os, G, z, env', R, q, k⟩ => by
  obtain ⟨xs, e1, q1, q⟩ := bnd_inv q
  cases q
  refine ⟨env, os, G, xs, env', R, q1, fun H1 os1 vs x1 R1 p1 => ⟨?_, fun p np => ?_⟩⟩
  · rw [p1.length, hn _ _ _ q1]; exact szl (of_decide_eq_true hz)
  · exact k _ os1 p (x1.trans (Ext.same _ (same_upd np))) (x1.free np) (R1.plus np trivial) (own_new R1 np p1)
/-! ### builtins of one argument -/
def C1 (K : PySem.W.Frag) (r : List V → Hp → VK → Prop) (g : PyData → Option PyData) : Prop := ∀ H A v d z Q, Trk H A → Rw K H A v d → g d = some z → (∀ H' v', Same H H' → Rp K H' A v' z → Q v' H') → r [v] H Q
def C1F (K : PySem.W.Frag) (r : List V → Hp → VK → Prop) (g : PyData → Option PyData) : Prop := ∀ H A v d z Q, Trk H A → Rw K H A v d → g d = some z →
  (∀ a u, H a = none → mutb u → OwnAt K (upd H a u) (fun b => A b ∨ b = a) a z → Q (.ref a) (upd H a u)) → r [v] H Q
theorem call1_rd {r : List V → Hp → VK → Prop} {g} (hs : C1 X.K r g) {σ H Q} (h : rdV false X.K (d1 g d) σ H Q) : tCB r (tCons (rdV true X.K d) tNil) σ H Q := by
  obtain ⟨env, os, G, z, env', R, q, k⟩ := h
  obtain ⟨y, e2, q3, q4⟩ := bnd_inv q
  obtain ⟨q5, rfl⟩ := lft_inv q4
  exact ⟨env, os, G, y, env', R, q3, fun H' os' v x R' p => hs H' _ v y z Q R'.trk (p.rw R') q5 fun H2 v2 sm p2 => k H2 os' v2 (x.trans (Ext.same _ sm)) (R'.ofSame sm) (.inl p2)⟩
theorem call1_rdF {r : List V → Hp → VK → Prop} {g} (hs : C1F X.K r g) {σ H Q} (h : rdF X.K (d1 g d) σ H Q) : tCB r (tCons (rdV true X.K d) tNil) σ H Q := by
  obtain ⟨env, os, G, z, env', R, q, k⟩ := h
  obtain ⟨y, e2, q3, q4⟩ := bnd_inv q
  obtain ⟨q5, rfl⟩ := lft_inv q4
  refine ⟨env, os, G, y, env', R, q3, fun H' os' v x R' p => hs H' _ v y z Q R'.trk (p.rw R') q5 fun a u n dd o => ?_⟩
  refine k _ os' a (x.trans (Ext.same _ (same_upd n))) (x.free n) (R'.plus n dd) (o.map (Keeps.sub fun b z => ?_) rfl)
  rcases z with z | z | z
  · exact .inl (.inl z)
  · exact .inl (.inr z)
  · exact .inr z
variable {r : List V → Hp → VK → Prop} {g : PyData → Option PyData} {id T : String} {x : Str} {p : Pos}
theorem se_callB (hs : C1 X.K r g) (hc : CallR X (.builtin id) r) (hg : Gl X x) (hm : X.mg x = none) (hv : bootBuiltins x = some (.builtin id)) (ha : SW X e d) (hn : x ≠ "__name__" := by decide) (hdb : (x == ("__debug__" : Str)) = false := by decide)
    (h1 : starEach [e] X.env = (false, eval e X.env) :: starEach [] X.env := by rfl) (he : starEach (e :: []) X.env = (false, eval e X.env) :: starEach [] X.env := by rfl) (hpl : (backTo pos (starEach [] X.env)).any (·.1) = false := by rfl) : SE X (.Call (.Name x p) [e] [] pos) (d1 g d) :=
  PE.imp (pe_callB hc hg hm hv (pa_cons ha pa_nil h1) hn hdb he hpl) fun σ H Q h => call1_rd hs h
theorem sf_callB (hs : C1F X.K r g) (hc : CallR X (.builtin id) r) (hg : Gl X x) (hm : X.mg x = none) (hv : bootBuiltins x = some (.builtin id)) (ha : SW X e d) (hn : x ≠ "__name__" := by decide) (hdb : (x == ("__debug__" : Str)) = false := by decide)
    (h1 : starEach [e] X.env = (false, eval e X.env) :: starEach [] X.env := by rfl) (he : starEach (e :: []) X.env = (false, eval e X.env) :: starEach [] X.env := by rfl) (hpl : (backTo pos (starEach [] X.env)).any (·.1) = false := by rfl) : SF X (.Call (.Name x p) [e] [] pos) (d1 g d) :=
  PE.imp (pe_callB hc hg hm hv (pa_cons ha pa_nil h1) hn hdb he hpl) fun σ H Q h => call1_rdF hs h
theorem se_callT (hs : C1 X.K r g) (hc : CallR X (.type T) r) (hg : Gl X x) (hm : X.mg x = none) (hv : bootBuiltins x = some (.type T)) (ha : SW X e d) (hn : x ≠ "__name__" := by decide) (hdb : (x == ("__debug__" : Str)) = false := by decide)
    (h1 : starEach [e] X.env = (false, eval e X.env) :: starEach [] X.env := by rfl) (he : starEach (e :: []) X.env = (false, eval e X.env) :: starEach [] X.env := by rfl) (hpl : (backTo pos (starEach [] X.env)).any (·.1) = false := by rfl) : SE X (.Call (.Name x p) [e] [] pos) (d1 g d) :=
  PE.imp (pe_callTy hc hg hm hv (pa_cons ha pa_nil h1) hn hdb he hpl) fun σ H Q h => call1_rd hs h
theorem sf_callT (hs : C1F X.K r g) (hc : CallR X (.type T) r) (hg : Gl X x) (hm : X.mg x = none) (hv : bootBuiltins x = some (.type T)) (ha : SW X e d) (hn : x ≠ "__name__" := by decide) (hdb : (x == ("__debug__" : Str)) = false := by decide)
    (h1 : starEach [e] X.env = (false, eval e X.env) :: starEach [] X.env := by rfl) (he : starEach (e :: []) X.env = (false, eval e X.env) :: starEach [] X.env := by rfl) (hpl : (backTo pos (starEach [] X.env)).any (·.1) = false := by rfl) : SF X (.Call (.Name x p) [e] [] pos) (d1 g d) :=
  PE.imp (pe_callTy hc hg hm hv (pa_cons ha pa_nil h1) hn hdb he hpl) fun σ H Q h => call1_rdF hs h
end
end SL

set_option Elab.async false
set_option linter.all false
set_option maxRecDepth 100000
set_option maxHeartbeats 4000000
namespace SL
open PySem PySem.Spec PyProof.Rows L2 PySem.W PySem.SeqAt
section
variable {prog : Program} {w : World} {A : Around} {E : Value → Shared → Prop} {s : Shared}
/-! SLE: sorted of tuples of which the first is empty. -/
/-- two tuples, compared as list.sort compares keys of one type -/
theorem one_tup {xs ys : List PyData} {a b : Value} {as bs : List Addr} {Q : Bool → Shared → Prop} (ra : Reads s.heap a (.tuple xs) as) (rb : Reads s.heap b (.tuple ys) bs) (hal : alikeAll xs ys = true)
    (hu : A.units + min (PyData.tuple xs).depth (PyData.tuple ys).depth < cLine) (hq : Q (dataLt (.tuple xs) (.tuple ys)) s) : wpAny (model prog w) A (oneLt' true a b) Q E s := by
  cases ra with
  | @tuple l o vs n _ as1 p1 p2 p3 p4 =>
    cases rb with
    | @tuple m q us k _ bs1 q1 q2 q3 q4 =>
      have e1 : vs.size = xs.length := by simpa using ReadsAll.length _ _ _ p4
      have e2 : us.size = ys.length := by simpa using ReadsAll.length _ _ _ q4
      rw [dataLt_tuple, ← firstLt_toks xs ys hal, ← e1, ← e2] at hq
      rw [oneLt'_eq]
      simp only [if_true]
      obtain ⟨c1, d1, t1, s1⟩ := o
      obtain ⟨c2, d2, t2, s2⟩ := q
      simp only at p2 p3 q2 q3
      subst p2 p3 q2 q3
      refine wpAny_bind (wpAny_cRoomFor (room_here hu) (wpAny_bind (wpAny_callSpecialIfBound?_slot (T := "tuple") ⟨_, p1, rfl⟩ F.slot_tuple_lt ?_)))
      refine call_meets F.slot_tuple_lt ⟨_, p1, rfl⟩ F.entry_tuple_lt (F.args_tuple_lt_2 _ _) (tuple_ltAt l m vs us n k d1 d2 s1 s2 (pairEq xs ys) fun j => dataLt (xs.getD j .none) (ys.getD j .none)) ⟨p1, q1, fun j j1 j2 => ?_, fun j j1 j2 hj => ?_, wpAny_truthy_bool hq⟩
      · have z := eqAt_alikeAll xs ys A.in1 s vs.toList us.toList _ _ p4 q4 hal (room_in hu) j (by simpa using j1) (by simpa using j2)
        simpa using z
      · have z := rcLt_alikeAll xs ys A.in1 s vs.toList us.toList _ _ p4 q4 hal (room_in hu) j (by simpa using j1) (by simpa using j2) hj
        simpa using z
theorem first_tup {M : Model} {v : Value} {xs : List PyData} {as : List Addr} {Q : Option Value → Shared → Prop} (r : Reads s.heap v (.tuple xs) as) (h : ∀ o : Option Value, (xs = [] → o = none) → Q o s) : wpAny M A (firstOfTuple' v) Q E s := by
  cases r with
  | @tuple l o vs n _ as1 p1 p2 p3 p4 =>
    have e1 : vs.size = xs.length := by simpa using ReadsAll.length _ _ _ p4
    rw [kas_first_eq]
    refine wpAny_bind (Looks.here (show Looks M s.heap (typeOf (.ref l)) o.cls from (Looks.ld p1).andThen .now) ?_)
    rw [p2, if_neg (show ¬ ((Value.type "tuple" != Value.type "tuple") = true) by decide)]
    refine wpAny_bind (listItems_at p1 p3 (wpAny_pure (h _ fun e => ?_)))
    subst e
    exact Array.getElem?_eq_none (by rw [e1]; exact Nat.le_refl _)
theorem firsts_tup {M : Model} : ∀ (vs : List Value) {Q : List (Option Value) → Shared → Prop}, (∀ v ∈ vs, ∃ xs as, Reads s.heap v (.tuple xs) as) → (∀ os : List (Option Value), Q os s) → wpAny M A (vs.mapM firstOfTuple') Q E s
  | [], _, _, h => by rw [List.mapM_nil]; exact wpAny_pure (h [])
  | v :: vs, Q, hv, h => by
    rw [List.mapM_cons]
    obtain ⟨xs, as, r⟩ := hv v List.mem_cons_self
    exact wpAny_bind (first_tup r fun o _ => wpAny_bind (firsts_tup vs (Q := fun bs s' => wpAny M A (pure (o :: bs)) Q E s') (fun u hu => hv u (List.mem_cons_of_mem _ hu)) fun os => wpAny_pure (h (o :: os))))
theorem kind_tup0 {M : Model} {v : Value} {vs : List Value} {as : List Addr} {Q : SortKind → Shared → Prop} (r : Reads s.heap v (.tuple []) as) (hv : ∀ u ∈ v :: vs, ∃ xs as, Reads s.heap u (.tuple xs) as) (h : Q oneType' s) : wpAny M A (keyKind' (v :: vs).toArray) Q E s := by
  rw [keyKind'_eq, List.mapM_toArray, map_eq_pure_bind, List.mapM_cons]
  refine wpAny_bind (wpAny_bind (wpAny_bind (first_tup r fun o ho => ?_)))
  have ho := ho rfl
  subst ho
  refine wpAny_bind (firsts_tup vs (fun u hu => hv u (List.mem_cons_of_mem _ hu)) fun os => wpAny_pure (wpAny_pure ?_))
  rw [if_neg (by simp), if_neg (by simp), oneTypeOnly'_eq, List.mapM_toArray, map_eq_pure_bind]
  refine wpAny_bind (wpAny_bind (wpAny_bind (kas_mapM (r := Value.type "tuple") _ (fun u hu Q' hq => ?_) (wpAny_pure ?_))))
  · obtain ⟨xs, as, ru⟩ := hv u hu
    exact (show Looks M s.heap (typeOf u) (Value.type "tuple") from looks_reads ru).here hq
  · have h0 : (List.map (fun _ => Value.type "tuple") (v :: vs)).toArray[0]? = some (Value.type "tuple") := by simp
    have ha : ((List.map (fun _ => Value.type "tuple") (v :: vs)).toArray.all fun x => x == Value.type "tuple") = true := by
      rw [List.all_toArray, List.all_map, List.all_eq_true]
      exact fun _ _ => beq_self_eq_true _
    rw [h0]
    simp only [ha, if_true]
    exact wpAny_pure (wpAny_pure h)
/-- all are tuples, the first one is empty -/
def Sort0 (ds : List PyData) : Prop := (∃ r, ds = .tuple [] :: r) ∧ ∀ d ∈ ds, ∃ xs, d = .tuple xs
theorem sortsAt0 {vs : List Value} {ds : List PyData} (e : EachIs (fun v d => ∃ as, Reads s.heap v d as) vs ds) (hal : AllAlike ds) (hk : Sort0 ds) (hu : ∀ d, d ∈ ds → A.units + d.depth < cLine) : SortsAt prog w A s (dataKind s.heap ds) vs := by
  obtain ⟨⟨r, rfl⟩, ht⟩ := hk
  refine ⟨fun v hv => ?_, oneType', ?_, fun h2 E Q hq => ?_⟩
  · obtain ⟨d, hd, as, rd⟩ := e.left v hv
    exact ⟨_, dataKind_some hal hd rd⟩
  · intro E x y a b Q ha hb hq
    obtain ⟨d, as, hd, ra, rfl⟩ := dataKind_inv ha
    obtain ⟨d', bs, hd', rb, rfl⟩ := dataKind_inv hb
    have hdd := hal d hd d' hd'
    have hroom := hu d hd
    obtain ⟨xs, rfl⟩ := ht d hd
    obtain ⟨ys, rfl⟩ := ht d' hd'
    rw [keyLt'_oneType]
    exact one_tup ra rb (by simpa [alike] using hdd) (Nat.lt_of_le_of_lt (Nat.add_le_add_left (Nat.min_le_left _ _) _) hroom) hq
  · cases e with
    | @cons v _ vs _ h t =>
      obtain ⟨as, r0⟩ := h
      refine kind_tup0 r0 (fun u hu' => ?_) hq
      obtain ⟨d, hd, as, rd⟩ := (EachIs.cons (R := fun v d => ∃ as, Reads s.heap v d as) ⟨_, r0⟩ t).left u hu'
      obtain ⟨xs, rfl⟩ := ht d hd
      exact ⟨xs, as, rd⟩
variable {β : Type} {R : Value → β → Prop} {bs : List β} {enc : β → PyData} {vs : List Value}
/-- sorted(xs), the first item the empty tuple -/
theorem sorted_data0 {l : Addr} {Q : Value → Shared → Prop} (hl : s.heap.IsList l vs.toArray) (e : EachIs R vs bs) (er : EachIs (fun v b => ∃ as, Reads s.heap v (enc b) as) vs bs) (hal : AllAlike (bs.map enc)) (hk : Sort0 (bs.map enc))
    (hL : bs.length ≤ sizeLine) (hu : ∀ b, b ∈ bs → A.units + 2 + (enc b).depth < cLine) (h : ∀ out, out.length = bs.length → EachIs R out (bs.mergeSort (dataLe false enc)) → Q (.ref (s.heap.objs.size + 1)) { s with heap := sortedAll s.heap vs (List.toArray out) }) :
    wpAny (model prog w) A (call (.builtin "sorted") [.ref l]) Q E s := by
  have e2 : EachIs (fun v b => ∃ as, Reads (sortingHeap (copyHeap s.heap vs) (s.heap.objs.size + 1) vs) v (enc b) as) vs bs := er.mono fun _ _ ⟨as, r⟩ => ⟨as, PyProof.Rows.Reads.keeps (fun _ _ z => sorting_copy_old z) r⟩
  have S := sortsAt0 (prog := prog) (w := w) (A := A.in1.in1) (s := { s with heap := sortingHeap (copyHeap s.heap vs) (s.heap.objs.size + 1) vs }) (each_map (R := fun v d => ∃ as, Reads (sortingHeap (copyHeap s.heap vs) (s.heap.objs.size + 1) vs) v d as) enc e2) hal hk (bound_map hu)
  exact sorted_vals hl S (e.length ▸ hL) (h _ ((sortVals_length false rfl).trans e.length) (sortVals_data false e e2 hal))
theorem sorted_dataC {l : Addr} {Q : Value → Shared → Prop} (hl : s.heap.IsList l vs.toArray) (e : EachIs R vs bs) (er : EachIs (fun v b => ∃ as, Reads s.heap v (enc b) as) vs bs) (hal : AllAlike (bs.map enc)) (hk : PySem.W.Sortable (bs.map enc) ∨ Sort0 (bs.map enc))
    (hL : bs.length ≤ sizeLine) (hu : ∀ b, b ∈ bs → A.units + 2 + (enc b).depth < cLine) (h : ∀ out, out.length = bs.length → EachIs R out (bs.mergeSort (dataLe false enc)) → Q (.ref (s.heap.objs.size + 1)) { s with heap := sortedAll s.heap vs (List.toArray out) }) :
    wpAny (model prog w) A (call (.builtin "sorted") [.ref l]) Q E s := hk.elim (fun k => PySem.W.sorted_data hl e er hal k hL hu h) fun k => sorted_data0 hl e er hal k hL hu h
end
end SL

set_option Elab.async false
set_option linter.all false
set_option maxRecDepth 100000
set_option maxHeartbeats 4000000
/-! SL5: what the builtins reckon. -/
namespace SL
open PySem PySem.Spec PyProof.Rows L2
section
variable {K : PySem.W.Frag} {X : Cx}
/-! ### len -/
def fLen : PyData → Option PyData
  | .list ds => some (.int ds.length)
  | .tuple ds => some (.int ds.length)
  | .str z => if z.length ≤ 16777216 then some (.int z.length) else none
  | .dict ((.none, _) :: ps) => some (.int ps.length)
  | .dict ps => some (.int ps.length)
  | _ => none
def rLenD : List V → Hp → VK → Prop := fun xs H Q => (∃ a kvs, xs = [V.ref a] ∧ Rd H a (.dK kvs) ∧ Q (.int kvs.length) H) ∨ ∃ a kvs, xs = [V.ref a] ∧ Rd H a (.dT kvs) ∧ Q (.int kvs.length) H
theorem call_lenD2 : CallR X (.builtin "len") rLenD := by
  intro pins s σ H xs us Q I r h
  rcases h with ⟨a, kvs, rfl, ha, q⟩ | ⟨p, kvs, rfl, hp, q⟩
  · obtain ⟨u, rfl, ru⟩ := vals1 r
    cases ru
    exact d_len I ha fun t s' I' => ⟨.int kvs.length, H, I', ⟨t, rfl⟩, q⟩
  · obtain ⟨u, rfl, rx⟩ := vals1 r
    obtain rfl : u = .ref p := rx
    obtain ⟨z, hd, ys, rel, dd⟩ := dt_rd I.hok hp
    have hl : kvs.length = ys.length := Paired.length rel
    refine call_len_dictH hd dd (by rw [← hl]; rw [sizeLine_eq] at z; omega) ?_
    rw [← hl]
    exact ⟨.int ((kvs.length : Nat) : Int), H, I.tok _, ⟨_, rfl⟩, q⟩
def rLenA (K : PySem.W.Frag) : List V → Hp → VK → Prop := fun xs H Q => ((∃ p ys, xs = [.ref p] ∧ (SqL K H p ys ∨ SqT K H p ys) ∧ Q (.int ys.length) H) ∨ ∃ z, xs = [.str z] ∧ z.length ≤ sizeLine ∧ Q (.int z.length) H) ∨ rLenD xs H Q
theorem call_lenA : CallR X (.builtin "len") (rLenA X.K) := (call_len_seq.or call_len_str).or call_lenD2
theorem RpK.length {K H A} : ∀ {vs ds}, RpK K H A vs ds → vs.length = ds.length
  | _, _, .nil => rfl
  | _, _, .cons _ b => congrArg (· + 1) (RpK.length b)
theorem RpT.length {K H A} : ∀ {vs ds}, RpT K H A vs ds → vs.length = ds.length
  | _, _, .nil => rfl
  | _, _, .cons _ b => congrArg (· + 1) (RpT.length b)
/-! ### tuple, list, sum, any, all, abs, int, bool, str -/
def fTuple : PyData → Option PyData | .list ds => some (.tuple ds) | .tuple ds => some (.tuple ds) | _ => none
theorem c1_tuple : C1 K (fun xs H Q => ∃ p ys, xs = [.ref p] ∧ ((SqL K H p ys ∧ ∀ l, H l = none → Q (.ref l) (upd H l (.tup ys))) ∨ (SqT K H p ys ∧ Q (.ref p) H))) fTuple := by
  intro H A v d z Q tr r h k
  cases d <;> simp [fTuple] at h
  · subst h; obtain ⟨a, vs, rfl, s, q⟩ := r.lst
    refine ⟨a, vs, rfl, .inl ⟨.inl (.inl s), fun p np => ?_⟩⟩
    have sm := same_upd (o := .tup vs) np
    exact k _ _ sm (.tup (.inl ⟨upd_same, fun z => tr.no z np⟩) (q.map (Keeps.same sm A)))
  · subst h; obtain ⟨a, vs, rfl, s, q⟩ := r.tup
    exact ⟨a, vs, rfl, .inr ⟨s.sq, k H _ (Same.refl H) (.tup s q)⟩⟩
def fList : PyData → Option PyData | .list ds => some (.list ds) | .tuple ds => some (.list ds) | _ => none
theorem c1f_list : C1F K (fun xs H Q => ∃ p ys, xs = [.ref p] ∧ (SqL K H p ys ∨ SqT K H p ys) ∧ ∀ l, H l = none → Q (.ref l) (upd H l (.lst ys))) fList := by
  intro H A v d z Q tr r h k
  cases d <;> simp [fList] at h
  · subst h; obtain ⟨a, vs, rfl, s, q⟩ := r.lst
    exact ⟨a, vs, rfl, .inl (.inl (.inl s)), fun p np => k p _ np trivial (.lst upd_same (q.map (keeps_new np)))⟩
  · subst h; obtain ⟨a, vs, rfl, s, q⟩ := r.tup
    exact ⟨a, vs, rfl, .inr s.sq, fun p np => k p _ np trivial (.lst upd_same (q.map (keeps_new np)))⟩
def intsOf : List PyData → Option (List Int) | [] => some [] | .int i :: r => (intsOf r).map (i :: ·) | _ => none
def boolsOf : List PyData → Option (List Bool) | [] => some [] | .bool i :: r => (boolsOf r).map (i :: ·) | _ => none
theorem intsOf_inv : ∀ {ds ns}, intsOf ds = some ns → ds = ns.map .int
  | [], _, h => by cases h; rfl
  | d :: r, ns, h => by
    cases d <;> simp [intsOf] at h
    obtain ⟨m, h1, rfl⟩ := h
    rw [intsOf_inv h1]; rfl
theorem intsOf_map : ∀ ns : List Int, intsOf (ns.map .int) = some ns
  | [] => rfl
  | n :: r => by simp [intsOf, intsOf_map r]
theorem boolsOf_inv : ∀ {ds ns}, boolsOf ds = some ns → ds = ns.map .bool
  | [], _, h => by cases h; rfl
  | d :: r, ns, h => by
    cases d <;> simp [boolsOf] at h
    obtain ⟨m, h1, rfl⟩ := h
    rw [boolsOf_inv h1]; rfl
theorem boolsOf_map : ∀ ns : List Bool, boolsOf (ns.map .bool) = some ns
  | [] => rfl
  | n :: r => by simp [boolsOf, boolsOf_map r]
theorem RpAll.ints {H A} : ∀ {vs} {ns : List Int}, RpAll K H A vs (ns.map .int) → vs = ns.map V.int
  | _, [], h => by cases h; rfl
  | _, n :: r, h => by cases h with | cons a b => cases a; rw [RpAll.ints b]; rfl
theorem RpAll.bools {H A} : ∀ {vs} {ns : List Bool}, RpAll K H A vs (ns.map .bool) → vs = ns.map V.bl
  | _, [], h => by cases h; rfl
  | _, n :: r, h => by cases h with | cons a b => cases a; rw [RpAll.bools b]; rfl
theorem RpAll.ofInts {H A} : ∀ ns : List Int, RpAll K H A (ns.map V.int) (ns.map .int)
  | [] => .nil
  | n :: r => .cons (.int n) (RpAll.ofInts r)
def fSum : PyData → Option PyData | .list ds => (intsOf ds).map fun ns => .int ns.sum | .tuple ds => (intsOf ds).map fun ns => .int ns.sum | _ => none
def rSumA (K : PySem.W.Frag) : List V → Hp → VK → Prop := fun vs H Q => ∃ (a : Addr) (ns : List Int), vs = [V.ref a] ∧ (SqL K H a (ns.map V.int) ∨ SqT K H a (ns.map V.int)) ∧ Q (.int ns.sum) H
theorem cr_sumA {X : Cx} (hc : X.calm = true) : CallR X (.builtin "sum") (rSumA X.K) := by
  intro pins s σ H vs us Q I r h
  obtain ⟨a, ns, rfl, hs, q⟩ := h
  rcases hs with hs | hs
  · exact cr_sum hc pins s σ H _ us Q I r ⟨a, ns, rfl, hs, q⟩
  · obtain ⟨its, rv, pl, hz⟩ := I.tuple hs
    rw [Vals.ref1 r]
    have hl : s.heap.IsTuple a its.toArray := pl
    obtain ⟨xs, hx⟩ := rv.ints.allInts.items
    have hn : numsOf its.toArray.toList = ns := by rw [show its.toArray.toList = its from rfl, rv.ints.numsOf]
    rw [hx] at hl hn
    rw [nums_intItems] at hn
    refine PySem.W.ktm_sumG (I.ok.hd hc) hl fun h' tk t' hk => ?_
    rw [preSum_eq, List.take_of_length_le (by simp), hn]
    exact ⟨.int _, H, I.kept hk, ⟨_, rfl⟩, q⟩
theorem c1_sum : C1 K (rSumA K) fSum := by
  intro H A v d z Q tr r h k
  cases d <;> simp [fSum] at h
  · obtain ⟨ns, h, rfl⟩ := h
    have := intsOf_inv h; subst this
    obtain ⟨a, vs, rfl, s, q⟩ := r.lst
    rw [q.ints] at s
    exact ⟨a, ns, rfl, .inl (.inl (.inl s)), k H _ (Same.refl H) (.int _)⟩
  · obtain ⟨ns, h, rfl⟩ := h
    have := intsOf_inv h; subst this
    obtain ⟨a, vs, rfl, s, q⟩ := r.tup
    rw [q.ints] at s
    exact ⟨a, ns, rfl, .inr s.sq, k H _ (Same.refl H) (.int _)⟩
def fAny : PyData → Option PyData | .list ds => (boolsOf ds).map fun ns => .bool (ns.any id) | _ => none
def fAll : PyData → Option PyData | .list ds => (boolsOf ds).map fun ns => .bool (ns.all id) | _ => none
theorem c1_any : C1 K (rAny K) fAny := by
  intro H A v d z Q tr r h k
  cases d <;> simp only [fAny, Option.map_eq_some_iff, reduceCtorEq] at h
  obtain ⟨ns, h, rfl⟩ := h
  have := boolsOf_inv h; subst this
  obtain ⟨a, vs, rfl, s, q⟩ := r.lst
  rw [q.bools] at s
  exact ⟨a, ns, rfl, .inl (.inl s), k H _ (Same.refl H) (.bl _)⟩
theorem c1_all : C1 K (rAll K) fAll := by
  intro H A v d z Q tr r h k
  cases d <;> simp only [fAll, Option.map_eq_some_iff, reduceCtorEq] at h
  obtain ⟨ns, h, rfl⟩ := h
  have := boolsOf_inv h; subst this
  obtain ⟨a, vs, rfl, s, q⟩ := r.lst
  rw [q.bools] at s
  exact ⟨a, ns, rfl, .inl (.inl s), k H _ (Same.refl H) (.bl _)⟩
def fAbs : PyData → Option PyData | .int i => some (.int (if i < 0 then -i else i)) | _ => none
theorem c1_abs : C1 K (fun xs H Q => ∃ i, xs = [.int i] ∧ Q (.int (if i < 0 then -i else i)) H) fAbs := by
  intro H A v d z Q tr r h k
  cases d <;> simp only [fAbs, Option.some.injEq, reduceCtorEq] at h
  subst h; rw [r.int]
  exact ⟨_, rfl, k H _ (Same.refl H) (.int _)⟩
def fInt : PyData → Option PyData | .int i => some (.int i) | .bool b => some (.int (if b then 1 else 0)) | _ => none
theorem c1_int : C1 K (fun xs H Q => (∃ i, xs = [.int i] ∧ Q (.int i) H) ∨ ∃ k, xs = [.bl k] ∧ Q (.int (if k then 1 else 0)) H) fInt := by
  intro H A v d z Q tr r h k
  cases d <;> simp only [fInt, Option.some.injEq, reduceCtorEq] at h
  · subst h; rw [r.bool]; exact .inr ⟨_, rfl, k H _ (Same.refl H) (.int _)⟩
  · subst h; rw [r.int]; exact .inl ⟨_, rfl, k H _ (Same.refl H) (.int _)⟩
def fStrI : PyData → Option PyData | .int i => if i.natAbs < 2 ^ 1000 then some (.str (toString i)) else none | _ => none
theorem c1_str : C1 K (fun xs H Q => ∃ i, xs = [.int i] ∧ i.natAbs.log2 < 1920 ∧ Q (.str (toString i)) H) fStrI := by
  intro H A v d z Q tr r h k
  cases d <;> simp only [fStrI, reduceCtorEq] at h
  split at h
  · rename_i c; cases h; rw [r.int]
    exact ⟨_, rfl, Nat.lt_of_lt_of_le (PySem.Flt.log2_lt_of (by decide) c) (by decide), k H _ (Same.refl H) (.str _)⟩
  · cases h
theorem c1_len : C1 K (rLenA K) fLen := by
  intro H A v d z Q tr r h k
  unfold fLen at h
  split at h
  · cases h; obtain ⟨a, vs, rfl, s, q⟩ := r.lst
    exact .inl (.inl ⟨a, vs, rfl, .inl (.inl (.inl s)), by rw [q.length]; exact k H _ (Same.refl H) (.int _)⟩)
  · cases h; obtain ⟨a, vs, rfl, s, q⟩ := r.tup
    exact .inl (.inl ⟨a, vs, rfl, .inr s.sq, by rw [q.length]; exact k H _ (Same.refl H) (.int _)⟩)
  · split at h
    · rename_i c; cases h; rw [r.str]
      exact .inl (.inr ⟨_, rfl, szl c, k H _ (Same.refl H) (.int _)⟩)
    · cases h
  · cases h
    have k' := k H _ (Same.refl H) (.int _)
    rcases r with r | ⟨a, rfl, o⟩
    · cases r with
      | dk s n q => exact (RpK.no q).elim
      | dt s n q => exact .inr (.inr ⟨_, _, rfl, s, by rw [q.length]; exact k'⟩)
    · cases o with
      | dk s q => exact (RpK.no q).elim
      | dt s q => exact .inr (.inr ⟨_, _, rfl, .inl s, by rw [q.length]; exact k'⟩)
  · rename_i ps hn
    cases h
    have k' := k H _ (Same.refl H) (.int _)
    rcases r with r | ⟨a, rfl, o⟩
    · cases r with
      | dk s n q => exact .inr (.inl ⟨_, _, rfl, s, by rw [q.length]; exact k'⟩)
      | dt s n q => exact absurd rfl (hn _ _)
    · cases o with
      | dk s q => exact .inr (.inl ⟨_, _, rfl, .inl s, by rw [q.length]; exact k'⟩)
      | dt s q => exact absurd rfl (hn _ _)
  · cases h
/-! ### isinstance -/
def tyN : PyData → String | .none => "NoneType" | .bool _ => "bool" | .int _ => "int" | .str _ => "str" | .list _ => "list" | .tuple _ => "tuple" | .dict _ => "dict"
def TyY (K : PySem.W.Frag) (H : Hp) (v : V) (t : Value) : Prop := TyX K H v t ∨ ∃ a kvs, v = .ref a ∧ t = .type "dict" ∧ Rd H a (.dT kvs)
def rIsi2 (K : PySem.W.Frag) : List V → Hp → VK → Prop := fun xs H Q => ∃ (x c : V) (t u : Value) (b : Bool), xs = [x, c] ∧ ClsV c u ∧ TyY K H x t ∧ PySem.W.kitOne K t u = some b ∧ Q (.bl b) H
theorem call_isi2 : CallR X (.builtin "isinstance") (rIsi2 X.K) := by
  intro pins s σ H xs us Q I r h
  obtain ⟨x, c, t, u, b, rfl, k, ty, e, q⟩ := h
  obtain ⟨u1, u2, rfl, r1, r2⟩ := vals2 r
  have e2 := k.eq r2
  subst e2
  rcases ty with ty | ⟨a, kvs, rfl, rfl, ea⟩
  · obtain ⟨P, Z, p, hx⟩ := kit_of I r1 ty
    exact PySem.W.kia_one Z I.kIn p e hx fun tk => ⟨.bl b, H, I.tok tk, rfl, q⟩
  · cases (show u1 = Value.ref a from r1)
    obtain ⟨_, _, xs, _, o, es, ep, h1, h2, _⟩ := ea.ok I.hok
    exact PySem.W.kia_one PySem.W.kitx_dict I.kIn ⟨o, h1, h2.1⟩ e (fun z => nomatch z) fun tk => ⟨.bl b, H, I.tok tk, rfl, q⟩
theorem Rw.ty {H A v d} (r : Rw K H A v d) : TyY K H v (.type (tyN d)) := by
  rcases r with r | ⟨a, rfl, o⟩
  · cases r with
    | non => exact .inl <| .base .non
    | bl b => exact .inl <| .base (.bl b)
    | int i => exact .inl <| .base (.int i)
    | str x => exact .inl <| .base (.str x)
    | lst s r => exact .inl <| .base (.lst s.1)
    | tup s r =>
      rcases s with s | ⟨⟨o, its, n, h1, h2, _⟩, _⟩
      · exact .inl <| .base (.tup s.1)
      · exact .inl <| .kTuple h1 h2
    | dk s n r =>
      rcases s with s | ⟨o, s⟩
      · exact .inl <| .base (.dK s)
      · exact .inl <| .fDict s
    | dt s n r =>
      exact .inr ⟨_, _, rfl, rfl, s⟩
  · cases o with
    | lst x q => exact .inl <| .base (.lst x)
    | dk x q => exact .inl <| .base (.dK x)
    | dt x q => exact .inl <| .base (.dT x)
def isT (T : String) : PyData → Bool
  | .none => T == "NoneType" | .bool _ => T == "bool" || T == "int" | .int _ => T == "int" | .str _ => T == "str" | .list _ => T == "list" | .tuple _ => T == "tuple" | .dict _ => T == "dict"
/-- the answers for one class -/
def KitOk (T : String) : Prop := kitB "NoneType" T = some (T == "NoneType") ∧ kitB "bool" T = some (T == "bool" || T == "int") ∧ kitB "int" T = some (T == "int") ∧ kitB "str" T = some (T == "str") ∧ kitB "list" T = some (T == "list") ∧ kitB "tuple" T = some (T == "tuple") ∧ kitB "dict" T = some (T == "dict")
theorem kit_int : KitOk "int" := by unfold KitOk; decide +kernel
theorem kit_bool : KitOk "bool" := by unfold KitOk; decide +kernel
theorem kit_str : KitOk "str" := by unfold KitOk; decide +kernel
theorem kit_list : KitOk "list" := by unfold KitOk; decide +kernel
theorem kit_tuple : KitOk "tuple" := by unfold KitOk; decide +kernel
theorem KitOk.one {T : String} (h : KitOk T) (d : PyData) : PySem.W.kitOne K (.type (tyN d)) (.type T) = some (isT T d) := by
  obtain ⟨h1, h2, h3, h4, h5, h6, h7⟩ := h
  cases d <;> first | exact kit_ty h1 | exact kit_ty h2 | exact kit_ty h3 | exact kit_ty h4 | exact kit_ty h5 | exact kit_ty h6 | exact kit_ty h7
variable {e : Expr} {d : M PyData} {pos p p2 : Pos}
def dIs (T : String) (d : M PyData) : M PyData := bnd d fun x => ret (.bool (isT T x))
theorem se_isi {T : Str} {Ts : String} (hk : KitOk Ts) (hg : Gl X "isinstance") (hm : X.mg "isinstance" = none) (hgT : Gl X T) (hmT : X.mg T = none) (hvT : bootBuiltins T = some (.type Ts)) (ha : SW X e d) (hnT : T ≠ "__name__" := by decide) (hdT : (T == ("__debug__" : Str)) = false := by decide)
    (h1 : starEach [e, .Name T p2] X.env = (false, eval e X.env) :: starEach [.Name T p2] X.env := by rfl) (h2 : starEach [.Name T p2] X.env = (false, eval (.Name T p2) X.env) :: starEach [] X.env := by rfl) (hpl : (backTo pos (starEach [.Name T p2] X.env)).any (·.1) = false := by rfl) :
    SE X (.Call (.Name "isinstance" p) [e, .Name T p2] [] pos) (dIs Ts d) :=
  PE.imp (pe_callB call_isi2 hg hm (by decide +kernel) (pa_cons ha (pa_cons (pe_bltn (v := .ty Ts) hgT hmT hvT rfl hnT hdT) pa_nil h2) h1) (by decide) (by decide) h1 hpl) fun σ H Q ⟨env, os, G, z, env', R, q, k⟩ => by
    obtain ⟨y, e2, q3, q4⟩ := bnd_inv q
    cases q4
    exact ⟨env, os, G, y, env', R, q3, fun H' os' v x R' p => ⟨v, .ty Ts, _, _, _, rfl, .ty Ts, (p.rw R').ty, hk.one y, k H' os' _ x R' (.inl (.bl _))⟩⟩
/-! ### sorted, min, max of lists of alike data -/
def dLe (a b : PyData) : Bool := !PySem.W.dataLt b a
def alikeB (ds : List PyData) : Bool := ds.all fun d => ds.all fun d' => PySem.W.alike d d'
def isTup1 : PyData → Bool | .tuple (_ :: _) => true | _ => false
def noTup : PyData → Bool | .tuple _ => false | .none => false | _ => true
def isTupB : PyData → Bool | .tuple _ => true | _ => false
def sort0B : List PyData → Bool | .tuple [] :: r => r.all isTupB | _ => false
def sortB (ds : List PyData) : Bool := (ds.all isTup1 || ds.all noTup) || sort0B ds
theorem alikeB_inv {ds} (h : alikeB ds = true) : PySem.W.AllAlike ds := fun d hd d' hd' => List.all_eq_true.mp (List.all_eq_true.mp h d hd) d' hd'
theorem sort0B_inv {ds} (h : sort0B ds = true) : Sort0 ds := by
  unfold sort0B at h
  split at h
  · rename_i r
    refine ⟨⟨r, rfl⟩, fun d hd => ?_⟩
    rcases List.mem_cons.mp hd with rfl | hd
    · exact ⟨[], rfl⟩
    · have q := List.all_eq_true.mp h d hd
      unfold isTupB at q; split at q
      · exact ⟨_, rfl⟩
      · cases q
  · cases h
theorem sortB_inv {ds} (h : sortB ds = true) : PySem.W.Sortable ds ∨ Sort0 ds := by
  rcases Bool.or_eq_true _ _ ▸ h with h | h
  rotate_left
  · exact .inr (sort0B_inv h)
  refine .inl ?_
  rcases Bool.or_eq_true _ _ ▸ h with h | h
  · refine .inl fun d hd => ?_
    have q := List.all_eq_true.mp h d hd
    unfold isTup1 at q; split at q
    · exact ⟨_, _, rfl⟩
    · cases q
  · refine .inr fun d hd => ?_
    have q := List.all_eq_true.mp h d hd
    unfold noTup at q; split at q
    · cases q
    · cases q
    · rename_i h1 h2; exact ⟨h2, fun xs e => h1 xs e⟩
def rSortA (K : PySem.W.Frag) : List V → Hp → VK → Prop := fun vs H Q => ∃ (a : Addr) (xs : List V) (ds : List PyData), vs = [V.ref a] ∧ SqL K H a xs ∧ DpAll K H xs ds ∧ SeqAt.shaped (.list ds) = true ∧ alikeB ds = true ∧ sortB ds = true ∧
  ∀ (p : Addr), H p = none → Q (.ref p) (upd H p (.lst (((xs.zip ds).mergeSort fun x y => dLe x.2 y.2).map (·.1))))
theorem dpAll_length {H} : ∀ {vs ds}, DpAll K H vs ds → vs.length = ds.length
  | _, _, .nil => rfl
  | _, _, .cons _ b => congrArg (· + 1) (dpAll_length b)
theorem vals_each : ∀ {out : List Value} {bs : List (V × PyData)}, PySem.W.EachIs (fun v b => RelV b.1 v) out bs → Vals (bs.map (·.1)) out
  | _, _, .nil => .nil
  | _, _, .cons a b => .cons a (vals_each b)
theorem each_zip {pins : List (Addr × Obj)} {σ : L2.St} {H : Hp} {s : Shared} (I : Inv X pins σ H s) : ∀ {xs : List V} {ds : List PyData} {its : List Value}, DpAll X.K H xs ds → Vals xs its →
    PySem.W.EachIs (fun v b => RelV b.1 v) its (xs.zip ds) ∧ PySem.W.EachIs (fun v b => ∃ as, Reads s.heap v b.2 as) its (xs.zip ds)
  | _, _, _, .nil, .nil => ⟨.nil, .nil⟩
  | _, _, _, .cons a b, .cons r t => by
    obtain ⟨h1, h2⟩ := each_zip I b t
    obtain ⟨as, q⟩ := Dp.reads I _ _ _ a r
    exact ⟨.cons r h1, .cons ⟨as, q⟩ h2⟩
theorem map_zip2 {α β} : ∀ {xs : List α} {ds : List β}, xs.length = ds.length → (xs.zip ds).map (·.2) = ds
  | [], [], _ => rfl
  | _ :: _, _ :: _, h => by simp [map_zip2 (Nat.succ.inj h)]
theorem depth_all {ds : List PyData} : ∀ d ∈ ds, d.depth ≤ PyData.depthAll ds := by
  induction ds with
  | nil => intro d h; cases h
  | cons x r ih =>
    intro d h
    simp only [PyData.depthAll]
    rcases List.mem_cons.mp h with rfl | h
    · omega
    · have := ih d h; omega
theorem call_sortedA (hu : X.A.units + 70 < cLine) : CallR X (.builtin "sorted") (rSortA X.K) := by
  intro pins s σ H vs us Q I r h
  obtain ⟨a, xs, ds, rfl, hs, hd, sh, al, so, q⟩ := h
  obtain ⟨its, rv, hl, hz⟩ := I.list hs
  rw [Vals.ref1 r]
  obtain ⟨h1, h2⟩ := each_zip I hd rv
  have e2 : (xs.zip ds).map (·.2) = ds := map_zip2 (dpAll_length hd)
  have hlz : (xs.zip ds).length = its.length := by rw [List.length_zip, ← dpAll_length hd, Nat.min_self, rv.length]
  refine sorted_dataC (enc := fun b : V × PyData => b.2) hl.isList h1 h2 (by rw [e2]; exact alikeB_inv al) (by rw [e2]; exact sortB_inv so) (by rw [hlz, ← rv.length]; exact hz) (fun b hb => ?_) fun out ho ho2 => ?_
  · have hb2 : b.2 ∈ ds := by rw [← e2]; exact List.mem_map_of_mem hb
    have h3 := depth_all b.2 hb2
    have h4 := SeqAt.depth_of_shaped sh
    simp only [PyData.depth] at h4
    omega
  · obtain ⟨ep, he'⟩ := PyProof.Rows.sortedAll_at s.heap its out.toArray
    have hv := vals_each ho2
    refine ⟨.ref _, upd H (s.heap.objs.size + 1) (.lst (((xs.zip ds).mergeSort fun x y => dLe x.2 y.2).map (·.1))), I.laid (t' := s.toks) (fun _ _ => PyProof.Rows.sortedAll_old) (Nat.le_succ _) ⟨?_, out, ep, hv, he'⟩, rfl, q _ (I.hok.fresh (Nat.le_succ _))⟩
    rw [List.length_map, List.length_mergeSort, hlz, ← rv.length]; exact hz
def fSorted : PyData → Option PyData
  | .list ds => if shp (.list ds) && alikeB ds && sortB ds then some (.list (ds.mergeSort dLe)) else none
  | _ => none
theorem rpAll_pairs {H A} : ∀ {bs : List (V × PyData)}, (∀ b ∈ bs, Rp K H A b.1 b.2) → RpAll K H A (bs.map (·.1)) (bs.map (·.2))
  | [], _ => .nil
  | b :: r, h => .cons (h b (List.mem_cons_self)) (rpAll_pairs fun c hc => h c (List.mem_cons_of_mem _ hc))
theorem RpAll.zip {H A} : ∀ {vs ds}, RpAll K H A vs ds → ∀ b ∈ vs.zip ds, Rp K H A b.1 b.2
  | _, _, .nil => fun b h => by cases h
  | _, _, .cons a t => fun b h => by
    rw [List.zip_cons_cons] at h
    rcases List.mem_cons.mp h with rfl | h
    · exact a
    · exact RpAll.zip t b h
theorem RpAll.sort {H A vs ds} (r : RpAll K H A vs ds) : RpAll K H A (((vs.zip ds).mergeSort fun x y => dLe x.2 y.2).map (·.1)) (ds.mergeSort dLe) := by
  have e : ds.mergeSort dLe = ((vs.zip ds).mergeSort fun x y => dLe x.2 y.2).map (·.2) := by
    rw [List.map_mergeSort (s := dLe) (fun _ _ _ _ => rfl), map_zip2 r.length]
  rw [e]
  exact rpAll_pairs fun b hb => r.zip b (List.mem_mergeSort.mp hb)
theorem c1f_sorted : C1F K (rSortA K) fSorted := by
  intro H A v d z Q tr r h k
  cases d <;> simp only [fSorted, reduceCtorEq] at h
  split at h
  · rename_i c; cases h
    simp only [Bool.and_eq_true] at c
    obtain ⟨a, vs, rfl, s, q⟩ := r.lst
    have cl := SeqAt.canLay_of_shaped c.1.1
    exact ⟨a, vs, _, rfl, .inl (.inl s), q.dp cl, c.1.1, c.1.2, c.2, fun p np => k p _ np trivial (.lst upd_same (q.sort.map (keeps_new np)))⟩
  · cases h
end
end SL

set_option Elab.async false
set_option linter.all false
set_option maxRecDepth 100000
set_option maxHeartbeats 4000000
/-! SL6: targets, statements, loops, comprehensions. -/
namespace SL
open PySem PySem.Spec PyProof.Rows L2
inductive Fl where | nx | bk | ct | rt (d : PyData) | ro (d : PyData)
def Post (K : PySem.W.Frag) (H0 H : Hp) (os : Os) (G : Gh) (env : En) (σ : L2.St) (D : Ends) : Fl → Prop
  | .nx => Rel K H env σ os G → D.nx σ H
  | .bk => Rel K H env σ os G → D.bk σ H
  | .ct => Rel K H env σ os G → D.ct σ H
  | .rt d => Rel K H env σ os G → ∀ v, Rp K H (Av os G.Fr) v d → D.rt v H
  | .ro d => ∀ a, H0 a = none → Rel K H env σ os (G.plus a) → OwnAt K H (Av os (G.plus a).Fr) a d → D.rt (.ref a) H
def rdS (K : PySem.W.Frag) (d : M Fl) : TS := fun D σ H => ∃ env os G r env', Rel K H env σ os G ∧ d env = some (r, env') ∧ ∀ H' os' σ', Ext os os' H H' → Post K H H' os' G env' σ' D r
abbrev SS (X : Cx) (st : Stmt) (d : M Fl) : Prop := PS X st (rdS X.K d)
abbrev SB (X : Cx) (st : List Stmt) (d : M Fl) : Prop := PSs X st (rdS X.K d)
theorem PS.imp {X : Cx} {e t t'} (h : PS X e t) (f : ∀ D σ H, t' D σ H → t D σ H) : PS X e t' := ⟨fun pins s σ H D I q => h.run pins s σ H D I (f _ _ _ q)⟩
theorem PSs.imp {X : Cx} {e t t'} (h : PSs X e t) (f : ∀ D σ H, t' D σ H → t D σ H) : PSs X e t' := ⟨fun pins s σ H D I q => h.run pins s σ H D I (f _ _ _ q)⟩
/-- a later end is an end -/
theorem Post.mono {K H0 H1 H os G env σ D r} (tr : ∀ a, H0 a ≠ none → H1 a ≠ none) (h : Post K H0 H os G env σ D r) : Post K H1 H os G env σ D r := by
  cases r with
  | ro d => exact fun a n R o => h a (by
      cases q : H0 a with
      | none => rfl
      | some w => exact absurd n (tr a (by rw [q]; exact fun z => nomatch z))) R o
  | _ => exact h
section
variable {X : Cx} {a b c e o : Expr} {es : List Expr} {da db dc d : M PyData} {pos : Pos} {st : Stmt} {sts : List Stmt} {d1' d2' ds : M Fl}
def sNx : M Fl := ret .nx
def sSeq (d1 d2 : M Fl) : M Fl := bnd d1 fun r => match r with | .nx => d2 | r => ret r
theorem sb_nil : SB X [] sNx := PSs.imp pss_nil fun D σ H ⟨env, os, G, r, env', R, q, k⟩ => by cases q; exact k H os σ (Ext.refl _ _) R
theorem seq_rd {K : PySem.W.Frag} {D σ H} (h : rdS K (sSeq d1' d2') D σ H) : tSeq (rdS K d1') (rdS K d2') D σ H := by
  obtain ⟨env, os, G, r, env', R, q, k⟩ := h
  obtain ⟨r1, e1, q1, q2⟩ := bnd_inv q
  refine ⟨env, os, G, r1, e1, R, q1, fun H1 os1 σ1 x1 => ?_⟩
  cases r1 with
  | nx => exact fun R1 => ⟨e1, os1, G, r, env', R1, q2, fun H2 os2 σ2 x2 => Post.mono x1.trk (k H2 os2 σ2 (x1.trans x2))⟩
  | bk => cases q2; exact k H1 os1 σ1 x1
  | ct => cases q2; exact k H1 os1 σ1 x1
  | rt v => cases q2; exact k H1 os1 σ1 x1
  | ro v => cases q2; exact k H1 os1 σ1 x1
theorem sb_cons (h1 : SS X st d1') (h2 : SB X sts d2') : SB X (st :: sts) (sSeq d1' d2') := PSs.imp (pss_cons h1 h2) fun D σ H h => seq_rd h
theorem sb_one (h1 : SS X st d1') : SB X [st] d1' := pss_one h1
def sBk : M Fl := ret .bk
def sCt : M Fl := ret .ct
theorem ss_pass : SS X (.Pass pos) sNx := PS.imp ps_pass fun D σ H ⟨env, os, G, r, env', R, q, k⟩ => by cases q; exact k H os σ (Ext.refl _ _) R
theorem ss_break : SS X (.Break pos) sBk := PS.imp ps_break fun D σ H ⟨env, os, G, r, env', R, q, k⟩ => by cases q; exact k H os σ (Ext.refl _ _) R
theorem ss_cont : SS X (.Continue pos) sCt := PS.imp ps_continue fun D σ H ⟨env, os, G, r, env', R, q, k⟩ => by cases q; exact k H os σ (Ext.refl _ _) R
def sDrop (d : M PyData) : M Fl := bnd d fun _ => ret .nx
theorem ss_expr (he : SE X e d) (hs : swapsWith e none pos.line X.env = pure false := by rfl) : SS X (.Expr e pos) (sDrop d) := PS.imp (ps_expr he hs) fun D σ H ⟨env, os, G, r, env', R, q, k⟩ => by
  obtain ⟨x, e1, q1, q2⟩ := bnd_inv q
  cases q2
  exact ⟨env, os, G, x, env', R, q1, fun H' os' v x R' p => k H' os' σ x R'⟩
def sRt (d : M PyData) : M Fl := bnd d fun x => ret (.rt x)
def sRo (d : M PyData) : M Fl := bnd d fun x => ret (.ro x)
def sRtN : M Fl := ret (.rt .none)
theorem ss_ret (he : SE X e d) : SS X (.Return (some e) pos) (sRt d) := PS.imp (ps_ret he) fun D σ H ⟨env, os, G, r, env', R, q, k⟩ => by
  obtain ⟨x, e1, q1, q2⟩ := bnd_inv q
  cases q2
  exact ⟨env, os, G, x, env', R, q1, fun H' os' v x R' p => k H' os' σ x R' v p.strong⟩
theorem ss_retO (he : SF X e d) : SS X (.Return (some e) pos) (sRo d) := PS.imp (ps_ret he) fun D σ H ⟨env, os, G, r, env', R, q, k⟩ => by
  obtain ⟨x, e1, q1, q2⟩ := bnd_inv q
  cases q2
  exact ⟨env, os, G, x, env', R, q1, fun H' os' v x n R' p => k H' os' σ x v n R' p⟩
theorem ss_retN : SS X (.Return none pos) sRtN := PS.imp ps_retN fun D σ H ⟨env, os, G, r, env', R, q, k⟩ => by cases q; exact k H os σ (Ext.refl _ _) R _ .non
def sIf (c : M Bool) (d1 d2 : M Fl) : M Fl := bnd c fun t => if t = true then d1 else d2
theorem ss_if {tc : M Bool} {ab bb : List Stmt} (hc : ST X c tc) (ha : SB X ab d1') (hb : SB X bb d2') : SS X (.If c ab bb pos) (sIf tc d1' d2') := PS.imp (ps_if hc ha hb) fun D σ H ⟨env, os, G, r, env', R, q, k⟩ => by
  obtain ⟨x, e1, q1, q2⟩ := bnd_inv q
  refine ⟨env, os, G, x, e1, R, q1, fun H' os' x1 R' => ?_⟩
  cases x with
  | true => exact ⟨e1, os', G, r, env', R', q2, fun H2 os2 σ2 x2 => Post.mono x1.trk (k H2 os2 σ2 (x1.trans x2))⟩
  | false => exact ⟨e1, os', G, r, env', R', q2, fun H2 os2 σ2 x2 => Post.mono x1.trk (k H2 os2 σ2 (x1.trans x2))⟩
/-! ### targets -/
def rdG (K : PySem.W.Frag) (g : PyData → En → Option En) (ts : List Nat) : TG := fun v σ H Q => ∃ env os G x env', Rel K H env σ os G ∧ Rp K H (Av os G.Fr) v x ∧ g x env = some env' ∧
  ∀ os' σ', Ext os os' H H → Rel K H env' σ' os' G → σ'.length = σ.length → (∀ j, j ∉ ts → σ'[j]? = σ[j]?) → Q σ' H
abbrev SG (X : Cx) (e : Expr) (g : PyData → En → Option En) (ts : List Nat) : Prop := PG X e (rdG X.K g ts)
theorem PG.imp {e t t'} (h : PG X e t) (f : ∀ v σ H Q, t' v σ H Q → t v σ H Q) : PG X e t' := ⟨fun pins s σ H v u Q I r q => h.run pins s σ H v u Q I r (f _ _ _ _ q)⟩
theorem PGs.imp {e t t'} (h : PGs X e t) (f : ∀ v σ H Q, t' v σ H Q → t v σ H Q) : PGs X e t' := ⟨fun pins s σ H v u Q I r q => h.run pins s σ H v u Q I r (f _ _ _ _ q)⟩
def gN (i : Nat) : PyData → En → Option En := fun x e => e.put i (.val x)
theorem sg_name (i : Nat) {x : Str} (hN : X.N.Nodup) (hi : X.N[i]? = some x := by rfl) (hx : Loc X.env.scope x := by first | exact Or.inl rfl | exact Or.inr rfl) (hf : X.fn x = true ∨ X.env.scope.names.lookup x = some .local := by first | exact .inl rfl | exact .inr rfl | assumption) :
    SG X (.Name x pos) (gN i) [i] := PG.imp (pg_name hN hi hx hf) fun v σ H Q ⟨env, os, G, x, env', R, p, q, k⟩ => by
  exact k _ _ (Ext.del _ _ _) (R.put_val p q) (by simp) fun j hj => by rw [List.getElem?_set_ne]; intro z; exact hj (by simp [z])
def rdGs (K : PySem.W.Frag) (g : List PyData → En → Option En) (ts : List Nat) : TGs := fun vs σ H Q => ∃ env os G xs env', Rel K H env σ os G ∧ RpAll K H (Av os G.Fr) vs xs ∧ g xs env = some env' ∧
  ∀ os' σ', Ext os os' H H → Rel K H env' σ' os' G → σ'.length = σ.length → (∀ j, j ∉ ts → σ'[j]? = σ[j]?) → Q σ' H
abbrev SGs (X : Cx) (es : List Expr) (g : List PyData → En → Option En) (ts : List Nat) : Prop := PGs X es (rdGs X.K g ts)
def gsNil : List PyData → En → Option En := fun xs e => match xs with | [] => some e | _ => none
def gsCons (g : PyData → En → Option En) (gs : List PyData → En → Option En) : List PyData → En → Option En := fun xs e => match xs with | x :: r => (g x e).bind (gs r) | [] => none
theorem sgs_nil : SGs X [] gsNil [] := PGs.imp pgs_nil fun v σ H Q ⟨env, os, G, x, env', R, p, q, k⟩ => by
  cases p with
  | nil => cases q; exact ⟨rfl, k os σ (Ext.refl _ _) R rfl fun _ _ => rfl⟩
  | cons a b => cases q
theorem sgs_cons {g gs t1 t2} (h1 : SG X e g t1) (h2 : SGs X es gs t2) (hs : (assignEach (e :: es) X.env).map (·.2) = assign e X.env :: (assignEach es X.env).map (·.2) := by rfl) : SGs X (e :: es) (gsCons g gs) (t1 ++ t2) :=
  PGs.imp (pgs_cons h1 h2 hs) fun v σ H Q ⟨env, os, G, x, env', R, p, q, k⟩ => by
    cases p with
    | nil => cases q
    | @cons v vs x xs p ps =>
      obtain ⟨e1, q1, q2⟩ := Option.bind_eq_some_iff.mp q
      refine ⟨v, vs, rfl, env, os, G, x, e1, R, p, q1, fun os1 σ1 x1 R1 l1 s1 => ⟨e1, os1, G, xs, env', R1, ps.ext x1, q2, fun os2 σ2 x2 R2 l2 s2 => ?_⟩⟩
      exact k os2 σ2 (x1.trans x2) R2 (l2.trans l1) fun j hj => (s2 j fun z => hj (List.mem_append_right _ z)).trans (s1 j fun z => hj (List.mem_append_left _ z))
def gT (n : Nat) (gs : List PyData → En → Option En) : PyData → En → Option En := fun x e => match x with | .tuple xs => if xs.length = n then gs xs e else none | _ => none
theorem sg_tup {k1} {n : Nat} {gs ts} (hc : X.calm = true) (h : SGs X es gs ts) (hn : (assignEach es X.env).length = n := by rfl) (hst : (assignEach es X.env).findIdx? (·.1) = none := by rfl) : SG X (.Tuple es k1 pos) (gT n gs) ts :=
  PG.imp (pg_tup hc h hn hst) fun v σ H Q ⟨env, os, G, x, env', R, p, q, k⟩ => by
    unfold gT at q
    split at q
    · split at q
      · rename_i hl
        obtain ⟨a, vs, rfl, s, r⟩ := Rw.tup (.inl p)
        exact ⟨a, vs, rfl, s.sq, by rw [r.length]; exact hl, env, os, G, _, env', R, r, q, k⟩
      · cases q
    · cases q
def sAsg (d : M PyData) (g : PyData → En → Option En) : M Fl := bnd d fun x => fun e => (g x e).map fun e' => (.nx, e')
theorem ss_asg {tg : Expr} {g ts} (he : SE X e d) (hg : SG X tg g ts) (hs : swapsWithSole [tg] e pos.line X.env = pure false := by rfl) (hw : swappedStores [tg] e X.env = pure none := by rfl)
    (h1 : (assignEach [tg] X.env).map (·.2) = [assign tg X.env] := by rfl) : SS X (.Assign [tg] e pos) (sAsg d g) := PS.imp (ps_asg he hg hs hw h1) fun D σ H ⟨env, os, G, r, env', R, q, k⟩ => by
  obtain ⟨x, e1, q1, q2⟩ := bnd_inv q
  obtain ⟨e2, q3, q4⟩ := Option.map_eq_some_iff.mp q2
  cases q4
  exact ⟨env, os, G, x, e1, R, q1, fun H1 os1 v x1 R1 p1 => ⟨e1, os1, G, x, env', R1, p1.strong, q3, fun os2 σ2 x2 R2 _ _ => k H1 os2 σ2 (x1.trans x2) R2⟩⟩
def sSet (i : Nat) (d : M PyData) : M Fl := sAsg d (gN i)
theorem ss_set (i : Nat) {x : Str} {pos' : Pos} (hN : X.N.Nodup) (he : SE X e d) (hs : swapsWith e (some (.Name x pos')) pos.line X.env = pure false := by rfl) (hi : X.N[i]? = some x := by rfl) (hx : Loc X.env.scope x := by first | exact Or.inl rfl | exact Or.inr rfl)
    (hf : X.fn x = true ∨ X.env.scope.names.lookup x = some .local := by first | exact .inl rfl | exact .inr rfl | assumption) : SS X (.Assign [.Name x pos'] e pos) (sSet i d) := PS.imp (ps_set hN hi hx he hs hf) fun D σ H ⟨env, os, G, r, env', R, q, k⟩ => by
  unfold sSet sAsg at q
  obtain ⟨x, e1, q1, q2⟩ := bnd_inv q
  obtain ⟨e2, q3, q4⟩ := Option.map_eq_some_iff.mp q2
  cases q4
  exact ⟨env, os, G, x, e1, R, q1, fun H1 os1 v x1 R1 p1 => k H1 _ _ (x1.trans (Ext.del _ _ _)) (R1.put_val p1.strong q3)⟩
def sOwn (i : Nat) (d : M PyData) : M Fl := bnd d fun x => fun e => (e.put i (.own x)).map fun e' => (.nx, e')
theorem ss_own (i : Nat) {x : Str} {pos' : Pos} (hN : X.N.Nodup) (he : SF X e d) (hs : swapsWith e (some (.Name x pos')) pos.line X.env = pure false := by rfl) (hi : X.N[i]? = some x := by rfl) (hx : Loc X.env.scope x := by first | exact Or.inl rfl | exact Or.inr rfl)
    (hf : X.fn x = true ∨ X.env.scope.names.lookup x = some .local := by first | exact .inl rfl | exact .inr rfl | assumption) : SS X (.Assign [.Name x pos'] e pos) (sOwn i d) := PS.imp (ps_set hN hi hx he hs hf) fun D σ H ⟨env, os, G, r, env', R, q, k⟩ => by
  obtain ⟨x, e1, q1, q2⟩ := bnd_inv q
  obtain ⟨e2, q3, q4⟩ := Option.map_eq_some_iff.mp q2
  cases q4
  refine ⟨env, os, G, x, e1, R, q1, fun H1 os1 a x1 n R1 o1 => ?_⟩
  have nF : ¬ G.Fr a := fun z => by obtain ⟨⟨u, _, t⟩, _⟩ := R.fr a z; exact rdSome t n
  obtain ⟨os2, R2, h2⟩ := R1.put_own o1 nF q3
  refine k H1 os2 _ ⟨x1.keep, fun b u hb nb j z => ?_, x1.trk⟩ R2
  rcases h2 j b z with z | z
  · exact x1.own b u hb nb j z
  · subst z; rw [n] at hb; cases hb
/-! ### what is owned is written -/
theorem Rel.write {K H env σ os G d} {i : Nat} (R : Rel K H env σ os G) (h : env.obj i = some d) : ∃ a, os i = some a ∧ σ[i]? = some (some (.ref a)) ∧ OwnAt K H (Av os G.Fr) a d ∧
    (∀ o, mutb o → Keeps H (L2.upd H a o) (Av os G.Fr) (Av os G.Fr)) ∧ ∀ o d', mutb o → OwnAt K (L2.upd H a o) (Av os G.Fr) a d' → Rel K (L2.upd H a o) (env.mut i d') σ os G ∧ Ext os os H (L2.upd H a o) := by
  obtain ⟨a, h1, h2, h3⟩ := R.obj h
  have ne : ∀ b, ¬ Av os G.Fr b → b ≠ a := fun b n z => n (.inl ⟨i, z ▸ h1⟩)
  have kp : ∀ o, mutb o → Keeps H (L2.upd H a o) (Av os G.Fr) (Av os G.Fr) := fun o _ b u _ r n => ⟨rq_upd (upd_ne (ne b n)) r, n⟩
  refine ⟨a, h1, h2, h3, kp, fun o d' m w => ⟨⟨fun j => ?_, R.inj, fun b hb => ⟨?_, (R.fr b hb).2⟩, ?_, fun j b z => ?_⟩, fun b u hb nb => ?_, fun b u _ nb => nb, fun b hb => ?_⟩⟩
  · have lt : i < env.length := Nat.lt_of_not_le fun l => by unfold En.obj at h; rw [at_none l] at h; cases h
    have old := R.sl j
    by_cases hj : i = j
    · subst hj
      unfold En.obj at h
      unfold En.mut
      cases e : env.at i with
      | no => rw [e] at h; cases h
      | val d => rw [e] at h; cases h
      | own d0 => rw [at_set, if_pos ⟨rfl, lt⟩]; exact ⟨a, h1, h2, w⟩
      | lent d0 => rw [at_set, if_pos ⟨rfl, lt⟩]; exact ⟨a, h1, h2, w⟩
    · have e : (env.mut i d').at j = env.at j := by
        unfold En.mut
        split <;> first | (rw [at_set, if_neg (fun z => hj z.1)]) | rfl
      rw [e]
      exact old.map (kp o m) fun b hb => upd_ne fun z => hj (R.inj i j a h1 (by rw [← z]; exact hb))
  · obtain ⟨u, m2, r⟩ := (R.fr b hb).1
    exact ⟨u, m2, rq_upd (upd_ne fun z => (R.fr b hb).2 i (by rw [z]; exact h1)) r⟩
  · unfold En.mut; split <;> simp [R.len]
  · obtain ⟨g1, dd, g2⟩ := R.lt j b z
    refine ⟨g1, ?_⟩
    by_cases hj : i = j
    · subst hj
      unfold En.mut
      rw [g2]
      have lt : i < env.length := Nat.lt_of_not_le fun l => by rw [at_none l] at g2; cases g2
      exact ⟨d', by rw [at_set, if_pos ⟨rfl, lt⟩]⟩
    · refine ⟨dd, ?_⟩
      unfold En.mut
      split <;> first | (rw [at_set, if_neg (fun z => hj z.1)]; exact g2) | exact g2
  · rw [upd_ne fun z => nb i (by rw [z]; exact h1)]; exact hb
  · by_cases z : b = a
    · subst z; rw [upd_same]; exact fun z => nomatch z
    · rw [upd_ne z]; exact hb
/-- x.append(e) -/
def isL : Option PyData → Bool | some (.list _) => true | _ => false
def sApp (i : Nat) (d : M PyData) : M Fl := fun e0 => if isL (e0.obj i) = true then bnd d (fun x => fun e => match e.obj i with | some (.list ds) => if ds.length < 16777216 then some (.nx, e.mut i (.list (ds ++ [x]))) else none | _ => none) e0 else none
theorem isL_inv {o} (h : isL o = true) : ∃ ds, o = some (.list ds) := by
  unfold isL at h; split at h
  · exact ⟨_, rfl⟩
  · cases h
theorem szlt {n : Nat} (h : n < 16777216) : n < sizeLine := by rw [sizeLine_eq]; exact h
theorem PE.or {e t t'} (h : PE X e t) (h' : PE X e t') : PE X e (fun σ H Q => t σ H Q ∨ t' σ H Q) := ⟨fun pins s σ H Q I q => q.elim (h.run pins s σ H Q I) (h'.run pins s σ H Q I)⟩
theorem ss_app (i : Nat) {x : Str} {p1 apos cpos : Pos} (he : SE X e d) (hN : X.N[i]? = some x := by rfl) (hv : Vis X.env.scope x := by first | exact Or.inl rfl | exact Or.inr (Or.inl rfl) | exact Or.inr (Or.inr rfl)) (hd : (x == ("__debug__" : Str)) = false := by decide) (hcd : (x == ("__classdict__" : Str)) = false := by decide)
    (hs : starEach [e] X.env = (false, eval e X.env) :: starEach [] X.env := by rfl) (hbase : attributeBase (.Name x p1) "append" X.env (eval (.Name x p1) X.env) = eval (.Name x p1) X.env := by rfl)
    (hfew : ((backTo cpos (starEach [e] X.env)).all (fun x => !x.1) && (backToKw cpos (keywordEach [] X.env)).all (fun x => x.1.isSome) && decide ([e].length + ([] : List Keyword).length + (if ([] : List Keyword).isEmpty then 0 else 1) < 30)) = true := by rfl)
    (hline : (apos.endLine == cpos.line) = true := by rfl) (hplain : (backTo cpos (starEach [] X.env)).any (·.1) = false := by rfl)
    (hsw : swapsWith (.Call (.Attribute (.Name x p1) "append" apos) [e] [] cpos) none pos.line X.env = pure false := by rfl) :
    SS X (.Expr (.Call (.Attribute (.Name x p1) "append" apos) [e] [] cpos) pos) (sApp i d) :=
  PS.imp (ps_expr (pe_bm PySem.F.plainAttrs_list PySem.F.slot_list_append PySem.F.type_list_append mt_append (pe_var hN hv hd hcd) (pa_cons he pa_nil hs) hbase hfew hline hs hplain) hsw) fun D σ H ⟨env, os, G, r, env', R, q, k⟩ => by
    unfold sApp at q
    split at q
    · rename_i h0
      obtain ⟨d0, h0⟩ := isL_inv h0
      obtain ⟨a, _, s0, o0⟩ := R.obj h0
      obtain ⟨x, e1, q1, q2⟩ := bnd_inv q
      refine ⟨.ref a, s0, .inl ⟨rfl, ?_⟩, env, os, G, x, e1, R, q1, fun H1 os1 v x1 R1 p1 => ?_⟩
      · cases o0 with | lst t r => exact ⟨_, .inl (.inl t)⟩
      · split at q2
        · rename_i ds ho
          split at q2
          · rename_i hz; cases q2
            obtain ⟨b, _, s1, o1, kp, w⟩ := R1.write ho
            rw [s0] at s1; cases s1
            cases o1 with
            | @lst vs _ t r =>
              obtain ⟨R2, x2⟩ := w (.lst (vs ++ [v])) (.list (ds ++ [x])) trivial (.lst upd_same ((r.append (.one p1.strong)).map (kp (.lst (vs ++ [v])) trivial)))
              exact ⟨a, vs, v, rfl, rfl, t, by rw [r.length]; exact szlt hz, k _ os1 σ (x1.trans x2) R2⟩
          · cases q2
        · cases q2
    · cases q
end
end SL

set_option Elab.async false
set_option linter.all false
set_option maxRecDepth 100000
set_option maxHeartbeats 4000000
/-! SL7: loops, comprehensions, calls. -/
namespace SL
open PySem PySem.Spec PyProof.Rows L2
section
variable {X : Cx} {a b c e o : Expr} {es : List Expr} {da db dc d : M PyData} {pos : Pos} {st : Stmt} {sts : List Stmt} {d1' d2' ds : M Fl}
/-- x[k] = e in an owned list -/
def sPut (i : Nat) (dk dv : M PyData) : M Fl := bnd dv fun v => fun e0 => if isL (e0.obj i) = true then bnd dk (fun k => fun e => match e.obj i with
  | some (.list ds) => ((intOf k).bind (ixN ds.length)).map fun j => (.nx, e.mut i (.list (ds.set j v)))
  | _ => none) e0 else none
theorem ss_put (i : Nat) {x : Str} {p1 p2 : Pos} (hk : SE X c dc) (hv : SE X e d) (hN : X.N[i]? = some x := by rfl) (hvx : Vis X.env.scope x := by first | exact Or.inl rfl | exact Or.inr (Or.inl rfl) | exact Or.inr (Or.inr rfl)) (hd : (x == ("__debug__" : Str)) = false := by decide) (hcd : (x == ("__classdict__" : Str)) = false := by decide)
    (ha : ∀ v, assign (.Subscript (.Name x p1) c p2) X.env v = (do
      let ov ← holding [v] (eval (.Name x p1) X.env)
      let iv ← holding [v, ov] (eval c X.env)
      standAt p2
      holding [v, ov, iv] (setItem ov iv v)
      release [v, ov, iv] []) := by intro _; rfl)
    (hs : swapsWithSole [.Subscript (.Name x p1) c p2] e pos.line X.env = pure false := by rfl) (hw : swappedStores [.Subscript (.Name x p1) c p2] e X.env = pure none := by rfl)
    (h1 : (assignEach [.Subscript (.Name x p1) c p2] X.env).map (·.2) = [assign (.Subscript (.Name x p1) c p2) X.env] := by rfl) :
    SS X (.Assign [.Subscript (.Name x p1) c p2] e pos) (sPut i dc d) :=
  PS.imp (ps_asg hv (pg_sub (pe_var hN hvx hd hcd) hk set_list ha) hs hw h1) fun D σ H ⟨env, os, G, r, env', R, q, k⟩ => by
    obtain ⟨v, e1, q1, q2⟩ := bnd_inv q
    refine ⟨env, os, G, v, e1, R, q1, fun H1 os1 vv x1 R1 p1 => ?_⟩
    split at q2
    · rename_i h0
      obtain ⟨d0, h0⟩ := isL_inv h0
      obtain ⟨a, _, s0, o0⟩ := R1.obj h0
      obtain ⟨kk, e2, q3, q4⟩ := bnd_inv q2
      refine ⟨.ref a, s0, e1, os1, G, kk, e2, R1, q3, fun H2 os2 vk x2 R2 p2 => ?_⟩
      split at q4
      · rename_i ds ho
        obtain ⟨j, q5, q6⟩ := Option.map_eq_some_iff.mp q4
        cases q6
        obtain ⟨n, q6, q7⟩ := Option.bind_eq_some_iff.mp q5
        have := intOf_inv q6; subst this
        obtain ⟨b, _, s1, o1, kp, w⟩ := R2.write ho
        rw [s0] at s1; cases s1
        cases o1 with
        | @lst vs _ t r =>
          obtain ⟨R3, x3⟩ := w (.lst (vs.set j vv)) (.list (ds.set j v)) trivial (.lst upd_same ((r.set (p1.strong.ext x2) j).map (kp (.lst (vs.set j vv)) trivial)))
          exact ⟨a, vs, n, j, rfl, Rw.int (.inl p2.strong), t, by rw [r.length]; exact q7, k _ os2 σ ((x1.trans x2).trans x3) R3⟩
      · cases q4
    · cases q2
/-! ### what is walked -/
def Walk (K : PySem.W.Frag) (Fr : Addr → Prop) (os : Os) (H : Hp) (J : It) (items : List PyData) : Prop := ∀ os2 H2 (Fr2 : Addr → Prop), Keeps H H2 (Av os Fr) (Av os2 Fr2) → Trk H2 (Av os2 Fr2) → ∀ i,
  (∀ d, items[i]? = some d → J.go i H2 ∧ ∀ x H3, J.yld i H2 x H3 → Same H2 H3 ∧ Rp K H3 (Av os2 Fr2) x d) ∧ (items.length ≤ i → J.stop i H2)
def rdI (K : PySem.W.Frag) (d : M (List PyData)) : TI := fun σ H R => ∃ env os G r env', Rel K H env σ os G ∧ d env = some (r, env') ∧
  ∀ H' os' J, Ext os os' H H' → Rel K H' env' σ os' G → Walk K G.Fr os' H' J r → r.length ≤ 16777216 → R J H'
abbrev SI (X : Cx) (tg e : Expr) (d : M (List PyData)) : Prop := PI X tg e (rdI X.K d)
theorem PI.imp {tg e t t'} (h : PI X tg e t) (f : ∀ σ H R, t' σ H R → t σ H R) : PI X tg e t' := ⟨fun pins s σ H R I q => h.run pins s σ H R I (f _ _ _ q)⟩
/-- the lists and tuples are no longer than the line -/
def SzOk (K : PySem.W.Frag) (H : Hp) : Prop := (∀ a vs, SqL K H a vs → vs.length ≤ 16777216) ∧ ∀ a vs, SqT K H a vs → vs.length ≤ 16777216
theorem Inv.szOk {pins σ H s} (I : Inv X pins σ H s) : SzOk X.K H := ⟨fun a vs h => by
  obtain ⟨_, _, _, z⟩ := I.list h; rw [sizeLine_eq] at z; exact z, fun a vs h => by
  obtain ⟨_, _, _, z⟩ := I.tuple h; rw [sizeLine_eq] at z; exact z⟩
theorem PI.sz {tg e t} (h : PI X tg e t) : PI X tg e (fun σ H R => t σ H fun J H1 => SzOk X.K H1 → R J H1) := ⟨fun pins s σ H R I q =>
  thn (h.run pins s σ H _ I q) fun v s1 h1 => thn h1 fun itv s2 ⟨it, fp, tn, J, H2, a, I2, T, st, f, r⟩ => ⟨it, fp, tn, J, H2, a, I2, T, st, f, r (Inv.szOk I2)⟩⟩
def listOf : PyData → Option (List PyData) | .list ds => some ds | _ => none
def tupOf : PyData → Option (List PyData) | .tuple ds => some ds | _ => none
theorem listOf_inv {x b} (h : listOf x = some b) : x = .list b := by cases x <;> simp [listOf] at h; rw [h]
theorem tupOf_inv {x b} (h : tupOf x = some b) : x = .tuple b := by cases x <;> simp [tupOf] at h; rw [h]
def iL (d : M PyData) : M (List PyData) := bnd d fun x => lft (listOf x)
def iT (d : M PyData) : M (List PyData) := bnd d fun x => lft (tupOf x)
variable {tg : Expr}
theorem si_list (h : SE X e d) : SI X tg e (iL d) := PI.imp (PI.sz (pi_list h)) fun σ H Q ⟨env, os, G, r, env', R, q, k⟩ => by
  obtain ⟨x, e1, q1, q2⟩ := bnd_inv q
  obtain ⟨q3, rfl⟩ := lft_inv q2
  have := listOf_inv q3; subst this
  refine ⟨env, os, G, _, env', R, q1, fun H1 os1 v x1 R1 p1 => ?_⟩
  cases p1.strong with
  | @lst a vs _ s q =>
    refine ⟨a, rfl, ⟨vs, s.sq⟩, fun sz => k H1 os1 _ x1 R1 (fun os2 H2 Fr2 kp tr i => ?_) (by rw [← q.length]; exact sz.1 a vs s.sq)⟩
    have h2 := kp a (.lst vs) trivial s.1 s.2
    have q2 : RpAll X.K H2 (Av os2 Fr2) vs r := q.map kp
    have sq : SqL X.K H2 a vs := .inl (.inl h2.1)
    refine ⟨fun dd hd => ?_, fun hl => ⟨vs, sq, by rw [q.length]; exact hl⟩⟩
    obtain ⟨v, hv, pv⟩ := q2.get hd
    exact ⟨⟨vs, v, sq, hv⟩, fun x H3 ⟨e, hy⟩ => by
      subst e
      have : v = x := Option.some.inj (hv.symm.trans (hy vs sq))
      subst this
      exact ⟨Same.refl _, pv⟩⟩
theorem si_tup (h : SE X e d) : SI X tg e (iT d) := PI.imp (PI.sz (pi_tup h)) fun σ H Q ⟨env, os, G, r, env', R, q, k⟩ => by
  obtain ⟨x, e1, q1, q2⟩ := bnd_inv q
  obtain ⟨q3, rfl⟩ := lft_inv q2
  have := tupOf_inv q3; subst this
  refine ⟨env, os, G, _, env', R, q1, fun H1 os1 v x1 R1 p1 => ?_⟩
  cases p1.strong with
  | @tup a vs _ s q =>
    refine ⟨a, rfl, ⟨vs, s.sq⟩, fun sz => k H1 os1 _ x1 R1 (fun os2 H2 Fr2 kp tr i => ?_) (by rw [← q.length]; exact sz.2 a vs s.sq)⟩
    have s2 : SqT X.K H2 a vs := by
      rcases s with s | s
      · exact .inl (.inl (kp a (.tup vs) trivial s.1 s.2).1)
      · exact .inr s.1
    have q2 : RpAll X.K H2 (Av os2 Fr2) vs r := q.map kp
    refine ⟨fun dd hd => ?_, fun hl => ⟨vs, s2, by rw [q.length]; exact hl⟩⟩
    obtain ⟨v, hv, pv⟩ := q2.get hd
    exact ⟨⟨vs, v, s2, hv⟩, fun x H3 ⟨e, hy⟩ => by
      subst e
      have : v = x := Option.some.inj (hv.symm.trans (hy vs s2))
      subst this
      exact ⟨Same.refl _, pv⟩⟩
def upTo (lo : Int) (n : Nat) : List PyData := (List.range n).map fun i => .int (lo + (i : Nat))
theorem upTo_get {lo : Int} {n i : Nat} {dd} (h : (upTo lo n)[i]? = some dd) : i < n ∧ dd = .int (lo + i) := by
  unfold upTo at h
  rw [List.getElem?_map] at h
  obtain ⟨j, hj, rfl⟩ := Option.map_eq_some_iff.mp h
  obtain ⟨h1, h2⟩ := List.getElem?_eq_some_iff.mp hj
  rw [List.getElem_range] at h2
  subst h2
  exact ⟨by simpa using h1, rfl⟩
theorem upTo_length (lo : Int) (n : Nat) : (upTo lo n).length = n := by unfold upTo; simp
theorem walk_range {K : PySem.W.Frag} {Fr os H} (lo : Int) (n : Nat) : Walk K Fr os H (Itr lo n) (upTo lo n) := fun os2 H2 Fr2 kp tr i => by
  refine ⟨fun dd hd => ?_, fun hl => by rw [upTo_length] at hl; exact hl⟩
  obtain ⟨h1, rfl⟩ := upTo_get hd
  exact ⟨h1, fun x H3 ⟨e1, e2⟩ => by subst e1 e2; exact ⟨Same.refl _, .int _⟩⟩
def rg1 (j : Int) : Option (List PyData) := if -4611686018427387904 ≤ j ∧ j ≤ 16777216 then some (upTo 0 j.toNat) else none
def rg2 (i j : Int) : Option (List PyData) := if (-4611686018427387904 ≤ i ∧ i < 4611686018427387904) ∧ (-4611686018427387904 ≤ j ∧ j < 4611686018427387904) ∧ j - i ≤ 16777216 then some (upTo i (j - i).toNat) else none
def fRg1 (x : PyData) : Option (List PyData) := (intOf x).bind rg1
def fRg2 (x y : PyData) : Option (List PyData) := (intOf x).bind fun i => (intOf y).bind fun j => rg2 i j
def iR1 (d : M PyData) : M (List PyData) := bnd d fun x => lft (fRg1 x)
def iR2 (d d' : M PyData) : M (List PyData) := bnd d fun x => bnd d' fun y => lft (fRg2 x y)
theorem si_rng1 {p : Pos} (hg : Gl X "range") (hm : X.mg "range" = none) (ha : SE X a d) (hs : starEach [a] X.env = [(false, eval a X.env)] := by rfl) (hs2 : starEach [a] X.env = (false, eval a X.env) :: starEach [] X.env := by rfl) : SI X tg (.Call (.Name "range" p) [a] [] pos) (iR1 d) :=
  PI.imp (pi_range1 hg hm (pa_cons ha pa_nil hs2) hs) fun σ H Q ⟨env, os, G, r, env', R, q, k⟩ => by
    obtain ⟨x, e1, q1, q2⟩ := bnd_inv q
    obtain ⟨q3, rfl⟩ := lft_inv q2
    obtain ⟨j, q5, q6⟩ := Option.bind_eq_some_iff.mp q3
    have := intOf_inv q5; subst this
    unfold rg1 at q6
    split at q6
    · rename_i c; cases q6
      exact ⟨env, os, G, _, env', R, q1, fun H1 os1 v x1 R1 p1 => ⟨j, by rw [Rw.int (.inl p1.strong)], by omega, by omega, k H1 os1 _ x1 R1 (walk_range 0 _) (by rw [upTo_length]; omega)⟩⟩
    · cases q6
theorem si_rng2 {p : Pos} (hg : Gl X "range") (hm : X.mg "range" = none) (ha : SE X a da) (hb : SE X b db) (hs : starEach [a, b] X.env = [(false, eval a X.env), (false, eval b X.env)] := by rfl) (hs2 : starEach [b] X.env = [(false, eval b X.env)] := by rfl)
    (hs3 : starEach [a, b] X.env = (false, eval a X.env) :: starEach [b] X.env := by rfl) (hs4 : starEach [b] X.env = (false, eval b X.env) :: starEach [] X.env := by rfl) : SI X tg (.Call (.Name "range" p) [a, b] [] pos) (iR2 da db) :=
  PI.imp (pi_range2 hg hm (pa_cons ha (pa_cons hb pa_nil hs4) hs3) hs hs2) fun σ H Q ⟨env, os, G, r, env', R, q, k⟩ => by
    obtain ⟨x, e1, q1, q⟩ := bnd_inv q
    obtain ⟨y, e2, q2, q⟩ := bnd_inv q
    obtain ⟨q3, rfl⟩ := lft_inv q
    obtain ⟨i, q6, q5⟩ := Option.bind_eq_some_iff.mp q3
    obtain ⟨j, q9, q7⟩ := Option.bind_eq_some_iff.mp q5
    have := intOf_inv q6; subst this
    have := intOf_inv q9; subst this
    unfold rg2 at q7
    split at q7
    · rename_i c; cases q7
      refine ⟨env, os, G, _, e1, R, q1, fun H1 os1 v x1 R1 p1 => ⟨e1, os1, G, _, env', R1, q2, fun H2 os2 u x2 R2 p2 => ⟨i, j, ?_, ⟨by omega, by omega, by omega, by omega⟩, k H2 os2 _ (x1.trans x2) R2 (walk_range i _) (by rw [upTo_length]; omega)⟩⟩⟩
      rw [Rw.int (.inl p1.strong), Rw.int (.inl p2.strong)]
    · cases q7
/-! ### for -/
def forGo (g : PyData → En → Option En) (b : M Fl) : List PyData → M Fl
  | [], env => some (.nx, env)
  | x :: xs, env => (g x env).bind fun e1 => (b e1).bind fun p => match p.1 with
    | .nx => forGo g b xs p.2
    | .ct => forGo g b xs p.2
    | .bk => some (.nx, p.2)
    | r => some (r, p.2)
def sFor (di : M (List PyData)) (g : PyData → En → Option En) (b : M Fl) : M Fl := bnd di fun items => forGo g b items
theorem ss_for {iter : Expr} {body : List Stmt} {di : M (List PyData)} {g ts} (hp : PassesOwn (model X.prog X.w) X.A X.env X.xe) (hc : X.calm = true) (hi : SI X tg iter di) (hg : SG X tg g ts) (hb : SB X body d1')
    (hs : ∀ x, foldedSetIterable iter X.env x = pure x := by intro _; rfl) : SS X (.For tg iter body [] pos) (sFor di g d1') :=
  PS.imp (ps_for hp hc hi hg hb hs) fun D σ H ⟨env, os, G, r, env', R, q, k⟩ => by
    obtain ⟨items, e1, q1, q2⟩ := bnd_inv q
    refine ⟨env, os, G, items, e1, R, q1, fun H1 os1 J x1 R1 wk _ => ?_⟩
    refine ⟨fun i m σ3 H3 => m = items.length - i ∧ i ≤ items.length ∧ ∃ env3 os3, Ext os1 os3 H1 H3 ∧ Rel X.K H3 env3 σ3 os3 G ∧ forGo g d1' (items.drop i) env3 = some (r, env'),
      ⟨items.length, rfl, Nat.zero_le _, e1, os1, Ext.refl _ _, R1, q2⟩, ?_⟩
    rintro i m σ3 H3 ⟨rfl, hi', env3, os3, x3, R3, q3⟩
    by_cases hlt : i < items.length
    · obtain ⟨dd, hd⟩ : ∃ dd, items[i]? = some dd := ⟨items[i], List.getElem?_eq_getElem hlt⟩
      obtain ⟨go, step⟩ := (wk os3 H3 G.Fr x3.keeps R3.trk i).1 dd hd
      refine .inr ⟨go, fun σ' H' => ∃ env4 os4, Ext os1 os4 H1 H' ∧ Rel X.K H' env4 σ' os4 G ∧ forGo g d1' (items.drop (i + 1)) env4 = some (r, env'),
        fun σ' H' ⟨e4, o4, a1, a2, a3⟩ => ⟨items.length - (i + 1), by omega, rfl, hlt, e4, o4, a1, a2, a3⟩, fun x H4 hy => ?_⟩
      obtain ⟨sm, px⟩ := step x H4 hy
      rw [List.drop_eq_getElem_cons hlt] at q3
      have hd' : items[i] = dd := Option.some.inj ((List.getElem?_eq_getElem hlt).symm.trans hd)
      rw [hd'] at q3
      obtain ⟨e4, q4, q5⟩ := Option.bind_eq_some_iff.mp q3
      obtain ⟨p5, q5, q6⟩ := Option.bind_eq_some_iff.mp q5
      refine ⟨env3, os3, G, dd, e4, R3.ofSame sm, px, q4, fun os5 σ5 x5 R5 _ _ => ⟨e4, os5, G, p5.1, p5.2, R5, q5, fun H6 os6 σ6 x6 => ?_⟩⟩
      have x7 : Ext os1 os6 H1 H6 := ((x3.trans (Ext.same _ sm)).trans x5).trans x6
      cases hr : p5.1 with
      | nx => rw [hr] at q6; exact fun R6 => ⟨p5.2, os6, x7, R6, q6⟩
      | ct => rw [hr] at q6; exact fun R6 => ⟨p5.2, os6, x7, R6, q6⟩
      | bk => rw [hr] at q6; cases q6; exact k H6 os6 σ6 (x1.trans x7)
      | rt v => rw [hr] at q6; cases q6; exact k H6 os6 σ6 (x1.trans x7)
      | ro v => rw [hr] at q6; cases q6; exact Post.mono ((x1.trans (x3.trans (Ext.same _ sm))).trk) (k H6 os6 σ6 (x1.trans x7))
    · have e : i = items.length := by omega
      subst e
      rw [List.drop_length] at q3
      cases q3
      exact .inl ⟨(wk os3 H3 G.Fr x3.keeps R3.trk _).2 (Nat.le_refl _), k H3 os3 σ3 (x1.trans x3) R3⟩
/-! ### while -/
def whGo (c : M Bool) (b : M Fl) : Nat → M Fl
  | 0, _ => none
  | n + 1, env => (c env).bind fun t => if t.1 = true then (b t.2).bind fun p => match p.1 with
    | .nx => whGo c b n p.2
    | .ct => whGo c b n p.2
    | .bk => some (.nx, p.2)
    | r => some (r, p.2) else some (.nx, t.2)
def sWh (n : Nat) (c : M Bool) (b : M Fl) : M Fl := whGo c b n
theorem ss_while (n : Nat) {body : List Stmt} {tc : M Bool} (hp : PassesOwn (model X.prog X.w) X.A X.env X.xe) (hc : ST X c tc) (hb : SB X body d1') : SS X (.While c body [] pos) (sWh n tc d1') :=
  PS.imp (ps_while hp hc hb) fun D σ H ⟨env, os, G, r, env', R, q, k⟩ => by
    refine ⟨fun m σ3 H3 => ∃ env3 os3, Ext os os3 H H3 ∧ Rel X.K H3 env3 σ3 os3 G ∧ whGo tc d1' m env3 = some (r, env'), ⟨n, env, os, Ext.refl _ _, R, q⟩, ?_⟩
    rintro m σ3 H3 ⟨env3, os3, x3, R3, q3⟩
    cases m with
    | zero => cases q3
    | succ m =>
      obtain ⟨t, q4, q5⟩ := Option.bind_eq_some_iff.mp q3
      refine ⟨env3, os3, G, t.1, t.2, R3, q4, fun H4 os4 x4 R4 => ?_⟩
      cases ht : t.1 with
      | false =>
        rw [ht, if_neg Bool.false_ne_true] at q5
        cases q5
        exact k H4 os4 σ3 (x3.trans x4) R4
      | true =>
        rw [ht, if_pos rfl] at q5
        obtain ⟨p5, q5, q6⟩ := Option.bind_eq_some_iff.mp q5
        refine ⟨fun σ' H' => ∃ env4 os4, Ext os os4 H H' ∧ Rel X.K H' env4 σ' os4 G ∧ whGo tc d1' m env4 = some (r, env'), fun σ' H' h => ⟨m, Nat.lt_succ_self _, h⟩, t.2, os4, G, p5.1, p5.2, R4, q5, fun H6 os6 σ6 x6 => ?_⟩
        have x7 : Ext os os6 H H6 := (x3.trans x4).trans x6
        cases hr : p5.1 with
        | nx => rw [hr] at q6; exact fun R6 => ⟨p5.2, os6, x7, R6, q6⟩
        | ct => rw [hr] at q6; exact fun R6 => ⟨p5.2, os6, x7, R6, q6⟩
        | bk => rw [hr] at q6; cases q6; exact k H6 os6 σ6 x7
        | rt v => rw [hr] at q6; cases q6; exact k H6 os6 σ6 x7
        | ro v => rw [hr] at q6; cases q6; exact Post.mono ((x3.trans x4).trk) (k H6 os6 σ6 x7)
/-! ### comprehensions -/
def wipeE (e : En) : List Nat → En
  | [] => e
  | v :: vs => (wipeE e vs).set v .no
def restore (e e0 : En) : List Nat → En
  | [] => e
  | v :: vs => (restore e e0 vs).set v (e0.at v)
def okW (e : En) (vs : List Nat) : Bool := vs.all fun v => match e.at v with | .no => true | .val _ => true | _ => false
def compGo (vs : List Nat) (g : PyData → En → Option En) (c : M Bool) (el : M PyData) : List PyData → En → Option (List PyData × En)
  | [], e => some ([], e)
  | x :: xs, e => (g x (wipeE e vs)).bind fun e1 => (c e1).bind fun t => if t.1 = true then (el t.2).bind fun y => if okW y.2 vs = true then (compGo vs g c el xs y.2).map fun r => (y.1 :: r.1, r.2) else none
      else if okW t.2 vs = true then compGo vs g c el xs t.2 else none
def dComp (vs : List Nat) (di : M (List PyData)) (g : PyData → En → Option En) (c : M Bool) (el : M PyData) : M PyData := bnd di fun items => fun e0 => if okW e0 vs = true then (compGo vs g c el items e0).map fun r => (.list r.1, restore r.2 e0 vs) else none
theorem wipeE_length (e : En) : ∀ vs, (wipeE e vs).length = e.length
  | [] => rfl
  | v :: vs => by unfold wipeE; rw [List.length_set, wipeE_length e vs]
theorem wipeE_at {e : En} {i : Nat} : ∀ {vs : List Nat}, (wipeE e vs).at i = if i ∈ vs then .no else e.at i
  | [] => by simp [wipeE]
  | v :: vs => by
    unfold wipeE
    rw [at_set, wipeE_at (vs := vs)]
    by_cases h : v = i
    · subst h
      by_cases l : v < (wipeE e vs).length
      · rw [if_pos ⟨rfl, l⟩, if_pos (by simp)]
      · rw [if_neg (fun z => l z.2), if_pos (by simp : v ∈ v :: vs)]
        have hz : e.at v = .no := at_none (by rw [wipeE_length] at l; omega)
        split <;> first | rfl | exact hz
    · rw [if_neg (fun z => h z.1)]
      have e1 : (i ∈ v :: vs) ↔ i ∈ vs := by simp [Ne.symm h]
      by_cases m : i ∈ vs
      · rw [if_pos m, if_pos (e1.mpr m)]
      · rw [if_neg m, if_neg (fun z => m (e1.mp z))]
theorem wipe_at {σ : L2.St} {i : Nat} : ∀ {vs : List Nat}, i ∉ vs → (wipe σ vs)[i]? = σ[i]?
  | [], _ => rfl
  | v :: vs, h => by
    unfold wipe
    rw [List.getElem?_set_ne (fun z => h (by simp [z]))]
    exact wipe_at fun z => h (List.mem_cons_of_mem _ z)
theorem okW_at {e : En} {vs : List Nat} (h : okW e vs = true) {i} (m : i ∈ vs) : e.at i = .no ∨ ∃ d, e.at i = .val d := by
  have q := List.all_eq_true.mp h i m
  cases z : e.at i with
  | no => exact .inl rfl
  | val d => exact .inr ⟨d, rfl⟩
  | own d => rw [z] at q; cases q
  | lent d => rw [z] at q; cases q
theorem okW_os {K H env σ os G} {vs : List Nat} (R : Rel K H env σ os G) (h : okW env vs = true) {i} (m : i ∈ vs) : os i = none := by
  have q := R.sl i
  rcases okW_at h m with e | ⟨d, e⟩ <;> rw [e] at q
  · exact q
  · exact q.1
theorem Rel.wipe {K H env σ os G} {vs : List Nat} (R : Rel K H env σ os G) (h : okW env vs = true) {σ' : L2.St} (hl : σ'.length = σ.length) (hσ : ∀ i, i ∉ vs → σ'[i]? = σ[i]?) : Rel K H (wipeE env vs) σ' os G where
  sl := fun i => by
    rw [wipeE_at]
    by_cases m : i ∈ vs
    · rw [if_pos m]; exact okW_os R h m
    · rw [if_neg m, hσ i m]; exact R.sl i
  inj := R.inj
  fr := R.fr
  len := by rw [wipeE_length, hl]; exact R.len
  lt := fun i a z => by
    obtain ⟨h1, d, h2⟩ := R.lt i a z
    refine ⟨h1, d, ?_⟩
    rw [wipeE_at]
    by_cases m : i ∈ vs
    · rw [okW_os R h m] at h1; cases h1
    · rw [if_neg m]; exact h2
theorem restore_length (e e0 : En) : ∀ vs, (restore e e0 vs).length = e.length
  | [] => rfl
  | v :: vs => by unfold restore; rw [List.length_set, restore_length e e0 vs]
theorem restore_at {e e0 : En} (hl : e.length = e0.length) {i : Nat} : ∀ {vs : List Nat}, (restore e e0 vs).at i = if i ∈ vs then e0.at i else e.at i
  | [] => by simp [restore]
  | v :: vs => by
    unfold restore
    rw [at_set, restore_at hl (vs := vs)]
    by_cases h : v = i
    · subst h
      by_cases l : v < (restore e e0 vs).length
      · rw [if_pos ⟨rfl, l⟩, if_pos (by simp)]
      · rw [if_neg (fun z => l z.2), if_pos (by simp : v ∈ v :: vs)]
        rw [restore_length] at l
        have hz : e.at v = .no := at_none (by omega)
        have hz0 : e0.at v = .no := at_none (by omega)
        split <;> first | rfl | (rw [hz, hz0])
    · rw [if_neg (fun z => h z.1)]
      have e1 : (i ∈ v :: vs) ↔ i ∈ vs := by simp [Ne.symm h]
      by_cases m : i ∈ vs
      · rw [if_pos m, if_pos (e1.mpr m)]
      · rw [if_neg m, if_neg (fun z => m (e1.mp z))]
theorem wipe_same {σ σ' : L2.St} (hl : σ'.length = σ.length) : ∀ {vs : List Nat}, (∀ j, j ∉ vs → σ'[j]? = σ[j]?) → L2.wipe σ' vs = L2.wipe σ vs := by
  intro vs h
  apply List.ext_getElem?
  intro i
  by_cases m : i ∈ vs
  · have : ∀ (τ : L2.St) (ws : List Nat), i ∈ ws → (L2.wipe τ ws)[i]? = if i < τ.length then some none else none := by
      intro τ ws
      induction ws with
      | nil => intro h; cases h
      | cons w ws ih =>
        intro h
        unfold L2.wipe
        by_cases e : w = i
        · subst e
          by_cases l : w < τ.length
          · rw [List.getElem?_set_self (by rw [wipe_length]; exact l), if_pos l]
          · rw [List.getElem?_eq_none (by rw [List.length_set, wipe_length]; omega), if_neg l]
        · rw [List.getElem?_set_ne e]
          exact ih ((List.mem_cons.mp h).resolve_left fun z => e z.symm)
    rw [this σ' vs m, this σ vs m, hl]
  · rw [wipe_at m, wipe_at m, h i m]
theorem comp_rd {K : PySem.W.Frag} {vs ts : List Nat} {di : M (List PyData)} {g} {tc : M Bool} (hts : ∀ j ∈ ts, j ∈ vs) {σ H Q} (h : rdF K (dComp vs di g tc d) σ H Q) : tLc (rdI K di) (rdG K g ts) (rdT K tc) (rdV false K d) vs σ H Q := by
  obtain ⟨env, os, G, r, env', R, q, k⟩ := h
  obtain ⟨items, e1, q1, q2⟩ := bnd_inv q
  split at q2
  · rename_i ok0
    obtain ⟨p2, q2', q3⟩ := Option.map_eq_some_iff.mp q2
    cases q3
    refine ⟨env, os, G, items, e1, R, q1, fun H1 os1 J x1 R1 wk hz D nD => ?_⟩
    have sm0 : Same H1 (upd H1 D (.lst [])) := same_upd nD
    have RD := R1.plus (u := .lst []) nD trivial
    have fD : ∀ a, (G.plus D).Fr a → G.Fr a ∨ H1 a = none := fun a h => h.elim .inl fun q => .inr (by rw [q]; exact nD)
    refine ⟨fun i m H3 => m = items.length - i ∧ i ≤ items.length ∧ ∃ env3 os3 acc ds, okW env3 vs = true ∧ env3.length = e1.length ∧ Ext os1 os3 H1 H3 ∧ Rel K H3 (wipeE env3 vs) (L2.wipe σ vs) os3 (G.plus D) ∧ H3 D = some (.lst acc) ∧ RpAll K H3 (Av os3 (G.plus D).Fr) acc ds ∧ ds.length ≤ i ∧
      ∃ rr, compGo vs g tc d (items.drop i) env3 = some (rr, p2.2) ∧ ds ++ rr = p2.1,
      ⟨items.length, rfl, Nat.zero_le _, e1, os1, [], [], ok0, rfl, Ext.same _ sm0, RD.wipe ok0 (wipe_length _ _) (fun i m => wipe_at m), upd_same, .nil, Nat.zero_le _, p2.1, q2', rfl⟩, ?_⟩
    rintro i m H3 ⟨rfl, hi', env3, os3, acc, ds, ok3, l3, x3, R3, hD, ra, hds, rr, q3, e3⟩
    by_cases hlt : i < items.length
    · obtain ⟨dd, hd⟩ : ∃ dd, items[i]? = some dd := ⟨items[i], List.getElem?_eq_getElem hlt⟩
      obtain ⟨go, step⟩ := (wk os3 H3 (G.plus D).Fr (x3.keeps2 fD) R3.trk i).1 dd hd
      rw [List.drop_eq_getElem_cons hlt] at q3
      have hd' : items[i] = dd := Option.some.inj ((List.getElem?_eq_getElem hlt).symm.trans hd)
      rw [hd'] at q3
      obtain ⟨e4, q4, q5⟩ := Option.bind_eq_some_iff.mp q3
      obtain ⟨t, q5, q6⟩ := Option.bind_eq_some_iff.mp q5
      refine .inr ⟨go, fun H' => ∃ env3 os3 acc ds, okW env3 vs = true ∧ env3.length = e1.length ∧ Ext os1 os3 H1 H' ∧ Rel K H' (wipeE env3 vs) (L2.wipe σ vs) os3 (G.plus D) ∧ H' D = some (.lst acc) ∧ RpAll K H' (Av os3 (G.plus D).Fr) acc ds ∧ ds.length ≤ i + 1 ∧
        ∃ rr, compGo vs g tc d (items.drop (i + 1)) env3 = some (rr, p2.2) ∧ ds ++ rr = p2.1, fun H' h => ⟨items.length - (i + 1), by omega, rfl, hlt, h⟩, fun x H4 hy => ?_⟩
      obtain ⟨sm, px⟩ := step x H4 hy
      have nD3 := (R3.fr D (.inr rfl)).2
      have hD4 : H4 D = some (.lst acc) := sm _ _ hD
      refine ⟨wipeE env3 vs, os3, G.plus D, dd, e4, R3.ofSame sm, px, q4, fun os5 σ5 x5 R5 l5 s5 => ⟨?_, e4, os5, G.plus D, t.1, t.2, R5, q5, fun H6 os6 x6 R6 => ?_⟩⟩
      · exact wipe_same (by rw [l5, wipe_length]) fun j hj => (s5 j fun z => hj (hts j z)).trans (wipe_at hj)
      · have x36 : Ext os3 os6 H3 H6 := ((Ext.same _ sm).trans x5).trans x6
        cases ht : t.1 with
        | false =>
          rw [ht, if_neg Bool.false_ne_true] at q6
          refine iteF ?_
          split at q6
          · rename_i ok6
            have hl6 : t.2.length = e1.length := by
              have a1 := R6.len; have a2 := R5.len; have a3 := R3.len
              rw [wipeE_length, l3, wipe_length] at a3
              rw [l5, wipe_length] at a1
              omega
            refine ⟨t.2, os6, acc, ds, ok6, hl6, x3.trans x36, R6.wipe ok6 (by rw [wipe_length, l5, wipe_length]) (fun j hj => by rw [wipe_at hj, s5 j fun z => hj (hts j z), wipe_at hj]), x36.keep D _ hD nD3, ra.ext x36, by omega, rr, q6, e3⟩
          · cases q6
        | true =>
          rw [ht, if_pos rfl] at q6
          refine iteT ?_
          obtain ⟨y, q7, q8⟩ := Option.bind_eq_some_iff.mp q6
          split at q8
          · rename_i ok7
            obtain ⟨r9, q9, q10⟩ := Option.map_eq_some_iff.mp q8
            refine ⟨t.2, os6, G.plus D, y.1, y.2, R6, q7, fun H7 os7 v x7 R7 p7 => ?_⟩
            have x37 := x36.trans x7
            have hD7 : H7 D = some (.lst acc) := x37.keep D _ hD nD3
            have ra7 := ra.ext x37
            have kp : Keeps H7 (upd H7 D (.lst (acc ++ [v]))) (Av os7 (G.plus D).Fr) (Av os7 (G.plus D).Fr) := fun b u _ r n => ⟨rq_upd (upd_ne fun z => n (.inr (.inr z))) r, n⟩
            have hl7 : y.2.length = e1.length := by
              have a1 := R7.len; have a3 := R3.len
              rw [wipeE_length, l3, wipe_length] at a3
              rw [l5, wipe_length] at a1
              omega
            have e10 : rr = y.1 :: r9.1 ∧ p2.2 = r9.2 := by
              have := Prod.mk.inj q10; exact ⟨this.1.symm, this.2.symm⟩
            refine ⟨acc, hD7, ?_, y.2, os7, acc ++ [v], ds ++ [y.1], ok7, hl7, ?_, ?_, upd_same, ?_, by rw [List.length_append, List.length_singleton]; omega, r9.1, ?_, ?_⟩
            · rw [ra.length]; exact szlt (by omega)
            · have xx := x3.trans x37
              refine ⟨fun b u hb nb => ?_, xx.own, fun b hb => ?_⟩
              · have z : b ≠ D := fun z => by subst z; rw [nD] at hb; cases hb
                rw [upd_ne z]; exact xx.keep b u hb nb
              · by_cases z : b = D
                · subst z; rw [upd_same]; exact fun z => nomatch z
                · rw [upd_ne z]; exact xx.trk b hb
            · refine Rel.wipe (R7.upd (o := .lst (acc ++ [v])) (.inr rfl) trivial) ok7 (by rw [wipe_length, l5, wipe_length]) (fun j hj => by rw [wipe_at hj, s5 j fun z => hj (hts j z), wipe_at hj])
            · exact (ra7.append (.one p7.strong)).map kp
            · rw [q9, e10.2]
            · rw [← e3, e10.1, List.append_assoc]; rfl
          · cases q8
    · have e : i = items.length := by omega
      subst e
      rw [List.drop_length] at q3
      cases q3
      rw [List.append_nil] at e3
      subst e3
      refine .inl ⟨(wk os3 H3 (G.plus D).Fr (x3.keeps2 fD) R3.trk _).2 (Nat.le_refl _), ?_⟩
      refine k H3 os3 D (x1.trans x3) (x1.free nD) ?_ (.lst hD ra)
      have hln : p2.2.length = e1.length := l3
      have kp2 := x3.keeps2 fD
      refine ⟨fun j => ?_, R3.inj, R3.fr, by rw [restore_length]; rw [hln]; exact R1.len, fun j b z => ?_⟩
      · rw [restore_at hln]
        have s3 := R3.sl j
        rw [wipeE_at] at s3
        by_cases m : j ∈ vs
        · rw [if_pos m] at s3 ⊢
          have s1 := R1.sl j
          have o3 : os3 j = none := s3
          rcases okW_at ok0 m with z | ⟨dz, z⟩
          · rw [z]; exact o3
          · rw [z] at s1 ⊢
            obtain ⟨_, v, h1, h2⟩ := s1
            exact ⟨o3, v, h1, h2.map kp2⟩
        · rw [if_neg m] at s3 ⊢
          rw [wipe_at m] at s3
          exact s3
      · obtain ⟨h1, dz, h2⟩ := R3.lt j b z
        refine ⟨h1, dz, ?_⟩
        rw [restore_at hln]
        rw [wipeE_at] at h2
        by_cases m : j ∈ vs
        · rw [if_pos m] at h2; cases h2
        · rw [if_neg m] at h2 ⊢; exact h2
  · cases q2
theorem sf_comp {elt iter : Expr} {ifs : List Expr} {scope : Scope} {own : List (Str × Nat)} {di : M (List PyData)} {g ts} {tc : M Bool} (hc : X.calm = true) (hN : X.N.Nodup) (hi : SI X tg iter di) (ok : BlkOk X.N X.env.scope scope own)
    (hg : ∀ (s : Shared) (H : Hp) (C : Addr) (cl : List (Str × Addr)) (fp : List Addr), SG (X.blk s H scope (compEnvC scope cl C X.env) fp) tg g ts)
    (ht : ∀ (s : Shared) (H : Hp) (C : Addr) (cl : List (Str × Addr)) (fp : List Addr), PTs (X.blk s H scope (compEnvC scope cl C X.env) fp) ifs (rdT X.K tc))
    (he : ∀ (s : Shared) (H : Hp) (C : Addr) (cl : List (Str × Addr)) (fp : List Addr), SE (X.blk s H scope (compEnvC scope cl C X.env) fp) elt d)
    (hts : ∀ j ∈ ts, j ∈ own.map (·.2) := by decide) (hs : ∀ x, foldedSetIterable iter X.env x = pure x := by intro _; rfl) :
    SF X (.ListComp elt [⟨tg, iter, ifs, 0⟩] scope pos) (dComp (own.map (·.2)) di g tc d) :=
  PE.imp (pe_lc (g := rdG X.K g ts) (te := rdV false X.K d) hc hN hi ok hg ht he hs) fun σ H Q h => comp_rd hts h
theorem ss_setLc (i : Nat) {y : Str} {py : Pos} {elt iter : Expr} {ifs : List Expr} {scope : Scope} {own : List (Str × Nat)} {pos spos : Pos} {di : M (List PyData)} {g ts} {tc : M Bool} (hc : X.calm = true) (hN : X.N.Nodup) (hsw : swapsWith (.ListComp elt [⟨tg, iter, ifs, 0⟩] scope pos) (some (.Name y py)) spos.line X.env = pure true)
    (hi : SI X tg iter di) (ok : BlkOk X.N X.env.scope scope own)
    (hg : ∀ (s : Shared) (H : Hp) (C : Addr) (cl : List (Str × Addr)) (fp : List Addr), SG (X.blk s H scope (compEnvC scope cl C X.env) fp) tg g ts)
    (ht : ∀ (s : Shared) (H : Hp) (C : Addr) (cl : List (Str × Addr)) (fp : List Addr), PTs (X.blk s H scope (compEnvC scope cl C X.env) fp) ifs (rdT X.K tc))
    (he : ∀ (s : Shared) (H : Hp) (C : Addr) (cl : List (Str × Addr)) (fp : List Addr), SE (X.blk s H scope (compEnvC scope cl C X.env) fp) elt d)
    (hts : ∀ j ∈ ts, j ∈ own.map (·.2) := by decide) (hs : ∀ x, foldedSetIterable iter X.env x = pure x := by intro _; rfl) (hy : X.N[i]? = some y := by rfl) (hyl : X.env.scope.names.lookup y = some .local := by rfl) :
    SS X (.Assign [.Name y py] (.ListComp elt [⟨tg, iter, ifs, 0⟩] scope pos) spos) (sSet i (dComp (own.map (·.2)) di g tc d)) :=
  PS.imp (ps_setLc (g := rdG X.K g ts) (te := rdV false X.K d) hc hN hy hyl hsw hi ok hg ht he hs) fun D σ H ⟨env, os, G, r, env', R, q, k⟩ => by
    unfold sSet sAsg at q
    obtain ⟨x, e1, q1, q2⟩ := bnd_inv q
    obtain ⟨e2, q3, q4⟩ := Option.map_eq_some_iff.mp q2
    cases q4
    refine comp_rd hts ⟨env, os, G, x, e1, R, q1, fun H1 os1 a x1 n R1 o1 => ?_⟩
    have nF : ¬ G.Fr a := fun z => by obtain ⟨⟨u, _, t⟩, _⟩ := R.fr a z; exact rdSome t n
    have p1 : Rp X.K H1 (Av os1 G.Fr) (.ref a) x := by
      have kp : Keeps H1 H1 (Av os1 (G.plus a).Fr) (Av os1 G.Fr) := Keeps.sub fun b z => z.elim .inl fun q => .inr (.inl q)
      exact (o1.map kp rfl).rp fun z => z.elim (fun ⟨i, z⟩ => (R1.fr a (.inr rfl)).2 i z) nF
    exact k H1 _ _ (x1.trans (Ext.del _ _ _)) (R1.unplus.put_val p1 q3)
theorem ss_ownLc (i : Nat) {y : Str} {py : Pos} {elt iter : Expr} {ifs : List Expr} {scope : Scope} {own : List (Str × Nat)} {pos spos : Pos} {di : M (List PyData)} {g ts} {tc : M Bool} (hc : X.calm = true) (hN : X.N.Nodup) (hsw : swapsWith (.ListComp elt [⟨tg, iter, ifs, 0⟩] scope pos) (some (.Name y py)) spos.line X.env = pure true)
    (hi : SI X tg iter di) (ok : BlkOk X.N X.env.scope scope own)
    (hg : ∀ (s : Shared) (H : Hp) (C : Addr) (cl : List (Str × Addr)) (fp : List Addr), SG (X.blk s H scope (compEnvC scope cl C X.env) fp) tg g ts)
    (ht : ∀ (s : Shared) (H : Hp) (C : Addr) (cl : List (Str × Addr)) (fp : List Addr), PTs (X.blk s H scope (compEnvC scope cl C X.env) fp) ifs (rdT X.K tc))
    (he : ∀ (s : Shared) (H : Hp) (C : Addr) (cl : List (Str × Addr)) (fp : List Addr), SE (X.blk s H scope (compEnvC scope cl C X.env) fp) elt d)
    (hts : ∀ j ∈ ts, j ∈ own.map (·.2) := by decide) (hs : ∀ x, foldedSetIterable iter X.env x = pure x := by intro _; rfl) (hy : X.N[i]? = some y := by rfl) (hyl : X.env.scope.names.lookup y = some .local := by rfl) :
    SS X (.Assign [.Name y py] (.ListComp elt [⟨tg, iter, ifs, 0⟩] scope pos) spos) (sOwn i (dComp (own.map (·.2)) di g tc d)) :=
  PS.imp (ps_setLc (g := rdG X.K g ts) (te := rdV false X.K d) hc hN hy hyl hsw hi ok hg ht he hs) fun D σ H ⟨env, os, G, r, env', R, q, k⟩ => by
    obtain ⟨x, e1, q1, q2⟩ := bnd_inv q
    obtain ⟨e2, q3, q4⟩ := Option.map_eq_some_iff.mp q2
    cases q4
    refine comp_rd hts ⟨env, os, G, x, e1, R, q1, fun H1 os1 a x1 n R1 o1 => ?_⟩
    have nF : ¬ G.Fr a := fun z => by obtain ⟨⟨u, _, t⟩, _⟩ := R.fr a z; exact rdSome t n
    obtain ⟨os2, R2, h2⟩ := R1.put_own o1 nF q3
    refine k H1 os2 _ ⟨x1.keep, fun b u hb nb j z => ?_, x1.trk⟩ R2
    rcases h2 j b z with z | z
    · exact x1.own b u hb nb j z
    · subst z; rw [n] at hb; cases hb
def tT : M Bool := ret true
theorem spts_nil : PTs X [] (rdT X.K tT) := ⟨fun pins s σ H Q I ⟨env, os, G, r, env', R, q, k⟩ => by cases q; exact pts_nil.run pins s σ H Q I (k H os (Ext.refl _ _) R)⟩
theorem spts_one {tc : M Bool} (h : ST X c tc) : PTs X [c] (rdT X.K tc) := pts_one h
end
end SL

set_option Elab.async false
set_option linter.all false
set_option maxRecDepth 100000
set_option maxHeartbeats 4000000
/-! SL8: defs and their calls. -/
namespace SL
open PySem PySem.Spec PyProof.Rows L2
/-- what a def reckons: the arguments, the result, the arguments behind it -/
abbrev FS := List Sl → Option (PyData × List Sl)
def spOf (K : PySem.W.Frag) (n : Nat) (F : FS) : Sp := fun vs H Q _ => ∃ as os G r as', Rel K H as (vs.map some) os G ∧ as.length = n ∧ (∀ i a, os i = some a → G.L i = some a) ∧ F as = some (r, as') ∧
  ∀ H' v, Ext os os H H' → Rel K H' as' (vs.map some) os G → Rp K H' (Av os G.Fr) v r → Q v H'
/-- a new object comes back -/
def spOwn (K : PySem.W.Frag) (n : Nat) (F : FS) : Sp := fun vs H Q _ => ∃ as os G r as', Rel K H as (vs.map some) os G ∧ as.length = n ∧ (∀ i a, os i = some a → G.L i = some a) ∧ F as = some (r, as') ∧
  ∀ H' a, Ext os os H H' → H a = none → Rel K H' as' (vs.map some) os (G.plus a) → OwnAt K H' (Av os (G.plus a).Fr) a r → Q (.ref a) H'
theorem spOf_len {K n F} : ∀ vs H Q E, spOf K n F vs H Q E → vs.length = n := fun vs H Q E ⟨as, os, G, r, as', R, l, _⟩ => by
  have := R.len; rw [List.length_map] at this; omega
theorem spOwn_len {K n F} : ∀ vs H Q E, spOwn K n F vs H Q E → vs.length = n := fun vs H Q E ⟨as, os, G, r, as', R, l, _⟩ => by
  have := R.len; rw [List.length_map] at this; omega
def outs : List Sl → En → Nat → List Sl
  | [], _, _ => []
  | .lent _ :: r, e, i => e.at i :: outs r e (i + 1)
  | s :: r, e, i => s :: outs r e (i + 1)
def argOk : Sl → Bool | .val _ => true | .lent _ => true | _ => false
def bodyF (n : Nat) (d : M Fl) : FS := fun as => if as.all argOk = true then match d (as ++ List.replicate (n - as.length) .no) with
  | some (.rt r, e) => some (r, outs as e 0)
  | some (.nx, e) => some (.none, outs as e 0)
  | _ => none else none
def bodyO (n : Nat) (d : M Fl) : FS := fun as => if as.all argOk = true then match d (as ++ List.replicate (n - as.length) .no) with
  | some (.ro r, e) => some (r, outs as e 0)
  | _ => none else none
theorem outs_length : ∀ (as : List Sl) (e : En) (i : Nat), (outs as e i).length = as.length
  | [], _, _ => rfl
  | .lent _ :: r, e, i => by simp [outs, outs_length r]
  | .no :: r, e, i => by simp [outs, outs_length r]
  | .val _ :: r, e, i => by simp [outs, outs_length r]
  | .own _ :: r, e, i => by simp [outs, outs_length r]
theorem outs_at : ∀ (as : List Sl) (e : En) (i j : Nat), En.at (outs as e i) j = match En.at as j with | .lent _ => e.at (i + j) | s => s
  | [], _, _, _ => by simp [outs, En.at]
  | s :: r, e, i, 0 => by cases s <;> simp [outs, En.at]
  | s :: r, e, i, j + 1 => by
    have h := outs_at r e (i + 1) j
    have e1 : En.at (s :: r) (j + 1) = En.at r j := by simp [En.at]
    have e2 : En.at (outs (s :: r) e i) (j + 1) = En.at (outs r e (i + 1)) j := by cases s <;> simp [outs, En.at]
    rw [e1, e2, h, show i + 1 + j = i + (j + 1) by omega]
theorem at_append {as : List Sl} {m j : Nat} : En.at (as ++ List.replicate m .no) j = En.at as j := by
  unfold En.at
  by_cases h : j < as.length
  · rw [List.getElem?_append_left h]
  · rw [List.getElem?_append_right (by omega), List.getElem?_eq_none (show as.length ≤ j by omega)]
    cases q : (List.replicate m Sl.no)[j - as.length]? with
    | none => rfl
    | some s => have := List.mem_of_getElem? q; rw [List.mem_replicate] at this; rw [this.2]; rfl
theorem Rel.start {K H as os G} {N : List Str} {vs : List V} (R : Rel K H as (vs.map some) os G) (hl : as.length ≤ N.length) : Rel K H (as ++ List.replicate (N.length - as.length) .no) (L2.start N vs) os G := by
  have hlen := R.len
  rw [List.length_map] at hlen
  refine ⟨fun i => ?_, R.inj, R.fr, ?_, fun i a z => ?_⟩
  · rw [at_append]
    have s := R.sl i
    by_cases h : i < vs.length
    · unfold L2.start
      rw [List.getElem?_append_left (by rw [List.length_map]; exact h)]
      exact s
    · have e : En.at as i = .no := at_none (by omega)
      rw [e] at s ⊢
      exact s
  · unfold L2.start; simp; omega
  · obtain ⟨h1, d, h2⟩ := R.lt i a z
    exact ⟨h1, d, by rw [at_append]; exact h2⟩
/-- the arguments behind the def's body -/
theorem Rel.back {K H H' as os os' G env' σ'} {vs : List V} {Fr2 : Addr → Prop} (R : Rel K H as (vs.map some) os G) (ok : as.all argOk = true) (hL : ∀ i a, os i = some a → G.L i = some a) (x : Ext os os' H H') (R' : Rel K H' env' σ' os' { G with Fr := Fr2 }) (hF : ∀ a, G.Fr a → Fr2 a) (hF2 : ∀ a, Fr2 a → G.Fr a ∨ H a = none) :
    Rel K H' (outs as env' 0) (vs.map some) os { G with Fr := Fr2 } ∧ Ext os os H H' ∧ ∀ a, Av os Fr2 a → Av os' Fr2 a := by
  have sub : ∀ i a, os i = some a → os' i = some a := fun i a z => (R'.lt i a (hL i a z)).1
  have av : ∀ a, Av os Fr2 a → Av os' Fr2 a := fun a z => z.elim (fun ⟨i, q⟩ => .inl ⟨i, sub i a q⟩) .inr
  have kp : Keeps H H' (Av os G.Fr) (Av os Fr2) := fun a u d r n => by
    obtain ⟨h1, h2⟩ := x.keeps2 hF2 a u d r n
    exact ⟨h1, fun z => h2 (av a z)⟩
  refine ⟨⟨fun i => ?_, R.inj, fun a z => ⟨(R'.fr a z).1, fun i q => (R'.fr a z).2 i (sub i a q)⟩, by rw [outs_length]; exact R.len, fun i a z => ?_⟩, ⟨x.keep, fun _ _ _ n => n, x.trk⟩, av⟩
  · rw [outs_at, Nat.zero_add]
    have s := R.sl i
    cases e : En.at as i with
    | no => rw [e] at s; exact s
    | val d => rw [e] at s; obtain ⟨h1, v, h2, h3⟩ := s; exact ⟨h1, v, h2, h3.map kp⟩
    | own d =>
      exfalso
      have hm : Sl.own d ∈ as := by
        unfold En.at at e
        cases q : as[i]? with
        | none => rw [q] at e; cases e
        | some s => rw [q] at e; have : s = .own d := e; rw [← this]; exact List.mem_of_getElem? q
      have := List.all_eq_true.mp ok _ hm
      cases this
    | lent d =>
      rw [e] at s
      obtain ⟨a, h1, h2, h3⟩ := s
      obtain ⟨h4, d', h5⟩ := R'.lt i a (hL i a h1)
      have s' := R'.sl i
      rw [h5] at s'
      obtain ⟨b, h6, h7, h8⟩ := s'
      rw [h4] at h6; cases h6
      show RSl K H' _ (env'.at i) _ _
      rw [h5]
      exact ⟨a, h1, h2, h8.map (Keeps.sub av) rfl⟩
  · obtain ⟨h1, d, h2⟩ := R.lt i a z
    obtain ⟨h4, d', h5⟩ := R'.lt i a z
    refine ⟨h1, d', ?_⟩
    rw [outs_at, h2, Nat.zero_add]; exact h5
section
variable {P : Program} {w : World} {K : PySem.W.Frag} {mg : Str → Option Value} {base : Heap}
theorem fn_ok {x qual : Str} {st : Stmt} {f : Addr} {fd : FuncData} {N ps : List Str} {k : Nat} {d : M Fl} (F : L2.Fun K x qual st f fd) (S : FnScope N ps (defScope st))
    (hbody : ∀ (cdv : Value) (A : Around) (outer : List Env) (s : Shared) (H : Hp) (E : XK), Room k (A.deeper (envOfC qual (defScope st) s.heap.objs.size f cdv)) → SB (cxOf CX0 P w K mg base N qual (defScope st) f cdv A outer s H E).nox (defBody st) d) :
    FnOk P w K mg base CX0 (k + 1) f fd ps (spOf K ps.length (bodyF N.length d)) := by
  refine F.ok S spOf_len fun cdv A outer s H vs Q E hr h => ⟨_, hbody cdv A outer s H E hr, ?_⟩
  obtain ⟨as, os, G, r, as', R, hl, hL, q, k⟩ := h
  unfold bodyF at q
  split at q
  · rename_i ok
    have hN : as.length ≤ N.length := by
      have := congrArg List.length S.pre; rw [List.length_take] at this; omega
    split at q
    · rename_i r2 e2 q2
      cases q
      refine ⟨_, os, G, _, _, R.start hN, q2, fun H' os' σ' x R' v p => ?_⟩
      obtain ⟨h1, h2, h3⟩ := R.back ok hL x (Fr2 := G.Fr) R' (fun _ => id) (fun _ => .inl)
      exact k H' v h2 h1 (p.map (Keeps.sub h3))
    · rename_i e2 q2
      cases q
      refine ⟨_, os, G, _, _, R.start hN, q2, fun H' os' σ' x R' => ?_⟩
      obtain ⟨h1, h2, h3⟩ := R.back ok hL x (Fr2 := G.Fr) R' (fun _ => id) (fun _ => .inl)
      exact k H' .non h2 h1 .non
    · cases q
  · cases q
theorem fn_own {x qual : Str} {st : Stmt} {f : Addr} {fd : FuncData} {N ps : List Str} {k : Nat} {d : M Fl} (F : L2.Fun K x qual st f fd) (S : FnScope N ps (defScope st))
    (hbody : ∀ (cdv : Value) (A : Around) (outer : List Env) (s : Shared) (H : Hp) (E : XK), Room k (A.deeper (envOfC qual (defScope st) s.heap.objs.size f cdv)) → SB (cxOf CX0 P w K mg base N qual (defScope st) f cdv A outer s H E).nox (defBody st) d) :
    FnOk P w K mg base CX0 (k + 1) f fd ps (spOwn K ps.length (bodyO N.length d)) := by
  refine F.ok S spOwn_len fun cdv A outer s H vs Q E hr h => ⟨_, hbody cdv A outer s H E hr, ?_⟩
  obtain ⟨as, os, G, r, as', R, hl, hL, q, k⟩ := h
  unfold bodyO at q
  split at q
  · rename_i ok
    have hN : as.length ≤ N.length := by
      have := congrArg List.length S.pre; rw [List.length_take] at this; omega
    split at q
    · rename_i r2 e2 q2
      cases q
      refine ⟨_, os, G, _, _, R.start hN, q2, fun H' os' σ' x a n R' p => ?_⟩
      obtain ⟨h1, h2, h3⟩ := R.back ok hL x R' (fun _ => .inl) (fun b z => z.elim .inl fun z => .inr (z ▸ n))
      exact k H' a h2 n h1 (p.map (Keeps.sub h3) rfl)
    · cases q
  · cases q
end
/-! ### calls -/
inductive Ag where | v (d : PyData) | p (i : Nat)
def ArgX (K : PySem.W.Frag) (H : Hp) (os : Os) (Fr : Addr → Prop) (σ : L2.St) (v : V) : Ag → Prop
  | .v d => Rp K H (Av os Fr) v d
  | .p i => σ[i]? = some (some v)
def rdC (K : PySem.W.Frag) (d : M (List Ag)) : TA := fun σ H Q => ∃ env os G r env', Rel K H env σ os G ∧ d env = some (r, env') ∧
  ∀ H' os' vs, Ext os os' H H' → Rel K H' env' σ os' G → Paired (ArgX K H' os' G.Fr σ) vs r → Q vs H'
abbrev SC (X : Cx) (es : List Expr) (d : M (List Ag)) : Prop := PA X es (rdC X.K d)
def cNil : M (List Ag) := ret []
def cV (d : M PyData) (r : M (List Ag)) : M (List Ag) := bnd d fun x => bnd r fun xs => ret (.v x :: xs)
def cP (i : Nat) (r : M (List Ag)) : M (List Ag) := fun env => if (env.obj i).isSome = true then bnd r (fun xs => ret (.p i :: xs)) env else none
theorem ArgX.ext {K H H' os os' Fr σ v a} (r : ArgX K H os Fr σ v a) (e : Ext os os' H H') : ArgX K H' os' Fr σ v a := by
  cases a with
  | v d => exact Rp.ext r e
  | p i => exact r
section
variable {X : Cx} {a b c e o : Expr} {es : List Expr} {da db dc d : M PyData} {pos : Pos} {ds : M (List Ag)}
theorem sc_nil : SC X [] cNil := PA.imp pa_nil fun σ H Q ⟨env, os, G, z, env', R, q, k⟩ => by cases q; exact k H os [] (Ext.refl _ _) R .nil
theorem sc_v (ha : SE X e d) (hr : SC X es ds) (hs : starEach (e :: es) X.env = (false, eval e X.env) :: starEach es X.env := by rfl) : SC X (e :: es) (cV d ds) := PA.imp (pa_cons ha hr hs) fun σ H Q ⟨env, os, G, z, env', R, q, k⟩ => by
  obtain ⟨x, e1, q1, q⟩ := bnd_inv q
  obtain ⟨xs, e2, q2, q⟩ := bnd_inv q
  cases q
  exact ⟨env, os, G, x, e1, R, q1, fun H1 os1 v x1 R1 p1 => ⟨e1, os1, G, xs, env', R1, q2, fun H2 os2 vs x2 R2 p2 => k H2 os2 _ (x1.trans x2) R2 (.cons (p1.strong.ext x2) p2)⟩⟩
theorem sc_p (i : Nat) {x : Str} {p1 : Pos} (hr : SC X es ds) (hN : X.N[i]? = some x := by rfl) (hv : Vis X.env.scope x := by first | exact Or.inl rfl | exact Or.inr (Or.inl rfl) | exact Or.inr (Or.inr rfl)) (hd : (x == ("__debug__" : Str)) = false := by decide)
    (hcd : (x == ("__classdict__" : Str)) = false := by decide) (hs : starEach (.Name x p1 :: es) X.env = (false, eval (.Name x p1) X.env) :: starEach es X.env := by rfl) : SC X (.Name x p1 :: es) (cP i ds) :=
  PA.imp (pa_cons (pe_var hN hv hd hcd) hr hs) fun σ H Q ⟨env, os, G, z, env', R, q, k⟩ => by
    unfold cP at q
    split at q
    · rename_i h0
      obtain ⟨d0, h0⟩ := Option.isSome_iff_exists.mp h0
      obtain ⟨a, _, s0, o0⟩ := R.obj h0
      obtain ⟨xs, e2, q2, q⟩ := bnd_inv q
      cases q
      exact ⟨.ref a, s0, env, os, G, xs, env', R, q2, fun H2 os2 vs x2 R2 p2 => k H2 os2 _ x2 R2 (.cons s0 p2)⟩
    · cases q
def mkA (env : En) : List Ag → List Sl
  | [] => []
  | .v d :: r => .val d :: mkA env r
  | .p i :: r => (match env.obj i with | some d => .lent d | none => .no) :: mkA env r
def putB : En → List Ag → List Sl → En
  | env, .p i :: r, .lent d :: s => putB (env.mut i d) r s
  | env, _ :: r, _ :: s => putB env r s
  | env, _, _ => env
def pls : List Ag → List Nat
  | [] => []
  | .p i :: r => i :: pls r
  | .v _ :: r => pls r
def ndB : List Nat → Bool
  | [] => true
  | i :: r => !r.contains i && ndB r
def dCall (F : FS) (da : M (List Ag)) : M PyData := bnd da fun args => fun env => if ndB (pls args) = true then (F (mkA env args)).map fun p => (p.1, putB env args p.2) else none
def up1 (s : Sl) (d : PyData) : Sl := match s with | .own _ => .own d | .lent _ => .lent d | s => s
theorem mut_at {env : En} {i j : Nat} {d : PyData} : (env.mut i d).at j = if i = j then up1 (env.at j) d else env.at j := by
  unfold En.mut
  have lt : ∀ s, env.at i = s → s ≠ .no → i < env.length := fun s h n => Nat.lt_of_not_le fun l => n (by rw [← h, at_none l])
  cases e : env.at i with
  | no => by_cases h : i = j
          · subst h; rw [if_pos rfl, e]; rfl
          · rw [if_neg h]
  | val x => by_cases h : i = j
             · subst h; rw [if_pos rfl, e]; rfl
             · rw [if_neg h]
  | own x =>
    have l := lt _ e (fun z => nomatch z)
    show En.at (env.set i (.own d)) j = _
    rw [at_set]
    by_cases h : i = j
    · subst h; rw [if_pos ⟨rfl, l⟩, if_pos rfl, e]; rfl
    · rw [if_neg (fun z => h z.1), if_neg h]
  | lent x =>
    have l := lt _ e (fun z => nomatch z)
    show En.at (env.set i (.lent d)) j = _
    rw [at_set]
    by_cases h : i = j
    · subst h; rw [if_pos ⟨rfl, l⟩, if_pos rfl, e]; rfl
    · rw [if_neg (fun z => h z.1), if_neg h]
theorem mut_length {env : En} {i : Nat} {d : PyData} : (env.mut i d).length = env.length := by unfold En.mut; split <;> simp
theorem putB_length : ∀ (args : List Ag) (as : List Sl) (env : En), (putB env args as).length = env.length
  | [], _, _ => by simp [putB]
  | .v _ :: r, [], _ => by simp [putB]
  | .p _ :: r, [], _ => by simp [putB]
  | .v _ :: r, s :: t, env => by simp [putB, putB_length r t env]
  | .p i :: r, s :: t, env => by cases s <;> simp [putB, putB_length r t, mut_length]
theorem putB_out {i : Nat} : ∀ (args : List Ag) (as : List Sl) (env : En), i ∉ pls args → (putB env args as).at i = env.at i
  | [], _, _, _ => by simp [putB]
  | .v _ :: r, [], _, _ => by simp [putB]
  | .p _ :: r, [], _, _ => by simp [putB]
  | .v _ :: r, s :: t, env, h => by
    simp only [pls] at h
    simp only [putB]; exact putB_out r t env h
  | .p j :: r, s :: t, env, h => by
    simp only [pls, List.mem_cons, not_or] at h
    cases s with
    | lent d => simp only [putB]; rw [putB_out r t _ h.2, mut_at, if_neg (Ne.symm h.1)]
    | _ => simp only [putB]; exact putB_out r t env h.2
theorem ndB_cons {i : Nat} {r : List Nat} (h : ndB (i :: r) = true) : i ∉ r ∧ ndB r = true := by
  simp only [ndB, Bool.and_eq_true, Bool.not_eq_true', List.contains_eq_mem, decide_eq_false_iff_not] at h
  exact h
theorem pls_mem {i : Nat} : ∀ {args : List Ag} {j : Nat}, args[j]? = some (.p i) → i ∈ pls args
  | [], _, h => by simp at h
  | .v _ :: r, 0, h => by simp at h
  | .v _ :: r, j + 1, h => by simp only [pls]; exact pls_mem (j := j) (by simpa using h)
  | .p k :: r, 0, h => by simp at h; subst h; simp [pls]
  | .p k :: r, j + 1, h => by simp only [pls]; exact List.mem_cons_of_mem _ (pls_mem (j := j) (by simpa using h))
theorem pls_inj {i : Nat} : ∀ {args : List Ag} {j k : Nat}, ndB (pls args) = true → args[j]? = some (.p i) → args[k]? = some (.p i) → j = k
  | [], _, _, _, h, _ => by simp at h
  | .v _ :: r, 0, _, _, h, _ => by simp at h
  | .v _ :: r, _, 0, _, _, h => by simp at h
  | .v _ :: r, j + 1, k + 1, n, h, h' => by simp only [pls] at n; rw [pls_inj (j := j) (k := k) n (by simpa using h) (by simpa using h')]
  | .p l :: r, 0, 0, _, _, _ => rfl
  | .p l :: r, 0, k + 1, n, h, h' => by simp only [pls] at n; simp at h; subst h; exact absurd (pls_mem (j := k) (by simpa using h')) (ndB_cons n).1
  | .p l :: r, j + 1, 0, n, h, h' => by simp only [pls] at n; simp at h'; subst h'; exact absurd (pls_mem (j := j) (by simpa using h)) (ndB_cons n).1
  | .p l :: r, j + 1, k + 1, n, h, h' => by simp only [pls] at n; rw [pls_inj (j := j) (k := k) (ndB_cons n).2 (by simpa using h) (by simpa using h')]
theorem putB_in {i : Nat} {d : PyData} : ∀ (args : List Ag) (as : List Sl) (env : En) (j : Nat), ndB (pls args) = true → args[j]? = some (.p i) → as[j]? = some (.lent d) → (putB env args as).at i = up1 (env.at i) d
  | [], _, _, _, _, h, _ => by simp at h
  | .v _ :: r, [], _, _, _, _, h => by simp at h
  | .p _ :: r, [], _, _, _, _, h => by simp at h
  | .v _ :: r, s :: t, env, 0, _, h, _ => by simp at h
  | .v _ :: r, s :: t, env, j + 1, n, h, h' => by
    simp only [pls] at n; simp only [putB]
    exact putB_in r t env j n (by simpa using h) (by simpa using h')
  | .p l :: r, s :: t, env, 0, n, h, h' => by
    simp only [pls] at n
    simp at h h'; subst h h'
    simp only [putB]
    rw [putB_out r t _ (ndB_cons n).1, mut_at, if_pos rfl]
  | .p l :: r, s :: t, env, j + 1, n, h, h' => by
    simp only [pls] at n
    have h1 : r[j]? = some (.p i) := by simpa using h
    have ne : l ≠ i := fun z => (ndB_cons n).1 (z ▸ pls_mem h1)
    have := putB_in r t (env.mut l (match s with | .lent d => d | _ => .none)) j (ndB_cons n).2 h1 (by simpa using h')
    cases s with
    | lent d => simp only [putB]; rw [putB_in r t _ j (ndB_cons n).2 h1 (by simpa using h'), mut_at, if_neg ne]
    | _ => simp only [putB]; exact putB_in r t env j (ndB_cons n).2 h1 (by simpa using h')
theorem mkA_length (env : En) : ∀ args, (mkA env args).length = args.length
  | [] => rfl
  | .v _ :: r => by simp [mkA, mkA_length env r]
  | .p _ :: r => by simp [mkA, mkA_length env r]
theorem mkA_at (env : En) : ∀ (args : List Ag) (j : Nat), En.at (mkA env args) j = match args[j]? with | some (.v d) => .val d | some (.p i) => (match env.obj i with | some d => .lent d | none => .no) | none => .no
  | [], _ => by simp [mkA, En.at]
  | .v _ :: r, 0 => by simp [mkA, En.at]
  | .p _ :: r, 0 => by simp [mkA, En.at]
  | .v _ :: r, j + 1 => by have := mkA_at env r j; simpa [mkA, En.at] using this
  | .p _ :: r, j + 1 => by have := mkA_at env r j; simpa [mkA, En.at] using this
def osC (os : Os) (args : List Ag) : Os := fun j => match args[j]? with | some (.p i) => os i | _ => none
def ghC (os : Os) (G : Gh) (args : List Ag) : Gh := { Fr := fun a => Av os G.Fr a ∧ ∀ j, osC os args j ≠ some a, L := osC os args }
theorem osC_some {os : Os} {args : List Ag} {j a} (h : osC os args j = some a) : ∃ i, args[j]? = some (.p i) ∧ os i = some a := by
  unfold osC at h
  split at h
  · exact ⟨_, by assumption, h⟩
  · cases h
theorem avC {os : Os} {G : Gh} {args : List Ag} {a} : Av (osC os args) (ghC os G args).Fr a ↔ Av os G.Fr a := by
  constructor
  · rintro (⟨j, z⟩ | z)
    · obtain ⟨i, _, h⟩ := osC_some z; exact .inl ⟨i, h⟩
    · exact z.1
  · intro z
    by_cases h : ∃ j, osC os args j = some a
    · exact .inl h
    · exact .inr ⟨z, fun j q => h ⟨j, q⟩⟩
theorem paired_get {α β} {F : α → β → Prop} : ∀ {l : List α} {m : List β} {j : Nat} {y}, Paired F l m → m[j]? = some y → ∃ x, l[j]? = some x ∧ F x y
  | _, _, _, _, .nil, h => by simp at h
  | _, _, 0, _, .cons r _, h => by simp at h; subst h; exact ⟨_, by simp, r⟩
  | _, _, j + 1, y, .cons _ t, h => by
    obtain ⟨x, h1, h2⟩ := paired_get (j := j) (y := y) t (by simpa using h)
    exact ⟨x, by simpa using h1, h2⟩
theorem paired_len {α β} {F : α → β → Prop} : ∀ {l : List α} {m : List β}, Paired F l m → l.length = m.length
  | _, _, .nil => rfl
  | _, _, .cons _ t => congrArg (· + 1) (paired_len t)
/-- the callee's view -/
theorem Rel.callee {K H env σ os G args vs} (R : Rel K H env σ os G) (nd : ndB (pls args) = true) (p : Paired (ArgX K H os G.Fr σ) vs args) : Rel K H (mkA env args) (vs.map some) (osC os args) (ghC os G args) where
  sl := fun j => by
    have kp : Keeps H H (Av os G.Fr) (Av (osC os args) (ghC os G args).Fr) := Keeps.sub fun a z => avC.mp z
    rw [mkA_at]
    cases e : args[j]? with
    | none => show osC os args j = none; unfold osC; rw [e]
    | some g =>
      obtain ⟨v, hv, q⟩ := paired_get p e
      have hv' : (vs.map some)[j]? = some (some v) := by rw [List.getElem?_map, hv]; rfl
      cases g with
      | v d => exact ⟨by unfold osC; rw [e], v, hv', Rp.map kp q⟩
      | p i =>
        have eo : osC os args j = os i := by unfold osC; rw [e]
        show RSl K H _ (match env.obj i with | some d => .lent d | none => .no) _ _
        cases o : env.obj i with
        | none =>
          show osC os args j = none
          rw [eo]
          have s := R.sl i
          unfold En.obj at o
          cases z : env.at i with
          | no => rw [z] at s; exact s
          | val d => rw [z] at s; exact s.1
          | own d => rw [z] at o; cases o
          | lent d => rw [z] at o; cases o
        | some d =>
          obtain ⟨a, h1, h2, h3⟩ := R.obj o
          rw [q] at h2; cases h2
          exact ⟨a, eo.trans h1, hv', h3.map kp rfl⟩
  inj := fun j k a h h' => by
    obtain ⟨i, h1, h2⟩ := osC_some h
    obtain ⟨i', h3, h4⟩ := osC_some h'
    have := R.inj _ _ _ h2 h4; subst this
    exact pls_inj nd h1 h3
  fr := fun a z => ⟨R.trk a z.1, z.2⟩
  len := by rw [mkA_length, List.length_map, paired_len p]
  lt := fun j a z => by
    obtain ⟨i, h1, h2⟩ := osC_some z
    refine ⟨z, ?_⟩
    rw [mkA_at, h1]
    have s := R.sl i
    cases q : env.at i with
    | no => rw [q] at s; rw [show os i = none from s] at h2; cases h2
    | val d => rw [q] at s; rw [s.1] at h2; cases h2
    | own d => exact ⟨d, by show (match env.obj i with | some d => Sl.lent d | none => .no) = _; unfold En.obj; rw [q]⟩
    | lent d => exact ⟨d, by show (match env.obj i with | some d => Sl.lent d | none => .no) = _; unfold En.obj; rw [q]⟩
theorem Rel.behind {K H H2 env σ os G args vs as'} {ex : Addr → Prop} (R : Rel K H env σ os G) (nd : ndB (pls args) = true) (x : Ext (osC os args) (osC os args) H H2) (hex : ∀ a, ex a → H a = none)
    (R2 : Rel K H2 as' (List.map some vs) (osC os args) { ghC os G args with Fr := fun a => (ghC os G args).Fr a ∨ ex a }) :
    Rel K H2 (putB env args as') σ os { G with Fr := fun a => G.Fr a ∨ ex a } ∧ Ext os os H H2 := by
  have nC : ∀ a, (∀ i, os i ≠ some a) → ∀ j, osC os args j ≠ some a := fun a n j z => by obtain ⟨i, _, h⟩ := osC_some z; exact n i h
  have xx : Ext os os H H2 := ⟨fun a u h n => x.keep a u h (nC a n), fun _ _ _ n => n, x.trk⟩
  have kp : Keeps H H2 (Av os G.Fr) (Av os fun a => G.Fr a ∨ ex a) := xx.keeps2 fun a z => z.elim .inl fun z => .inr (hex a z)
  have av : ∀ a, Av os (fun a => G.Fr a ∨ ex a) a → Av (osC os args) (fun a => (ghC os G args).Fr a ∨ ex a) a := fun a z => by
    have go : Av os G.Fr a → Av (osC os args) (fun a => (ghC os G args).Fr a ∨ ex a) a := fun z => (avC.mpr z).elim .inl fun q => .inr (.inl q)
    rcases z with z | z | z
    · exact go (.inl z)
    · exact go (.inr z)
    · exact .inr (.inr z)
  -- an owned slot
  have main : ∀ i a d, os i = some a → env.obj i = some d → ∃ d', (putB env args as').at i = up1 (env.at i) d' ∧ OwnAt K H2 (Av os fun a => G.Fr a ∨ ex a) a d' := fun i a d h1 h2 => by
    by_cases m : ∃ j : Nat, args[j]? = some (Ag.p i)
    · obtain ⟨j, hj⟩ := m
      have ej : osC os args j = some a := by unfold osC; rw [hj]; exact h1
      obtain ⟨_, d', hd'⟩ := R2.lt j a ej
      have s := R2.sl j
      rw [hd'] at s
      obtain ⟨b, h3, _, h4⟩ := s
      rw [ej] at h3; cases h3
      have ha : as'[j]? = some (.lent d') := by
        unfold En.at at hd'
        cases q : as'[j]? with
        | none => rw [q] at hd'; cases hd'
        | some s => rw [q] at hd'; rw [show s = .lent d' from hd']
      exact ⟨d', putB_in args as' env j nd hj ha, h4.map (Keeps.sub av) rfl⟩
    · have ni : i ∉ pls args := by
        have : ∀ (l : List Ag), i ∈ pls l → ∃ j : Nat, l[j]? = some (Ag.p i) := by
          intro l
          induction l with
          | nil => intro h; cases h
          | cons g r ih =>
            intro h
            cases g with
            | v d => obtain ⟨j, q⟩ := ih h; exact ⟨j + 1, by simpa using q⟩
            | p k =>
              rcases List.mem_cons.mp h with rfl | h
              · exact ⟨0, by simp⟩
              · obtain ⟨j, q⟩ := ih h; exact ⟨j + 1, by simpa using q⟩
        exact fun z => m (this args z)
      obtain ⟨b, h3, _, h4⟩ := R.obj h2
      rw [h1] at h3; cases h3
      have nj : ∀ j, osC os args j ≠ some a := fun j z => by
        obtain ⟨i', q1, q2⟩ := osC_some z
        have := R.inj _ _ _ h1 q2; subst this
        exact m ⟨j, q1⟩
      obtain ⟨u, _, hu⟩ := h4.rd
      refine ⟨d, ?_, h4.map kp ((x.keep a u hu nj).trans hu.symm)⟩
      rw [putB_out args as' env ni]
      unfold En.obj at h2
      cases e : env.at i with
      | no => rw [e] at h2; exact nomatch h2
      | val d => rw [e] at h2; exact nomatch h2
      | own d0 => rw [e] at h2; have q : d0 = d := Option.some.inj h2; rw [q]; rfl
      | lent d0 => rw [e] at h2; have q : d0 = d := Option.some.inj h2; rw [q]; rfl
  have idle : ∀ i, env.obj i = none → (putB env args as').at i = env.at i := fun i h => by
    have : ∀ (l : List Ag) (as : List Sl) (e : En), e.obj i = none → (putB e l as).at i = e.at i := by
      intro l
      induction l with
      | nil => intro as e _; simp [putB]
      | cons g r ih =>
        intro as e h
        cases as with
        | nil => cases g <;> simp [putB]
        | cons s t =>
          cases g with
          | v d => simp only [putB]; exact ih t e h
          | p k =>
            cases s with
            | lent d =>
              simp only [putB]
              by_cases z : k = i
              · subst z
                have e1 : e.mut k d = e := by
                  unfold En.mut; unfold En.obj at h
                  cases q : e.at k with
                  | own _ => rw [q] at h; cases h
                  | lent _ => rw [q] at h; cases h
                  | _ => rfl
                rw [e1]; exact ih t e h
              · rw [ih t _ (by unfold En.obj; rw [mut_at, if_neg z]; exact h), mut_at, if_neg z]
            | _ => simp only [putB]; exact ih t e h
    exact this args as' env h
  refine ⟨⟨fun i => ?_, R.inj, fun a z => ?_, by rw [putB_length]; exact R.len, fun i a z => ?_⟩, xx⟩
  · have s := R.sl i
    cases e : env.at i with
    | no => rw [idle i (by unfold En.obj; rw [e]), e]; rw [e] at s; exact s
    | val d =>
      rw [idle i (by unfold En.obj; rw [e]), e]; rw [e] at s
      obtain ⟨h1, v, h2, h3⟩ := s
      exact ⟨h1, v, h2, h3.map kp⟩
    | own d =>
      rw [e] at s
      obtain ⟨a, h1, h2, h3⟩ := s
      obtain ⟨d', h4, h5⟩ := main i a d h1 (by unfold En.obj; rw [e])
      rw [h4, e]
      exact ⟨a, h1, h2, h5⟩
    | lent d =>
      rw [e] at s
      obtain ⟨a, h1, h2, h3⟩ := s
      obtain ⟨d', h4, h5⟩ := main i a d h1 (by unfold En.obj; rw [e])
      rw [h4, e]
      exact ⟨a, h1, h2, h5⟩
  · have nos : ∀ i, os i ≠ some a := fun i q => by
      rcases z with z | z
      · exact (R.fr a z).2 i q
      · exact R.tracked (.inl ⟨i, q⟩) (hex a z)
    refine ⟨?_, nos⟩
    have : Av (osC os args) (fun a => (ghC os G args).Fr a ∨ ex a) a := av a (.inr z)
    exact R2.trk a this
  · obtain ⟨h1, d, h2⟩ := R.lt i a z
    obtain ⟨d', h4, h5⟩ := main i a d h1 (by unfold En.obj; rw [h2])
    exact ⟨h1, d', by rw [h4, h2]; rfl⟩
variable {k : Nat} {f : Addr} {fd : FuncData} {ps : List Str} {F : FS} {x : Str} {p : Pos}
theorem call_rd {K : PySem.W.Frag} {n : Nat} {σ H Q} (hn : ∀ env r env', ds env = some (r, env') → r.length = n) (h : rdV false K (dCall F ds) σ H Q) : tCall (spOf K n F) [] E0 (rdC K ds) σ H Q := by
  obtain ⟨env, os, G, r, env', R, q, k⟩ := h
  obtain ⟨args, e1, q1, q2⟩ := bnd_inv q
  split at q2
  · rename_i nd
    obtain ⟨pr, q3, q4⟩ := Option.map_eq_some_iff.mp q2
    cases q4
    refine ⟨env, os, G, args, e1, R, q1, fun H1 os1 vs x1 R1 pa => ?_⟩
    show spOf K n F (vs ++ []) H1 Q E0
    rw [List.append_nil]
    refine ⟨mkA e1 args, osC os1 args, ghC os1 G args, pr.1, pr.2, R1.callee nd pa, by rw [mkA_length]; exact hn _ _ _ q1, fun _ _ z => z, q3, fun H2 v x2 R2 pv => ?_⟩
    have R2' : Rel K H2 pr.2 (vs.map some) (osC os1 args) { ghC os1 G args with Fr := fun a => (ghC os1 G args).Fr a ∨ False } := R2.weaken fun a z => z.elim id False.elim
    obtain ⟨R3, x3⟩ := R1.behind nd x2 (ex := fun _ => False) (fun _ => False.elim) R2'
    exact k H2 os1 v (x1.trans x3) (R3.weaken fun _ => .inl) (.inl (pv.map (Keeps.sub fun a z => avC.mpr z)))
  · cases q2
theorem callO_rd {K : PySem.W.Frag} {n : Nat} {σ H Q} (hn : ∀ env r env', ds env = some (r, env') → r.length = n) (h : rdF K (dCall F ds) σ H Q) : tCall (spOwn K n F) [] E0 (rdC K ds) σ H Q := by
  obtain ⟨env, os, G, r, env', R, q, k⟩ := h
  obtain ⟨args, e1, q1, q2⟩ := bnd_inv q
  split at q2
  · rename_i nd
    obtain ⟨pr, q3, q4⟩ := Option.map_eq_some_iff.mp q2
    cases q4
    refine ⟨env, os, G, args, e1, R, q1, fun H1 os1 vs x1 R1 pa => ?_⟩
    show spOwn K n F (vs ++ []) H1 Q E0
    rw [List.append_nil]
    refine ⟨mkA e1 args, osC os1 args, ghC os1 G args, pr.1, pr.2, R1.callee nd pa, by rw [mkA_length]; exact hn _ _ _ q1, fun _ _ z => z, q3, fun H2 a x2 na R2 pv => ?_⟩
    obtain ⟨R3, x3⟩ := R1.behind nd x2 (ex := fun b => b = a) (fun b z => z ▸ na) R2
    refine k H2 os1 a (x1.trans x3) (x1.free na) R3 (pv.map (Keeps.sub fun b z => ?_) rfl)
    rcases z with z | z | z
    · exact (avC.mpr (.inl z)).elim .inl fun q => .inr (.inl q)
    · exact (avC.mpr (.inr z)).elim .inl fun q => .inr (.inl q)
    · exact .inr (.inr z)
  · cases q2
def LenC (ds : M (List Ag)) (n : Nat) : Prop := ∀ env r env', ds env = some (r, env') → r.length = n
theorem lc_nil : LenC cNil 0 := fun _ _ _ h => by cases h; rfl
theorem lc_v {n : Nat} (h : LenC ds n) : LenC (cV d ds) (n + 1) := fun env r env' q => by
  obtain ⟨x, e1, q1, q⟩ := bnd_inv q
  obtain ⟨xs, e2, q2, q⟩ := bnd_inv q
  cases q
  exact congrArg (· + 1) (h _ _ _ q2)
theorem lc_p {n i : Nat} (h : LenC ds n) : LenC (cP i ds) (n + 1) := fun env r env' q => by
  unfold cP at q
  split at q
  · obtain ⟨xs, e2, q2, q⟩ := bnd_inv q
    cases q
    exact congrArg (· + 1) (h _ _ _ q2)
  · cases q
theorem se_call {n : Nat} (FN : FnOk X.prog X.w X.K X.mg X.base CX0 k f fd ps (spOf X.K n F)) (hn : LenC ds n) (hr : Room k X.A) (hg : Gl X x) (hm : X.mg x = some (.ref f)) (hk : PySem.W.keepIn X.K (.ref f) = true) (hb : Binds X.K fd ps []) (ha : SC X (e :: es) ds)
    (hdb : (x == ("__debug__" : Str)) = false := by decide) (he : starEach (e :: es) X.env = (false, eval e X.env) :: starEach es X.env := by rfl) (hpl : (backTo pos (starEach es X.env)).any (·.1) = false := by rfl) : SE X (.Call (.Name x p) (e :: es) [] pos) (dCall F ds) :=
  PE.imp (pe_call FN hr hg hm hk hb .nil pass0 ha hdb he hpl) fun σ H Q h => call_rd hn h
theorem sf_call {n : Nat} (FN : FnOk X.prog X.w X.K X.mg X.base CX0 k f fd ps (spOwn X.K n F)) (hn : LenC ds n) (hr : Room k X.A) (hg : Gl X x) (hm : X.mg x = some (.ref f)) (hk : PySem.W.keepIn X.K (.ref f) = true) (hb : Binds X.K fd ps []) (ha : SC X (e :: es) ds)
    (hdb : (x == ("__debug__" : Str)) = false := by decide) (he : starEach (e :: es) X.env = (false, eval e X.env) :: starEach es X.env := by rfl) (hpl : (backTo pos (starEach es X.env)).any (·.1) = false := by rfl) : SF X (.Call (.Name x p) (e :: es) [] pos) (dCall F ds) :=
  PE.imp (pe_call FN hr hg hm hk hb .nil pass0 ha hdb he hpl) fun σ H Q h => callO_rd hn h
theorem se_call0 (FN : FnOk X.prog X.w X.K X.mg X.base CX0 k f fd ps (spOf X.K 0 F)) (hr : Room k X.A) (hg : Gl X x) (hm : X.mg x = some (.ref f)) (hk : PySem.W.keepIn X.K (.ref f) = true) (hb : Binds X.K fd ps [])
    (hdb : (x == ("__debug__" : Str)) = false := by decide) : SE X (.Call (.Name x p) [] [] pos) (dCall F cNil) :=
  PE.imp (pe_call0 FN hr hg hm hk hb .nil pass0 hdb) fun σ H Q h => by
    have q := call_rd (ds := cNil) lc_nil h
    obtain ⟨env, os, G, r, env', R, e, k⟩ := q
    cases e
    exact k H os [] (Ext.refl _ _) R .nil
end
end SL

set_option Elab.async false
set_option linter.all false
set_option maxRecDepth 100000
set_option maxHeartbeats 4000000
/-! SL9: short rules for the builtins, purity, callees. -/
namespace SL
open PySem PySem.Spec PyProof.Rows L2
theorem pur_ret {α} {x : α} : Pur (ret x) := fun e r e' h => by cases h; rfl
theorem pur_lft {α} {x : Option α} : Pur (lft x) := fun e r e' h => (lft_inv h).2
theorem pur_bnd {α β} {m : M α} {f : α → M β} (h : Pur m) (h' : ∀ x, Pur (f x)) : Pur (bnd m f) := fun e r e' q => by
  obtain ⟨x, e1, q1, q2⟩ := bnd_inv q
  exact (h' x _ _ _ q2).trans (h _ _ _ q1)
theorem pur_var {i} : Pur (dVar i) := fun e r e' h => by
  unfold dVar at h; split at h
  · cases h; rfl
  · cases h
theorem pur_own {i} : Pur (dOwn i) := fun e r e' h => by
  unfold dOwn at h; split at h
  · cases h; rfl
  · cases h
theorem pur_c {x} : Pur (dC x) := pur_ret
theorem pur_1 {f d} (h : Pur d) : Pur (d1 f d) := pur_bnd h fun _ => pur_lft
theorem pur_2 {f d d'} (h : Pur d) (h' : Pur d') : Pur (d2 f d d') := pur_bnd h fun _ => pur_bnd h' fun _ => pur_lft
theorem pur_nop : Pur dNoP := pur_ret
theorem pur_part {d} (h : Pur d) : Pur (dPart d) := pur_bnd h fun _ => pur_lft
theorem pur_anil : Pur aNil := pur_ret
theorem pur_acons {d ds} (h : Pur d) (h' : Pur ds) : Pur (aCons d ds) := pur_bnd h fun _ => pur_bnd h' fun _ => pur_ret
theorem pur_tup {ds} (h : Pur ds) : Pur (dTup ds) := pur_bnd h fun _ => pur_ret
theorem pur_lst {ds} (h : Pur ds) : Pur (dLst ds) := pur_bnd h fun _ => pur_ret
/-- the built-in names are not bound by the module -/
structure Blt (mg : Str → Option Value) : Prop where
  len : mg "len" = none
  range : mg "range" = none
  isinstance : mg "isinstance" = none
  tuple : mg "tuple" = none
  list : mg "list" = none
  int : mg "int" = none
  bool : mg "bool" = none
  str : mg "str" = none
  sorted : mg "sorted" = none
  min : mg "min" = none
  max : mg "max" = none
  sum : mg "sum" = none
  all : mg "all" = none
  any : mg "any" = none
  abs : mg "abs" = none
  set : mg "set" = none
  zip : mg "zip" = none
  reversed : mg "reversed" = none
  repr : mg "repr" = none
/-- a def of the text, called by its name -/
structure Cal (P : Program) (w : World) (K : PySem.W.Frag) (mg : Str → Option Value) (base : Heap) (x : Str) (k : Nat) (ps : List Str) (sp : Sp) : Prop where
  ex : ∃ f fd, mg x = some (.ref f) ∧ PySem.W.keepIn K (.ref f) = true ∧ Binds K fd ps [] ∧ FnOk P w K mg base CX0 k f fd ps sp
section
variable {X : Cx} {a b c e o : Expr} {es : List Expr} {da db dc d : M PyData} {pos p : Pos} {ds : M (List Ag)} {k n : Nat} {ps : List Str} {F : FS} {x : Str}
theorem se_cal {j : Nat} (C : Cal X.prog X.w X.K X.mg X.base x k ps (spOf X.K n F)) (hr : Room j X.A) (hn : LenC ds n) (ha : SC X (e :: es) ds) (hj : k ≤ j := by decide) (hg : Gl X x := by rfl)
    (hdb : (x == ("__debug__" : Str)) = false := by decide) (he : starEach (e :: es) X.env = (false, eval e X.env) :: starEach es X.env := by rfl) (hpl : (backTo pos (starEach es X.env)).any (·.1) = false := by rfl) : SE X (.Call (.Name x p) (e :: es) [] pos) (dCall F ds) := by
  obtain ⟨f, fd, h1, h2, h3, h4⟩ := C.ex
  exact se_call h4 hn (hr.mono hj) hg h1 h2 h3 ha hdb he hpl
theorem sf_cal {j : Nat} (C : Cal X.prog X.w X.K X.mg X.base x k ps (spOwn X.K n F)) (hr : Room j X.A) (hn : LenC ds n) (ha : SC X (e :: es) ds) (hj : k ≤ j := by decide) (hg : Gl X x := by rfl)
    (hdb : (x == ("__debug__" : Str)) = false := by decide) (he : starEach (e :: es) X.env = (false, eval e X.env) :: starEach es X.env := by rfl) (hpl : (backTo pos (starEach es X.env)).any (·.1) = false := by rfl) : SF X (.Call (.Name x p) (e :: es) [] pos) (dCall F ds) := by
  obtain ⟨f, fd, h1, h2, h3, h4⟩ := C.ex
  exact sf_call h4 hn (hr.mono hj) hg h1 h2 h3 ha hdb he hpl
theorem se_cal0 {j : Nat} (C : Cal X.prog X.w X.K X.mg X.base x k ps (spOf X.K 0 F)) (hr : Room j X.A) (hj : k ≤ j := by decide) (hg : Gl X x := by rfl) (hdb : (x == ("__debug__" : Str)) = false := by decide) : SE X (.Call (.Name x p) [] [] pos) (dCall F cNil) := by
  obtain ⟨f, fd, h1, h2, h3, h4⟩ := C.ex
  exact se_call0 h4 (hr.mono hj) hg h1 h2 h3 hdb
variable (B : Blt X.mg)
include B
theorem se_len (ha : SW X e d) (hg : Gl X "len" := by rfl) (h1 : starEach [e] X.env = (false, eval e X.env) :: starEach [] X.env := by rfl) (hpl : (backTo pos (starEach [] X.env)).any (·.1) = false := by rfl) : SE X (.Call (.Name "len" p) [e] [] pos) (d1 fLen d) := se_callB c1_len call_lenA hg B.len PySem.boot_len ha (by decide) (by decide) h1 h1 hpl
theorem se_tuple (ha : SW X e d) (hg : Gl X "tuple" := by rfl) (h1 : starEach [e] X.env = (false, eval e X.env) :: starEach [] X.env := by rfl) (hpl : (backTo pos (starEach [] X.env)).any (·.1) = false := by rfl) : SE X (.Call (.Name "tuple" p) [e] [] pos) (d1 fTuple d) := se_callT c1_tuple call_tuple_of hg B.tuple boot_tuple ha (by decide) (by decide) h1 h1 hpl
theorem sf_list (ha : SW X e d) (hg : Gl X "list" := by rfl) (h1 : starEach [e] X.env = (false, eval e X.env) :: starEach [] X.env := by rfl) (hpl : (backTo pos (starEach [] X.env)).any (·.1) = false := by rfl) : SF X (.Call (.Name "list" p) [e] [] pos) (d1 fList d) := sf_callT c1f_list call_list_of hg B.list boot_list ha (by decide) (by decide) h1 h1 hpl
theorem se_sum (hc : X.calm = true) (ha : SW X e d) (hg : Gl X "sum" := by rfl) (h1 : starEach [e] X.env = (false, eval e X.env) :: starEach [] X.env := by rfl) (hpl : (backTo pos (starEach [] X.env)).any (·.1) = false := by rfl) : SE X (.Call (.Name "sum" p) [e] [] pos) (d1 fSum d) := se_callB c1_sum (cr_sumA hc) hg B.sum (by decide +kernel) ha (by decide) (by decide) h1 h1 hpl
theorem se_any (hc : X.calm = true) (ha : SW X e d) (hg : Gl X "any" := by rfl) (h1 : starEach [e] X.env = (false, eval e X.env) :: starEach [] X.env := by rfl) (hpl : (backTo pos (starEach [] X.env)).any (·.1) = false := by rfl) : SE X (.Call (.Name "any" p) [e] [] pos) (d1 fAny d) := se_callB c1_any (cr_any hc) hg B.any (by decide +kernel) ha (by decide) (by decide) h1 h1 hpl
theorem se_all (hc : X.calm = true) (ha : SW X e d) (hg : Gl X "all" := by rfl) (h1 : starEach [e] X.env = (false, eval e X.env) :: starEach [] X.env := by rfl) (hpl : (backTo pos (starEach [] X.env)).any (·.1) = false := by rfl) : SE X (.Call (.Name "all" p) [e] [] pos) (d1 fAll d) := se_callB c1_all (cr_all hc) hg B.all (by decide +kernel) ha (by decide) (by decide) h1 h1 hpl
theorem se_abs (ha : SW X e d) (hg : Gl X "abs" := by rfl) (h1 : starEach [e] X.env = (false, eval e X.env) :: starEach [] X.env := by rfl) (hpl : (backTo pos (starEach [] X.env)).any (·.1) = false := by rfl) : SE X (.Call (.Name "abs" p) [e] [] pos) (d1 fAbs d) := se_callB c1_abs call_abs hg B.abs (by decide +kernel) ha (by decide) (by decide) h1 h1 hpl
theorem se_intc (ha : SW X e d) (hg : Gl X "int" := by rfl) (h1 : starEach [e] X.env = (false, eval e X.env) :: starEach [] X.env := by rfl) (hpl : (backTo pos (starEach [] X.env)).any (·.1) = false := by rfl) : SE X (.Call (.Name "int" p) [e] [] pos) (d1 fInt d) := se_callT c1_int call_int1 hg B.int (by decide +kernel) ha (by decide) (by decide) h1 h1 hpl
theorem se_strI (ha : SW X e d) (hg : Gl X "str" := by rfl) (h1 : starEach [e] X.env = (false, eval e X.env) :: starEach [] X.env := by rfl) (hpl : (backTo pos (starEach [] X.env)).any (·.1) = false := by rfl) : SE X (.Call (.Name "str" p) [e] [] pos) (d1 fStrI d) := se_callT c1_str call_str_int hg B.str (by decide +kernel) ha (by decide) (by decide) h1 h1 hpl
theorem sf_sorted (hu : X.A.units + 70 < cLine) (ha : SW X e d) (hg : Gl X "sorted" := by rfl) (h1 : starEach [e] X.env = (false, eval e X.env) :: starEach [] X.env := by rfl) (hpl : (backTo pos (starEach [] X.env)).any (·.1) = false := by rfl) : SF X (.Call (.Name "sorted" p) [e] [] pos) (d1 fSorted d) := sf_callB c1f_sorted (call_sortedA hu) hg B.sorted (by decide +kernel) ha (by decide) (by decide) h1 h1 hpl
theorem se_isInt {p2 : Pos} (ha : SW X e d) (hg : Gl X "isinstance" := by rfl) (hgT : Gl X "int" := by rfl) (h1 : starEach [e, .Name "int" p2] X.env = (false, eval e X.env) :: starEach [.Name "int" p2] X.env := by rfl) (h2 : starEach [.Name "int" p2] X.env = (false, eval (.Name "int" p2) X.env) :: starEach [] X.env := by rfl) (hpl : (backTo pos (starEach [.Name "int" p2] X.env)).any (·.1) = false := by rfl) : SE X (.Call (.Name "isinstance" p) [e, .Name "int" p2] [] pos) (dIs "int" d) := se_isi kit_int hg B.isinstance hgT B.int (by decide +kernel) ha (by decide) (by decide) h1 h2 hpl
theorem se_isBool {p2 : Pos} (ha : SW X e d) (hg : Gl X "isinstance" := by rfl) (hgT : Gl X "bool" := by rfl) (h1 : starEach [e, .Name "bool" p2] X.env = (false, eval e X.env) :: starEach [.Name "bool" p2] X.env := by rfl) (h2 : starEach [.Name "bool" p2] X.env = (false, eval (.Name "bool" p2) X.env) :: starEach [] X.env := by rfl) (hpl : (backTo pos (starEach [.Name "bool" p2] X.env)).any (·.1) = false := by rfl) : SE X (.Call (.Name "isinstance" p) [e, .Name "bool" p2] [] pos) (dIs "bool" d) := se_isi kit_bool hg B.isinstance hgT B.bool (by decide +kernel) ha (by decide) (by decide) h1 h2 hpl
theorem se_isStr {p2 : Pos} (ha : SW X e d) (hg : Gl X "isinstance" := by rfl) (hgT : Gl X "str" := by rfl) (h1 : starEach [e, .Name "str" p2] X.env = (false, eval e X.env) :: starEach [.Name "str" p2] X.env := by rfl) (h2 : starEach [.Name "str" p2] X.env = (false, eval (.Name "str" p2) X.env) :: starEach [] X.env := by rfl) (hpl : (backTo pos (starEach [.Name "str" p2] X.env)).any (·.1) = false := by rfl) : SE X (.Call (.Name "isinstance" p) [e, .Name "str" p2] [] pos) (dIs "str" d) := se_isi kit_str hg B.isinstance hgT B.str (by decide +kernel) ha (by decide) (by decide) h1 h2 hpl
theorem se_isList {p2 : Pos} (ha : SW X e d) (hg : Gl X "isinstance" := by rfl) (hgT : Gl X "list" := by rfl) (h1 : starEach [e, .Name "list" p2] X.env = (false, eval e X.env) :: starEach [.Name "list" p2] X.env := by rfl) (h2 : starEach [.Name "list" p2] X.env = (false, eval (.Name "list" p2) X.env) :: starEach [] X.env := by rfl) (hpl : (backTo pos (starEach [.Name "list" p2] X.env)).any (·.1) = false := by rfl) : SE X (.Call (.Name "isinstance" p) [e, .Name "list" p2] [] pos) (dIs "list" d) := se_isi kit_list hg B.isinstance hgT B.list (by decide +kernel) ha (by decide) (by decide) h1 h2 hpl
theorem se_isTuple {p2 : Pos} (ha : SW X e d) (hg : Gl X "isinstance" := by rfl) (hgT : Gl X "tuple" := by rfl) (h1 : starEach [e, .Name "tuple" p2] X.env = (false, eval e X.env) :: starEach [.Name "tuple" p2] X.env := by rfl) (h2 : starEach [.Name "tuple" p2] X.env = (false, eval (.Name "tuple" p2) X.env) :: starEach [] X.env := by rfl) (hpl : (backTo pos (starEach [.Name "tuple" p2] X.env)).any (·.1) = false := by rfl) : SE X (.Call (.Name "isinstance" p) [e, .Name "tuple" p2] [] pos) (dIs "tuple" d) := se_isi kit_tuple hg B.isinstance hgT B.tuple (by decide +kernel) ha (by decide) (by decide) h1 h2 hpl
end
/-! ### list(range(..)), tuple(range(..)), two arguments -/
theorem rg_rp {K H A} (i j : Int) : RpAll K H A (rgV i j) (upTo i (j - i).toNat) := by
  unfold rgV upTo
  generalize List.range (j - i).toNat = l
  induction l with
  | nil => exact .nil
  | cons x r ih => exact .cons (.int _) ih
def dRg1 (da : M PyData) : M PyData := bnd da fun x => lft ((fRg1 x).map .list)
def dRg2 (da db : M PyData) : M PyData := bnd da fun x => bnd db fun y => lft ((fRg2 x y).map .list)
def dRgT1 (da : M PyData) : M PyData := bnd da fun x => lft ((fRg1 x).map .tuple)
theorem rg1_inv {x : PyData} {r} (h : fRg1 x = some r) : ∃ j, x = .int j ∧ RgOk 0 j ∧ r = upTo 0 (j - 0).toNat := by
  obtain ⟨j, q5, q6⟩ := Option.bind_eq_some_iff.mp h
  have := intOf_inv q5; subst this
  unfold rg1 at q6
  split at q6
  · cases q6; exact ⟨j, rfl, ⟨by omega, by omega, by omega, by omega, by omega⟩, by rw [Int.sub_zero]⟩
  · cases q6
theorem rg2_inv {x y : PyData} {r} (h : fRg2 x y = some r) : ∃ i j, x = .int i ∧ y = .int j ∧ RgOk i j ∧ r = upTo i (j - i).toNat := by
  obtain ⟨i, q5, q6⟩ := Option.bind_eq_some_iff.mp h
  obtain ⟨j, q7, q8⟩ := Option.bind_eq_some_iff.mp q6
  have := intOf_inv q5; subst this
  have := intOf_inv q7; subst this
  unfold rg2 at q8
  split at q8
  · cases q8; exact ⟨i, j, rfl, rfl, ⟨by omega, by omega, by omega, by omega, by omega⟩, rfl⟩
  · cases q8
def C2 (K : PySem.W.Frag) (r : List V → Hp → VK → Prop) (g : PyData → PyData → Option PyData) : Prop := ∀ H A v w d e z Q, Trk H A → Rp K H A v d → Rp K H A w e → g d e = some z → (∀ H' v', Same H H' → Rp K H' A v' z → Q v' H') → r [v, w] H Q
section
variable {X : Cx} {a b : Expr} {da db d : M PyData} {pos p p2 pos2 : Pos} (B : Blt X.mg)
include B
theorem sf_listRg1 (hc : X.calm = true) (ha : SE X a da) (hg : Gl X "list" := by rfl) (hg2 : Gl X "range" := by rfl) (na : starEach [a] X.env = (false, eval a X.env) :: starEach [] X.env := by rfl)
    (nb : starEach [.Call (.Name "range" p2) [a] [] pos2] X.env = (false, eval (.Call (.Name "range" p2) [a] [] pos2) X.env) :: starEach [] X.env := by rfl) : SF X (.Call (.Name "list" p) [.Call (.Name "range" p2) [a] [] pos2] [] pos) (dRg1 da) :=
  PE.imp (pe_listRg hc hg B.list (prg_1 hg2 B.range ha na) nb) fun σ H Q ⟨env, os, G, z, env', R, q, k⟩ => by
    obtain ⟨x, e1, q1, q2⟩ := bnd_inv q
    obtain ⟨q3, rfl⟩ := lft_inv q2
    obtain ⟨r, q4, rfl⟩ := Option.map_eq_some_iff.mp q3
    obtain ⟨j, rfl, ok, rfl⟩ := rg1_inv q4
    exact ⟨env, os, G, _, env', R, q1, fun H1 os1 v x1 R1 p1 => ⟨j, Rw.int (.inl p1.strong), ok, fun p np => k _ os1 p (x1.trans (Ext.same _ (same_upd np))) (x1.free np) (R1.plus np trivial) (own_new R1 np (rg_rp _ _))⟩⟩
theorem sf_listRg2 (hc : X.calm = true) (ha : SE X a da) (hb : SE X b db) (hg : Gl X "list" := by rfl) (hg2 : Gl X "range" := by rfl) (na : starEach [a, b] X.env = (false, eval a X.env) :: starEach [b] X.env := by rfl) (nb : starEach [b] X.env = (false, eval b X.env) :: starEach [] X.env := by rfl) (hp : (backTo pos2 (starEach [b] X.env)).any (·.1) = false := by rfl)
    (nc : starEach [.Call (.Name "range" p2) [a, b] [] pos2] X.env = (false, eval (.Call (.Name "range" p2) [a, b] [] pos2) X.env) :: starEach [] X.env := by rfl) : SF X (.Call (.Name "list" p) [.Call (.Name "range" p2) [a, b] [] pos2] [] pos) (dRg2 da db) :=
  PE.imp (pe_listRg hc hg B.list (prg_2 hg2 B.range ha hb na nb hp) nc) fun σ H Q ⟨env, os, G, z, env', R, q, k⟩ => by
    obtain ⟨x, e1, q1, q⟩ := bnd_inv q
    obtain ⟨y, e2, q2, q⟩ := bnd_inv q
    obtain ⟨q3, rfl⟩ := lft_inv q
    obtain ⟨r, q4, rfl⟩ := Option.map_eq_some_iff.mp q3
    obtain ⟨i, j, rfl, rfl, ok, rfl⟩ := rg2_inv q4
    exact ⟨env, os, G, _, e1, R, q1, fun H1 os1 v x1 R1 p1 => ⟨e1, os1, G, _, env', R1, q2, fun H2 os2 w x2 R2 p2 => ⟨i, j, Rw.int (.inl p1.strong), Rw.int (.inl p2.strong), ok, fun p np => k _ os2 p ((x1.trans x2).trans (Ext.same _ (same_upd np))) (x1.free (x2.free np)) (R2.plus np trivial) (own_new R2 np (rg_rp _ _))⟩⟩⟩
theorem se_tupRg1 (hc : X.calm = true) (ha : SE X a da) (hg : Gl X "tuple" := by rfl) (hg2 : Gl X "range" := by rfl) (na : starEach [a] X.env = (false, eval a X.env) :: starEach [] X.env := by rfl)
    (nb : starEach [.Call (.Name "range" p2) [a] [] pos2] X.env = (false, eval (.Call (.Name "range" p2) [a] [] pos2) X.env) :: starEach [] X.env := by rfl) : SE X (.Call (.Name "tuple" p) [.Call (.Name "range" p2) [a] [] pos2] [] pos) (dRgT1 da) :=
  PE.imp (pe_tupRg hc hg B.tuple (prg_1 hg2 B.range ha na) nb) fun σ H Q ⟨env, os, G, z, env', R, q, k⟩ => by
    obtain ⟨x, e1, q1, q2⟩ := bnd_inv q
    obtain ⟨q3, rfl⟩ := lft_inv q2
    obtain ⟨r, q4, rfl⟩ := Option.map_eq_some_iff.mp q3
    obtain ⟨j, rfl, ok, rfl⟩ := rg1_inv q4
    refine ⟨env, os, G, _, env', R, q1, fun H1 os1 v x1 R1 p1 => ⟨j, Rw.int (.inl p1.strong), ok, fun p np => ?_⟩⟩
    have sm := same_upd (o := .tup (rgV 0 j)) np
    exact k _ os1 _ (x1.trans (Ext.same _ sm)) (R1.ofSame sm) (.inl (.tup (.inl ⟨upd_same, R1.new np⟩) (rg_rp _ _)))
/-- a builtin of two arguments -/
def fMin2 : PyData → PyData → Option PyData | .int i, .int j => some (.int (min i j)) | _, _ => none
def fMax2 : PyData → PyData → Option PyData | .int i, .int j => some (.int (max i j)) | _, _ => none
omit B in
theorem c2_min : C2 X.K (fun xs H Q => ∃ i j, xs = [.int i, .int j] ∧ Q (.int (if j < i then j else i)) H) fMin2 := by
  intro H A v w d e z Q tr r1 r2 h k
  unfold fMin2 at h
  split at h
  · rename_i i j; cases h
    rw [Rw.int (.inl r1), Rw.int (.inl r2)]
    refine ⟨i, j, rfl, ?_⟩
    rw [show (if j < i then j else i) = min i j by split <;> omega]
    exact k H _ (Same.refl H) (.int _)
  · cases h
omit B in
theorem c2_max : C2 X.K (fun xs H Q => ∃ i j, xs = [.int i, .int j] ∧ Q (.int (if j > i then j else i)) H) fMax2 := by
  intro H A v w d e z Q tr r1 r2 h k
  unfold fMax2 at h
  split at h
  · rename_i i j; cases h
    rw [Rw.int (.inl r1), Rw.int (.inl r2)]
    refine ⟨i, j, rfl, ?_⟩
    rw [show (if j > i then j else i) = max i j by split <;> omega]
    exact k H _ (Same.refl H) (.int _)
  · cases h
omit B in
theorem se_call2 {r : List V → Hp → VK → Prop} {g : PyData → PyData → Option PyData} {id : String} {x : Str} (hs : C2 X.K r g) (hc : CallR X (.builtin id) r) (hg : Gl X x) (hm : X.mg x = none) (hv : bootBuiltins x = some (.builtin id)) (ha : SE X a da) (hb : SE X b db) (hn : x ≠ "__name__" := by decide) (hdb : (x == ("__debug__" : Str)) = false := by decide)
    (h1 : starEach [a, b] X.env = (false, eval a X.env) :: starEach [b] X.env := by rfl) (h2 : starEach [b] X.env = (false, eval b X.env) :: starEach [] X.env := by rfl) (hpl : (backTo pos (starEach [b] X.env)).any (·.1) = false := by rfl) : SE X (.Call (.Name x p) [a, b] [] pos) (d2 g da db) :=
  PE.imp (pe_callB hc hg hm hv (pa_cons ha (pa_cons hb pa_nil h2) h1) hn hdb h1 hpl) fun σ H Q ⟨env, os, G, z, env', R, q, k⟩ => by
    obtain ⟨x, e1, q1, q⟩ := bnd_inv q
    obtain ⟨y, e2, q2, q⟩ := bnd_inv q
    obtain ⟨q3, rfl⟩ := lft_inv q
    exact ⟨env, os, G, x, e1, R, q1, fun H1 os1 v x1 R1 p1 => ⟨e1, os1, G, y, env', R1, q2, fun H2 os2 w x2 R2 p2 => hs H2 _ v w x y z Q R2.trk (p1.strong.ext x2) p2.strong q3 fun H3 v3 sm p3 => k H3 os2 v3 ((x1.trans x2).trans (Ext.same _ sm)) (R2.ofSame sm) (.inl p3)⟩⟩
theorem se_min2 (hc : X.calm = true) (ha : SE X a da) (hb : SE X b db) (hg : Gl X "min" := by rfl) (h1 : starEach [a, b] X.env = (false, eval a X.env) :: starEach [b] X.env := by rfl) (h2 : starEach [b] X.env = (false, eval b X.env) :: starEach [] X.env := by rfl) (hpl : (backTo pos (starEach [b] X.env)).any (·.1) = false := by rfl) :
    SE X (.Call (.Name "min" p) [a, b] [] pos) (d2 fMin2 da db) := se_call2 c2_min (call_min2 hc) hg B.min (by decide +kernel) ha hb (by decide) (by decide) h1 h2 hpl
theorem se_max2 (hc : X.calm = true) (ha : SE X a da) (hb : SE X b db) (hg : Gl X "max" := by rfl) (h1 : starEach [a, b] X.env = (false, eval a X.env) :: starEach [b] X.env := by rfl) (h2 : starEach [b] X.env = (false, eval b X.env) :: starEach [] X.env := by rfl) (hpl : (backTo pos (starEach [b] X.env)).any (·.1) = false := by rfl) :
    SE X (.Call (.Name "max" p) [a, b] [] pos) (d2 fMax2 da db) := se_call2 c2_max (call_max2 hc) hg B.max (by decide +kernel) ha hb (by decide) (by decide) h1 h2 hpl
end
/-! ### min, max of a list of alike data -/
section
variable {X : Cx}
def rMinA (K : PySem.W.Frag) (f : PyData → List PyData → PyData) : List V → Hp → VK → Prop := fun vs H Q => ∃ (a : Addr) (xs : List V) (d : PyData) (ds : List PyData), vs = [V.ref a] ∧ (SqL K H a xs ∨ SqT K H a xs) ∧ DpAll K H xs (d :: ds) ∧ SeqAt.shaped (.list (d :: ds)) = true ∧ PySem.W.AlikeAll (d :: ds) ∧
  ∀ (i : Nat) v, xs[i]? = some v → (d :: ds)[i]? = some (f d ds) → Q v H
theorem minD_mem (d : PyData) : ∀ (ds : List PyData), PySem.W.minD d ds ∈ d :: ds := by
  intro ds
  unfold PySem.W.minD
  induction ds generalizing d with
  | nil => exact List.mem_cons_self
  | cons x r ih =>
    rw [List.foldl_cons]
    have := ih (if PySem.W.dataLt x d then x else d)
    split at this
    · rename_i c; rw [if_pos c]; exact List.mem_cons_of_mem _ this
    · rename_i c; rw [if_neg c]; rcases List.mem_cons.mp this with h | h
      · rw [h]; exact List.mem_cons_self
      · exact List.mem_cons_of_mem _ (List.mem_cons_of_mem _ h)
theorem maxD_mem (d : PyData) : ∀ (ds : List PyData), PySem.W.maxD d ds ∈ d :: ds := by
  intro ds
  unfold PySem.W.maxD
  induction ds generalizing d with
  | nil => exact List.mem_cons_self
  | cons x r ih =>
    rw [List.foldl_cons]
    have := ih (if PySem.W.dataLt d x then x else d)
    split at this
    · rename_i c; rw [if_pos c]; exact List.mem_cons_of_mem _ this
    · rename_i c; rw [if_neg c]; rcases List.mem_cons.mp this with h | h
      · rw [h]; exact List.mem_cons_self
      · exact List.mem_cons_of_mem _ (List.mem_cons_of_mem _ h)
theorem dpAll_get {K H} : ∀ {vs ds} {i : Nat} {v}, DpAll K H vs ds → vs[i]? = some v → ∃ d, ds[i]? = some d ∧ Dp K H v d
  | _, _, _, _, .nil, e => by simp at e
  | _, _, 0, _, .cons a _, e => by simp at e; subst e; exact ⟨_, by simp, a⟩
  | _, _, i + 1, _, .cons _ b, e => by
    obtain ⟨v, h1, h2⟩ := dpAll_get (i := i) b (by simpa using e)
    exact ⟨v, by simpa using h1, h2⟩
theorem Vals.getV : ∀ {xs : List V} {us : List Value} {i : Nat} {u : Value}, Vals xs us → us[i]? = some u → ∃ x, xs[i]? = some x ∧ RelV x u
  | _, _, _, _, .nil, e => by simp at e
  | _, _, 0, _, .cons r _, e => by simp at e; subst e; exact ⟨_, rfl, r⟩
  | _, _, i + 1, x, .cons _ t, e => by
    obtain ⟨u, h1, h2⟩ := Vals.getV (i := i) t (by simpa using e)
    exact ⟨u, by simpa using h1, h2⟩
theorem best_rd {pins σ H s} (I : Inv X pins σ H s) {xs : List V} {d : PyData} {ds : List PyData} {its : List Value} {m : PyData} (hm : m ∈ d :: ds) (rv : Vals xs its) (hd : DpAll X.K H xs (d :: ds)) (al : PySem.W.AlikeAll (d :: ds)) {Q : VK}
    (q : ∀ (i : Nat) v, xs[i]? = some v → (d :: ds)[i]? = some m → Q v H) {i : Nat} {v : Value} {h' : Heap} {tk : Nat} {bs : List Addr} (hv : its.toArray[i]? = some v) (hr : Reads h' v m bs) (hk : ∀ b o, s.heap.get? b = some o → h'.get? b = some o) : EP X pins σ Q v { s with heap := h', toks := tk } := by
  obtain ⟨x, hx, rx⟩ := Vals.getV rv (by simpa using hv)
  obtain ⟨e, he, de⟩ := dpAll_get hd hx
  have I' : Inv X pins σ H { s with heap := h', toks := tk } := I.kept hk
  obtain ⟨as, r⟩ := Dp.reads I' e x v de rx
  have ee : e = m := PySem.W.alike_unique e m v as bs (al.1 e (List.mem_of_getElem? he) m hm) r hr
  subst ee
  exact ⟨x, H, I', rx, q i x hx he⟩
theorem call_minA (hc : X.calm = true) (hu : X.A.units + 70 < cLine) : CallR X (.builtin "min") (rMinA X.K PySem.W.minD) := by
  intro pins s σ H vs us Q I r h
  obtain ⟨a, xs, d, ds, rfl, hs, hd, sh, al, q⟩ := h
  rw [Vals.ref1 r]
  have hdep : X.A.units + 1 + PyData.depthAll (d :: ds) < cLine := by
    have h4 := SeqAt.depth_of_shaped sh
    simp only [PyData.depth] at h4
    omega
  rcases hs with hs | hs
  · obtain ⟨its, rv, hl, hz⟩ := I.list hs
    obtain ⟨as, hr⟩ := Dp.readsAll I (d :: ds) xs its hd rv
    exact PySem.W.min_list_data (I.ok.hd hc) hl.isList (by simpa using hr) al hdep fun i v h' tk bs h1 h2 h3 => best_rd I (minD_mem d ds) rv hd al q h1 h2 h3
  · obtain ⟨its, rv, hl, hz⟩ := I.tuple hs
    obtain ⟨as, hr⟩ := Dp.readsAll I (d :: ds) xs its hd rv
    exact PySem.W.min_tuple_data (I.ok.hd hc) (show s.heap.IsTuple a its.toArray from hl) (by simpa using hr) al hdep fun i v h' tk bs h1 h2 h3 => best_rd I (minD_mem d ds) rv hd al q h1 h2 h3
theorem call_maxA (hc : X.calm = true) (hu : X.A.units + 70 < cLine) : CallR X (.builtin "max") (rMinA X.K PySem.W.maxD) := by
  intro pins s σ H vs us Q I r h
  obtain ⟨a, xs, d, ds, rfl, hs, hd, sh, al, q⟩ := h
  rw [Vals.ref1 r]
  have hdep : X.A.units + 1 + PyData.depthAll (d :: ds) < cLine := by
    have h4 := SeqAt.depth_of_shaped sh
    simp only [PyData.depth] at h4
    omega
  rcases hs with hs | hs
  · obtain ⟨its, rv, hl, hz⟩ := I.list hs
    obtain ⟨as, hr⟩ := Dp.readsAll I (d :: ds) xs its hd rv
    exact PySem.W.max_list_data (I.ok.hd hc) hl.isList (by simpa using hr) al hdep fun i v h' tk bs h1 h2 h3 => best_rd I (maxD_mem d ds) rv hd al q h1 h2 h3
  · obtain ⟨its, rv, hl, hz⟩ := I.tuple hs
    obtain ⟨as, hr⟩ := Dp.readsAll I (d :: ds) xs its hd rv
    exact PySem.W.max_tuple_data (I.ok.hd hc) (show s.heap.IsTuple a its.toArray from hl) (by simpa using hr) al hdep fun i v h' tk bs h1 h2 h3 => best_rd I (maxD_mem d ds) rv hd al q h1 h2 h3
def okMin (ds : List PyData) : Bool := shp (.list ds) && alikeB ds && ds.all notN
theorem okMin_inv {ds} (h : okMin ds = true) : SeqAt.shaped (.list ds) = true ∧ PySem.W.AlikeAll ds := by
  unfold okMin at h
  simp only [Bool.and_eq_true] at h
  refine ⟨h.1.1, fun x hx y hy => alikeB_inv h.1.2 x hx y hy, fun x hx z => ?_⟩
  have := List.all_eq_true.mp h.2 x hx
  rw [z] at this; cases this
def fMinL (f : PyData → List PyData → PyData) : PyData → Option PyData
  | .list (d :: ds) => if okMin (d :: ds) = true then some (f d ds) else none
  | .tuple (d :: ds) => if okMin (d :: ds) = true then some (f d ds) else none
  | _ => none
theorem c1_minL {K : PySem.W.Frag} {f : PyData → List PyData → PyData} : C1 K (rMinA K f) (fMinL f) := by
  intro H A v d z Q tr r h k
  unfold fMinL at h
  split at h
  · split at h
    · rename_i ok; cases h
      obtain ⟨o1, o2⟩ := okMin_inv ok
      obtain ⟨a, vs, rfl, s, q⟩ := r.lst
      refine ⟨a, vs, _, _, rfl, .inl (.inl (.inl s)), q.dp (SeqAt.canLay_of_shaped o1), o1, o2, fun i v hv hd => ?_⟩
      obtain ⟨d', h1, h2⟩ := q.getV hv
      rw [hd] at h1; cases h1
      exact k H v (Same.refl H) h2
    · cases h
  · split at h
    · rename_i ok; cases h
      obtain ⟨o1, o2⟩ := okMin_inv ok
      obtain ⟨a, vs, rfl, s, q⟩ := r.tup
      refine ⟨a, vs, _, _, rfl, .inr s.sq, q.dp (SeqAt.canLay_of_shaped o1), o1, o2, fun i v hv hd => ?_⟩
      obtain ⟨d', h1, h2⟩ := q.getV hv
      rw [hd] at h1; cases h1
      exact k H v (Same.refl H) h2
    · cases h
  · cases h
variable {e : Expr} {d : M PyData} {pos p : Pos} (B : Blt X.mg)
include B
theorem se_minL (hc : X.calm = true) (hu : X.A.units + 70 < cLine) (ha : SW X e d) (hg : Gl X "min" := by rfl) (h1 : starEach [e] X.env = (false, eval e X.env) :: starEach [] X.env := by rfl) (hpl : (backTo pos (starEach [] X.env)).any (·.1) = false := by rfl) : SE X (.Call (.Name "min" p) [e] [] pos) (d1 (fMinL PySem.W.minD) d) := se_callB c1_minL (call_minA hc hu) hg B.min (by decide +kernel) ha (by decide) (by decide) h1 h1 hpl
theorem se_maxL (hc : X.calm = true) (hu : X.A.units + 70 < cLine) (ha : SW X e d) (hg : Gl X "max" := by rfl) (h1 : starEach [e] X.env = (false, eval e X.env) :: starEach [] X.env := by rfl) (hpl : (backTo pos (starEach [] X.env)).any (·.1) = false := by rfl) : SE X (.Call (.Name "max" p) [e] [] pos) (d1 (fMinL PySem.W.maxD) d) := se_callB c1_minL (call_maxA hc hu) hg B.max (by decide +kernel) ha (by decide) (by decide) h1 h1 hpl
end
end SL

set_option Elab.async false
set_option linter.all false
set_option maxRecDepth 100000
set_option maxHeartbeats 4000000
/-! SL10: what every law has: the pool, the law's head, _law_same. -/
namespace SL
open PySem PySem.Spec PyProof.Rows L2
theorem hu64 {A : Around} {k : Nat} (hr : Room k A) : A.units + 64 < cLine := hr.units
theorem hu65 {A : Around} {k : Nat} (hr : Room k A) : A.units + 65 < cLine := by have := hr.un; omega
theorem hu70 {A : Around} {k : Nat} (hr : Room k A) : A.units + 70 < cLine := by have := hr.un; omega
/-- a promise of less -/
theorem spOf_mono {K n} {F F' : FS} (h : ∀ as r, F as = some r → F' as = some r) : ∀ vs H Q E, spOf K n F vs H Q E → spOf K n F' vs H Q E := fun vs H Q E ⟨as, os, G, r, as', R, hl, hL, q, k⟩ => ⟨as, os, G, r, as', R, hl, hL, h _ _ q, k⟩
section
variable {P : Program} {w : World} {K : PySem.W.Frag} {mg : Str → Option Value} {base : Heap}
theorem cal_mono {x : Str} {k k' n : Nat} {ps : List Str} {F F' : FS} (C : Cal P w K mg base x k ps (spOf K n F')) (h : ∀ as r, F as = some r → F' as = some r) (hk : k ≤ k') : Cal P w K mg base x k' ps (spOf K n F) := by
  obtain ⟨f, fd, h1, h2, h3, h4⟩ := C.ex
  exact ⟨f, fd, h1, h2, h3, (h4.imp (spOf_mono h)).mono hk⟩
/-- the def stands where its name says -/
structure DefAt (K : PySem.W.Frag) (x : Str) (st : Stmt) : Prop where
  ex : ∃ f fd, PySem.W.nsIn K mainGlobals x = some (some (.ref f)) ∧ L2.Fun K x x st f fd
theorem defAt {x : Str} {st : Stmt} {f : Addr} {oc : Value} {od an : Option Addr} {osl : Array (Option Value)} {kV doc pm cdv ct : Value} (a : PySem.W.nsIn K mainGlobals x = some (some (.ref f)))
    (l : K.lookup f = some ⟨oc, od, .func (PySem.W.fnOf x x (defArgs st) (defBody st) (defScope st) .none kV doc pm an cdv ct), osl⟩)
    (c : PySem.W.codeIn K cdv x = true) (k : PySem.W.keepIn K (.ref f) = true) : DefAt K x st := ⟨f, _, a, fun_mk l c k⟩
/-- how the arguments of a def of this text bind -/
def BindsOf (x : Str) (st : Stmt) (ps : List Str) : Prop := ∀ (kV doc pm : Value) (an : Option Addr) (cdv ct : Value) (us : List Value), us.length = ps.length → bindArgs (PySem.W.fnOf x x (defArgs st) (defBody st) (defScope st) .none kV doc pm an cdv ct) ⟨us, []⟩ = pure (ps.zip us)
theorem cal_mk {x : Str} {st : Stmt} {k : Nat} {ps : List Str} {sp : Sp} {h : Heap} (Z : K.In h) (G : h.Ns mainGlobals mg) (D : DefAt K x st) (hb : BindsOf x st ps) (ok : ∀ {f fd}, L2.Fun K x x st f fd → FnOk P w K mg base CX0 k f fd ps sp) : Cal P w K mg base x k ps sp := by
  obtain ⟨f, fd, a, F⟩ := D.ex
  exact ⟨f, fd, PySem.W.mg_of Z G a, F.kp, F.binds hb, ok F⟩
end
section
variable {X : Cx} {e : Expr} {es : List Expr} {pos p : Pos} {t : TA} {k : Nat} {ps : List Str} {x : Str} {sp : Sp}
theorem pe_cal {j : Nat} (C : Cal X.prog X.w X.K X.mg X.base x k ps sp) (hr : Room j X.A) (ha : PA X (e :: es) t) (hj : k ≤ j := by decide) (hg : Gl X x := by rfl)
    (hdb : (x == ("__debug__" : Str)) = false := by decide) (he : starEach (e :: es) X.env = (false, eval e X.env) :: starEach es X.env := by rfl) (hpl : (backTo pos (starEach es X.env)).any (·.1) = false := by rfl) : PE X (.Call (.Name x p) (e :: es) [] pos) (tCall sp [] E0 t) := by
  obtain ⟨f, fd, h1, h2, h3, h4⟩ := C.ex
  exact pe_call h4 (hr.mono hj) hg h1 h2 h3 .nil pass0 ha hdb he hpl
end
/-! ### the pool -/
def saltOf (ns : List Int) : Int := ns.foldl (fun s c => (s * 31 + c) % 1000003) 7
theorem salt_bounds : ∀ (ns : List Int) (s : Int), 0 ≤ s → s < 1000003 → 0 ≤ ns.foldl (fun s c => (s * 31 + c) % 1000003) s ∧ ns.foldl (fun s c => (s * 31 + c) % 1000003) s < 1000003
  | [], s, h1, h2 => ⟨h1, h2⟩
  | c :: r, s, h1, h2 => by rw [List.foldl_cons]; exact salt_bounds r _ (Int.emod_nonneg _ (by decide)) (Int.emod_lt_of_pos _ (by decide))
def poolOf (ns : List Int) : PyData := .list [.list (ns.map .int), .int 0, .int 0, .int 0, .int (saltOf ns)]
def spPool (K : PySem.W.Frag) : Sp := fun vs H Q _ => ∃ (a : Addr) (ns : List Int), vs = [.ref a] ∧ SqL K H a (ns.map V.int) ∧ ns.length ≤ 63 ∧ ∀ H' l p, Same H H' → H l = none → H p = none → l ≠ p → H' l = some (.lst (ns.map V.int)) → H' p = some (.lst [.ref l, .int 0, .int 0, .int 0, .int (saltOf ns)]) → Q (.ref p) H'
def spLaw (K : PySem.W.Frag) : Sp := fun vs H Q _ => ∃ (a : Addr) (ns : List Int), vs = [.ref a] ∧ SqL K H a (ns.map V.int) ∧ ns.length ≤ 63 ∧ ∀ H', Q (.bl true) H'
abbrev tPoolBody (K : PySem.W.Frag) : TS := tSeq (tAsg (tC (.int 7)) (gName 1)) (tSeq (tFor (iList K (tSl (rSlL K) (tVar 0) tNoPart (tPart (tC (.int 63))))) (gName 2)
    (tAsg (tOp (rI (fun _ j => 0 < j) fun i j => .int (i % j)) (tCB (fun xs H Q => (∃ i, xs = [.int i] ∧ Q (.int i) H) ∨ ∃ k, xs = [.bl k] ∧ Q (.int (if k then 1 else 0)) H) (tCons (tOp (rI0 fun i j => .int (i + j)) (tOp (rI CMul fun i j => .int (i * j)) (tVar 1) (tC (.int 31))) (tVar 2)) tNil)) (tC (.int 1000003))) (gName 1)))
  (tRet (tLst (tCons (tCB (fun xs H Q => ∃ p ys, xs = [.ref p] ∧ (SqL K H p ys ∨ SqT K H p ys) ∧ ∀ l, H l = none → Q (.ref l) (upd H l (.lst ys))) (tCons (tVar 0) tNil)) (tCons (tC (.int 0)) (tCons (tC (.int 0)) (tCons (tC (.int 0)) (tCons (tVar 1) tNil))))))))
theorem cut63 {xs : List V} (h : xs.length ≤ 63) : cutV xs none (some 63) = xs := by
  refine cutV_all rfl ?_
  show HT.sIx xs.length xs.length (some 63) = xs.length
  have : HT.sIx xs.length xs.length (some ((63 : Nat) : Int)) = min 63 xs.length := HT.sIx_nat _ _ 63
  rw [show ((63 : Int)) = ((63 : Nat) : Int) from rfl, this]
  omega
section
variable {P : Program} {w : World} {K : PySem.W.Frag} {mg : Str → Option Value} {base : Heap}
theorem fn_pool {x qual : Str} {st : Stmt} {f : Addr} {fd : FuncData} {k : Nat} (F : L2.Fun K x qual st f fd) (S : FnScope ["script", "salt", "cell"] ["script"] (defScope st))
    (hbody : ∀ (cdv : Value) (A : Around) (outer : List Env) (s : Shared) (H : Hp) (E : XK), Room k (A.deeper (envOfC qual (defScope st) s.heap.objs.size f cdv)) → PSs (cxOf CX0 P w K mg base ["script", "salt", "cell"] qual (defScope st) f cdv A outer s H E).nox (defBody st) (tPoolBody K)) :
    FnOk P w K mg base CX0 (k + 1) f fd ["script"] (spPool K) := by
  refine F.ok S (fun vs H Q E ⟨a, ns, h, _⟩ => by rw [h]; rfl) fun cdv A outer s H vs Q E hr h => ⟨_, hbody cdv A outer s H E hr, ?_⟩
  obtain ⟨a, ns, rfl, hS, hl, q⟩ := h
  have hl' : (ns.map V.int).length ≤ 63 := by rw [List.length_map]; exact hl
  refine ⟨.ref a, rfl, 63, rfl, a, ns.map V.int, rfl, hS, fun c nc => ?_⟩
  rw [cut63 hl']
  have smc : Same H (upd H c (.lst (ns.map V.int))) := same_upd nc
  refine ⟨c, rfl, ⟨_, .inl (.inl upd_same)⟩, for_list (xs := ns.map V.int) (fun i σ H1 => ∃ y, σ = [some (.ref a), some (.int ((ns.take i).foldl (fun s c => (s * 31 + c) % 1000003) 7)), y] ∧ H1 = upd H c (.lst (ns.map V.int))) ⟨none, rfl, rfl⟩ (fun i σ H1 _ ⟨y, _, e⟩ => by rw [e]; exact .inl (.inl upd_same)) (fun i x σ H1 hx ⟨y, e1, e2⟩ => ?_) (fun σ H1 ⟨y, e1, e2⟩ => ?_)⟩
  · subst e1 e2
    rw [List.getElem?_map] at hx
    obtain ⟨m, hm, rfl⟩ := Option.map_eq_some_iff.mp hx
    have bd := salt_bounds (ns.take i) 7 (by decide) (by decide)
    have e3 : (ns.take (i + 1)).foldl (fun s c => (s * 31 + c) % 1000003) 7 = ((ns.take i).foldl (fun s c => (s * 31 + c) % 1000003) 7 * 31 + m) % 1000003 := by
      rw [List.take_add_one, hm, List.foldl_append]; rfl
    refine ⟨_, rfl, _, _, rfl, rfl, .inr ⟨by decide, by decide⟩, .int m, rfl, _, _, rfl, rfl, .inl ⟨_, rfl, _, _, rfl, rfl, (by show (0 : Int) < 1000003; decide), some (.int m), ?_, rfl⟩⟩
    rw [e3]; rfl
  · subst e1 e2
    refine ⟨.ref a, rfl, a, ns.map V.int, rfl, .inl (smc.seq hS), fun l nl => ⟨_, rfl, by show 5 ≤ sizeLine; rw [sizeLine_eq]; decide, fun p np => ?_⟩⟩
    rw [List.length_map, List.take_length]
    have nl0 : H l = none := smc.free nl
    have sml := same_upd (o := .lst (ns.map V.int)) nl
    have np0 : H p = none := smc.free (sml.free np)
    have smp := same_upd (o := .lst [.ref l, .int 0, .int 0, .int 0, .int (saltOf ns)]) np
    have nlp : l ≠ p := fun z => by subst z; rw [upd_same] at np; cases np
    exact q _ l p ((smc.trans sml).trans smp) nl0 np0 nlp (by rw [upd_ne nlp, upd_same]) upd_same
/-- the law: its pool, then the rest -/
theorem fn_law {qual : Str} {st : Stmt} {f : Addr} {fd : FuncData} {N : List Str} {k : Nat} {d : M Fl} (F : L2.Fun K "law" qual st f fd) (S : FnScope N ["script"] (defScope st)) (hN : 2 ≤ N.length)
    (hd : ∀ ns : List Int, ns.length ≤ 63 → ∃ e, d ([.no, .own (poolOf ns)] ++ List.replicate (N.length - 2) .no) = some (.rt (.bool true), e))
    (hbody : ∀ (cdv : Value) (A : Around) (outer : List Env) (s : Shared) (H : Hp) (E : XK), Room k (A.deeper (envOfC qual (defScope st) s.heap.objs.size f cdv)) →
      PSs (cxOf CX0 P w K mg base N qual (defScope st) f cdv A outer s H E).nox (defBody st) (tSeq (tAsg (tCall (spPool K) [] E0 (tCons (tVar 0) tNil)) (gName 1)) (rdS K d))) :
    FnOk P w K mg base CX0 (k + 1) f fd ["script"] (spLaw K) := by
  refine F.ok S (fun vs H Q E ⟨a, ns, h, _⟩ => by rw [h]; rfl) fun cdv A outer s H vs Q E hr h => ⟨_, hbody cdv A outer s H E hr, ?_⟩
  obtain ⟨a, ns, rfl, hS, hl, q⟩ := h
  obtain ⟨e', he⟩ := hd ns hl
  obtain ⟨m, hm⟩ : ∃ m, N.length = m + 2 := ⟨N.length - 2, by omega⟩
  have e0 : L2.start N [V.ref a] = some (V.ref a) :: none :: List.replicate m none := by unfold L2.start; rw [hm]; rfl
  rw [e0]
  refine ⟨.ref a, rfl, a, ns, rfl, hS, hl, fun H' l p sm nl np nlp hL hp => ?_⟩
  have tr : ¬ (False : Prop) := id
  have rl : Rp K H' (Av (fun i => if i = 1 then some p else none) fun _ => False) (.ref l) (.list (ns.map .int)) := by
    refine .lst ⟨hL, fun z => ?_⟩ (RpAll.ofInts ns)
    rcases z with ⟨i, z⟩ | z
    · have z' : (if i = 1 then some p else none) = some l := z
      split at z'
      · cases z'; exact nlp rfl
      · cases z'
    · exact z
  have R : Rel K H' ([.no, .own (poolOf ns)] ++ List.replicate (N.length - 2) .no) (some (V.ref a) :: some (V.ref p) :: List.replicate m none) (fun i => if i = 1 then some p else none) ⟨fun _ => False, fun _ => none⟩ := by
    refine ⟨fun i => ?_, fun i j b h1 h2 => ?_, fun b z => z.elim, by simp [hm], fun i b z => by cases z⟩
    · rw [at_append]
      match i with
      | 0 => exact rfl
      | 1 => exact ⟨p, rfl, rfl, .lst hp (.cons rl (.cons (.int 0) (.cons (.int 0) (.cons (.int 0) (.cons (.int _) .nil)))))⟩
      | i + 2 => exact rfl
    · have h1' : (if i = 1 then some p else none) = some b := h1
      have h2' : (if j = 1 then some p else none) = some b := h2
      split at h1' <;> split at h2'
      · omega
      · cases h2'
      · cases h1'
      · cases h1'
  refine ⟨_, _, _, _, e', R, he, fun H2 os2 σ2 x2 R2 v pv => ?_⟩
  rw [Rw.bool (.inl pv)]
  exact q H2
end
section
variable {P : Program} {w : World} {K : PySem.W.Frag} {mg : Str → Option Value} {base : Heap}
theorem fn_okN {x qual : Str} {st : Stmt} {f : Addr} {fd : FuncData} (N ps : List Str) (k n m : Nat) (d : M Fl) (hn : N.length = n) (hm : ps.length = m) (F : L2.Fun K x qual st f fd) (S : FnScope N ps (defScope st))
    (hbody : ∀ (cdv : Value) (A : Around) (outer : List Env) (s : Shared) (H : Hp) (E : XK), Room k (A.deeper (envOfC qual (defScope st) s.heap.objs.size f cdv)) → SB (cxOf CX0 P w K mg base N qual (defScope st) f cdv A outer s H E).nox (defBody st) d) :
    FnOk P w K mg base CX0 (k + 1) f fd ps (spOf K m (bodyF n d)) := by
  subst hn hm; exact fn_ok F S hbody
theorem fn_ownN {x qual : Str} {st : Stmt} {f : Addr} {fd : FuncData} (N ps : List Str) (k n m : Nat) (d : M Fl) (hn : N.length = n) (hm : ps.length = m) (F : L2.Fun K x qual st f fd) (S : FnScope N ps (defScope st))
    (hbody : ∀ (cdv : Value) (A : Around) (outer : List Env) (s : Shared) (H : Hp) (E : XK), Room k (A.deeper (envOfC qual (defScope st) s.heap.objs.size f cdv)) → SB (cxOf CX0 P w K mg base N qual (defScope st) f cdv A outer s H E).nox (defBody st) d) :
    FnOk P w K mg base CX0 (k + 1) f fd ps (spOwn K m (bodyO n d)) := by
  subst hn hm; exact fn_own F S hbody
end
/-! ### _law_same -/
mutual
def same : PyData → PyData → Bool
  | a, .tuple ds => match a with | .tuple as => sameAll as ds | _ => false
  | a, .list ds => match a with | .list as => sameAll as ds | _ => false
  | a, .none => isNon a
  | a, .bool b => match a with | .bool c => decide (c = b) | _ => false
  | a, .int i => match a with | .int j => decide (j = i) | _ => false
  | a, .str x => match a with | .str y => decide (y = x) | _ => false
  | _, .dict _ => false
def sameAll : List PyData → List PyData → Bool
  | [], [] => true
  | a :: as, d :: ds => same a d && sameAll as ds
  | _, _ => false
end
mutual
def noDict : PyData → Bool
  | .dict _ => false
  | .tuple ds => decide (ds.length ≤ 16777216) && noDictAll ds
  | .list ds => decide (ds.length ≤ 16777216) && noDictAll ds
  | _ => true
def noDictAll : List PyData → Bool
  | [] => true
  | d :: ds => noDict d && noDictAll ds
end
/-- what _law_same reckons, n deep -/
def FSame (n : Nat) : FS := fun as => match as with | [.val a, .val b] => if b.depth ≤ n ∧ noDict b = true then some (.bool (same a b), as) else none | _ => none
mutual
theorem same_refl : ∀ d, noDict d = true → same d d = true
  | .none, _ => rfl
  | .bool b, _ => by simp [same]
  | .int i, _ => by simp [same]
  | .str x, _ => by simp [same]
  | .list ds, h => by simp only [same]; exact sameAll_refl ds (by simp only [noDict, Bool.and_eq_true] at h; exact h.2)
  | .tuple ds, h => by simp only [same]; exact sameAll_refl ds (by simp only [noDict, Bool.and_eq_true] at h; exact h.2)
  | .dict _, h => by simp [noDict] at h
theorem sameAll_refl : ∀ ds, noDictAll ds = true → sameAll ds ds = true
  | [], _ => rfl
  | d :: ds, h => by
    simp only [noDictAll, Bool.and_eq_true] at h
    simp only [sameAll, Bool.and_eq_true]
    exact ⟨same_refl d h.1, sameAll_refl ds h.2⟩
end
end SL

set_option Elab.async false
set_option linter.all false
set_option maxRecDepth 100000
set_option maxHeartbeats 4000000
/-! SetL: sorted(set(x)) of a list or a tuple of ints. -/
namespace SL
open PySem PySem.Spec PyProof.Rows L2
abbrev eSt (w : World) : Obj := { cls := .type "set", dict := none, data := .set #[] 0 (.fresh 0 0 (!w.params.followText "set-order")) }
section
variable {P : Program} {w : World} {A : Around} {E : Value → Shared → Prop} {s : Shared}
set_option maxHeartbeats 3200000 in
/-- set(l) of a list of ints: the tuple's road, turned -/
theorem set_of_list {l : Addr} {its : Array Value} (ks : List Int) {Q : Value → Shared → Prop} (hh : A.handled = none) (isl : s.heap.IsList l its) (isI : IntsAre its.toList ks) (room : ks.length + 1 < scanBound)
    (go : ∀ (hp : Heap) (tk c : Nat), SetR w hp s.heap.objs.size (fun j => decide (j ∈ ks)) c → c ≤ ks.length → (∀ b o, s.heap.get? b = some o → hp.get? b = some o) →
      Q (.ref s.heap.objs.size) { s with heap := hp, toks := tk }) :
    wpAny (model P w) A (call (.type "set") [.ref l]) Q E s := by
  have sz : its.size = ks.length := by rw [← IntsAre.length isI, Array.length_toList]
  obtain ⟨cc, mro, hmro⟩ := F.called_set.mro
  have made := F.called_set.made
  have subs := F.called_set.sub
  refine wpAny_call (codeAny_of_tree ?_)
  show wpAny _ _ (callAny (.type "set") _) _ _ _
  refine wpAny_pure ⟨Code.quiet_builtin _ (by decide +kernel), codeAny_builtin F.entry_type_call ?_⟩
  rw [Around.under_plain (weight_type_call_type "set" [.ref l] []) rfl]
  have nt := F.called_set.notType
  have cr := F.called_set.canCreate
  have tc := F.typeCall_set_1 (.ref l)
  repeat (any_goals (first | assumption | wp_step))
  refine codeAny_mono (code_set_led1 (.ref l) (E := E) (Q₁ := fun x s₁ => x = .ref s.heap.objs.size ∧ s₁ = { s with heap := s.heap.push (eSt w) }) ⟨rfl, rfl⟩) fun r s₁ hr => ?_
  cases r with
  | error e => exact hr
  | ok fl =>
  cases fl with
  | ret obj =>
  obtain ⟨rfl, rfl⟩ := hr
  have at0 : (s.heap.push (eSt w)).get? s.heap.objs.size = some (eSt w) := Heap.get?_push_size _ rfl
  have ty0 : Shared.TypeIs { s with heap := s.heap.push (eSt w) } (.ref s.heap.objs.size) "set" := ⟨_, at0, rfl⟩
  have il := F.called_set.init.lookup
  have ib := F.called_set.init.bind (.ref s.heap.objs.size)
  repeat (any_goals (first | assumption | wp_step))
  refine codeAny_mono (codeAny_call_builtin (R := wants (fun r s₂ => r = .none ∧ ∃ hp tk c, s₂ = { s with heap := hp, toks := tk } ∧ SetR w hp s.heap.objs.size (fun j => decide (j ∈ ks)) c ∧ c ≤ ks.length ∧
      (∀ b o, s.heap.get? b = some o → hp.get? b = some o)) E) F.called_set.init.plain F.entry_set_init (check_set_init_1 ty0 ?_)) fun r₂ s₂ hr₂ => ?_
  · obtain ⟨⟨cls, dic, dat, slo⟩, getl, ecl, k0, edat⟩ := isl
    simp only at ecl edat
    subst ecl; subst edat
    have getl1 : (s.heap.push (eSt w)).get? l = some { cls := .type "list", dict := dic, data := .seq its k0, slots := slo } := Heap.get?_push_of_some _ getl
    have n1 := F.sub_list_set
    have n2 := F.sub_list_frozenset
    have n3 : (Value.type "list" == Value.type "dict") = false := by decide
    have isl1 : (s.heap.push (eSt w)).IsList l its := ⟨_, getl1, rfl, k0, rfl⟩
    have lt0 : l < s.heap.objs.size := Heap.lt_size getl
    have hA : A.in1.in1.in1.handled = none := by simp [hh]
    unfold Builtin.«set.__init__» noKeywords Builtin.Frozenset.updateFrom
    generalize ePI : pyIter = PI
    wp_walk
    subst ePI
    refine wpAny_pyIter_list isl1 (wpAny_bind (wpAny_runValue ?_))
    have far : l ≠ (s.heap.push (eSt w)).objs.size := by rw [Heap.size_push]; exact Nat.ne_of_lt (Nat.lt_succ_of_lt lt0)
    have own : s.heap.objs.size ∉ [(s.heap.push (eSt w)).objs.size, l] := by
      rw [Heap.size_push]; simp only [List.mem_cons, List.mem_singleton, List.not_mem_nil, or_false, not_or]
      exact ⟨Nat.ne_of_lt (Nat.lt_succ_self _), fun z => Nat.ne_of_lt lt0 z.symm⟩
    have val : ∀ (i : Nat) (v : Value), its[i]? = some v → ∃ k t, ks[i]? = some k ∧ v = .int k t := fun i v hv => by
      have hi : i < ks.length := by rw [← sz]; exact (Array.getElem?_eq_some_iff.mp hv).1
      obtain ⟨t, e⟩ := PyProof.Rows.IntsAre.int_at isI i v (by rw [Array.getElem?_toList]; exact hv)
      exact ⟨ks[i], t, List.getElem?_eq_getElem hi, by rw [e, List.getD_eq_getElem?_getD, List.getElem?_eq_getElem hi]; rfl⟩
    refine set_update_ints ((Walks.list hA _ l far its).toS) s.heap.objs.size own ks sz room val (its.size - 0) 0 _ (by omega) (Nat.zero_le _) ⟨⟨_, Heap.get?_push_size _ rfl, rfl, rfl⟩, (isl1.push _)⟩ ?start ?done
    case start => exact ⟨0, Nat.le_refl 0, setR_new_at (Heap.get?_push_of_some _ at0)⟩
    case done =>
      intro s' c' mv lc R'
      obtain ⟨hp, gg, dd, tt, oo⟩ := s'
      have e1 : gg = s.gens := mv.gens
      have e2 : dd = s.drawn := mv.drawn
      have e3 : oo = s.os := mv.os
      subst e1; subst e2; subst e3
      show wpAny _ _ _ _ _ _
      refine wpAny_pure ?_
      show wpAny _ _ (PySem.ret Value.none) _ _ _
      rw [sz] at lc
      refine wpAny_pure ⟨rfl, hp, tt, c', rfl, R', lc, fun b o e => ?_⟩
      have lb : b < s.heap.objs.size := Heap.lt_size e
      refine mv.heap b o ?_ (Heap.get?_push_of_some _ (Heap.get?_push_of_some _ e))
      rw [Heap.size_push]
      simp only [List.mem_cons, List.mem_singleton, List.not_mem_nil, or_false, not_or]
      exact ⟨Nat.ne_of_lt lb, Nat.ne_of_lt (Nat.lt_succ_of_lt lb)⟩
  · cases r₂ with
    | error e => exact hr₂
    | ok f2 =>
    cases f2 with
    | ret r =>
    obtain ⟨rfl, hp, tt, c, rfl, R', lc, old⟩ := hr₂
    repeat (any_goals (first | assumption | wp_step))
    exact go _ _ _ R' lc old
    | _ => exact hr₂.elim
  | _ => exact hr.elim
end

/-! at the layer -/
def dd : List Int → List Int
  | [] => []
  | k :: r => if k ∈ dd r then dd r else k :: dd r
theorem dd_mem {k : Int} : ∀ {l : List Int}, k ∈ dd l ↔ k ∈ l
  | [] => Iff.rfl
  | x :: r => by
    unfold dd
    split
    · rename_i h
      rw [dd_mem (l := r), List.mem_cons]
      exact ⟨.inr, fun z => z.elim (fun e => by subst e; exact dd_mem.mp h) id⟩
    · rw [List.mem_cons, List.mem_cons, dd_mem (l := r)]
theorem dd_nodup : ∀ l : List Int, (dd l).Nodup
  | [] => List.nodup_nil
  | x :: r => by
    unfold dd
    split
    · exact dd_nodup r
    · rename_i h; exact List.nodup_cons.mpr ⟨h, dd_nodup r⟩
/-- what sorted(set(..)) gives -/
def srtS (ks : List Int) : List Int := (dd ks).mergeSort fun a b => decide (a ≤ b)
theorem srtS_mem {k : Int} {l : List Int} : k ∈ srtS l ↔ k ∈ l := by unfold srtS; rw [(List.mergeSort_perm ..).mem_iff, dd_mem]
theorem srtS_len (l : List Int) : (srtS l).length = (dd l).length := List.length_mergeSort ..
theorem srtS_up (l : List Int) : (srtS l).Pairwise (· < ·) := by
  have p : (srtS l).Perm (dd l) := List.mergeSort_perm ..
  have s : (srtS l).Pairwise fun a b : Int => decide (a ≤ b) = true := List.pairwise_mergeSort (fun a b c => by simp only [decide_eq_true_eq]; omega) (fun a b => by simp only [Bool.or_eq_true, decide_eq_true_eq]; omega) _
  exact (s.and (p.nodup_iff.mpr (dd_nodup l))).imp fun ⟨a, b⟩ => by have := of_decide_eq_true a; omega
theorem up_uniq : ∀ {a b : List Int}, a.Pairwise (· < ·) → b.Pairwise (· < ·) → (∀ k, k ∈ a ↔ k ∈ b) → a = b
  | [], [], _, _, _ => rfl
  | [], y :: b, _, _, h => by have := (h y).mpr List.mem_cons_self; cases this
  | x :: a, [], _, _, h => by have := (h x).mp List.mem_cons_self; cases this
  | x :: a, y :: b, ha, hb, h => by
    cases ha with
    | cons h1 h2 =>
    cases hb with
    | cons g1 g2 =>
    have e : x = y := by
      rcases List.mem_cons.mp ((h x).mp List.mem_cons_self) with e | e
      · exact e
      rcases List.mem_cons.mp ((h y).mpr List.mem_cons_self) with e' | e'
      · exact e'.symm
      have := g1 x e; have := h1 y e'; omega
    subst e
    rw [up_uniq h2 g2 fun k => ⟨fun z => (List.mem_cons.mp ((h k).mp (List.mem_cons_of_mem _ z))).resolve_left fun q => by subst q; exact absurd (h1 k z) (Int.lt_irrefl _),
      fun z => (List.mem_cons.mp ((h k).mpr (List.mem_cons_of_mem _ z))).resolve_left fun q => by subst q; exact absurd (g1 k z) (Int.lt_irrefl _)⟩]
theorem setR_count {w : World} {h : Heap} {a : Addr} {ks : List Int} {c : Nat} (R : SetR w h a (fun j => decide (j ∈ ks)) c) : c = (dd ks).length := by
  obtain ⟨o, es, ep, t, _, _, _, _, nd, hm, _, _, hn, _⟩ := R
  have p : (es.toList.map keyOf).Perm (dd ks) := (List.perm_ext_iff_of_nodup nd (dd_nodup ks)).mpr fun k => by rw [← hm k, dd_mem]; simp
  rw [← p.length_eq, List.length_map, Array.length_toList, hn]
def rSetI (K : PySem.W.Frag) (w : World) : List V → Hp → VK → Prop := fun xs H Q => ∃ (l : Addr) (ks : List Int), xs = [V.ref l] ∧ (SqL K H l (ks.map V.int) ∨ SqT K H l (ks.map V.int)) ∧ ks.length ≤ 4000 ∧
  ∀ a, H a = none → Q (.ref a) (upd H a (SetO w a (fun j => decide (j ∈ ks)) (dd ks).length))
theorem cr_setI {X : Cx} (hc : X.calm = true) : CallR X (.type "set") (rSetI X.K X.w) := by
  intro pins s σ H xs us Q I r h
  obtain ⟨l, ks, rfl, hs, hz, q⟩ := h
  rw [Vals.ref1 r]
  have hn : H s.heap.objs.size = none := I.hok.fresh (Nat.le_refl _)
  have fin : ∀ (hp : Heap) (tk c : Nat), SetR X.w hp s.heap.objs.size (fun j => decide (j ∈ ks)) c → c ≤ ks.length → (∀ b o, s.heap.get? b = some o → hp.get? b = some o) →
      ∃ x H', Inv X pins σ H' { s with heap := hp, toks := tk } ∧ RelV x (.ref s.heap.objs.size) ∧ Q x H' := fun hp tk c R _ old => by
    have := setR_count R
    subst this
    exact ⟨.ref s.heap.objs.size, _, I.laid (t' := tk) old (Nat.le_refl _) (setO_new R), rfl, q _ hn⟩
  rcases hs with hs | hs
  · obtain ⟨its, rv, pl, hz'⟩ := I.list hs
    exact set_of_list ks (I.ok.hd hc) pl.isList (by simpa using intsAre_of rv) (by unfold scanBound; omega) fin
  · obtain ⟨its, rv, pl, hz'⟩ := I.tuple hs
    exact call_set_tupI ks (I.ok.hd hc) pl (by simpa using intsAre_of rv) (by unfold scanBound; omega) fin
/-- sorted(set(x)), in one -/
def rSS (K : PySem.W.Frag) (w : World) : List V → Hp → VK → Prop := fun xs H Q => rSetI K w xs H fun v H1 => rSortedSet w [v] H1 Q
def fSS : PyData → Option PyData
  | .list ds => (intsOf ds).bind fun ks => if ks.length ≤ 4000 ∧ (dd ks).length < 64 then some (.list ((srtS ks).map .int)) else none
  | .tuple ds => (intsOf ds).bind fun ks => if ks.length ≤ 4000 ∧ (dd ks).length < 64 then some (.list ((srtS ks).map .int)) else none
  | _ => none
theorem fSS_inv {d z} (h : fSS d = some z) : ∃ ks : List Int, (d = .list (ks.map .int) ∨ d = .tuple (ks.map .int)) ∧ ks.length ≤ 4000 ∧ (dd ks).length < 64 ∧ z = .list ((srtS ks).map .int) := by
  cases d with
  | list ds =>
    obtain ⟨ks, h1, h2⟩ := Option.bind_eq_some_iff.mp (show (intsOf ds).bind _ = _ from h)
    split at h2
    · rename_i c; cases h2; exact ⟨ks, .inl (by rw [intsOf_inv h1]), c.1, c.2, rfl⟩
    · cases h2
  | tuple ds =>
    obtain ⟨ks, h1, h2⟩ := Option.bind_eq_some_iff.mp (show (intsOf ds).bind _ = _ from h)
    split at h2
    · rename_i c; cases h2; exact ⟨ks, .inr (by rw [intsOf_inv h1]), c.1, c.2, rfl⟩
    · cases h2
  | _ => cases h
theorem ints_rp {K H A} : ∀ {vs : List V} {ks : List Int}, RpAll K H A vs (ks.map .int) → vs = ks.map V.int
  | _, [], .nil => rfl
  | _, k :: r, .cons a t => by
    rw [ints_rp t]
    cases a; rfl
theorem rp_ints {K H A} : ∀ ks : List Int, RpAll K H A (ks.map V.int) (ks.map .int)
  | [] => .nil
  | k :: r => .cons (.int k) (rp_ints r)
variable {X : Cx}
theorem rSS_run {H : Hp} {A : Addr → Prop} {v d z} {Q : VK} (r : Rw X.K H A v d) (h : fSS d = some z)
    (k : ∀ H1 p, Same H H1 → H1 p = none → ∀ vs ds, z = .list ds → RpAll X.K H1 (fun b => A b) vs ds → Q (.ref p) (upd H1 p (.lst vs))) : rSS X.K X.w [v] H Q := by
  obtain ⟨ks, hd, h1, h2, rfl⟩ := fSS_inv h
  have main : ∀ l, v = .ref l → (SqL X.K H l (ks.map V.int) ∨ SqT X.K H l (ks.map V.int)) → rSS X.K X.w [v] H Q := by
    rintro l rfl hs
    refine ⟨l, ks, rfl, hs, h1, fun a na => ⟨a, _, _, rfl, upd_same, h2, fun ns p up mem _ np => ?_⟩⟩
    have e : ns = srtS ks := up_uniq up (srtS_up ks) fun j => by rw [mem j, srtS_mem]; simp
    subst e
    exact k _ p (same_upd na) np _ _ rfl (rp_ints _)
  rcases hd with rfl | rfl
  · obtain ⟨a, vs, rfl, s, q⟩ := r.lst
    exact main a rfl (.inl (by rw [← ints_rp q]; exact .inl (.inl s)))
  · obtain ⟨a, vs, rfl, s, q⟩ := r.tup
    exact main a rfl (.inr (by rw [← ints_rp q]; exact s.sq))
theorem sf_sset (B : Blt X.mg) {e : Expr} {d : M PyData} {p p2 q pos : Pos} (hc : X.calm = true) (ha : SW X e d) (hg : Gl X "sorted" := by rfl) (hg2 : Gl X "set" := by rfl) (h1 : starEach [e] X.env = (false, eval e X.env) :: starEach [] X.env := by rfl)
    (h2 : starEach [.Call (.Name "set" p2) [e] [] q] X.env = (false, eval (.Call (.Name "set" p2) [e] [] q) X.env) :: starEach [] X.env := by rfl) (hpl : (backTo q (starEach [] X.env)).any (·.1) = false := by rfl) (hpl2 : (backTo pos (starEach [] X.env)).any (·.1) = false := by rfl) :
    SF X (.Call (.Name "sorted" p) [.Call (.Name "set" p2) [e] [] q] [] pos) (d1 fSS d) :=
  PE.imp (pe_callB (cr_sortedSet hc) hg B.sorted (by decide +kernel) (pa_cons (pe_callTy (cr_setI hc) hg2 B.set boot_set (pa_cons ha pa_nil h1) (by decide) (by decide) h1 hpl) pa_nil h2) (by decide) (by decide) h2 hpl2) fun σ H Q h => by
    obtain ⟨env, os, G, z, env', R, q, k⟩ := h
    obtain ⟨y, e2, q3, q4⟩ := bnd_inv q
    obtain ⟨q5, rfl⟩ := lft_inv q4
    refine ⟨env, os, G, y, env', R, q3, fun H' os' v x R' p => ?_⟩
    refine rSS_run (p.rw R') q5 fun H1 a sm na vs ds e r => ?_
    subst e
    have R1 := R'.ofSame sm
    exact k _ os' a (x.trans ((Ext.same _ sm).trans (Ext.same _ (same_upd na)))) (x.free (by
      cases t : H' a with
      | none => rfl
      | some o => rw [sm a o t] at na; cases na)) (R1.plus na trivial) (own_new R1 na r)
end SL

set_option Elab.async false
set_option linter.all false
set_option maxRecDepth 100000
set_option maxHeartbeats 4000000
/-! SL11: xs.extend(ys). -/
namespace SL
open PySem PySem.Spec PyProof.Rows L2
variable {X : Cx} {e : Expr} {d : M PyData} {pos : Pos}
def sExt (i : Nat) (d : M PyData) : M Fl := fun e0 => if isL (e0.obj i) = true then bnd d (fun x => fun e => match x, e.obj i with | .list zs, some (.list ds) => if ds.length + zs.length ≤ 16777216 then some (.nx, e.mut i (.list (ds ++ zs))) else none | _, _ => none) e0 else none
theorem szle {n : Nat} (h : n ≤ 16777216) : n ≤ sizeLine := by rw [sizeLine_eq]; exact h
theorem ss_ext (i : Nat) {x : Str} {p1 apos cpos : Pos} (he : SE X e d) (hN : X.N[i]? = some x := by rfl) (hv : Vis X.env.scope x := by first | exact Or.inl rfl | exact Or.inr (Or.inl rfl) | exact Or.inr (Or.inr rfl)) (hd : (x == ("__debug__" : Str)) = false := by decide) (hcd : (x == ("__classdict__" : Str)) = false := by decide)
    (hs : starEach [e] X.env = (false, eval e X.env) :: starEach [] X.env := by rfl) (hbase : attributeBase (.Name x p1) "extend" X.env (eval (.Name x p1) X.env) = eval (.Name x p1) X.env := by rfl)
    (hfew : ((backTo cpos (starEach [e] X.env)).all (fun x => !x.1) && (backToKw cpos (keywordEach [] X.env)).all (fun x => x.1.isSome) && decide ([e].length + ([] : List Keyword).length + (if ([] : List Keyword).isEmpty then 0 else 1) < 30)) = true := by rfl)
    (hline : (apos.endLine == cpos.line) = true := by rfl) (hplain : (backTo cpos (starEach [] X.env)).any (·.1) = false := by rfl)
    (hsw : swapsWith (.Call (.Attribute (.Name x p1) "extend" apos) [e] [] cpos) none pos.line X.env = pure false := by rfl) :
    SS X (.Expr (.Call (.Attribute (.Name x p1) "extend" apos) [e] [] cpos) pos) (sExt i d) :=
  PS.imp (ps_expr (pe_bm PySem.F.plainAttrs_list PySem.F.slot_list_extend PySem.F.type_list_extend mt_extend (pe_var hN hv hd hcd) (pa_cons he pa_nil hs) hbase hfew hline hs hplain) hsw) fun D σ H ⟨env, os, G, r, env', R, q, k⟩ => by
    unfold sExt at q
    split at q
    · rename_i h0
      obtain ⟨d0, h0⟩ := isL_inv h0
      obtain ⟨a, _, s0, o0⟩ := R.obj h0
      obtain ⟨x, e1, q1, q2⟩ := bnd_inv q
      refine ⟨.ref a, s0, .inl ⟨rfl, ?_⟩, env, os, G, x, e1, R, q1, fun H1 os1 v x1 R1 p1 => ?_⟩
      · cases o0 with | lst t r => exact ⟨_, .inl (.inl t)⟩
      · split at q2
        · rename_i zs ds ho
          split at q2
          · rename_i hz; cases q2
            obtain ⟨b, _, s1, o1, kp, w⟩ := R1.write ho
            rw [s0] at s1; cases s1
            cases o1 with
            | @lst vs _ t r =>
              cases p1.strong with
              | @lst c ws _ sc qc =>
                obtain ⟨R2, x2⟩ := w (.lst (vs ++ ws)) (.list (ds ++ zs)) trivial (.lst upd_same ((r.append qc).map (kp (.lst (vs ++ ws)) trivial)))
                exact ⟨a, c, vs, ws, rfl, rfl, t, sc.1, by rw [r.length, qc.length]; exact szle hz, k _ os1 σ (x1.trans x2) R2⟩
          · cases q2
        · cases q2
    · cases q
end SL

set_option Elab.async false
set_option linter.all false
set_option maxRecDepth 100000
set_option maxHeartbeats 4000000
/-! SL12: comprehensions of two generators. -/
namespace SL
open PySem PySem.Spec PyProof.Rows L2
theorem at_s0 {s : Sl} {e : En} {i : Nat} : En.at (s :: e) (i + 1) = En.at e i := by simp [En.at]
theorem en_ext : ∀ {a b : En}, a.length = b.length → (∀ j, a.at j = b.at j) → a = b
  | [], [], _, _ => rfl
  | [], _ :: _, h, _ => by simp at h
  | _ :: _, [], h, _ => by simp at h
  | x :: a, y :: b, h, g => by
    have h0 : x = y := g 0
    have h1 : a = b := en_ext (by simpa using h) fun j => (by have := g (j + 1); rw [at_s0, at_s0] at this; exact this)
    rw [h0, h1]
theorem wipe_wipe {e : En} {vs vs1 : List Nat} (h : ∀ i ∈ vs1, i ∈ vs) : wipeE (wipeE e vs1) vs = wipeE e vs := by
  refine en_ext (by rw [wipeE_length, wipeE_length, wipeE_length]) fun j => ?_
  rw [wipeE_at, wipeE_at, wipeE_at]
  by_cases m : j ∈ vs
  · rw [if_pos m, if_pos m]
  · rw [if_neg m, if_neg m, if_neg fun z => m (h j z)]
theorem okW_wipe {e : En} {vs vs1 : List Nat} (h : okW e vs = true) : okW (wipeE e vs1) vs = true := by
  unfold okW at h ⊢
  rw [List.all_eq_true] at h ⊢
  intro i hi
  have := h i hi
  rw [wipeE_at]
  by_cases m : i ∈ vs1
  · rw [if_pos m]
  · rw [if_neg m]; exact this
def compGo2 (vs : List Nat) (g : PyData → En → Option En) (c : M Bool) (vs1 : List Nat) (di1 : M (List PyData)) (g1 : PyData → En → Option En) (c1 : M Bool) (el : M PyData) : List PyData → En → Option (List PyData × En)
  | [], e => some ([], e)
  | x :: xs, e => (g x (wipeE e vs)).bind fun e1 => (c e1).bind fun t => if t.1 = true then (di1 t.2).bind fun m => if okW m.2 vs1 = true then (compGo vs1 g1 c1 el m.1 m.2).bind fun r => if okW r.2 vs = true then (compGo2 vs g c vs1 di1 g1 c1 el xs r.2).map fun q => (r.1 ++ q.1, q.2) else none else none
      else if okW t.2 vs = true then compGo2 vs g c vs1 di1 g1 c1 el xs t.2 else none
def dComp2 (vs : List Nat) (di : M (List PyData)) (g : PyData → En → Option En) (c : M Bool) (vs1 : List Nat) (di1 : M (List PyData)) (g1 : PyData → En → Option En) (c1 : M Bool) (el : M PyData) : M PyData :=
  bnd di fun items => fun e0 => if okW e0 vs = true then (compGo2 vs g c vs1 di1 g1 c1 el items e0).bind fun r => if r.1.length ≤ 16777216 then some (.list r.1, restore r.2 e0 vs) else none else none
theorem kpt {H H' H'' : Hp} {A A' A'' : Addr → Prop} (h : Keeps H H' A A') (h' : Keeps H' H'' A' A'') : Keeps H H'' A A'' := fun a u d r n => h' a u d (h a u d r n).1 (h a u d r n).2
theorem comp2_rd {K : PySem.W.Frag} {vs ts vs1 ts1 : List Nat} {di di1 : M (List PyData)} {g g1} {tc tc1 : M Bool} {d : M PyData} (hts : ∀ j ∈ ts, j ∈ vs) (hts1 : ∀ j ∈ ts1, j ∈ vs1) (hv : ∀ j ∈ vs1, j ∈ vs) {σ H Q} (h : rdF K (dComp2 vs di g tc vs1 di1 g1 tc1 d) σ H Q) :
    tLc2 (rdI K di) (rdG K g ts) (rdT K tc) (rdI K di1) (rdG K g1 ts1) (rdT K tc1) (rdV false K d) vs vs1 σ H Q := by
  obtain ⟨env, os, G, r, env', R, q, k⟩ := h
  obtain ⟨items, e1, q1, q2⟩ := bnd_inv q
  split at q2
  · rename_i ok0
    obtain ⟨p2, q2', q3⟩ := Option.bind_eq_some_iff.mp q2
    split at q3
    · rename_i hz0
      cases q3
      refine ⟨env, os, G, items, e1, R, q1, fun H1 os1 J x1 R1 wk hz D nD => ?_⟩
      have RD := R1.plus (u := .lst []) nD trivial
      have fD : ∀ a, (G.plus D).Fr a → G.Fr a ∨ H1 a = none := fun a h => h.elim .inl fun q => .inr (by rw [q]; exact nD)
      refine ⟨fun i m H3 => m = items.length - i ∧ i ≤ items.length ∧ ∃ env3 os3 acc ds, okW env3 vs = true ∧ env3.length = e1.length ∧ Ext os1 os3 H1 H3 ∧ Rel K H3 (wipeE env3 vs) (L2.wipe σ vs) os3 (G.plus D) ∧ H3 D = some (.lst acc) ∧ RpAll K H3 (Av os3 (G.plus D).Fr) acc ds ∧
        ∃ rr, compGo2 vs g tc vs1 di1 g1 tc1 d (items.drop i) env3 = some (rr, p2.2) ∧ ds ++ rr = p2.1,
        ⟨items.length, rfl, Nat.zero_le _, e1, os1, [], [], ok0, rfl, Ext.same _ (same_upd nD), RD.wipe ok0 (wipe_length _ _) (fun i m => wipe_at m), upd_same, .nil, p2.1, q2', rfl⟩, ?_⟩
      rintro i m H3 ⟨rfl, hi', env3, os3, acc, ds, ok3, l3, x3, R3, hD, ra, rr, q3, e3⟩
      by_cases hlt : i < items.length
      · obtain ⟨dd, hd⟩ : ∃ dd, items[i]? = some dd := ⟨items[i], List.getElem?_eq_getElem hlt⟩
        obtain ⟨go, step⟩ := (wk os3 H3 (G.plus D).Fr (x3.keeps2 fD) R3.trk i).1 dd hd
        rw [List.drop_eq_getElem_cons hlt] at q3
        have hd' : items[i] = dd := Option.some.inj ((List.getElem?_eq_getElem hlt).symm.trans hd)
        rw [hd'] at q3
        obtain ⟨e4, q4, q5⟩ := Option.bind_eq_some_iff.mp q3
        obtain ⟨t, q5, q6⟩ := Option.bind_eq_some_iff.mp q5
        have nD3 := (R3.fr D (.inr rfl)).2
        refine .inr ⟨go, fun H' => ∃ env3 os3 acc ds, okW env3 vs = true ∧ env3.length = e1.length ∧ Ext os1 os3 H1 H' ∧ Rel K H' (wipeE env3 vs) (L2.wipe σ vs) os3 (G.plus D) ∧ H' D = some (.lst acc) ∧ RpAll K H' (Av os3 (G.plus D).Fr) acc ds ∧
          ∃ rr, compGo2 vs g tc vs1 di1 g1 tc1 d (items.drop (i + 1)) env3 = some (rr, p2.2) ∧ ds ++ rr = p2.1, fun H' h => ⟨items.length - (i + 1), by omega, rfl, hlt, h⟩, fun x H4 hy => ?_⟩
        obtain ⟨sm, px⟩ := step x H4 hy
        refine ⟨wipeE env3 vs, os3, G.plus D, dd, e4, R3.ofSame sm, px, q4, fun os5 σ5 x5 R5 l5 s5 => ⟨?_, e4, os5, G.plus D, t.1, t.2, R5, q5, fun H6 os6 x6 R6 => ?_⟩⟩
        · exact wipe_same (by rw [l5, wipe_length]) fun j hj => (s5 j fun z => hj (hts j z)).trans (wipe_at hj)
        · have x36 : Ext os3 os6 H3 H6 := ((Ext.same _ sm).trans x5).trans x6
          have ls : σ5.length = e1.length := by
            have a3 := R3.len
            rw [wipeE_length, l3, wipe_length] at a3
            rw [l5, wipe_length]; omega
          cases ht : t.1 with
          | false =>
            rw [ht, if_neg Bool.false_ne_true] at q6
            refine iteF ?_
            split at q6
            · rename_i ok6
              exact ⟨t.2, os6, acc, ds, ok6, by have := R6.len; omega, x3.trans x36, R6.wipe ok6 (by rw [wipe_length, l5, wipe_length]) (fun j hj => by rw [wipe_at hj, s5 j fun z => hj (hts j z), wipe_at hj]), x36.keep D _ hD nD3, ra.ext x36, rr, q6, e3⟩
            · cases q6
          | true =>
            rw [ht, if_pos rfl] at q6
            refine iteT ?_
            obtain ⟨mm, q7, q8⟩ := Option.bind_eq_some_iff.mp q6
            split at q8
            · rename_i okm
              obtain ⟨r8, q9, q10⟩ := Option.bind_eq_some_iff.mp q8
              split at q10
              · rename_i okr
                obtain ⟨r9, q11, q12⟩ := Option.map_eq_some_iff.mp q10
                have e12 : rr = r8.1 ++ r9.1 ∧ p2.2 = r9.2 := by have := Prod.mk.inj q12; exact ⟨this.1.symm, this.2.symm⟩
                refine ⟨t.2, os6, G.plus D, mm.1, mm.2, R6, q7, fun H7 os7 J1 x7 R7 wk1 hz1 => ?_⟩
                have x37 := x36.trans x7
                refine ⟨fun j k' H8 => k' = mm.1.length - j ∧ j ≤ mm.1.length ∧ ∃ env8 os8 acc8 ds8, okW env8 vs1 = true ∧ env8.length = e1.length ∧ Ext os1 os8 H1 H8 ∧ Keeps H7 H8 (Av os7 (G.plus D).Fr) (Av os8 (G.plus D).Fr) ∧ Rel K H8 (wipeE env8 vs1) (L2.wipe σ5 vs1) os8 (G.plus D) ∧ H8 D = some (.lst acc8) ∧ RpAll K H8 (Av os8 (G.plus D).Fr) acc8 (ds ++ ds8) ∧
                  ∃ rr8, compGo vs1 g1 tc1 d (mm.1.drop j) env8 = some (rr8, r8.2) ∧ ds8 ++ rr8 = r8.1,
                  ⟨mm.1.length, rfl, Nat.zero_le _, mm.2, os7, acc, [], okm, by have := R7.len; omega, x3.trans x37, fun a u _ r n => ⟨r, n⟩, R7.wipe okm (wipe_length _ _) (fun i m => wipe_at m), x37.keep D _ hD nD3, by rw [List.append_nil]; exact ra.ext x37, r8.1, q9, rfl⟩, ?_⟩
                rintro j k' H8 ⟨rfl, hj', env8, os8, acc8, ds8, ok8, l8, x8, kp8, R8, hD8, ra8, rr8, q13, e13⟩
                by_cases hlt1 : j < mm.1.length
                · obtain ⟨dd1, hd1⟩ : ∃ dd, mm.1[j]? = some dd := ⟨mm.1[j], List.getElem?_eq_getElem hlt1⟩
                  obtain ⟨go1, step1⟩ := (wk1 os8 H8 (G.plus D).Fr kp8 R8.trk j).1 dd1 hd1
                  rw [List.drop_eq_getElem_cons hlt1, Option.some.inj ((List.getElem?_eq_getElem hlt1).symm.trans hd1)] at q13
                  obtain ⟨e14, q14, q15⟩ := Option.bind_eq_some_iff.mp q13
                  obtain ⟨t1, q15, q16⟩ := Option.bind_eq_some_iff.mp q15
                  have nD8 := (R8.fr D (.inr rfl)).2
                  refine .inr ⟨go1, fun H' => ∃ env8 os8 acc8 ds8, okW env8 vs1 = true ∧ env8.length = e1.length ∧ Ext os1 os8 H1 H' ∧ Keeps H7 H' (Av os7 (G.plus D).Fr) (Av os8 (G.plus D).Fr) ∧ Rel K H' (wipeE env8 vs1) (L2.wipe σ5 vs1) os8 (G.plus D) ∧ H' D = some (.lst acc8) ∧ RpAll K H' (Av os8 (G.plus D).Fr) acc8 (ds ++ ds8) ∧
                    ∃ rr8, compGo vs1 g1 tc1 d (mm.1.drop (j + 1)) env8 = some (rr8, r8.2) ∧ ds8 ++ rr8 = r8.1, fun H' h => ⟨mm.1.length - (j + 1), by omega, rfl, hlt1, h⟩, fun x' H9 hy1 => ?_⟩
                  obtain ⟨sm1, px1⟩ := step1 x' H9 hy1
                  refine ⟨wipeE env8 vs1, os8, G.plus D, dd1, e14, R8.ofSame sm1, px1, q14, fun osA σA xA RA lA sA => ⟨?_, e14, osA, G.plus D, t1.1, t1.2, RA, q15, fun HB osB xB RB => ?_⟩⟩
                  · exact wipe_same (by rw [lA, wipe_length]) fun j hj => (sA j fun z => hj (hts1 j z)).trans (wipe_at hj)
                  · have x8B : Ext os8 osB H8 HB := ((Ext.same _ sm1).trans xA).trans xB
                    have lsA : σA.length = e1.length := by rw [lA, wipe_length]; exact ls
                    have hDB : HB D = some (.lst acc8) := x8B.keep D _ hD8 nD8
                    cases ht1 : t1.1 with
                    | false =>
                      rw [ht1, if_neg Bool.false_ne_true] at q16
                      refine iteF ?_
                      split at q16
                      · rename_i okB
                        exact ⟨t1.2, osB, acc8, ds8, okB, by have := RB.len; omega, x8.trans x8B, kpt kp8 x8B.keeps, RB.wipe okB (by rw [wipe_length, lA, wipe_length]) (fun j hj => by rw [wipe_at hj, sA j fun z => hj (hts1 j z), wipe_at hj]), hDB, ra8.ext x8B, rr8, q16, e13⟩
                      · cases q16
                    | true =>
                      rw [ht1, if_pos rfl] at q16
                      refine iteT ?_
                      obtain ⟨y, q17, q18⟩ := Option.bind_eq_some_iff.mp q16
                      split at q18
                      · rename_i okY
                        obtain ⟨rC, q19, q20⟩ := Option.map_eq_some_iff.mp q18
                        have e20 : rr8 = y.1 :: rC.1 ∧ r8.2 = rC.2 := by have := Prod.mk.inj q20; exact ⟨this.1.symm, this.2.symm⟩
                        refine ⟨t1.2, osB, G.plus D, y.1, y.2, RB, q17, fun HC osC v xC RC pC => ?_⟩
                        have x8C := x8B.trans xC
                        have hDC : HC D = some (.lst acc8) := x8C.keep D _ hD8 nD8
                        have raC := ra8.ext x8C
                        have kp : Keeps HC (upd HC D (.lst (acc8 ++ [v]))) (Av osC (G.plus D).Fr) (Av osC (G.plus D).Fr) := fun b u _ r n => ⟨rq_upd (upd_ne fun z => n (.inr (.inr z))) r, n⟩
                        have bound : acc8.length < 16777216 := by
                          rw [raC.length]
                          have : (ds ++ ds8).length < p2.1.length := by
                            rw [← e3, e12.1, ← e13, e20.1]; simp only [List.length_append, List.length_cons]; omega
                          omega
                        refine ⟨acc8, hDC, szlt bound, y.2, osC, acc8 ++ [v], ds8 ++ [y.1], okY, by have := RC.len; omega, ?_, kpt (kpt kp8 x8C.keeps) kp, ?_, upd_same, ?_, rC.1, ?_, ?_⟩
                        · have xx := x8.trans x8C
                          refine ⟨fun b u hb nb => ?_, xx.own, fun b hb => ?_⟩
                          · have z : b ≠ D := fun z => by subst z; rw [nD] at hb; cases hb
                            rw [upd_ne z]; exact xx.keep b u hb nb
                          · by_cases z : b = D
                            · subst z; rw [upd_same]; exact fun z => nomatch z
                            · rw [upd_ne z]; exact xx.trk b hb
                        · exact Rel.wipe (RC.upd (o := .lst (acc8 ++ [v])) (.inr rfl) trivial) okY (by rw [wipe_length, lA, wipe_length]) (fun j hj => by rw [wipe_at hj, sA j fun z => hj (hts1 j z), wipe_at hj])
                        · rw [← List.append_assoc]; exact (raC.append (.one pC.strong)).map kp
                        · rw [q19, e20.2]
                        · rw [← e13, e20.1, List.append_assoc]; rfl
                      · cases q18
                · have e : j = mm.1.length := by omega
                  subst e
                  rw [List.drop_length] at q13
                  cases q13
                  rw [List.append_nil] at e13
                  subst e13
                  refine .inl ⟨(wk1 os8 H8 (G.plus D).Fr kp8 R8.trk _).2 (Nat.le_refl _), r8.2, os8, acc8, ds ++ r8.1, okr, l8, x8, ?_, hD8, ra8, r9.1, by rw [q11, e12.2], by rw [← e3, e12.1, List.append_assoc]⟩
                  have := R8.wipe (okW_wipe okr) (σ' := L2.wipe σ vs) (by rw [wipe_length, wipe_length, l5, wipe_length]) (fun j hj => by rw [wipe_at hj, wipe_at fun z => hj (hv j z), s5 j fun z => hj (hts j z), wipe_at hj])
                  rw [wipe_wipe hv] at this
                  exact this
              · cases q10
            · cases q8
      · have e : i = items.length := by omega
        subst e
        rw [List.drop_length] at q3
        cases q3
        rw [List.append_nil] at e3
        subst e3
        refine .inl ⟨(wk os3 H3 (G.plus D).Fr (x3.keeps2 fD) R3.trk _).2 (Nat.le_refl _), ?_⟩
        refine k H3 os3 D (x1.trans x3) (x1.free nD) ?_ (.lst hD ra)
        have hln : p2.2.length = e1.length := l3
        have kp2 := x3.keeps2 fD
        refine ⟨fun j => ?_, R3.inj, R3.fr, by rw [restore_length]; rw [hln]; exact R1.len, fun j b z => ?_⟩
        · rw [restore_at hln]
          have s3 := R3.sl j
          rw [wipeE_at] at s3
          by_cases m : j ∈ vs
          · rw [if_pos m] at s3 ⊢
            have s1 := R1.sl j
            have o3 : os3 j = none := s3
            rcases okW_at ok0 m with z | ⟨dz, z⟩
            · rw [z]; exact o3
            · rw [z] at s1 ⊢
              obtain ⟨_, v, h1, h2⟩ := s1
              exact ⟨o3, v, h1, h2.map kp2⟩
          · rw [if_neg m] at s3 ⊢
            rw [wipe_at m] at s3
            exact s3
        · obtain ⟨h1, dz, h2⟩ := R3.lt j b z
          refine ⟨h1, dz, ?_⟩
          rw [restore_at hln]
          rw [wipeE_at] at h2
          by_cases m : j ∈ vs
          · rw [if_pos m] at h2; cases h2
          · rw [if_neg m] at h2 ⊢; exact h2
    · cases q3
  · cases q2
section
variable {X : Cx}
theorem sf_comp2 (vs1 : List Nat) {pos : Pos} {elt tg iter tg1 iter1 : Expr} {ifs ifs1 : List Expr} {scope : Scope} {own : List (Str × Nat)} {di di1 : M (List PyData)} {g g1 : PyData → En → Option En} {ts ts1 : List Nat} {tc tc1 : M Bool} {d : M PyData} (hc : X.calm = true) (hN : X.N.Nodup) (hi : SI X tg iter di) (ok : BlkOk X.N X.env.scope scope own)
    (hg : ∀ (s : Shared) (H : Hp) (C : Addr) (cl : List (Str × Addr)) (fp : List Addr), SG (X.blk s H scope (compEnvC scope cl C X.env) fp) tg g ts) (ht : ∀ (s : Shared) (H : Hp) (C : Addr) (cl : List (Str × Addr)) (fp : List Addr), PTs (X.blk s H scope (compEnvC scope cl C X.env) fp) ifs (rdT X.K tc))
    (hi1 : ∀ (s : Shared) (H : Hp) (C : Addr) (cl : List (Str × Addr)) (fp : List Addr), SI (X.blk s H scope (compEnvC scope cl C X.env) fp) tg1 iter1 di1)
    (hg1 : ∀ (s : Shared) (H : Hp) (C : Addr) (cl : List (Str × Addr)) (fp : List Addr), SG (X.blk s H scope (compEnvC scope cl C X.env) fp) tg1 g1 ts1) (ht1 : ∀ (s : Shared) (H : Hp) (C : Addr) (cl : List (Str × Addr)) (fp : List Addr), PTs (X.blk s H scope (compEnvC scope cl C X.env) fp) ifs1 (rdT X.K tc1))
    (he : ∀ (s : Shared) (H : Hp) (C : Addr) (cl : List (Str × Addr)) (fp : List Addr), SE (X.blk s H scope (compEnvC scope cl C X.env) fp) elt d)
    (hts : ∀ j ∈ ts, j ∈ own.map (·.2) := by decide) (hts1 : ∀ j ∈ ts1, j ∈ vs1 := by decide) (hv : ∀ j ∈ vs1, j ∈ own.map (·.2) := by decide) (hs : ∀ x, foldedSetIterable iter X.env x = pure x := by intro _; rfl) (hs1 : ∀ env x, foldedSetIterable iter1 env x = pure x := by intro _ _; rfl) :
    SF X (.ListComp elt [⟨tg, iter, ifs, 0⟩, ⟨tg1, iter1, ifs1, 0⟩] scope pos) (dComp2 (own.map (·.2)) di g tc vs1 di1 g1 tc1 d) :=
  PE.imp (pe_lc2 (g := rdG X.K g ts) (g1 := rdG X.K g1 ts1) (te := rdV false X.K d) hc hN hi ok hv hg ht hi1 hg1 ht1 he hs hs1) fun σ H Q h => comp2_rd hts hts1 hv h
theorem ss_setLc2 (i : Nat) (vs1 : List Nat) {y : Str} {py pos spos : Pos} {elt tg iter tg1 iter1 : Expr} {ifs ifs1 : List Expr} {scope : Scope} {own : List (Str × Nat)} {di di1 : M (List PyData)} {g g1 : PyData → En → Option En} {ts ts1 : List Nat} {tc tc1 : M Bool} {d : M PyData} (hc : X.calm = true) (hN : X.N.Nodup) (hsw : swapsWith (.ListComp elt [⟨tg, iter, ifs, 0⟩, ⟨tg1, iter1, ifs1, 0⟩] scope pos) (some (.Name y py)) spos.line X.env = pure true) (hi : SI X tg iter di) (ok : BlkOk X.N X.env.scope scope own)
    (hg : ∀ (s : Shared) (H : Hp) (C : Addr) (cl : List (Str × Addr)) (fp : List Addr), SG (X.blk s H scope (compEnvC scope cl C X.env) fp) tg g ts) (ht : ∀ (s : Shared) (H : Hp) (C : Addr) (cl : List (Str × Addr)) (fp : List Addr), PTs (X.blk s H scope (compEnvC scope cl C X.env) fp) ifs (rdT X.K tc))
    (hi1 : ∀ (s : Shared) (H : Hp) (C : Addr) (cl : List (Str × Addr)) (fp : List Addr), SI (X.blk s H scope (compEnvC scope cl C X.env) fp) tg1 iter1 di1)
    (hg1 : ∀ (s : Shared) (H : Hp) (C : Addr) (cl : List (Str × Addr)) (fp : List Addr), SG (X.blk s H scope (compEnvC scope cl C X.env) fp) tg1 g1 ts1) (ht1 : ∀ (s : Shared) (H : Hp) (C : Addr) (cl : List (Str × Addr)) (fp : List Addr), PTs (X.blk s H scope (compEnvC scope cl C X.env) fp) ifs1 (rdT X.K tc1))
    (he : ∀ (s : Shared) (H : Hp) (C : Addr) (cl : List (Str × Addr)) (fp : List Addr), SE (X.blk s H scope (compEnvC scope cl C X.env) fp) elt d)
    (hts : ∀ j ∈ ts, j ∈ own.map (·.2) := by decide) (hts1 : ∀ j ∈ ts1, j ∈ vs1 := by decide) (hv : ∀ j ∈ vs1, j ∈ own.map (·.2) := by decide) (hs : ∀ x, foldedSetIterable iter X.env x = pure x := by intro _; rfl) (hs1 : ∀ env x, foldedSetIterable iter1 env x = pure x := by intro _ _; rfl) (hy : X.N[i]? = some y := by rfl) (hyl : X.env.scope.names.lookup y = some .local := by rfl) :
    SS X (.Assign [.Name y py] (.ListComp elt [⟨tg, iter, ifs, 0⟩, ⟨tg1, iter1, ifs1, 0⟩] scope pos) spos) (sSet i (dComp2 (own.map (·.2)) di g tc vs1 di1 g1 tc1 d)) :=
  PS.imp (ps_setLc2 (g := rdG X.K g ts) (g1 := rdG X.K g1 ts1) (te := rdV false X.K d) hc hN hy hyl hsw hi ok hv hg ht hi1 hg1 ht1 he hs hs1) fun D σ H ⟨env, os, G, r, env', R, q, k⟩ => by
    unfold sSet sAsg at q
    obtain ⟨x, e1, q1, q2⟩ := bnd_inv q
    obtain ⟨e2, q3, q4⟩ := Option.map_eq_some_iff.mp q2
    cases q4
    refine comp2_rd hts hts1 hv ⟨env, os, G, x, e1, R, q1, fun H1 os1 a x1 n R1 o1 => ?_⟩
    have nF : ¬ G.Fr a := fun z => by obtain ⟨⟨u, _, t⟩, _⟩ := R.fr a z; exact rdSome t n
    have p1 : Rp X.K H1 (Av os1 G.Fr) (.ref a) x := by
      have kp : Keeps H1 H1 (Av os1 (G.plus a).Fr) (Av os1 G.Fr) := Keeps.sub fun b z => z.elim .inl fun q => .inr (.inl q)
      exact (o1.map kp rfl).rp fun z => z.elim (fun ⟨i, z⟩ => (R1.fr a (.inr rfl)).2 i z) nF
    exact k H1 _ _ (x1.trans (Ext.del _ _ _)) (R1.unplus.put_val p1 q3)
theorem ss_ownLc2 (i : Nat) (vs1 : List Nat) {y : Str} {py pos spos : Pos} {elt tg iter tg1 iter1 : Expr} {ifs ifs1 : List Expr} {scope : Scope} {own : List (Str × Nat)} {di di1 : M (List PyData)} {g g1 : PyData → En → Option En} {ts ts1 : List Nat} {tc tc1 : M Bool} {d : M PyData} (hc : X.calm = true) (hN : X.N.Nodup) (hsw : swapsWith (.ListComp elt [⟨tg, iter, ifs, 0⟩, ⟨tg1, iter1, ifs1, 0⟩] scope pos) (some (.Name y py)) spos.line X.env = pure true) (hi : SI X tg iter di) (ok : BlkOk X.N X.env.scope scope own)
    (hg : ∀ (s : Shared) (H : Hp) (C : Addr) (cl : List (Str × Addr)) (fp : List Addr), SG (X.blk s H scope (compEnvC scope cl C X.env) fp) tg g ts) (ht : ∀ (s : Shared) (H : Hp) (C : Addr) (cl : List (Str × Addr)) (fp : List Addr), PTs (X.blk s H scope (compEnvC scope cl C X.env) fp) ifs (rdT X.K tc))
    (hi1 : ∀ (s : Shared) (H : Hp) (C : Addr) (cl : List (Str × Addr)) (fp : List Addr), SI (X.blk s H scope (compEnvC scope cl C X.env) fp) tg1 iter1 di1)
    (hg1 : ∀ (s : Shared) (H : Hp) (C : Addr) (cl : List (Str × Addr)) (fp : List Addr), SG (X.blk s H scope (compEnvC scope cl C X.env) fp) tg1 g1 ts1) (ht1 : ∀ (s : Shared) (H : Hp) (C : Addr) (cl : List (Str × Addr)) (fp : List Addr), PTs (X.blk s H scope (compEnvC scope cl C X.env) fp) ifs1 (rdT X.K tc1))
    (he : ∀ (s : Shared) (H : Hp) (C : Addr) (cl : List (Str × Addr)) (fp : List Addr), SE (X.blk s H scope (compEnvC scope cl C X.env) fp) elt d)
    (hts : ∀ j ∈ ts, j ∈ own.map (·.2) := by decide) (hts1 : ∀ j ∈ ts1, j ∈ vs1 := by decide) (hv : ∀ j ∈ vs1, j ∈ own.map (·.2) := by decide) (hs : ∀ x, foldedSetIterable iter X.env x = pure x := by intro _; rfl) (hs1 : ∀ env x, foldedSetIterable iter1 env x = pure x := by intro _ _; rfl) (hy : X.N[i]? = some y := by rfl) (hyl : X.env.scope.names.lookup y = some .local := by rfl) :
    SS X (.Assign [.Name y py] (.ListComp elt [⟨tg, iter, ifs, 0⟩, ⟨tg1, iter1, ifs1, 0⟩] scope pos) spos) (sOwn i (dComp2 (own.map (·.2)) di g tc vs1 di1 g1 tc1 d)) :=
  PS.imp (ps_setLc2 (g := rdG X.K g ts) (g1 := rdG X.K g1 ts1) (te := rdV false X.K d) hc hN hy hyl hsw hi ok hv hg ht hi1 hg1 ht1 he hs hs1) fun D σ H ⟨env, os, G, r, env', R, q, k⟩ => by
    obtain ⟨x, e1, q1, q2⟩ := bnd_inv q
    obtain ⟨e2, q3, q4⟩ := Option.map_eq_some_iff.mp q2
    cases q4
    refine comp2_rd hts hts1 hv ⟨env, os, G, x, e1, R, q1, fun H1 os1 a x1 n R1 o1 => ?_⟩
    have nF : ¬ G.Fr a := fun z => by obtain ⟨⟨u, _, t⟩, _⟩ := R.fr a z; exact rdSome t n
    obtain ⟨os2, R2, h2⟩ := R1.put_own o1 nF q3
    refine k H1 os2 _ ⟨x1.keep, fun b u hb nb j z => ?_, x1.trk⟩ R2
    rcases h2 j b z with z | z
    · exact x1.own b u hb nb j z
    · subst z; rw [n] at hb; cases hb
end
end SL

set_option Elab.async false
set_option linter.all false
set_option maxRecDepth 100000
set_option maxHeartbeats 4000000
/-! SL13: dicts: making, putting; reversed ranges; what is never reached; module constants; recursion. -/
namespace SL
open PySem PySem.Spec PyProof.Rows L2
section
variable {X : Cx} {a b c e o : Expr} {es : List Expr} {da db dc d : M PyData} {pos : Pos} {d1' d2' : M Fl}
/-- {} with keys that are numbers or texts -/
def dNewK : M PyData := ret (.dict [])
theorem sf_newK : SF X (.Dict [] [] pos) dNewK := PE.imp pe_dnewK fun σ H Q ⟨env, os, G, z, env', R, q, k⟩ => by
  cases q
  intro p n
  refine k _ os p (Ext.same _ (same_upd n)) n (R.plus n trivial) (.dk upd_same .nil)
/-- {} with keys that are tuples -/
def dNewT : M PyData := ret (.dict [(.none, .none)])
theorem sf_newT : SF X (.Dict [] [] pos) dNewT := PE.imp pe_dnewT fun σ H Q ⟨env, os, G, z, env', R, q, k⟩ => by
  cases q
  intro p n
  refine k _ os p (Ext.same _ (same_upd n)) n (R.plus n trivial) (.dt upd_same .nil)
/-- d[k] = v in an owned dict -/
def isD : Option PyData → Bool | some (.dict _) => true | _ => false
theorem isD_inv {o} (h : isD o = true) : ∃ ps, o = some (.dict ps) := by
  unfold isD at h; split at h
  · exact ⟨_, rfl⟩
  · cases h
def sPutD (i : Nat) (dk dv : M PyData) : M Fl := bnd dv fun v => fun e0 => if isD (e0.obj i) = true then bnd dk (fun k => fun e => match e.obj i with
  | some x => (fDPut x k v).map fun z => (.nx, e.mut i z)
  | none => none) e0 else none
theorem ss_putD (i : Nat) {x : Str} {p1 p2 : Pos} (hu : X.A.units + 64 < cLine) (hk : SE X c dc) (hv : SE X e d) (hN : X.N[i]? = some x := by rfl) (hvx : Vis X.env.scope x := by first | exact Or.inl rfl | exact Or.inr (Or.inl rfl) | exact Or.inr (Or.inr rfl)) (hd : (x == ("__debug__" : Str)) = false := by decide) (hcd : (x == ("__classdict__" : Str)) = false := by decide)
    (ha : ∀ v, assign (.Subscript (.Name x p1) c p2) X.env v = (do
      let ov ← holding [v] (eval (.Name x p1) X.env)
      let iv ← holding [v, ov] (eval c X.env)
      standAt p2
      holding [v, ov, iv] (setItem ov iv v)
      release [v, ov, iv] []) := by intro _; rfl)
    (hs : swapsWithSole [.Subscript (.Name x p1) c p2] e pos.line X.env = pure false := by rfl) (hw : swappedStores [.Subscript (.Name x p1) c p2] e X.env = pure none := by rfl)
    (h1 : (assignEach [.Subscript (.Name x p1) c p2] X.env).map (·.2) = [assign (.Subscript (.Name x p1) c p2) X.env] := by rfl) :
    SS X (.Assign [.Subscript (.Name x p1) c p2] e pos) (sPutD i dc d) :=
  PS.imp (ps_asg hv (pg_sub (pe_var hN hvx hd hcd) hk (set_dict (by omega)) ha) hs hw h1) fun D σ H ⟨env, os, G, r, env', R, q, k⟩ => by
    obtain ⟨v, e1, q1, q2⟩ := bnd_inv q
    refine ⟨env, os, G, v, e1, R, q1, fun H1 os1 vv x1 R1 p1 => ?_⟩
    split at q2
    · rename_i h0
      obtain ⟨d0, h0⟩ := isD_inv h0
      obtain ⟨a, _, s0, o0⟩ := R1.obj h0
      obtain ⟨kk, e2, q3, q4⟩ := bnd_inv q2
      refine ⟨.ref a, s0, e1, os1, G, kk, e2, R1, q3, fun H2 os2 vk x2 R2 p2 => ?_⟩
      split at q4
      · rename_i xx ho
        obtain ⟨z, q5, q6⟩ := Option.map_eq_some_iff.mp q4
        cases q6
        obtain ⟨b, _, s1, o1, kp, w⟩ := R2.write ho
        rw [s0] at s1; cases s1
        obtain ⟨u, mu, dp, ow⟩ := dput o1 (p2.rw R2) (p1.strong.ext x2) q5
        obtain ⟨R3, x3⟩ := w u z mu (ow _ _ (kp u mu) upd_same)
        exact ⟨a, _, rfl, dp, k _ os2 σ ((x1.trans x2).trans x3) R3⟩
      · cases q4
    · cases q2
/-- a statement that is never reached -/
def sNev : M Fl := fun _ => none
theorem ss_nev {st : Stmt} : SS X st sNev := ⟨fun pins s σ H D I ⟨env, os, G, r, env', R, q, k⟩ => by cases q⟩
/-! reading and giving away what is owned -/
def dOw (i : Nat) : M PyData := fun env => match env.at i with | .own d => some (d, env) | .lent d => some (d, env) | .val d => some (d, env) | .no => none
theorem pur_ow {i : Nat} : Pur (dOw i) := fun e r e' h => by
  unfold dOw at h
  split at h <;> first | (cases h; rfl) | cases h
theorem sw_ow (i : Nat) {x : Str} {pos : Pos} (hN : X.N[i]? = some x := by rfl) (hv : Vis X.env.scope x := by first | exact Or.inl rfl | exact Or.inr (Or.inl rfl) | exact Or.inr (Or.inr rfl)) (hd : (x == ("__debug__" : Str)) = false := by decide)
    (hcd : (x == ("__classdict__" : Str)) = false := by decide) : SW X (.Name x pos) (dOw i) := PE.imp (pe_var hN hv hd hcd) fun σ H Q ⟨env, os, G, r, env', R, q, k⟩ => by
  unfold dOw at q
  have s := R.sl i
  split at q
  · rename_i d h
    cases q
    rw [h] at s
    obtain ⟨a, _, e, _⟩ := s
    exact ⟨.ref a, e, k H os (.ref a) (Ext.refl _ _) R (.inr ⟨rfl, i, by unfold En.obj; rw [h], e⟩)⟩
  · rename_i d h
    cases q
    rw [h] at s
    obtain ⟨a, _, e, _⟩ := s
    exact ⟨.ref a, e, k H os (.ref a) (Ext.refl _ _) R (.inr ⟨rfl, i, by unfold En.obj; rw [h], e⟩)⟩
  · rename_i d h
    cases q
    rw [h] at s
    obtain ⟨_, v, e, p⟩ := s
    exact ⟨v, e, k H os v (Ext.refl _ _) R (.inl p)⟩
  · cases q
/-- an owned object is given away for good: nothing happens in the run -/
def frzE (e : En) (i : Nat) : En := match e.at i with | .own d => e.set i (.val d) | _ => e
def sFz (i : Nat) (d : M Fl) : M Fl := fun e => d (frzE e i)
theorem ss_fz (i : Nat) {st : Stmt} (h : SS X st d1') : SS X st (sFz i d1') := PS.imp h fun D σ H ⟨env, os, G, r, env', R, q, k⟩ => by
  unfold sFz frzE at q
  split at q
  · rename_i d h
    obtain ⟨a, _, R', _⟩ := R.freeze h
    exact ⟨_, _, G, r, env', R', q, fun H' os' σ' x => k H' os' σ' ((Ext.del _ _ _).trans x)⟩
  · exact ⟨env, os, G, r, env', R, q, k⟩
/-! ranges downwards -/
def dnTo (i : Int) (n : Nat) : List PyData := (List.range n).map fun k => .int (i - (k : Nat))
def rg3 (i j : Int) : Option (List PyData) := if (-1000000 ≤ i ∧ i ≤ 1000000) ∧ (-1000000 ≤ j ∧ j ≤ 1000000) then some (dnTo i (i - j).toNat) else none
def fRg3 (x y : PyData) : Option (List PyData) := (intOf x).bind fun i => (intOf y).bind fun j => rg3 i j
/-- range(a, b, -1) -/
def iR3 (da db : M PyData) : M (List PyData) := bnd da fun x => bnd db fun y => lft (fRg3 x y)
theorem dnTo_length (i : Int) (n : Nat) : (dnTo i n).length = n := by simp [dnTo]
theorem dnTo_get {lo : Int} {n i : Nat} {dd} (h : (dnTo lo n)[i]? = some dd) : i < n ∧ dd = .int (lo - i) := by
  unfold dnTo at h
  rw [List.getElem?_map] at h
  obtain ⟨j, hj, rfl⟩ := Option.map_eq_some_iff.mp h
  obtain ⟨h1, h2⟩ := List.getElem?_eq_some_iff.mp hj
  rw [List.getElem_range] at h2
  subst h2
  exact ⟨by simpa using h1, rfl⟩
theorem walk_down {K : PySem.W.Frag} {Fr os H} (lo : Int) (n : Nat) : Walk K Fr os H (Itc lo (-1) n) (dnTo lo n) := fun os2 H2 Fr2 kp tr i => by
  refine ⟨fun dd hd => ?_, fun hl => by rw [dnTo_length] at hl; exact hl⟩
  obtain ⟨h1, rfl⟩ := dnTo_get hd
  exact ⟨h1, fun x H3 ⟨e1, e2⟩ => by subst e1 e2; exact ⟨Same.refl _, by rw [show lo + (i : Nat) * (-1) = lo - (i : Nat) by omega]; exact .int _⟩⟩
theorem si_rng3 {tg : Expr} {k : Nat} {p p1 p2 : Pos} (hg : Gl X "range") (hm : X.mg "range" = none) (ha : SE X a da) (hb : SE X b db)
    (hs3 : starEach [a, b, .UnaryOp .USub (.Constant (.int 1) k p1) p2] X.env = (false, eval a X.env) :: starEach [b, .UnaryOp .USub (.Constant (.int 1) k p1) p2] X.env := by rfl)
    (hs4 : starEach [b, .UnaryOp .USub (.Constant (.int 1) k p1) p2] X.env = (false, eval b X.env) :: starEach [.UnaryOp .USub (.Constant (.int 1) k p1) p2] X.env := by rfl)
    (hs5 : starEach [.UnaryOp .USub (.Constant (.int 1) k p1) p2] X.env = (false, eval (.UnaryOp .USub (.Constant (.int 1) k p1) p2) X.env) :: starEach [] X.env := by rfl)
    (hpl : (backTo pos (starEach [b, .UnaryOp .USub (.Constant (.int 1) k p1) p2] X.env)).any (·.1) = false := by rfl) : SI X tg (.Call (.Name "range" p) [a, b, .UnaryOp .USub (.Constant (.int 1) k p1) p2] [] pos) (iR3 da db) :=
  PI.imp (pi_range3 hg hm (pa_cons ha (pa_cons hb (pa_cons (se_neg (X := X) se_int) pa_nil hs5) hs4) hs3) hs3 hpl) fun σ H Q ⟨env, os, G, r, env', R, q, k⟩ => by
    obtain ⟨x, e1, q1, q⟩ := bnd_inv q
    obtain ⟨y, e2, q2, q⟩ := bnd_inv q
    obtain ⟨q3, rfl⟩ := lft_inv q
    obtain ⟨i, q6, q5⟩ := Option.bind_eq_some_iff.mp q3
    obtain ⟨j, q9, q7⟩ := Option.bind_eq_some_iff.mp q5
    have := intOf_inv q6; subst this
    have := intOf_inv q9; subst this
    unfold rg3 at q7
    split at q7
    · rename_i c; cases q7
      refine ⟨env, os, G, _, e1, R, q1, fun H1 os1 v x1 R1 p1 => ⟨e1, os1, G, _, env', R1, q2, fun H2 os2 u x2 R2 p2 => ⟨env', os2, G, .int (-1), env', R2, rfl, fun H3 os3 z x3 R3 p3 => ⟨i, j, -1, (i - j).toNat, ?_, RgC.neg (by omega) (by omega) (by omega) (by omega), k H3 os3 _ ((x1.trans x2).trans x3) R3 (walk_down i _) (by rw [dnTo_length]; omega)⟩⟩⟩⟩
      rw [Rw.int (.inl p1.strong), Rw.int (.inl p2.strong), Rw.int (.inl p3.strong)]
    · cases q7
end
/-! the module's constants -/
structure ConAt (K : PySem.W.Frag) (x : Str) (d : PyData) : Prop where
  ex : ∃ u v, PySem.W.nsIn K mainGlobals x = some (some u) ∧ RelV v u ∧ ∀ H A, Rp K H A v d
structure Con (K : PySem.W.Frag) (mg : Str → Option Value) (x : Str) (d : PyData) : Prop where
  ex : ∃ u v, mg x = some u ∧ RelV v u ∧ ∀ H A, Rp K H A v d
theorem ConAt.con {K : PySem.W.Frag} {mg : Str → Option Value} {h : Heap} {x d} (C : ConAt K x d) (Z : K.In h) (G : h.Ns mainGlobals mg) : Con K mg x d := let ⟨u, v, a, r, p⟩ := C.ex; ⟨u, v, PySem.W.mg_of Z G a, r, p⟩
theorem conI {K : PySem.W.Frag} {x : Str} {i : Int} {t : Tok} (a : PySem.W.nsIn K mainGlobals x = some (some (.int i t))) : ConAt K x (.int i) := ⟨_, .int i, a, ⟨t, rfl⟩, fun _ _ => .int i⟩
theorem conS {K : PySem.W.Frag} {x : Str} {z : Str} {t : Tok} (a : PySem.W.nsIn K mainGlobals x = some (some (.str z t))) : ConAt K x (.str z) := ⟨_, .str z, a, ⟨t, rfl⟩, fun _ _ => .str z⟩
theorem conTT {K : PySem.W.Frag} {x : Str} {i j : Int} {e f : Addr} {od od2 : Option Addr} {n n2 : Nat} {t t2 : Tok} {sl sl2 : Array (Option Value)} (a : PySem.W.nsIn K mainGlobals x = some (some (.ref e)))
    (l : K.lookup e = some ⟨.type "tuple", od, .seq #[.ref f] n, sl⟩) (l2 : K.lookup f = some ⟨.type "tuple", od2, .seq #[.int i t, .int j t2] n2, sl2⟩) (hi : i = -99) (hj : j = 99) : ConAt K x (.tuple [.tuple [.int i, .int j]]) := by
  subst hi hj
  refine ⟨_, .ref e, a, rfl, fun H A => .tup (vs := [.ref f]) (.inr ⟨⟨_, _, _, l, rfl, rfl, by rw [sizeLine_eq]; show 1 ≤ _; decide, .cons rfl .nil⟩, rfl⟩) (.cons (.tup (vs := [.int (-99), .int 99]) (.inr ⟨⟨_, _, _, l2, rfl, rfl, by rw [sizeLine_eq]; show 2 ≤ _; decide, .cons ⟨_, rfl⟩ (.cons ⟨_, rfl⟩ .nil)⟩, rfl⟩) (.cons (.int _) (.cons (.int _) .nil))) .nil)⟩
theorem conS2 {K : PySem.W.Frag} {x : Str} {i j : Str} {e : Addr} {od : Option Addr} {n : Nat} {t t2 : Tok} {sl : Array (Option Value)} (a : PySem.W.nsIn K mainGlobals x = some (some (.ref e)))
    (l : K.lookup e = some ⟨.type "tuple", od, .seq #[.str i t, .str j t2] n, sl⟩) : ConAt K x (.tuple [.str i, .str j]) :=
  ⟨_, .ref e, a, rfl, fun H A => .tup (vs := [.str i, .str j]) (.inr ⟨⟨_, _, _, l, rfl, rfl, by rw [sizeLine_eq]; show 2 ≤ _; decide, .cons ⟨_, rfl⟩ (.cons ⟨_, rfl⟩ .nil)⟩, rfl⟩) (.cons (.str _) (.cons (.str _) .nil))⟩
theorem conS3 {K : PySem.W.Frag} {x : Str} {i j k : Str} {e : Addr} {od : Option Addr} {n : Nat} {t t2 t3 : Tok} {sl : Array (Option Value)} (a : PySem.W.nsIn K mainGlobals x = some (some (.ref e)))
    (l : K.lookup e = some ⟨.type "tuple", od, .seq #[.str i t, .str j t2, .str k t3] n, sl⟩) : ConAt K x (.tuple [.str i, .str j, .str k]) :=
  ⟨_, .ref e, a, rfl, fun H A => .tup (vs := [.str i, .str j, .str k]) (.inr ⟨⟨_, _, _, l, rfl, rfl, by rw [sizeLine_eq]; show 3 ≤ _; decide, .cons ⟨_, rfl⟩ (.cons ⟨_, rfl⟩ (.cons ⟨_, rfl⟩ .nil))⟩, rfl⟩) (.cons (.str _) (.cons (.str _) (.cons (.str _) .nil)))⟩
theorem se_con {X : Cx} {x : Str} {d : PyData} {pos : Pos} (C : Con X.K X.mg x d) (hg : Gl X x := by rfl) (hd : (x == ("__debug__" : Str)) = false := by decide) : SE X (.Name x pos) (dC d) := by
  obtain ⟨u, v, a, r, p⟩ := C.ex
  exact se_c (pe_glob hg a r hd) p
/-! recursion -/
def FIt (N : Nat) (d : FS → M Fl) : Nat → FS
  | 0 => fun _ => none
  | k + 1 => bodyF N (d (FIt N d k))
theorem rec_it {P : Program} {w : World} {K : PySem.W.Frag} {mg : Str → Option Value} {base h : Heap} {st : Stmt} {x : Str} {ps : List Str} {N b m : Nat} {d : FS → M Fl} (Z : K.In h) (G : h.Ns mainGlobals mg) (D : DefAt K x st) (bd : BindsOf x st ps)
    (stp : ∀ {R : FS} {k : Nat}, Cal P w K mg base x k ps (spOf K m R) → b ≤ k → ∀ {f : Addr} {fd : FuncData}, L2.Fun K x x st f fd → FnOk P w K mg base CX0 (k + 1) f fd ps (spOf K m (bodyF N (d R)))) (n : Nat) :
    Cal P w K mg base x (b + n) ps (spOf K m (FIt N d n)) := by
  obtain ⟨f, fd, a, F⟩ := D.ex
  have hg := PySem.W.mg_of Z G a
  induction n with
  | zero =>
    have f0 : FnOk P w K mg base CX0 b f fd ps (spOf K m (fun _ => none)) := by
      refine ⟨fun vs H Q E q => ?_, fun A o s H ar us vs Q E _ _ _ _ q => ?_⟩
      · obtain ⟨as, os, G, r, as', _, _, _, q, _⟩ := q; cases q
      · obtain ⟨as, os, G, r, as', _, _, _, q, _⟩ := q; cases q
    exact ⟨f, fd, hg, F.kp, F.binds bd, f0⟩
  | succ n ih => exact ⟨f, fd, hg, F.kp, F.binds bd, stp ih (Nat.le_add_right _ _) F⟩
end SL

set_option Elab.async false
set_option linter.all false
set_option maxRecDepth 100000
set_option maxHeartbeats 4000000
/-! SL14: a call whose last argument is a new object that the def changes. -/
namespace SL
open PySem PySem.Spec PyProof.Rows L2
theorem at_snoc {e : En} {s : Sl} {i : Nat} : En.at (e ++ [s]) i = if i = e.length then s else e.at i := by
  unfold En.at
  by_cases h : i < e.length
  · rw [List.getElem?_append_left h, if_neg (by omega)]
  · rw [List.getElem?_append_right (by omega)]
    by_cases q : i = e.length
    · rw [if_pos q, q, Nat.sub_self]; rfl
    · rw [if_neg q, List.getElem?_eq_none (show e.length ≤ i by omega)]
      rw [List.getElem?_eq_none (by simp; omega)]
theorem Rel.snoc {K H env σ os G a z} (R : Rel K H env σ os (Gh.plus G a)) (na : ¬ G.Fr a) (o : OwnAt K H (Av os (Gh.plus G a).Fr) a z) : Rel K H (env ++ [.own z]) (σ ++ [some (.ref a)]) (osPut os env.length a) G := by
  have on : os env.length = none := by
    have q := R.sl env.length
    rw [at_none (Nat.le_refl _)] at q; exact q
  have nos : ∀ i, os i ≠ some a := (R.fr a (.inr rfl)).2
  have av : ∀ b, Av (osPut os env.length a) G.Fr b → Av os (Gh.plus G a).Fr b := fun b h => by
    rcases h with ⟨i, h⟩ | h
    · unfold osPut at h; split at h
      · cases h; exact .inr (.inr rfl)
      · exact .inl ⟨i, h⟩
    · exact .inr (.inl h)
  have kp : Keeps H H (Av os (Gh.plus G a).Fr) (Av (osPut os env.length a) G.Fr) := Keeps.sub av
  have hl := R.len
  refine ⟨fun i => ?_, fun i j b h h' => ?_, fun b h => ⟨(R.fr b (.inl h)).1, fun i q => ?_⟩, by simp [hl], fun i b h => ?_⟩
  · rw [at_snoc]
    by_cases q : i = env.length
    · subst q
      rw [if_pos rfl]
      refine ⟨a, by unfold osPut; rw [if_pos rfl], ?_, o.map kp rfl⟩
      rw [List.getElem?_append_right (by omega), hl, Nat.sub_self]; rfl
    · rw [if_neg q]
      have s := (R.sl i).map kp fun _ _ => rfl
      have e1 : osPut os env.length a i = os i := by unfold osPut; rw [if_neg q]
      rw [e1]
      by_cases h : i < σ.length
      · rw [List.getElem?_append_left h]; exact s
      · have e2 : env.at i = .no := at_none (by omega)
        rw [e2] at s ⊢
        exact s
  · unfold osPut at h h'
    split at h <;> split at h'
    · omega
    · cases h; exact absurd h' (nos j)
    · cases h'; exact absurd h (nos i)
    · exact R.inj i j b h h'
  · unfold osPut at q; split at q
    · cases q; exact na h
    · exact (R.fr b (.inl h)).2 i q
  · obtain ⟨h1, d, h2⟩ := R.lt i b h
    have ne : i ≠ env.length := fun e => by rw [e, on] at h1; cases h1
    exact ⟨by unfold osPut; rw [if_neg ne]; exact h1, d, by rw [at_snoc, if_neg ne]; exact h2⟩
theorem Rel.unsnoc {K H env σ os G s y} (R : Rel K H (env ++ [s]) (σ ++ [y]) os G) (hL : ∀ b, G.L env.length ≠ some b) : Rel K H env σ (osDel os env.length) G := by
  have hl : env.length = σ.length := by have := R.len; simp at this; exact this
  have kp : Keeps H H (Av os G.Fr) (Av (osDel os env.length) G.Fr) := Keeps.sub fun b h => h.elim (fun ⟨i, q⟩ => .inl ⟨i, osDel_sub q⟩) .inr
  refine ⟨fun i => ?_, fun i j b h h' => R.inj i j b (osDel_sub h) (osDel_sub h'), fun b h => ⟨(R.fr b h).1, fun i q => (R.fr b h).2 i (osDel_sub q)⟩, hl, fun i b h => ?_⟩
  · have q := R.sl i
    rw [at_snoc] at q
    by_cases e : i = env.length
    · subst e
      rw [at_none (Nat.le_refl _)]
      show osDel os _ _ = none
      unfold osDel; rw [if_pos rfl]
    · rw [if_neg e] at q
      have e1 : osDel os env.length i = os i := by unfold osDel; rw [if_neg e]
      rw [e1]
      have q2 := q.map kp fun _ _ => rfl
      by_cases h : i < σ.length
      · rw [List.getElem?_append_left h] at q2; exact q2
      · have e2 : env.at i = .no := at_none (by omega)
        rw [e2] at q2 ⊢
        exact q2
  · obtain ⟨h1, d, h2⟩ := R.lt i b h
    have ne : i ≠ env.length := fun e => by rw [e] at h; exact hL b h
    rw [at_snoc, if_neg ne] at h2
    exact ⟨by unfold osDel; rw [if_neg ne]; exact h1, d, h2⟩
def Below (n : Nat) : List Ag → Prop
  | [] => True
  | .v _ :: r => Below n r
  | .p i :: r => i < n ∧ Below n r
theorem obj_snoc {e : En} {s : Sl} {i : Nat} (h : i < e.length) : En.obj (e ++ [s]) i = e.obj i := by unfold En.obj; rw [at_snoc, if_neg (by omega)]
theorem mut_snoc {e : En} {s : Sl} {i : Nat} {d : PyData} (h : i < e.length) : En.mut (e ++ [s]) i d = e.mut i d ++ [s] := by
  unfold En.mut; rw [at_snoc, if_neg (by omega)]
  split
  · rw [List.set_append_left _ _ h]
  · rw [List.set_append_left _ _ h]
  · rfl
theorem mkA_snoc {e : En} {z : PyData} : ∀ (args : List Ag), Below e.length args → mkA (e ++ [.own z]) (args ++ [.p e.length]) = mkA e args ++ [.lent z]
  | [], _ => by
    show [(match En.obj (e ++ [.own z]) e.length with | some d => Sl.lent d | none => .no)] = _
    have : En.obj (e ++ [.own z]) e.length = some z := by unfold En.obj; rw [at_snoc, if_pos rfl]
    rw [this]; rfl
  | .v d :: r, h => by show Sl.val d :: mkA _ (r ++ _) = _; rw [mkA_snoc r h]; rfl
  | .p i :: r, h => by
    show (match En.obj (e ++ [.own z]) i with | some d => Sl.lent d | none => .no) :: mkA _ (r ++ _) = _
    rw [obj_snoc h.1, mkA_snoc r h.2]; rfl
theorem putB_snoc {n : Nat} : ∀ (args : List Ag) (as : List Sl) (e : En) (s : Sl), e.length = n → Below n args → ∃ s', putB (e ++ [s]) (args ++ [.p n]) as = putB e args as ++ [s']
  | [], [], e, s, _, _ => ⟨s, by simp [putB]⟩
  | [], t :: ts, e, s, hn, _ => by
    cases t with
    | lent d =>
      show ∃ s', putB (En.mut (e ++ [s]) n d) [] ts = putB e [] (.lent d :: ts) ++ [s']
      have e1 : putB (En.mut (e ++ [s]) n d) [] ts = En.mut (e ++ [s]) n d := by cases ts <;> rfl
      rw [e1]
      unfold En.mut; rw [at_snoc, if_pos hn.symm]
      subst hn
      cases s with
      | own x => exact ⟨.own d, by show (e ++ [_]).set e.length _ = e ++ _; rw [List.set_append_right _ _ (Nat.le_refl _), Nat.sub_self]; rfl⟩
      | lent x => exact ⟨.lent d, by show (e ++ [_]).set e.length _ = e ++ _; rw [List.set_append_right _ _ (Nat.le_refl _), Nat.sub_self]; rfl⟩
      | val x => exact ⟨.val x, rfl⟩
      | no => exact ⟨.no, rfl⟩
    | _ => exact ⟨s, by cases ts <;> rfl⟩
  | .v _ :: r, [], e, s, _, _ => ⟨s, rfl⟩
  | .p _ :: r, [], e, s, _, _ => ⟨s, rfl⟩
  | .v _ :: r, t :: ts, e, s, hn, h => putB_snoc r ts e s hn h
  | .p i :: r, t :: ts, e, s, hn, h => by
    cases t with
    | lent d =>
      show ∃ s', putB (En.mut (e ++ [s]) i d) (r ++ [.p n]) ts = putB (e.mut i d) r ts ++ [s']
      rw [mut_snoc (by rw [hn]; exact h.1)]
      exact putB_snoc r ts (e.mut i d) s (by rw [mut_length, hn]) h.2
    | _ => exact putB_snoc r ts e s hn h.2
theorem pls_app : ∀ (l : List Ag) (n : Nat), pls (l ++ [.p n]) = pls l ++ [n]
  | [], _ => rfl
  | .v _ :: r, n => by simp only [List.cons_append, pls]; exact pls_app r n
  | .p i :: r, n => by simp only [List.cons_append, pls]; rw [pls_app r n]
theorem ndB_snoc {n : Nat} : ∀ {l : List Nat}, ndB l = true → n ∉ l → ndB (l ++ [n]) = true
  | [], _, _ => rfl
  | i :: r, h, hn => by
    obtain ⟨h1, h2⟩ := ndB_cons h
    simp only [List.mem_cons, not_or] at hn
    simp only [List.cons_append, ndB, Bool.and_eq_true, Bool.not_eq_true', List.contains_eq_mem, decide_eq_false_iff_not, List.mem_append, List.mem_singleton, not_or]
    exact ⟨⟨h1, fun e => hn.1 e.symm⟩, ndB_snoc h2 hn.2⟩
theorem below_nin {n : Nat} : ∀ {l : List Ag}, Below n l → n ∉ pls l
  | [], _ => by simp [pls]
  | .v _ :: r, h => by simp only [pls]; exact below_nin (l := r) h
  | .p i :: r, h => by simp only [pls, List.mem_cons, not_or]; exact ⟨by have := h.1; omega, below_nin h.2⟩
theorem below_of {K H os Fr} {σ : L2.St} : ∀ {vs : List V} {l : List Ag}, Paired (ArgX K H os Fr σ) vs l → Below σ.length l
  | _, _, .nil => trivial
  | _, .v _ :: r, .cons _ t => below_of (l := r) t
  | _, .p i :: r, .cons h t => ⟨by
    have h : σ[i]? = some (some _) := h
    obtain ⟨q, _⟩ := List.getElem?_eq_some_iff.mp h; exact q, below_of t⟩
theorem paired_snoc {α β} {F : α → β → Prop} : ∀ {l : List α} {m : List β} {x y}, Paired F l m → F x y → Paired F (l ++ [x]) (m ++ [y])
  | _, _, _, _, .nil, h => .cons h .nil
  | _, _, _, _, .cons a t, h => .cons a (paired_snoc t h)
def rdCF (K : PySem.W.Frag) (d : M (List Ag)) (dz : M PyData) : TA := fun σ H Q => ∃ env os G r e1 z env', Rel K H env σ os G ∧ d env = some (r, e1) ∧ dz e1 = some (z, env') ∧
  ∀ H' os' vs a, Ext os os' H H' → H a = none → Rel K H' env' σ os' (Gh.plus G a) → OwnAt K H' (Av os' (Gh.plus G a).Fr) a z → Paired (ArgX K H' os' (Gh.plus G a).Fr σ) vs r → Q (vs ++ [.ref a]) H'
section
variable {X : Cx} {a b c e o : Expr} {es : List Expr} {da db dz d : M PyData} {pos : Pos} {ds : M (List Ag)}
theorem scf_nil (hf : SF X e dz) (hs : starEach [e] X.env = (false, eval e X.env) :: starEach [] X.env := by rfl) : PA X [e] (rdCF X.K cNil dz) := PA.imp (pa_cons hf pa_nil hs) fun σ H Q ⟨env, os, G, r, e1, z, env', R, q, q2, k⟩ => by
  cases q
  exact ⟨env, os, G, z, env', R, q2, fun H' os' a x n R' o => k H' os' [] a x n R' o .nil⟩
theorem scf_v (ha : SE X e d) (hr : PA X es (rdCF X.K ds dz)) (hs : starEach (e :: es) X.env = (false, eval e X.env) :: starEach es X.env := by rfl) : PA X (e :: es) (rdCF X.K (cV d ds) dz) := PA.imp (pa_cons ha hr hs) fun σ H Q ⟨env, os, G, r, e1, z, env', R, q, qz, k⟩ => by
  obtain ⟨x, e2, q1, q⟩ := bnd_inv q
  obtain ⟨xs, e3, q2, q⟩ := bnd_inv q
  cases q
  refine ⟨env, os, G, x, e2, R, q1, fun H1 os1 v x1 R1 p1 => ⟨e2, os1, G, xs, _, z, env', R1, q2, qz, fun H2 os2 vs a x2 n R2 o p2 => ?_⟩⟩
  refine k H2 os2 (v :: vs) a (x1.trans x2) (x1.free n) R2 o (.cons ?_ p2)
  exact p1.strong.map (x2.keeps2 fun b h => h.elim .inl fun e => .inr (e ▸ n))
def dCallF (F : FS) (ds : M (List Ag)) (dz : M PyData) : M PyData := bnd ds fun args => bnd dz fun z => fun env => if ndB (pls args) = true then (F (mkA env args ++ [.lent z])).map fun p => (p.1, putB env args p.2) else none
theorem callF_rd {K : PySem.W.Frag} {n : Nat} {F : FS} {σ H Q} (hn : ∀ env r env', ds env = some (r, env') → r.length + 1 = n) (h : rdV false K (dCallF F ds dz) σ H Q) : tCall (spOf K n F) [] E0 (rdCF K ds dz) σ H Q := by
  obtain ⟨env, os, G, r, env', R, q, k⟩ := h
  obtain ⟨args, e1, q1, q2⟩ := bnd_inv q
  obtain ⟨z, e2, qz, q2⟩ := bnd_inv q2
  split at q2
  · rename_i nd
    obtain ⟨pr, q3, q4⟩ := Option.map_eq_some_iff.mp q2
    cases q4
    refine ⟨env, os, G, args, e1, z, e2, R, q1, qz, fun H1 os1 vs a x1 na R1 oz pa => ?_⟩
    show spOf K n F ((vs ++ [.ref a]) ++ []) H1 Q E0
    rw [List.append_nil]
    have nFr : ¬ G.Fr a := fun h => by obtain ⟨⟨u, _, t⟩, _⟩ := R.fr a h; exact rdSome t na
    have Rs := R1.snoc nFr oz
    have hl := R1.len
    have bl : Below e2.length args := by rw [hl]; exact below_of pa
    have kp : Keeps H1 H1 (Av os1 (Gh.plus G a).Fr) (Av (osPut os1 e2.length a) G.Fr) := Keeps.sub fun b h => by
      rcases h with ⟨i, h⟩ | h
      · unfold osPut at h; split at h
        · cases h; exact .inr (.inr rfl)
        · exact .inl ⟨i, h⟩
      · exact .inr (.inl h)
    have pa1 : Paired (ArgX K H1 (osPut os1 e2.length a) G.Fr (σ ++ [some (.ref a)])) vs args := by
      have go : ∀ {vs : List V} {l : List Ag}, Paired (ArgX K H1 os1 (Gh.plus G a).Fr σ) vs l → Paired (ArgX K H1 (osPut os1 e2.length a) G.Fr (σ ++ [some (.ref a)])) vs l := by
        intro vs l h
        induction h with
        | nil => exact .nil
        | @cons v g _ _ h _ ih =>
          refine .cons ?_ ih
          cases g with
          | v d => exact Rp.map kp h
          | p i =>
            have h : σ[i]? = some (some v) := h
            obtain ⟨lt, _⟩ := List.getElem?_eq_some_iff.mp h
            show (σ ++ _)[i]? = _
            rw [List.getElem?_append_left lt]; exact h
      exact go pa
    have pa2 : Paired (ArgX K H1 (osPut os1 e2.length a) G.Fr (σ ++ [some (.ref a)])) (vs ++ [.ref a]) (args ++ [.p e2.length]) := paired_snoc pa1 (by
      show (σ ++ [some (V.ref a)])[e2.length]? = some (some (V.ref a))
      rw [List.getElem?_append_right (by omega), hl, Nat.sub_self]; rfl)
    have nd2 : ndB (pls (args ++ [.p e2.length])) = true := by rw [pls_app]; exact ndB_snoc nd (below_nin bl)
    refine ⟨mkA (e2 ++ [.own z]) (args ++ [.p e2.length]), osC (osPut os1 e2.length a) (args ++ [.p e2.length]), ghC (osPut os1 e2.length a) G (args ++ [.p e2.length]), pr.1, pr.2, Rs.callee nd2 pa2, by rw [mkA_length, List.length_append]; exact hn _ _ _ q1, (by intro i b h; exact h), by rw [mkA_snoc args bl]; exact q3, fun H2 v x2 R2 pv => ?_⟩
    have R2' : Rel K H2 pr.2 ((vs ++ [V.ref a]).map some) (osC (osPut os1 e2.length a) (args ++ [.p e2.length])) { ghC (osPut os1 e2.length a) G (args ++ [.p e2.length]) with Fr := fun b => (ghC (osPut os1 e2.length a) G (args ++ [.p e2.length])).Fr b ∨ False } := R2.weaken fun a z => z.elim id False.elim
    obtain ⟨R3, x3⟩ := Rs.behind nd2 x2 (ex := fun _ => False) (fun _ => False.elim) R2'
    obtain ⟨s', es'⟩ := putB_snoc args pr.2 e2 (.own z) rfl bl
    rw [es'] at R3
    have hlen : (putB e2 args pr.2).length = e2.length := putB_length ..
    have nL : ∀ b, G.L (putB e2 args pr.2).length ≠ some b := fun b h => by
      rw [hlen] at h
      obtain ⟨h1, d, h2⟩ := R1.lt _ _ h
      rw [at_none (Nat.le_refl _)] at h2; cases h2
    have R4 := (R3.weaken (Fr := G.Fr) fun _ => .inl).unsnoc nL
    refine k H2 _ v ⟨fun b o h hb => ?_, fun b o h hb i hi => ?_, fun b h => ?_⟩ R4 (.inl ((pv.map (Keeps.sub fun a z => avC.mpr z)).map (Keeps.sub fun b h => h.elim (fun ⟨i, q⟩ => .inl ⟨i, osDel_sub q⟩) .inr)))
    · have ne : b ≠ a := fun e => by rw [e, na] at h; cases h
      have h1 := x1.keep b o h hb
      refine x3.keep b o h1 fun i hi => ?_
      unfold osPut at hi; split at hi
      · cases hi; exact ne rfl
      · exact x1.own b o h hb i hi
    · have ne : b ≠ a := fun e => by rw [e, na] at h; cases h
      have hi := osDel_sub hi
      unfold osPut at hi; split at hi
      · cases hi; exact ne rfl
      · exact x1.own b o h hb i hi
    · exact x3.trk b (x1.trk b h)
  · cases q2
variable {k : Nat} {ps : List Str} {F : FS} {x : Str} {p : Pos}
theorem se_calF {n j : Nat} (C : Cal X.prog X.w X.K X.mg X.base x k ps (spOf X.K (n + 1) F)) (hr : Room j X.A) (hn : LenC ds n) (ha : PA X (e :: es) (rdCF X.K ds dz)) (hj : k ≤ j := by decide) (hg : Gl X x := by rfl)
    (hdb : (x == ("__debug__" : Str)) = false := by decide) (he : starEach (e :: es) X.env = (false, eval e X.env) :: starEach es X.env := by rfl) (hpl : (backTo pos (starEach es X.env)).any (·.1) = false := by rfl) : SE X (.Call (.Name x p) (e :: es) [] pos) (dCallF F ds dz) := by
  obtain ⟨f, fd, h1, h2, h3, h4⟩ := C.ex
  exact PE.imp (pe_call h4 (hr.mono hj) hg h1 h2 h3 .nil pass0 ha hdb he hpl) fun σ H Q h => callF_rd (fun env r env' q => by rw [hn env r env' q]) h
end
end SL

set_option Elab.async false
set_option linter.all false
set_option maxRecDepth 100000
set_option maxHeartbeats 4000000
/-! SL15: tuple * int. -/
namespace SL
open PySem PySem.Spec PyProof.Rows L2
theorem tuple_mul1W (l : Addr) (items : Array Value) (n : Nat) (dd : Option Addr) (sl : Array (Option Value)) (u : Tok) :
    Meets (Builtin.«tuple.__mul__» ⟨[.ref l, .int 1 u], []⟩) (fun _ R s => s.heap.get? l = some { cls := .type "tuple", dict := dd, data := .seq items n, slots := sl } ∧ R (.ok (.ret (Value.ref l))) s) :=
  .of_wp fun prog w A R s h => by
    obtain ⟨hp, g, d, tk, os⟩ := s
    obtain ⟨hl, h⟩ := h
    have f1 := AutoSeq1.idx_int
    have c0 : (decide ((1 : Int) < -(2 ^ 63)) || decide ((1 : Int) ≥ 2 ^ 63)) = false := by decide
    have c1 : (items.isEmpty || (1 : Int) == 1) = true := by rw [Bool.or_eq_true]; exact .inr rfl
    wp_walk using wpAny_loadPart' hl
    repeat (first
      | (refine wpAny_ite_false (decide_eq_false (by rw [c0]; exact Bool.false_ne_true)) ?_; wp_walk using wpAny_loadPart' hl)
      | (refine wpAny_ite_true (decide_eq_true c1) ?_; wp_walk using wpAny_loadPart' hl))
    exact ⟨_, rfl, h⟩
def rRep1T (K : PySem.W.Frag) : R2 := fun x y H Q => ∃ l xs, x = .ref l ∧ y = .int 1 ∧ SqT K H l xs ∧ Q (.ref l) H
theorem op_repT1 {X : Cx} : OpR X (binaryOp .Mult) (rRep1T X.K) := by
  intro pins s σ H x y v u Q I rx ry h
  obtain ⟨l, xs, rfl, rfl, hT, q⟩ := h
  cases rx
  obtain ⟨t, rfl⟩ := ry
  obtain ⟨its, r, ⟨⟨cls, dd, data, sl⟩, ho, hc, n, hd⟩, hs⟩ := I.tuple hT
  simp only at hc hd
  subst hc hd
  refine wpAny_binaryOp_repeat_ref (T := "tuple") (U := "int") (by decide) ⟨_, ho, rfl⟩ (fun s' => typeIs_int s' 1 t) noFill_tuple_mul F.fills_int_mul F.slot_int_rmul repeat_tuple F.slot_int_index.lookup
    (call_meets F.slot_int_rmul (typeIs_int s 1 t) F.entry_int_rmul (F.args_int_rmul_2 _ _) (int_rmul_tuple 1 t l its.toArray n dd sl)
      ⟨ho, rfl, ⟨_, ho, rfl⟩, call_meets F.slot_tuple_mul ⟨_, ho, rfl⟩ F.entry_tuple_mul (F.args_tuple_mul_2 _ _) (tuple_mul1W l its.toArray n dd sl t) ⟨ho, ?_⟩⟩)
  exact ⟨.ref l, H, I, rfl, q⟩
def rRepA (K : PySem.W.Frag) : R2 := fun x y H Q => rRepT K x y H Q ∨ rRep1T K x y H Q
theorem op_repA {X : Cx} : OpR X (binaryOp .Mult) (rRepA X.K) := op_repT.or op_repT1
def fRepT : PyData → PyData → Option PyData
  | .tuple ds, .int k => if ds ≠ [] ∧ 1 ≤ k ∧ k ≤ 1000 ∧ ds.length ≤ 1000 then some (.tuple (List.replicate k.toNat ds).flatten) else none
  | _, _ => none
theorem RpAll.flat {K H A vs ds} (r : RpAll K H A vs ds) : ∀ n : Nat, RpAll K H A (List.replicate n vs).flatten (List.replicate n ds).flatten
  | 0 => .nil
  | n + 1 => by
    rw [List.replicate_succ, List.replicate_succ, List.flatten_cons, List.flatten_cons]
    exact r.append (RpAll.flat r n)
theorem os_rep {K : PySem.W.Frag} : OpS K (rRepA K) fRepT := by
  intro H A vx vy x y z Q tr rx ry h k
  unfold fRepT at h
  split at h
  · rename_i ds n
    split at h
    · rename_i c
      cases h
      obtain ⟨a, vs, rfl, s, r⟩ := rx.tup
      rw [ry.int]
      obtain ⟨c1, c2, c3, c4⟩ := c
      by_cases e : n = 1
      · subst e
        refine .inr ⟨a, vs, rfl, rfl, s.sq, k _ _ (Same.refl H) ?_⟩
        show Rp K H A (.ref a) (.tuple (List.replicate 1 ds).flatten)
        rw [show (List.replicate 1 ds).flatten = ds by simp]
        exact .tup s r
      · refine .inl ⟨a, n, vs, rfl, rfl, s.sq, fun e => ?_, by omega, c3, by rw [r.length]; exact c4, fun p np => ?_⟩
        · subst e; cases r; exact c1 rfl
        · exact k _ _ (same_upd np) (.tup (.inl ⟨upd_same, fun z => tr.no z np⟩) ((r.flat n.toNat).map (Keeps.same (same_upd np) A)))
    · cases h
  · cases h
end SL

set_option Elab.async false
set_option linter.all false
set_option maxRecDepth 100000
set_option maxHeartbeats 4000000
/-! SetT: the order of data; sorted(set(xs)) of a list of tuples of ints. -/
namespace SL
open PySem PySem.Spec PyProof.Rows L2
theorem dLt_irrefl (a : PyData) : PySem.W.dataLt a a = false := lex_irrefl (O := itemOrd) _
theorem dLt_trans {a b c : PyData} (h : PySem.W.dataLt a b = true) (h2 : PySem.W.dataLt b c = true) : PySem.W.dataLt a c = true := lex_trans (O := itemOrd) _ _ _ h h2
theorem dLt_neg {a c : PyData} (b : PyData) (h : PySem.W.dataLt a c = true) : PySem.W.dataLt a b = true ∨ PySem.W.dataLt b c = true := lex_negTrans (O := itemOrd) _ _ _ h
theorem dLt_asymm {a b : PyData} (h : PySem.W.dataLt a b = true) : PySem.W.dataLt b a = false := by
  cases q : PySem.W.dataLt b a with
  | false => rfl
  | true => have := dLt_trans h q; rw [dLt_irrefl] at this; cases this
theorem dLt_total {a b : PyData} (h : PySem.W.dataLt a b = false) (h2 : PySem.W.dataLt b a = false) : PySem.W.keyToks a = PySem.W.keyToks b := lex_total (O := itemOrd) _ _ h h2
theorem toks_inj {a b : PyData} (al : PySem.W.alike a b = true) (h : PySem.W.keyToks a = PySem.W.keyToks b) : PyData.eqv a b = true := by
  cases q : PyData.eqv a b with
  | true => rfl
  | false =>
    have := (PySem.W.toks_eqv a b al).2 q [] [Sum.inl 0]
    rw [h, PySem.W.lex_pre, lex_irrefl (O := itemOrd)] at this
    exact absurd this (by decide)
theorem dLe_trans (a b c : PyData) (h : dLe a b = true) (h2 : dLe b c = true) : dLe a c = true := by
  unfold dLe at *
  cases q : PySem.W.dataLt c a with
  | false => rfl
  | true =>
    rcases dLt_neg b q with t | t
    · rw [t] at h2; cases h2
    · rw [t] at h; cases h
theorem dLe_total (a b : PyData) : (dLe a b || dLe b a) = true := by
  unfold dLe
  cases q : PySem.W.dataLt b a with
  | false => rfl
  | true => rw [dLt_asymm q]; rfl
theorem dLe_anti {a b : PyData} (al : PySem.W.alike a b = true) (h : dLe a b = true) (h2 : dLe b a = true) : PyData.eqv a b = true := by
  unfold dLe at h h2
  exact toks_inj al (dLt_total (by simpa using h2) (by simpa using h))
/-! rows of ints -/
def tI (r : List Int) : PyData := .tuple (r.map .int)
theorem al_tI (r t : List Int) : PySem.W.alike (tI r) (tI t) = true := by unfold tI; rw [PySem.W.alike]; exact PySem.W.alike_ints r t
theorem eqv_tI (a b : List Int) : PyData.eqv (.tuple (a.map .int)) (.tuple (b.map .int)) = decide (a = b) := by
  have h := eqv_kt (a.map Sum.inl) (b.map Sum.inl)
  have e : ∀ l : List Int, (l.map (Sum.inl : Int → Key)).map kd = l.map .int := fun l => by rw [List.map_map]; rfl
  rw [e, e] at h
  rw [h]
  have inj : (a.map (Sum.inl : Int → Key) = b.map Sum.inl) ↔ a = b := ⟨fun h => (List.map_inj_right fun _ _ e => Sum.inl.inj e).mp h, fun h => by rw [h]⟩
  exact decide_eq_decide.mpr inj
theorem tI_anti {r t : List Int} (h : dLe (tI r) (tI t) = true) (h2 : dLe (tI t) (tI r) = true) : r = t := by
  have := dLe_anti (al_tI r t) h h2
  unfold tI at this; rw [eqv_tI] at this; exact of_decide_eq_true this
def leT (r t : List Int) : Bool := dLe (tI r) (tI t)
/-- two sorted rows of the same members, each once, are one -/
theorem srtT_uniq : ∀ {a b : List (List Int)}, a.Pairwise (fun x y => leT x y = true) → b.Pairwise (fun x y => leT x y = true) → a.Nodup → b.Nodup → (∀ k, k ∈ a ↔ k ∈ b) → a = b
  | [], [], _, _, _, _, _ => rfl
  | [], y :: b, _, _, _, _, h => by have := (h y).mpr List.mem_cons_self; cases this
  | x :: a, [], _, _, _, _, h => by have := (h x).mp List.mem_cons_self; cases this
  | x :: a, y :: b, ha, hb, na, nb, h => by
    obtain ⟨h1, h2⟩ := List.pairwise_cons.mp ha
    obtain ⟨g1, g2⟩ := List.pairwise_cons.mp hb
    obtain ⟨n1, n2⟩ := List.nodup_cons.mp na
    obtain ⟨m1, m2⟩ := List.nodup_cons.mp nb
    have e : x = y := by
      rcases List.mem_cons.mp ((h x).mp List.mem_cons_self) with e | e
      · exact e
      rcases List.mem_cons.mp ((h y).mpr List.mem_cons_self) with e' | e'
      · exact e'.symm
      exact tI_anti (h1 y e') (g1 x e)
    subst e
    rw [srtT_uniq h2 g2 n2 m2 fun k => ⟨fun z => (List.mem_cons.mp ((h k).mp (List.mem_cons_of_mem _ z))).resolve_left fun q => n1 (q ▸ z),
      fun z => (List.mem_cons.mp ((h k).mpr (List.mem_cons_of_mem _ z))).resolve_left fun q => m1 (q ▸ z)⟩]
def ddT : List (List Int) → List (List Int)
  | [] => []
  | k :: r => if k ∈ ddT r then ddT r else k :: ddT r
theorem ddT_mem {k : List Int} : ∀ {l : List (List Int)}, k ∈ ddT l ↔ k ∈ l
  | [] => Iff.rfl
  | x :: r => by
    unfold ddT
    split
    · rename_i h
      rw [ddT_mem (l := r), List.mem_cons]
      exact ⟨.inr, fun z => z.elim (fun e => by subst e; exact ddT_mem.mp h) id⟩
    · rw [List.mem_cons, List.mem_cons, ddT_mem (l := r)]
theorem ddT_nodup : ∀ l : List (List Int), (ddT l).Nodup
  | [] => List.nodup_nil
  | x :: r => by
    unfold ddT
    split
    · exact ddT_nodup r
    · rename_i h; exact List.nodup_cons.mpr ⟨h, ddT_nodup r⟩
/-- what sorted(set(..)) gives -/
def srtT (rs : List (List Int)) : List (List Int) := (ddT rs).mergeSort leT
theorem srtT_mem {k : List Int} {l : List (List Int)} : k ∈ srtT l ↔ k ∈ l := by unfold srtT; rw [(List.mergeSort_perm ..).mem_iff, ddT_mem]
theorem srtT_nodup (l : List (List Int)) : (srtT l).Nodup := ((List.mergeSort_perm ..).nodup_iff).mpr (ddT_nodup l)
theorem srtT_up (l : List (List Int)) : (srtT l).Pairwise fun x y => leT x y = true := List.pairwise_mergeSort (le := leT) (fun a b c h h2 => dLe_trans (tI a) (tI b) (tI c) h h2) (fun a b => dLe_total (tI a) (tI b)) _
section
variable {P : Program} {w : World} {A : Around} {E : Value → Shared → Prop} {s : Shared}
theorem sorted_setT2 {a : Addr} {L : List (Addr × List Int)} {es : Array (Int × Value)} {ep : Nat} {t : SetTable} {Q : Value → Shared → Prop} (R : SetTR P w s.heap a L es ep t) (hh : A.handled = none)
    (hne : ∀ p ∈ L, p.2 ≠ []) (hu : A.units + 20 < cLine)
    (hQ : ∀ s' p (out : Array Value) (c : Nat) (L' : List (Addr × List Int)), (∀ b o, s.heap.get? b = some o → s'.heap.get? b = some o) → s'.gens = s.gens → s'.os = s.os → s.heap.objs.size ≤ p →
      s'.heap.get? p = some (seqObj "list" out c) → out.toList = L'.map (fun q => Value.ref q.1) → L'.Perm L → (L'.map (·.2)).Pairwise (fun x y => leT x y = true) → Q (.ref p) s') :
    wpAny (model P w) A (call (.builtin "sorted") [.ref a]) Q E s := by
  obtain ⟨o, ho, hex, hd⟩ := R.ob
  have hsz := R.size
  have hfew := R.few
  refine Calls.call_function_entry kind_sorted plain_sorted entry_sorted (args_sorted1 _) ?_
  unfold Builtin.«sorted»
  refine wpAny_bind (m := checkCount "sorted" 1 1 _) (wpAny_pure ?_)
  refine wpAny_bind (collect_set (A := A.in1) hh ⟨o, ho, hex.1, hd⟩ R.fits (by unfold scanBound; omega) R.tab.ris R.led fun s1 vs k1 hz g1 o1 pm => ?_)
  have hes : es.toList.map (·.2) = L.map fun q => Value.ref q.1 := by
    rw [R.rows]
    unfold rowsOf
    rw [List.map_map] <;> rfl
  rw [hes] at pm
  have ord : ∀ vs : List Value, (∀ v ∈ vs, ∃ q ∈ L, v = Value.ref q.1) → ∃ L1 : List (Addr × List Int), vs = L1.map (fun q => Value.ref q.1) ∧ ∀ q ∈ L1, q ∈ L := by
    intro vs
    induction vs with
    | nil => intro _; exact ⟨[], rfl, fun q hq => (by cases hq)⟩
    | cons v vs ih =>
      intro hv
      obtain ⟨q, hq, e⟩ := hv v List.mem_cons_self
      obtain ⟨L1, e1, hs⟩ := ih fun u hu => hv u (List.mem_cons_of_mem _ hu)
      refine ⟨q :: L1, by rw [List.map_cons, e, e1], fun r hr => ?_⟩
      rcases List.mem_cons.mp hr with z | z
      · rw [z]; exact hq
      · exact hs r z
  have one : ∀ q ∈ L, ∀ r ∈ L, q.1 = r.1 → q = r := fun q hq r hr e => by
    have a1 := R.tup q hq
    have a2 := R.tup r hr
    rw [e] at a1
    have e2 : q.2 = r.2 := a1.inj a2
    exact Prod.ext e e2
  have perm_of : ∀ L1 : List (Addr × List Int), (∀ q ∈ L1, q ∈ L) → (L1.map (fun q => Value.ref q.1)).Perm (L.map fun q => Value.ref q.1) → L1.Perm L := by
    intro L1 hs pm1
    have nL : L.Nodup := nodup_of_map R.nd
    have nref : (L.map fun q => Value.ref q.1).Nodup := by
      refine List.pairwise_map.mpr (List.Pairwise.imp_of_mem (fun {q r} hq hr hne e => ?_) nL)
      injection e with e
      exact hne (one q hq r hr e)
    have n1 : L1.Nodup := nodup_of_map (pm1.nodup_iff.mpr nref)
    refine (List.perm_ext_iff_of_nodup n1 nL).mpr fun q => ⟨hs q, fun hq => ?_⟩
    have hm : Value.ref q.1 ∈ L1.map (fun q => Value.ref q.1) := pm1.mem_iff.mpr (List.mem_map.mpr ⟨q, hq, rfl⟩)
    obtain ⟨r, hr, e⟩ := List.mem_map.mp hm
    injection e with e
    rw [← one r (hs r hr) q hq e]
    exact hr
  have hvl : vs.length < 64 := by rw [pm.length_eq, List.length_map]; exact hfew
  refine wpAny_bind (wpAny_newList ?_ (by rw [sizeLine_eq]; omega))
  have hoL : (s1.heap.push (seqObj "list" vs.toArray 0)).get? s1.heap.objs.size = some (seqObj "list" vs.toArray 0) := Heap.get?_push_size _ rfl
  have tk : ∀ q ∈ L, TS.TupInts (s1.heap.push (seqObj "list" vs.toArray 0)) (.ref q.1) q.2 := fun q hq => tupInts_of (P := P) (w := w) (isT_keep (R.tup q hq) fun b u e => Heap.get?_push_of_some _ (k1 b u e))
  obtain ⟨L1, e1, hs1⟩ := ord vs fun v hv => by
    obtain ⟨q, hq, e⟩ := List.mem_map.mp (pm.mem_iff.mp hv)
    exact ⟨q, hq, e.symm⟩
  have pL1 : L1.Perm L := perm_of L1 hs1 (by rw [← e1]; exact pm)
  have rds : ∀ q ∈ L, Reads (s1.heap.push (seqObj "list" vs.toArray 0)) (.ref q.1) (tI q.2) [] := fun q hq => by
    obtain ⟨b, items, e, ⟨o, ho, hc, n, hd⟩, hi⟩ := tk q hq
    cases e
    refine .tuple ho hc hd ?_
    have go : ∀ {hp : Heap} {vs : List Value} {ns : List Int}, IntsAre vs ns → ReadsAll hp vs (ns.map .int) [] := by
      intro hp vs ns h
      induction h with
      | nil => exact .nil
      | cons k t _ ih => exact .cons (as := []) (.int k t) ih
    exact go hi
  have eE : PySem.W.EachIs (fun v (b : Addr × List Int) => v = Value.ref b.1 ∧ b ∈ L) vs L1 := by
    rw [e1]
    have go : ∀ l : List (Addr × List Int), (∀ q ∈ l, q ∈ L) → PySem.W.EachIs (fun v (b : Addr × List Int) => v = Value.ref b.1 ∧ b ∈ L) (l.map fun q => Value.ref q.1) l := by
      intro l
      induction l with
      | nil => intro _; exact .nil
      | cons q l ih => intro h; exact .cons ⟨rfl, h q List.mem_cons_self⟩ (ih fun r hr => h r (List.mem_cons_of_mem _ hr))
    exact go L1 hs1
  refine wpAny_bind (wpAny_holding (PySem.W.list_sort_data (s := { s1 with heap := s1.heap.push (seqObj "list" vs.toArray 0) }) (enc := fun q : Addr × List Int => tI q.2) hoL eE
    (eE.mono fun v b ⟨e, hb⟩ => ⟨[], by rw [e]; exact rds b hb, by simp⟩) (PySem.W.AllAlike.of fun b b' => al_tI _ _) ?_ (by rw [← eE.length, sizeLine_eq]; omega) (fun b hb => ?_) fun out hl a1 => ?_))
  · refine .inl fun d hd => ?_
    obtain ⟨b, hb, rfl⟩ := List.mem_map.mp hd
    have := hne b (hs1 b hb)
    cases q : b.2 with
    | nil => exact absurd q this
    | cons x r => exact ⟨.int x, r.map .int, rfl⟩
  · have : (tI b.2).depth = 1 := by unfold tI; rw [PyData.depth, PySem.W.depth_ints]
    show A.in1.units + 1 + (tI b.2).depth < cLine
    rw [this]
    have : A.in1.units ≤ A.units + 1 := by simp [Around.in1, Around.units]; try omega
    omega
  obtain ⟨c, hc⟩ := sortedHeap_at (vs := vs) (out := out.toArray) hoL
  have e2 : out = (L1.mergeSort (PySem.W.dataLe false fun q : Addr × List Int => tI q.2)).map fun q => Value.ref q.1 := by
    have go : ∀ {vs : List Value} {l : List (Addr × List Int)}, PySem.W.EachIs (fun v (b : Addr × List Int) => v = Value.ref b.1 ∧ b ∈ L) vs l → vs = l.map fun q => Value.ref q.1 := by
      intro vs l h
      induction h with
      | nil => rfl
      | cons h _ ih => rw [h.1, ih]; rfl
    exact go a1
  have pL : (L1.mergeSort (PySem.W.dataLe false fun q : Addr × List Int => tI q.2)).Perm L := (List.mergeSort_perm ..).trans pL1
  refine wpAny_pure ⟨_, rfl, hQ _ s1.heap.objs.size out.toArray c _ (fun b u e => ?_) g1 o1 hz hc (by simpa using e2) pL ?_⟩
  · have q := k1 b u e
    have hlt := Heap.lt_size q
    show (sortedHeap (s1.heap.push (seqObj "list" vs.toArray 0)) s1.heap.objs.size vs out.toArray).get? b = some u
    rw [sortedHeap_old (Nat.ne_of_lt hlt) (by rw [size_push']; exact Nat.lt_succ_of_lt hlt)]
    exact Heap.get?_push_of_some _ q
  · refine List.pairwise_map.mpr ?_
    exact (List.pairwise_mergeSort (le := fun q r : Addr × List Int => leT q.2 r.2) (fun a b c h h2 => dLe_trans (tI a.2) (tI b.2) (tI c.2) h h2) (fun a b => dLe_total (tI a.2) (tI b.2)) L1)
end
section
variable {X : Cx}
def rSortedT2 (K : PySem.W.Frag) (P : Program) (w : World) : List V → Hp → VK → Prop := fun vs H Q => ∃ (a : Addr) (L : List (Addr × List Int)), vs = [V.ref a] ∧ H a = some (SetTO P w a L) ∧ (∀ p ∈ L, SqT K H p.1 (p.2.map V.int)) ∧ (∀ p ∈ L, p.2 ≠ []) ∧
  ∀ (L' : List (Addr × List Int)) (p : Addr), L'.Perm L → (L'.map (·.2)).Nodup → (L'.map (·.2)).Pairwise (fun x y => leT x y = true) → H p = none → Q (.ref p) (upd H p (.lst (L'.map fun q => V.ref q.1)))
theorem cr_sortedT2 (hc : X.calm = true) (hu : X.A.units + 20 < cLine) : CallR X (.builtin "sorted") (rSortedT2 X.K X.prog X.w) := by
  intro pins s σ H vs us Q I r h
  obtain ⟨a, L, rfl, ha, hk, hne, q⟩ := h
  have R0 : SetT0 X.prog X.w s.heap a L := (I.hok a _ ha).1
  obtain ⟨es, ep, t, R⟩ := R0.full fun p hp => I.isT (hk p hp)
  rw [Vals.ref1 r]
  refine sorted_setT2 R (I.ok.hd hc) hne hu fun s' p out c L' k g o hp hg hout pm pw => ?_
  have hfew : L'.length < 64 := by rw [pm.length_eq]; exact R.few
  have hlen : (L'.map fun q => V.ref q.1).length ≤ sizeLine := by rw [List.length_map, sizeLine_eq]; omega
  have hn : H p = none := I.hok.fresh hp
  have hv : Vals (L'.map fun q => V.ref q.1) out.toList := by rw [hout]; exact vals_of_refs L'
  have J : Inv X pins σ (upd H p (.lst (L'.map fun q => V.ref q.1))) { s with heap := s'.heap, gens := s'.gens, drawn := s'.drawn, toks := s'.toks } :=
    I.call (ch := []) (Un.laid k hp hn) (I.hok.laid k hp ⟨hlen, out.toList, c, hv, hg⟩) (by rw [g]; exact I.bare) (fun _ z => nomatch z)
  have e : s' = { s with heap := s'.heap, gens := s'.gens, drawn := s'.drawn, toks := s'.toks } := by
    cases s'
    cases s
    cases o
    rfl
  rw [e]
  exact ⟨.ref p, _, J, rfl, q L' p pm ((pm.map (·.2)).nodup_iff.mpr R.nd) pw hn⟩
def rowsOfD : List PyData → Option (List (List Int))
  | [] => some []
  | .tuple ds :: r => (intsOf ds).bind fun is => (rowsOfD r).map (is :: ·)
  | _ => none
theorem rowsOfD_inv : ∀ {ds rs}, rowsOfD ds = some rs → ds = rs.map tI
  | [], _, h => by cases h; rfl
  | d :: r, rs, h => by
    cases d with
    | tuple xs =>
      obtain ⟨is, h1, h2⟩ := Option.bind_eq_some_iff.mp (show (intsOf xs).bind (fun is => (rowsOfD r).map (is :: ·)) = some rs from h)
      obtain ⟨ms, h3, rfl⟩ := Option.map_eq_some_iff.mp h2
      rw [intsOf_inv h1, rowsOfD_inv h3]; rfl
    | _ => cases h
def okRows (rs : List (List Int)) : Prop := rs.length < 64 ∧ ∀ r ∈ rs, r ≠ []
instance (rs : List (List Int)) : Decidable (okRows rs) := inferInstanceAs (Decidable (_ ∧ _))
def fSST : PyData → Option PyData
  | .list ds => (rowsOfD ds).bind fun rs => if okRows rs then some (.list ((srtT rs).map tI)) else none
  | _ => none
theorem RpAll.rows {K H A} : ∀ {vs : List V} {rs : List (List Int)}, RpAll K H A vs (rs.map tI) → ∃ ks : List (Addr × List Int), vs = ks.map (fun p => V.ref p.1) ∧ ks.map (·.2) = rs ∧ ∀ p ∈ ks, SqT K H p.1 (p.2.map V.int) ∧ Rp K H A (.ref p.1) (tI p.2)
  | _, [], .nil => ⟨[], rfl, rfl, fun p h => by cases h⟩
  | _, r :: rs, .cons a t => by
    obtain ⟨ks, rfl, e2, h⟩ := RpAll.rows t
    obtain ⟨b, vs, e, s, q⟩ := Rw.tup (.inl a)
    subst e
    have e := ints_rp q
    subst e
    refine ⟨(b, r) :: ks, rfl, by rw [List.map_cons, e2], fun p hp => ?_⟩
    rcases List.mem_cons.mp hp with rfl | hp
    · exact ⟨s.sq, a⟩
    · exact h p hp
theorem RpAll.of_all {K H A} : ∀ (L : List (Addr × List Int)), (∀ p ∈ L, Rp K H A (.ref p.1) (tI p.2)) → RpAll K H A (L.map fun q => V.ref q.1) ((L.map (·.2)).map tI)
  | [], _ => .nil
  | p :: L, h => .cons (h p List.mem_cons_self) (RpAll.of_all L fun q hq => h q (List.mem_cons_of_mem _ hq))
def rSST (K : PySem.W.Frag) (P : Program) (w : World) : List V → Hp → VK → Prop := fun xs H Q => rSetOfT K P w xs H fun v H1 => rSortedT2 K P w [v] H1 Q
theorem sqT_same {K H H'} {a : Addr} {xs : List V} (s : Same H H') (h : SqT K H a xs) : SqT K H' a xs := h.elim (fun q => .inl (q.elim (fun q => .inl (s _ _ q)) fun ⟨o, q⟩ => .inr ⟨o, s _ _ q⟩)) .inr
theorem rSST_run {H : Hp} {A : Addr → Prop} {v d z} {Q : VK} (r : Rw X.K H A v d) (h : fSST d = some z)
    (k : ∀ H1 p, Same H H1 → H1 p = none → ∀ vs ds, z = .list ds → RpAll X.K H1 A vs ds → Q (.ref p) (upd H1 p (.lst vs))) : rSST X.K X.prog X.w [v] H Q := by
  cases d with
  | list ds =>
    obtain ⟨rs, h1, h2⟩ := Option.bind_eq_some_iff.mp (show (rowsOfD ds).bind _ = _ from h)
    split at h2
    · rename_i ok
      cases h2
      have e := rowsOfD_inv h1
      subst e
      obtain ⟨l, vs, rfl, s, q⟩ := r.lst
      obtain ⟨ks, rfl, e2, hk⟩ := q.rows
      subst e2
      refine ⟨l, ks, rfl, .inl (.inl s), fun p hp => (hk p hp).1, by have := ok.1; rw [List.length_map] at this; exact this, fun a L na sub all => ?_⟩
      have sm := same_upd (o := SetTO X.prog X.w a L) na
      refine ⟨a, L, rfl, upd_same, fun p hp => sqT_same sm (hk p (sub p hp)).1, fun p hp => ok.2 p.2 (List.mem_map.mpr ⟨p, sub p hp, rfl⟩), fun L' p pm nd so np => ?_⟩
      refine k _ p sm np _ _ ?_ (RpAll.of_all L' fun q hq => (hk q (sub q (pm.mem_iff.mp hq))).2.map (Keeps.same sm A))
      have : L'.map (·.2) = srtT (ks.map (·.2)) := srtT_uniq so (srtT_up _) nd (srtT_nodup _) fun r => by
        rw [srtT_mem, (pm.map (·.2)).mem_iff]
        constructor
        · intro hr
          obtain ⟨q, hq, rfl⟩ := List.mem_map.mp hr
          exact List.mem_map.mpr ⟨q, sub q hq, rfl⟩
        · intro hr
          obtain ⟨q, hq, rfl⟩ := List.mem_map.mp hr
          exact all q hq
      rw [this]
    · cases h2
  | _ => cases h
theorem sf_ssetT (B : Blt X.mg) {e : Expr} {d : M PyData} {p p2 q pos : Pos} (hc : X.calm = true) (hu : X.A.units + 64 < cLine) (ha : SW X e d) (hg : Gl X "sorted" := by rfl) (hg2 : Gl X "set" := by rfl) (h1 : starEach [e] X.env = (false, eval e X.env) :: starEach [] X.env := by rfl)
    (h2 : starEach [.Call (.Name "set" p2) [e] [] q] X.env = (false, eval (.Call (.Name "set" p2) [e] [] q) X.env) :: starEach [] X.env := by rfl) (hpl : (backTo q (starEach [] X.env)).any (·.1) = false := by rfl) (hpl2 : (backTo pos (starEach [] X.env)).any (·.1) = false := by rfl) :
    SF X (.Call (.Name "sorted" p) [.Call (.Name "set" p2) [e] [] q] [] pos) (d1 fSST d) :=
  PE.imp (pe_callB (cr_sortedT2 hc (by omega)) hg B.sorted (by decide +kernel) (pa_cons (pe_callTy (cr_setOfT hc hu) hg2 B.set boot_set (pa_cons ha pa_nil h1) (by decide) (by decide) h1 hpl) pa_nil h2) (by decide) (by decide) h2 hpl2) fun σ H Q h => by
    obtain ⟨env, os, G, z, env', R, q, k⟩ := h
    obtain ⟨y, e2, q3, q4⟩ := bnd_inv q
    obtain ⟨q5, rfl⟩ := lft_inv q4
    refine ⟨env, os, G, y, env', R, q3, fun H' os' v x R' p => ?_⟩
    refine rSST_run (p.rw R') q5 fun H1 a sm na vs ds e r => ?_
    subst e
    have R1 := R'.ofSame sm
    exact k _ os' a (x.trans ((Ext.same _ sm).trans (Ext.same _ (same_upd na)))) (x.free (by
      cases t : H' a with
      | none => rfl
      | some o => rw [sm a o t] at na; cases na)) (R1.plus na trivial) (own_new R1 na r)
end
end SL

set_option Elab.async false
set_option linter.all false
set_option maxRecDepth 100000
set_option maxHeartbeats 4000000
/-! SL16: repr of data, where nothing is being shown around. -/
namespace SL
open PySem PySem.Spec PyProof.Rows L2
section
variable {prog : Program} {w : World}
theorem repr_reads : ∀ {v : Value} {d : PyData} {as : List Addr} {s : Shared}, Reads s.heap v d as → d.showable = true → (d.hasDict = true → sysModules ∉ as) → d.shown.length ≤ sizeLine →
    ∀ (A : Around) (E : Value → Shared → Prop) (Q : Value → Shared → Prop), A.guards = some [] → A.units + 1 + d.depth < cLine →
    (∀ h' tk u, (∀ b o, s.heap.get? b = some o → h'.get? b = some o) → Q (.str d.shown u) { s with heap := h', toks := tk }) → wpAny (model prog w) A (call (.builtin "repr") [v]) Q E s
  | _, _, _, s, .none, _, _, _, A, E, Q, _, _, hQ => by
    simp only [PyData.shown] at hQ
    exact PySem.P.repr_of_none (hQ s.heap _ _ fun _ _ e => e)
  | _, _, _, s, .bool b, _, _, _, A, E, Q, _, _, hQ => by
    simp only [PyData.shown] at hQ
    exact PySem.P.repr_of_bool (hQ s.heap _ _ fun _ _ e => e)
  | _, _, _, s, .int i t, hs, _, _, A, E, Q, _, _, hQ => by
    simp only [PyData.shown] at hQ
    exact PySem.P.repr_of_int (by simpa [PyData.showable] using hs) (hQ s.heap _ _ fun _ _ e => e)
  | _, _, _, s, .str x t, _, _, hz, A, E, Q, _, _, hQ => by
    simp only [PyData.shown] at hQ hz
    exact PySem.P.repr_of_str (hQ s.heap _ _ fun _ _ e => e) hz
  | _, _, _, s, .list (a := a) (vs := vs) (xs := xs) h1 h2 h3 h4, hs, hsm, hz, A, E, Q, hg, hu, hQ => by
    have hz' : (listText (PyData.shownAll xs)).length ≤ sizeLine := by simpa only [PyData.shown] using hz
    obtain ⟨bs, hb, hk⟩ := ReprAllK.of_readsAll (prog := prog) (w := w) h4 (by simpa [PyData.showable] using hs) (fun hx hm => hsm (by simpa [PyData.hasDict] using hx) (List.mem_cons_of_mem _ hm)) (fun t ht => Nat.le_trans (listText_mem_le ht) hz')
    have r : Reads s.heap (.ref a) (.list xs) _ := .list h1 h2 h3 h4
    have hna : a ∉ bs := not_mem_of_deeper r (by simp only [PyData.depth]; omega) hb
    simp only [PyData.depth] at hu
    simp only [PyData.shown] at hQ
    refine call_repr_slot (by omega) ⟨_, h1, h2⟩ F.slot_list_repr.toG ?_
    obtain ⟨l⟩ := vs
    cases l with
    | nil =>
      have h4' : ReadsAll s.heap [] xs _ := h4
      cases h4'
      simp only [PyData.shownAll, listText_nil] at hQ
      exact call_list_repr_empty ⟨_, h1, h2⟩ h1 h3 ⟨_, _, rfl, hQ s.heap _ _ fun _ _ e => e⟩
    | cons x l =>
      exact call_list_reprK h1 h2 h3 hna (by simpa using hk.length_eq) (fun i y e => hk.item i y (by simpa using e)) hg (fun b _ => Clear.nil b) (by show A.units + 1 + _ < _; omega) (fun _ _ e => e) (fun h' u tk hk' => ⟨_, _, rfl, hQ h' tk u hk'⟩) hz'
  | _, _, _, s, .tuple (a := a) (xs := xs) h1 h2 h3 h4, hs, hsm, hz, A, E, Q, hg, hu, hQ => by
    have hz' : (tupleText (PyData.shownAll xs)).length ≤ sizeLine := by simpa only [PyData.shown] using hz
    obtain ⟨bs, hb, hk⟩ := ReprAllK.of_readsAll (prog := prog) (w := w) h4 (by simpa [PyData.showable] using hs) (fun hx => hsm (by simpa [PyData.hasDict] using hx)) (fun t ht => Nat.le_trans (tupleText_mem_le ht) hz')
    have r : Reads s.heap (.ref a) (.tuple xs) _ := .tuple h1 h2 h3 h4
    have hna : a ∉ bs := not_mem_of_deeper r (by simp only [PyData.depth]; omega) hb
    simp only [PyData.depth] at hu
    simp only [PyData.shown] at hQ
    refine call_repr_slot (by omega) ⟨_, h1, h2⟩ F.slot_tuple_repr ?_
    exact call_tuple_reprK h1 h2 h3 hna hk hg (fun b _ => Clear.nil b) (by show A.units + 1 + _ < _; omega) (fun _ _ e => e) (fun h' u tk hk' => ⟨_, _, rfl, hQ h' tk u hk'⟩) hz'
  | _, _, _, s, .dict (a := a) (es := es) (kvs := kvs) (as := as₁) (bs := bs₁) h1 h2 h3 h4 h5, hs, hsm, hz, A, E, Q, hg, hu, hQ => by
    have hz' : (dictText (PyData.shownKv kvs)).length ≤ sizeLine := by simpa only [PyData.shown] using hz
    have hno : sysModules ∉ a :: as₁ ++ bs₁ := hsm (by simp only [PyData.hasDict])
    obtain ⟨hs1, hs2⟩ := PyData.showableKv_split kvs (by simpa [PyData.showable] using hs)
    obtain ⟨b1, hb1, k1⟩ := ReprAllK.of_readsAll (prog := prog) (w := w) h4 hs1 (fun _ hm => hno (List.mem_cons_of_mem _ (List.mem_append_left _ hm))) (fun t ht => let ⟨p, hp, hl⟩ := PyData.shownKv_key_le kvs t ht; Nat.le_trans hl (Nat.le_trans (dictText_mem_le hp) hz'))
    obtain ⟨b2, hb2, k2⟩ := ReprAllK.of_readsAll (prog := prog) (w := w) h5 hs2 (fun _ hm => hno (List.mem_cons_of_mem _ (List.mem_append_right _ hm))) (fun t ht => let ⟨p, hp, hl⟩ := PyData.shownKv_val_le kvs t ht; Nat.le_trans hl (Nat.le_trans (dictText_mem_le hp) hz'))
    have r : Reads s.heap (.ref a) (.dict kvs) _ := .dict h1 h2 h3 h4 h5
    have hb : ReadAtMost s.heap (PyData.depthKv kvs) (b1 ++ b2) := (hb1.mono (PyData.depthAll_keys_le kvs)).append (hb2.mono (PyData.depthAll_vals_le kvs))
    have hna : a ∉ b1 ++ b2 := not_mem_of_deeper r (by simp only [PyData.depth]; omega) hb
    have hsys : (a == sysModules) = false := beq_eq_false_iff_ne.mpr fun e => hno (e ▸ List.mem_cons_self ..)
    simp only [PyData.depth] at hu
    simp only [PyData.shown, PyData.shownKv_eq] at hQ
    refine call_repr_slot (by omega) ⟨_, h1, h2⟩ F.slot_dict_repr ?_
    exact call_dict_reprK h1 h2 h3 hsys hna (ReprEntriesK.of_two es.toList _ _
      (k1.more_le (fun b hb => List.mem_append_left _ hb) (PyData.depthAll_keys_le kvs)) (k2.more_le (fun b hb => List.mem_append_right _ hb) (PyData.depthAll_vals_le kvs)))
      hg (fun b _ => Clear.nil b) (by show A.units + 1 + _ < _; omega) (fun _ _ e => e) (fun h' u tk hk' => ⟨_, _, rfl, hQ h' tk u hk'⟩) (by rw [← PyData.shownKv_eq]; exact hz')
end
end SL

set_option Elab.async false
set_option linter.all false
set_option maxRecDepth 100000
set_option maxHeartbeats 4000000
/-! SL17: a law's def at the very caller (there nothing is being shown). -/
namespace SL
open PySem PySem.Spec PyProof.Rows L2
/-- the law's def does its work at the claim's caller -/
structure LawRun (P : Program) (w : World) (K : PySem.W.Frag) (mg : Str → Option Value) (base : Heap) (fa : Addr) (fd : FuncData) : Prop where
  run : ∀ (s : Shared) (H : Hp) (a : Addr) (ns : List Int), Env0 P w K mg base callerA [] s H → BindsTo s fd ⟨[.ref a], []⟩ [("script", .ref a)] → SqL K H a (ns.map V.int) → ns.length ≤ 63 →
    codeAny (model P w) callerA (.call (.ref fa) ⟨[.ref a], []⟩) (CR CX0 [] P w H s (fun v _ => v = .bl true) (fun _ _ _ => False)) s
section
variable {P : Program} {w : World} {K : PySem.W.Frag} {mg : Str → Option Value} {base : Heap}
theorem law_run {k : Nat} {f : Addr} {name qual : Str} {params : Arguments} {body : List Stmt} {scope : Scope} {dV kV doc pm cdv ct oc : Value} {an od : Option Addr} {osl : Array (Option Value)} {N : List Str}
    (lk : K.lookup f = some ⟨oc, od, .func (PySem.W.fnOf name qual params body scope dV kV doc pm an cdv ct), osl⟩) (hcd : PySem.W.codeIn K cdv qual = true) (S : FnScope N ["script"] scope) (hk : Room (k + 1) callerA)
    (hbody : ∀ (s : Shared) (H : Hp) (a : Addr) (ns : List Int), SqL K H a (ns.map V.int) → ns.length ≤ 63 → ∃ t, PSs (cxOf CX0 P w K mg base N qual scope f cdv callerA [] s H (fun _ _ _ => False)) body t ∧ t { nx := fun _ _ => V.non = V.bl true, rt := fun v _ => v = .bl true } (start N [V.ref a]) H) :
    LawRun P w K mg base f (PySem.W.fnOf name qual params body scope dV kV doc pm an cdv ct) := by
  refine ⟨fun s H a ns e0 hb hS hl => ?_⟩
  have inK : K.In s.heap := e0.mod.kin.keeps fun b o e => (e0.bs b o e).1
  have lim : s.heap.NoLimit := e0.mod.nolimit.keeps fun b o e => (e0.bs b o e).1
  have loc : ∀ y ∈ [(("script" : Str), Value.ref a)], scope.names.lookup y.1 = some .local ∨ (scope.names.lookup y.1 = some .cell ∧ ((cellsFrom (s.heap.objs.size + 1) scope.names []).lookup y.1).isSome = true) := by
    intro y hy
    rw [List.mem_singleton.mp hy]
    rcases S.par "script" List.mem_cons_self with q | q
    · exact .inl q
    · exact .inr ⟨q, PySem.W.cellsFrom_some _ _ _ (.inl q)⟩
  refine codeAny_call_function hk.depth (inK _ _ lk) rfl S.co S.gen rfl (PySem.W.codeRec_of inK hcd) (hb _ _ _ _ ?_)
  refine wpAny_newFunctionEnv_cells S.kind loc fun env he s1 x => ?_
  subst he
  refine ⟨lim.keeps x.toInCall.keep, codeAny_func ?_⟩
  obtain ⟨t, ht, q⟩ := hbody s H a ns hS hl
  have I : Inv (cxOf CX0 P w K mg base N qual scope f cdv callerA [] s H (fun _ _ _ => False)) [] (start N [V.ref a]) H s1 := inv_start (ps := ["script"]) (us := [.ref a]) (vs := [V.ref a]) S hk.hd e0 rfl (.cons rfl .nil) x
  refine wpAny_mono (ht.run [] s1 _ H _ I q) (fun fl s' h => ?_) fun e s' h => h
  cases fl with
  | ret u =>
    obtain ⟨v, σ', H', J, rv, e⟩ := h
    exact ⟨v, H', J.os, J.bare, J.base, J.hok, rv, e⟩
  | next => obtain ⟨_, _, _, z⟩ := h; cases (show V.non = V.bl true from z)
  | brk => obtain ⟨_, _, _, z⟩ := h; exact False.elim z
  | cont => obtain ⟨_, _, _, z⟩ := h; exact False.elim z
/-- what a heap is in which nothing but the script may be followed -/
structure Scr (K : PySem.W.Frag) (H : Hp) (a : Addr) : Prop where
  only : ∀ b, H b = none ∨ (b = a ∧ K.lookup a = none ∧ ∃ o xs, H b = some (.frz o (.lst xs)))
theorem law_callG {mb : Str → Option Value} {fa a : Addr} {fd : FuncData} {s : Shared} {vs : List Value} {ns : List Int}
    (inK : K.In s.heap) (nsG : s.heap.Ns mainGlobals mg) (nsB : s.heap.Ns builtinsNs mb) (hbb : ∀ x : Str, x ≠ "__name__" → mb x = bootBuiltins x) (lim : s.heap.NoLimit) (hg : s.gens = #[])
    (ha : s.heap.get? a = some { cls := .type "list", data := .seq vs.toArray }) (hi : IntsAre vs ns) (hl : ns.length ≤ 63)
    (F : ∀ base : Heap, K.In base → base.Ns mainGlobals mg → LawRun P w K mg base fa fd) (hbind : ∀ (s : Shared) (u : Value), BindsTo s fd ⟨[u], []⟩ [("script", u)]) :
    codeAny (model P w) callerA (.call (.ref fa) ⟨[.ref a], []⟩) (fun r s' => r = .ok (.ret (.bool true)) ∧ OldK s.heap s'.heap ∧ s'.os = s.os ∧ AllBare s'.gens) s := by
  have small : ns.length ≤ sizeLine := by rw [sizeLine_eq]; omega
  have go : ∀ H : Hp, Scr K H a → HOk P w H s.heap → SqL K H a (ns.map V.int) → codeAny (model P w) callerA (.call (.ref fa) ⟨[.ref a], []⟩) (fun r s' => r = .ok (.ret (.bool true)) ∧ OldK s.heap s'.heap ∧ s'.os = s.os ∧ AllBare s'.gens) s := by
    intro H c hok hS
    have free : ∀ {b : Addr} {o : Obj}, s.heap.get? b = some o → (∃ es ep, o.data = Data.dict es ep) ∨ (K.lookup b).isSome = true → H b = none := by
      intro b o e h
      rcases c.only b with q | ⟨q, q2, _⟩
      · exact q
      · exfalso
        subst q
        rcases h with ⟨es, ep, d⟩ | h
        · rw [ha] at e
          cases e
          cases (show Data.seq vs.toArray _ = Data.dict es ep from d)
        · rw [q2] at h; cases h
    have inK' : K.In (hidT s.heap H) := fun b o e => hidT_get (inK b o e) (free (inK b o e) (.inr (by rw [e]; rfl)))
    have ns' : ∀ {b : Addr} {m : Str → Option Value}, s.heap.Ns b m → (hidT s.heap H).Ns b m := fun ⟨o, es, ep, e, d, r⟩ => ⟨o, es, ep, hidT_get e (free e (.inl ⟨es, ep, d⟩)), d, r⟩
    have lim' : (hidT s.heap H).NoLimit := by
      obtain ⟨m, h1, h2⟩ := lim
      exact ⟨m, ns' h1, h2⟩
    have e0 : Env0 P w K mg (hidT s.heap H) callerA [] s H := ⟨rfl, ⟨inK', ns' nsG, ⟨mb, ns' nsB, hbb⟩, lim'⟩, fun b o e => of_hidT e, Nat.le_of_eq (hidT_size _ _), trivial, fun b h => (List.not_mem_nil h).elim, hok, .of_eq hg⟩
    refine codeAny_mono ((F _ inK' (ns' nsG)).run s H a ns e0 (hbind s (.ref a)) hS hl) fun r s' h => ?_
    cases r with
    | error e => exact False.elim h
    | ok fl =>
      cases fl with
      | next => exact False.elim h
      | brk => exact False.elim h
      | cont => exact False.elim h
      | ret u =>
        obtain ⟨v, H', os, bare, un, hok', rv, e⟩ := h
        have e : v = .bl true := e
        subst e
        have rv : u = Value.bool true := rv
        subst rv
        refine ⟨rfl, OldK.of_keep fun b o e => ?_, os, bare⟩
        rcases c.only b with q | ⟨_, _, ob, xs, q⟩
        · exact un.keep b o e q (fun z => (List.not_mem_nil z).elim) (by simp)
        · have f' := un.frzs b ob _ q
          have g1 := (hok b _ q).1
          rw [e] at g1; cases g1
          exact (hok' b _ f').1
  have rv := vals_ints hi
  have hlen : vs.length = ns.length := hi.length
  cases hk : K.lookup a with
  | some o =>
    have e := inK a o hk
    rw [ha] at e
    cases e
    exact go (fun _ => none) ⟨fun _ => .inl rfl⟩ (fun b u z => by cases (show (none : Option HO) = some u from z)) (.inr ⟨_, vs.toArray, _, hk, rfl, rfl, rfl, by rw [List.size_toArray, hlen]; exact small, by simpa using rv⟩)
  | none =>
    refine go (fun b => if b = a then some (.frz { cls := .type "list", data := .seq vs.toArray } (.lst (ns.map V.int))) else none) ⟨fun b => ?_⟩ (fun b u z => ?_) (.inl (.inr ⟨_, if_pos rfl⟩))
    · by_cases q : b = a
      · exact .inr ⟨q, hk, _, _, if_pos q⟩
      · exact .inl (if_neg q)
    · by_cases q : b = a
      · subst q
        cases (if_pos rfl).symm.trans z
        exact ⟨ha, by rw [List.length_map]; exact small, vs, _, rv, ha⟩
      · cases (if_neg q).symm.trans z
end
theorem walk_ofG {l : PySem.W.OpenLaw} {q : Program} {loose : List Str} {XP : (Str → Option Value) → Heap → Prop} {YP : World → Heap → Prop} {d : DefRec} {K : Params → PySem.W.Frag}
    (hn : l.most = some 63) (hdf : d.params.defaults = []) (hY : ∀ (w : World) (h : Heap), YP w h → (K w.params).In h)
    (F : ∀ (w : World) (mg : Str → Option Value) (fa : Addr) (h : Heap), (K w.params).In h → h.Ns mainGlobals mg → mg d.name = some (.ref fa) →
      ∃ fd : FuncData, (∀ (s : Shared) (u : Value), BindsTo s fd ⟨[u], []⟩ [("script", u)]) ∧ ∀ base : Heap, (K w.params).In base → base.Ns mainGlobals mg → LawRun l.prog w (K w.params) mg base fa fd) :
    PySem.W.WalkO q loose XP YP l.row.toRowW d [] (fun f vs => PySem.call f vs) := by
  refine Att.attach_call hn hdf fun w s₀ s₁ mg mb fa o pm cd doc a vs ns G Y ho hd hcd hmg hobj hints hlen hg => ?_
  have inK := hY w _ Y
  obtain ⟨fd, hb, hF⟩ := F w mg fa _ inK G.T.g hmg
  exact law_callG inK G.T.g G.T.b G.T.builtins G.T.nolimit hg hobj hints hlen hF hb
end SL

set_option Elab.async false
set_option linter.all false
set_option maxRecDepth 100000
set_option maxHeartbeats 4000000
/-! SL18: repr(value). -/
namespace SL
open PySem PySem.Spec PyProof.Rows L2
def atomD : PyData → Bool | .none => true | .bool _ => true | .int _ => true | .str _ => true | _ => false
def keyA : PyData → Bool | .int _ => true | .str _ => true | _ => false
/-- data that repr takes: nested lists and tuples, or a dict of plain things -/
def plnR : PyData → Bool | .dict ps => ps.all fun p => keyA p.1 && atomD p.2 | d => d.canLay0
def fRepr (d : PyData) : Option PyData := if plnR d = true ∧ d.showable = true ∧ d.shown.length ≤ 16777216 ∧ d.depth ≤ 100 then some (.str d.shown) else none
/-- how data stand for repr -/
def RdR (K : PySem.W.Frag) (H : Hp) (v : V) (d : PyData) : Prop := (d.canLay0 = true ∧ Dp K H v d) ∨ ∃ a kvs ps, v = .ref a ∧ d = .dict ps ∧ Rd H a (.dK kvs) ∧ Paired (fun (kv : Key × V) (p : PyData × PyData) => p.1 = kd kv.1 ∧ Dp K H kv.2 p.2 ∧ atomD p.2 = true) kvs ps
def rReprD (K : PySem.W.Frag) : List V → Hp → VK → Prop := fun xs H Q => ∃ v d, xs = [v] ∧ RdR K H v d ∧ d.showable = true ∧ d.shown.length ≤ 16777216 ∧ d.depth ≤ 100 ∧ Q (.str d.shown) H
theorem RpK.flat {K H A} : ∀ {kvs ps}, RpK K H A kvs ps → (ps.all fun p => keyA p.1 && atomD p.2) = true → Paired (fun (kv : Key × V) (p : PyData × PyData) => p.1 = kd kv.1 ∧ Dp K H kv.2 p.2 ∧ atomD p.2 = true) kvs ps
  | _, _, .nil, _ => .nil
  | _, _, .cons (d := d) a b, h => by
    rw [List.all_cons, Bool.and_eq_true, Bool.and_eq_true] at h
    refine .cons ⟨rfl, ?_, h.1.2⟩ (RpK.flat b h.2)
    have h2 := h.1.2
    cases a <;> first | exact .non | exact .bl _ | exact .int _ | exact .str _ | cases h2
theorem c1_repr {K : PySem.W.Frag} : C1 K (rReprD K) fRepr := by
  intro H A v d z Q tr r h k
  unfold fRepr at h
  split at h
  · rename_i c
    cases h
    refine ⟨v, d, rfl, ?_, c.2.1, c.2.2.1, c.2.2.2, k H _ (Same.refl H) (.str _)⟩
    have c1 := c.1
    unfold plnR at c1
    split at c1
    · rename_i ps
      rcases r with r | ⟨a, rfl, r⟩
      · cases r with
        | dk s n q => exact .inr ⟨_, _, _, rfl, rfl, s, q.flat c1⟩
        | dt s n q =>
          rw [List.all_cons] at c1; cases c1
      · cases r with
        | dk s q => exact .inr ⟨_, _, _, rfl, rfl, .inl s, q.flat c1⟩
        | dt s q => rw [List.all_cons] at c1; cases c1
    · exact .inl ⟨c1, r.dp c1⟩
  · cases h
section
variable {X : Cx}
theorem atom_reads {h : Heap} {v : Value} {d : PyData} {as : List Addr} (q : Reads h v d as) (h3 : atomD d = true) : as = [] := by
  cases q <;> first | rfl | cases h3
theorem flat_reads {pins : List (Addr × Obj)} {σ : L2.St} {H : Hp} {s : Shared} (I : L2.Inv X pins σ H s) : ∀ {kvs : List (Key × V)} {ps : List (PyData × PyData)} {vs : List (Key × Value)} {es : List DictEntry}, Paired (fun (kv : Key × V) (p : PyData × PyData) => p.1 = kd kv.1 ∧ Dp X.K H kv.2 p.2 ∧ atomD p.2 = true) kvs ps → KV kvs vs → Pairs (mixKind X.prog X.w) es vs →
    ReadsAll s.heap (es.map (·.key)) (ps.map (·.1)) [] ∧ ReadsAll s.heap (es.map (·.val)) (ps.map (·.2)) []
  | [], [], [], [], .nil, .nil, .nil => ⟨.nil, .nil⟩
  | kv :: kvs, p :: ps, v :: vs, e :: es, .cons ⟨h1, h2, h3⟩ t, .cons ⟨r1, r2⟩ t2, .cons k1 k2 t3 => by
    obtain ⟨a, b⟩ := flat_reads I t t2 t3
    constructor
    · have kr : Reads s.heap e.key p.1 [] := by
        rw [h1, r1]
        rcases keyIs_shape k1 with ⟨i, tk, q1, q2⟩ | ⟨x, tk, q1, q2⟩
        · rw [q1, q2]; exact .int i tk
        · rw [q1, q2]; exact .str x tk
      exact .cons (as := []) (bs := []) kr a
    · have vr : Reads s.heap e.val p.2 [] := by
        rw [k2]
        obtain ⟨as, q⟩ := Dp.reads I p.2 kv.2 v.2 h2 r2
        have e := atom_reads q h3
        rw [e] at q; exact q
      exact .cons (as := []) (bs := []) vr b
theorem call_reprD (hg : X.A.guards = some []) (hu : X.A.units + 110 < cLine) : CallR X (.builtin "repr") (rReprD X.K) := by
  intro pins s σ H xs us Q I r h
  obtain ⟨v, d, rfl, hd, h1, h2, h3, q⟩ := h
  obtain ⟨u, rfl, ru⟩ := vals1 r
  have fin : ∀ {as : List Addr}, Reads s.heap u d as → (d.hasDict = true → sysModules ∉ as) → wpAny (model X.prog X.w) X.A (call (.builtin "repr") [u]) (EP X pins σ Q) X.xe s := fun hr hsm =>
    repr_reads hr h1 hsm (by rw [sizeLine_eq]; exact h2) X.A X.xe _ hg (by omega) fun h' tk t hk => ⟨.str _, H, I.kept hk, ⟨t, rfl⟩, q⟩
  rcases hd with ⟨c, hd⟩ | ⟨a, kvs, ps, rfl, rfl, hR, hP⟩
  · obtain ⟨as, hr⟩ := Dp.reads I d v u hd ru
    exact fin hr (PyData.noDict_hsm (PyData.hasDict_of_canLay d c))
  · have ru : u = .ref a := ru
    subst ru
    obtain ⟨_, hs, vs, kv, o, es, ep, g1, g2, g3, _, g4, _⟩ := dk_rd I.hok hR
    obtain ⟨k1, k2⟩ := flat_reads I hP kv g4
    refine fin (as := a :: [] ++ []) (.dict g1 g2.1 g3 k1 k2) fun _ hm => ?_
    rcases List.mem_append.mp hm with hm | hm
    · have e := List.mem_singleton.mp hm
      rw [← e] at hs
      simp at hs
    · cases hm
end
end SL

set_option Elab.async false
set_option linter.all false
set_option maxRecDepth 100000
set_option maxHeartbeats 4000000
/-! SL19: dict displays whose keys are texts that stand there. -/
namespace SL
open PySem PySem.Spec PyProof.Rows L2
def dDisp (ks : List Str) (dv : M (List PyData)) : M PyData := bnd dv fun vs => ret (.dict ((ks.map PyData.str).zip vs))
/-- the pairs' meaning: the keys with the values -/
def rdPs (K : PySem.W.Frag) (ks : List Str) (dv : M (List PyData)) (σ : L2.St) (H : Hp) (Q : List (V × V) → Hp → Prop) : Prop := ∃ env os G r env', Rel K H env σ os G ∧ dv env = some (r, env') ∧
  ∀ H' os' vs, Ext os os' H H' → Rel K H' env' σ os' G → RpAll K H' (Av os' G.Fr) vs r → Q ((ks.map V.str).zip vs) H'
structure SPs (X : Cx) (pos : Pos) (keys : List (Option Expr)) (vals : List Expr) (ks : List Str) (dv : M (List PyData)) : Prop where
  ex : ∃ trs, PPs X pos keys vals trs ∧ ∀ σ H Q, rdPs X.K ks dv σ H Q → tPairs trs σ H Q
  len : Len dv ks.length
theorem sps_nil {X : Cx} {pos : Pos} : SPs X pos [] [] [] aNil := by
  refine ⟨⟨[], pps_nil, fun σ H Q ⟨env, os, G, r, env', R, q, k⟩ => ?_⟩, len_nil⟩
  cases q
  exact k H os [] (Ext.refl _ _) R .nil
theorem sps_cons {X : Cx} {pos p1 : Pos} {j : Nat} {x : Str} {v : Expr} {keys : List (Option Expr)} {vals : List Expr} {ks : List Str} {d : M PyData} {dv : M (List PyData)} (hv : SE X v d) (hr : SPs X pos keys vals ks dv) :
    SPs X pos (some (.Constant (.str x) j p1) :: keys) (v :: vals) (x :: ks) (aCons d dv) := by
  obtain ⟨⟨trs, h1, h2⟩, hl⟩ := hr
  refine ⟨⟨(rdV false X.K (dC (.str x)), rdV false X.K d) :: trs, pps_cons se_str hv h1, fun σ H Q ⟨env, os, G, r, env', R, q, k⟩ => ?_⟩, len_cons hl⟩
  unfold aCons at q
  obtain ⟨y, e1, q1, q2⟩ := bnd_inv q
  obtain ⟨ys, e2, q3, q4⟩ := bnd_inv q2
  cases q4
  refine ⟨env, os, G, .str x, env, R, rfl, fun H1 os1 w x1 R1 p1 => ⟨env, os1, G, y, e1, R1, q1, fun H2 os2 u x2 R2 p2 => h2 σ H2 _ ⟨e1, os2, G, ys, env', R2, q3, fun H3 os3 us x3 R3 p3 => ?_⟩⟩⟩
  have pw := p1.strong
  have hw : w = .str x := by cases pw; rfl
  subst hw
  have pu := (p2.strong).ext x3
  exact k H3 os3 (u :: us) ((x1.trans x2).trans x3) R3 (.cons pu p3)
theorem putK_new {kvs : List (Key × V)} {k : Key} {v : V} (h : ∀ p ∈ kvs, p.1 ≠ k) : putK kvs k v = kvs ++ [(k, v)] := by
  unfold putK
  rw [if_neg]
  intro z
  obtain ⟨p, hp, e⟩ := List.any_eq_true.mp z
  exact h p hp (of_decide_eq_true e)
theorem merge_nodup : ∀ (more kvs : List (Key × V)), ((kvs ++ more).map (·.1)).Nodup → mergeK kvs more = kvs ++ more
  | [], kvs, _ => by show kvs = kvs ++ []; rw [List.append_nil]
  | p :: r, kvs, h => by
    show mergeK (putK kvs p.1 p.2) r = _
    have hn : ∀ q ∈ kvs, q.1 ≠ p.1 := by
      intro q hq e
      rw [List.map_append] at h
      exact (List.nodup_append.mp h).2.2 q.1 (List.mem_map.mpr ⟨q, hq, rfl⟩) p.1 (List.mem_map.mpr ⟨p, List.mem_cons_self, rfl⟩) e
    rw [putK_new hn, merge_nodup r _ (by rw [List.append_assoc]; exact h), List.append_assoc]; rfl
theorem RpK.zip {K H A} : ∀ {ks : List Str} {vs : List V} {ds : List PyData}, ks.length = ds.length → RpAll K H A vs ds → RpK K H A ((ks.map fun x => (Sum.inr x : Key)).zip vs) ((ks.map PyData.str).zip ds)
  | [], _, _, _, .nil => .nil
  | k :: ks, _, _, h, .cons a b => .cons (k := .inr k) a (RpK.zip (Nat.succ.inj h) b)
theorem zip_fst {α β} : ∀ {l : List α} {m : List β}, l.length = m.length → (l.zip m).map (·.1) = l
  | [], [], _ => rfl
  | x :: l, y :: m, h => by rw [List.zip_cons_cons, List.map_cons, zip_fst (Nat.succ.inj h)]
theorem zip_kV : ∀ (ks : List Str) (vs : List V), (ks.map V.str).zip vs = ((ks.map fun x => (Sum.inr x : Key)).zip vs).map fun kv => (kV kv.1, kv.2)
  | [], _ => rfl
  | _ :: _, [] => rfl
  | a :: ks, v :: vs => by
    rw [List.map_cons, List.map_cons, List.zip_cons_cons, List.zip_cons_cons, List.map_cons, zip_kV ks vs]; rfl
theorem sf_disp {X : Cx} {pos : Pos} {keys : List (Option Expr)} {vals : List Expr} {ks : List Str} {dv : M (List PyData)} (h : SPs X pos keys vals ks dv) (hn : ks.Nodup := by decide) (hall : keys.all (·.isSome) = true := by rfl) (hl : keys.length = vals.length := by rfl) (h0 : keys ≠ [] := by exact List.cons_ne_nil _ _)
    (h15 : keys.length ≤ 15 := by decide) (hk : ks.length ≤ 15 := by decide) : SF X (.Dict keys vals pos) (dDisp ks dv) := by
  obtain ⟨⟨trs, h1, h2⟩, hlen⟩ := h
  refine PE.imp (pe_disp h1 hall hl h0 h15) fun σ H Q ⟨env, os, G, r, env', R, q, k⟩ p np => ?_
  obtain ⟨rs, e1, q1, q2⟩ := bnd_inv q
  cases q2
  refine h2 σ _ _ ⟨env, os, G.plus p, rs, env', R.plus np trivial, q1, fun H' os' vs x R' pv => ?_⟩
  have nos : ∀ i, os i ≠ some p := fun i z => R.tracked (.inl ⟨i, z⟩) np
  have hp : H' p = some (.dK []) := x.keep p _ upd_same nos
  have hvs : vs.length = ks.length := pv.length.trans (hlen _ _ _ q1)
  refine ⟨hp, (ks.map fun x => (Sum.inr x : Key)).zip vs, ?_, ?_, ?_⟩
  · exact zip_kV ks vs
  · rw [List.length_zip, List.length_map]; omega
  · have hm : mergeK [] ((ks.map fun x => (Sum.inr x : Key)).zip vs) = (ks.map fun x => (Sum.inr x : Key)).zip vs := by
      refine merge_nodup _ [] ?_
      rw [List.nil_append, zip_fst (by rw [List.length_map, hvs])]
      exact List.Pairwise.map _ (fun a b hne e => hne (Sum.inr.inj e)) hn
    rw [hm]
    have kp : Keeps H' (L2.upd H' p (.dK ((ks.map fun x => (Sum.inr x : Key)).zip vs))) (Av os' (G.plus p).Fr) (Av os' (G.plus p).Fr) := fun b u _ r n => ⟨rq_upd (upd_ne fun z => n (.inr (.inr z))) r, n⟩
    refine k _ os' p ⟨fun b u hb nb => ?_, fun b u hb nb => ?_, fun b hb => ?_⟩ np (R'.upd (.inr rfl) trivial) (.dk upd_same ((RpK.zip (by rw [← hlen _ _ _ q1]) pv).map kp))
    · have z : b ≠ p := fun z => by subst z; rw [np] at hb; cases hb
      rw [upd_ne z]
      exact x.keep b u (by rw [upd_ne z]; exact hb) nb
    · have z : b ≠ p := fun z => by subst z; rw [np] at hb; cases hb
      exact x.own b u (by rw [upd_ne z]; exact hb) nb
    · by_cases z : b = p
      · subst z; rw [upd_same]; exact fun z => nomatch z
      · rw [upd_ne z]; exact x.trk b (by rw [upd_ne z]; exact hb)
end SL

set_option Elab.async false
set_option linter.all false
set_option maxRecDepth 100000
set_option maxHeartbeats 4000000
/-! SL20: a law whose def asks repr: by its body, at the very caller. -/
namespace SL
open PySem PySem.Spec PyProof.Rows L2
section
variable {P : Program} {w : World} {K : PySem.W.Frag} {mg : Str → Option Value} {base : Heap}
theorem law_start {N : List Str} {d : M Fl} (hN : 2 ≤ N.length) (hd : ∀ ns : List Int, ns.length ≤ 63 → ∃ e, d ([.no, .own (poolOf ns)] ++ List.replicate (N.length - 2) .no) = some (.rt (.bool true), e))
    {H : Hp} {a : Addr} {ns : List Int} (hS : SqL K H a (ns.map V.int)) (hl : ns.length ≤ 63) :
    (tSeq (tAsg (tCall (spPool K) [] E0 (tCons (tVar 0) tNil)) (gName 1)) (rdS K d)) { nx := fun _ _ => V.non = V.bl true, rt := fun v _ => v = V.bl true } (L2.start N [V.ref a]) H := by
  obtain ⟨e', he⟩ := hd ns hl
  obtain ⟨m, hm⟩ : ∃ m, N.length = m + 2 := ⟨N.length - 2, by omega⟩
  have e0 : L2.start N [V.ref a] = some (V.ref a) :: none :: List.replicate m none := by unfold L2.start; rw [hm]; rfl
  rw [e0]
  refine ⟨.ref a, rfl, a, ns, rfl, hS, hl, fun H' l p sm nl np nlp hL hp => ?_⟩
  have tr : ¬ (False : Prop) := id
  have rl : Rp K H' (Av (fun i => if i = 1 then some p else none) fun _ => False) (.ref l) (.list (ns.map .int)) := by
    refine .lst ⟨hL, fun z => ?_⟩ (RpAll.ofInts ns)
    rcases z with ⟨i, z⟩ | z
    · have z' : (if i = 1 then some p else none) = some l := z
      split at z'
      · cases z'; exact nlp rfl
      · cases z'
    · exact z
  have R : Rel K H' ([.no, .own (poolOf ns)] ++ List.replicate (N.length - 2) .no) (some (V.ref a) :: some (V.ref p) :: List.replicate m none) (fun i => if i = 1 then some p else none) ⟨fun _ => False, fun _ => none⟩ := by
    refine ⟨fun i => ?_, fun i j b h1 h2 => ?_, fun b z => z.elim, by simp [hm], fun i b z => by cases z⟩
    · rw [at_append]
      match i with
      | 0 => exact rfl
      | 1 => exact ⟨p, rfl, rfl, .lst hp (.cons rl (.cons (.int 0) (.cons (.int 0) (.cons (.int 0) (.cons (.int _) .nil)))))⟩
      | i + 2 => exact rfl
    · have h1' : (if i = 1 then some p else none) = some b := h1
      have h2' : (if j = 1 then some p else none) = some b := h2
      split at h1' <;> split at h2'
      · omega
      · cases h2'
      · cases h1'
      · cases h1'
  refine ⟨_, _, _, _, e', R, he, fun H2 os2 σ2 x2 R2 v pv => ?_⟩
  exact Rw.bool (.inl pv)
theorem fn_lawG {qual : Str} {st : Stmt} {f : Addr} {fd : FuncData} {N : List Str} {k : Nat} {d : M Fl} (F : L2.Fun K "law" qual st f fd) (S : FnScope N ["script"] (defScope st)) (hN : 2 ≤ N.length)
    (hd : ∀ ns : List Int, ns.length ≤ 63 → ∃ e, d ([.no, .own (poolOf ns)] ++ List.replicate (N.length - 2) .no) = some (.rt (.bool true), e)) (hk : Room (k + 1) callerA)
    (hbody : ∀ (cdv : Value) (s : Shared) (H : Hp) (E : XK), Room k (callerA.deeper (envOfC qual (defScope st) s.heap.objs.size f cdv)) →
      PSs (cxOf CX0 P w K mg base N qual (defScope st) f cdv callerA [] s H E).nox (defBody st) (tSeq (tAsg (tCall (spPool K) [] E0 (tCons (tVar 0) tNil)) (gName 1)) (rdS K d))) :
    LawRun P w K mg base f fd := by
  obtain ⟨oc, od, kV, doc, pm, an, cdv, ct, osl, rfl, lk, hcd⟩ := F.ex
  exact law_run lk hcd S hk fun s H a ns hS hl => ⟨_, (hbody cdv s H (fun _ _ _ => False) (hk.deeper _)).nox, law_start hN hd hS hl⟩
end
theorem hu110 {A : Around} {k : Nat} (hr : Room k A) : A.units + 110 < cLine := by have := hr.un; omega
/-- repr(e) -/
theorem se_repr {X : Cx} {e : Expr} {d : M PyData} {p pos : Pos} (hc : X.A.guards = some []) (hu : X.A.units + 110 < cLine) (hm : X.mg "repr" = none) (ha : SW X e d) (hg : Gl X "repr" := by rfl) (h1 : starEach [e] X.env = (false, eval e X.env) :: starEach [] X.env := by rfl) (hpl : (backTo pos (starEach [] X.env)).any (·.1) = false := by rfl) : SE X (.Call (.Name "repr" p) [e] [] pos) (d1 fRepr d) :=
  se_callB c1_repr (call_reprD hc hu) hg hm (by decide +kernel) ha (by decide) (by decide) h1 h1 hpl
end SL

set_option Elab.async false
set_option linter.all false
set_option maxRecDepth 100000
set_option maxHeartbeats 4000000
/-! SL21: walks over reversed(..) and zip(.., ..). -/
namespace SL
open PySem PySem.Spec PyProof.Rows L2
def seqRev : PyData → Option (List PyData) | .list ds => some ds.reverse | .tuple ds => some ds.reverse | _ => none
def iRev (d : M PyData) : M (List PyData) := bnd d fun x => lft (seqRev x)
theorem rev_get {α} {l : List α} {i : Nat} {x : α} (h : l.reverse[i]? = some x) : i < l.length ∧ l[l.length - 1 - i]? = some x := by
  obtain ⟨h1, _⟩ := List.getElem?_eq_some_iff.mp h
  rw [List.length_reverse] at h1
  refine ⟨h1, ?_⟩
  rw [← h, List.getElem?_reverse h1]
section
variable {X : Cx} {e a b : Expr} {d da db : M PyData} {tg : Expr} {pos p : Pos}
theorem si_rev (hg : Gl X "reversed") (hm : X.mg "reversed" = none) (h : SE X e d) (hs : starEach [e] X.env = (false, eval e X.env) :: starEach [] X.env := by rfl) : SI X tg (.Call (.Name "reversed" p) [e] [] pos) (iRev d) :=
  PI.imp (PI.sz (RT.pi_revA hg hm h hs)) fun σ H Q ⟨env, os, G, r, env', R, q0, k⟩ => by
  obtain ⟨x, e1, q1, q2⟩ := bnd_inv q0
  obtain ⟨q3, rfl⟩ := lft_inv q2
  refine ⟨env, os, G, _, env', R, q1, fun H1 os1 v x1 R1 p1 => ?_⟩
  have p1 := p1.strong
  cases p1 with
  | @lst a vs ds s q =>
    cases q3
    refine ⟨a, vs, rfl, .inl ⟨s.sq, fun sz => k H1 os1 _ x1 R1 (fun os2 H2 Fr2 kp tr i => ?_) (by rw [List.length_reverse, ← q.length]; exact sz.1 a vs s.sq)⟩⟩
    have h2 := kp a (.lst vs) trivial s.1 s.2
    have q2 : RpAll X.K H2 (Av os2 Fr2) vs ds := q.map kp
    have sq : SqL X.K H2 a vs := .inl (.inl h2.1)
    refine ⟨fun dd hd => ?_, fun hl => by rw [q.length]; rw [List.length_reverse] at hl; exact hl⟩
    obtain ⟨g1, g2⟩ := rev_get hd
    obtain ⟨v, hv, pv⟩ := q2.get g2
    rw [← q.length] at hv g1
    exact ⟨⟨g1, vs, v, sq, hv⟩, fun x H3 ⟨e, hy⟩ => by
      subst e
      have : v = x := Option.some.inj (hv.symm.trans (hy vs sq))
      subst this
      exact ⟨Same.refl _, pv⟩⟩
  | @tup a vs ds s q =>
    cases q3
    refine ⟨a, vs, rfl, .inr ⟨s.sq, fun sz => k H1 os1 _ x1 R1 (fun os2 H2 Fr2 kp tr i => ?_) (by rw [List.length_reverse, ← q.length]; exact sz.2 a vs s.sq)⟩⟩
    have s2 : SqT X.K H2 a vs := by
      rcases s with s | s
      · exact .inl (.inl (kp a (.tup vs) trivial s.1 s.2).1)
      · exact .inr s.1
    have q2 : RpAll X.K H2 (Av os2 Fr2) vs ds := q.map kp
    refine ⟨fun dd hd => ?_, fun hl => by rw [q.length]; rw [List.length_reverse] at hl; exact hl⟩
    obtain ⟨g1, g2⟩ := rev_get hd
    obtain ⟨v, hv, pv⟩ := q2.get g2
    rw [← q.length] at hv g1
    exact ⟨⟨g1, vs, v, s2, hv⟩, fun x H3 ⟨e, hy⟩ => by
      subst e
      have : v = x := Option.some.inj (hv.symm.trans (hy vs s2))
      subst this
      exact ⟨Same.refl _, pv⟩⟩
  | _ => cases q3
def zipT (xs ys : List PyData) : List PyData := (xs.zip ys).map fun p => .tuple [p.1, p.2]
def fZip : PyData → PyData → Option (List PyData) | .list a, .list b => some (zipT a b) | .tuple a, .tuple b => some (zipT a b) | _, _ => none
def iZip2 (da db : M PyData) : M (List PyData) := bnd da fun x => bnd db fun y => lft (fZip x y)
theorem zipT_get {xs ys : List PyData} {i : Nat} {d} (h : (zipT xs ys)[i]? = some d) : ∃ x y, xs[i]? = some x ∧ ys[i]? = some y ∧ d = .tuple [x, y] := by
  unfold zipT at h
  rw [List.getElem?_map] at h
  obtain ⟨⟨x, y⟩, hp, rfl⟩ := Option.map_eq_some_iff.mp h
  rw [List.getElem?_zip_eq_some] at hp
  exact ⟨x, y, hp.1, hp.2, rfl⟩
theorem zipT_length (xs ys : List PyData) : (zipT xs ys).length = min xs.length ys.length := by unfold zipT; simp
theorem pair_new {K H os} {Fr : Addr → Prop} {T : Addr} {x y : V} {dx dy} (tr : Trk H (Av os Fr)) (np : H T = none) (px : Rp K H (Av os Fr) x dx) (py : Rp K H (Av os Fr) y dy) :
    Same H (upd H T (.tup [x, y])) ∧ Rp K (upd H T (.tup [x, y])) (Av os Fr) (.ref T) (.tuple [dx, dy]) := by
  have sm := same_upd (o := .tup [x, y]) np
  refine ⟨sm, .tup (.inl ⟨upd_same, fun z => tr.no z np⟩) (.cons ?_ (.cons ?_ .nil))⟩
  · exact px.map (Keeps.same sm _)
  · exact py.map (Keeps.same sm _)
theorem si_zip {elts : List Expr} {kk : Nat} {tpos : Pos} (hg : Gl X "zip") (hm : X.mg "zip" = none) (ha : SE X a da) (hb : SE X b db)
    (hs : starEach [a, b] X.env = (false, eval a X.env) :: starEach [b] X.env := by rfl) (hs4 : starEach [b] X.env = (false, eval b X.env) :: starEach [] X.env := by rfl) (hpl : (backTo pos (starEach [b] X.env)).any (·.1) = false := by rfl) :
    SI X (.Tuple elts kk tpos) (.Call (.Name "zip" p) [a, b] [] pos) (iZip2 da db) :=
  PI.imp (PI.sz (RZ.pi_zipA hg hm (pa_cons ha (pa_cons hb pa_nil hs4) hs) hs hpl)) fun σ H Q ⟨env, os, G, r, env', R, q0, k⟩ => by
  obtain ⟨x, e1, q1, q0⟩ := bnd_inv q0
  obtain ⟨y, e2, q2, q0⟩ := bnd_inv q0
  obtain ⟨q3, rfl⟩ := lft_inv q0
  refine ⟨env, os, G, _, e1, R, q1, fun H1 os1 v x1 R1 p1 => ⟨e1, os1, G, _, env', R1, q2, fun H2 os2 u x2 R2 p2 => ?_⟩⟩
  have p1 := (p1.strong).ext x2
  have p2 := p2.strong
  cases p1 with
  | @lst a1 vs ds s q =>
    cases p2 with
    | @lst b1 us es t q' =>
      cases q3
      refine ⟨a1, b1, vs, us, rfl, .inl ⟨s.sq, t.sq, fun sz => k H2 os2 _ (x1.trans x2) R2 (fun os3 H3 Fr3 kp tr i => ?_) (by rw [zipT_length]; have := sz.1 a1 vs s.sq; rw [← q.length]; omega)⟩⟩
      have c1 := kp a1 (.lst vs) trivial s.1 s.2
      have c2 := kp b1 (.lst us) trivial t.1 t.2
      have r1 : RpAll X.K H3 (Av os3 Fr3) vs ds := q.map kp
      have r2 : RpAll X.K H3 (Av os3 Fr3) us es := q'.map kp
      have s1 : SqL X.K H3 a1 vs := .inl (.inl c1.1)
      have s2 : SqL X.K H3 b1 us := .inl (.inl c2.1)
      refine ⟨fun dd hd => ?_, fun hl => ⟨vs, us, s1, s2, by rw [zipT_length] at hl; rw [q.length, q'.length]; omega⟩⟩
      obtain ⟨x, y, hx, hy, rfl⟩ := zipT_get hd
      obtain ⟨v, hv, pv⟩ := r1.get hx
      obtain ⟨u, hu, pu⟩ := r2.get hy
      refine ⟨⟨vs, us, v, u, s1, s2, hv, hu⟩, fun z H4 ⟨T, x', y', e, np, eH, g1, g2⟩ => ?_⟩
      have : v = x' := Option.some.inj (hv.symm.trans (g1 vs s1))
      subst this
      have : u = y' := Option.some.inj (hu.symm.trans (g2 us s2))
      subst this
      subst e eH
      exact pair_new tr np pv pu
    | _ => cases q3
  | @tup a1 vs ds s q =>
    cases p2 with
    | @tup b1 us es t q' =>
      cases q3
      refine ⟨a1, b1, vs, us, rfl, .inr ⟨s.sq, t.sq, fun sz => k H2 os2 _ (x1.trans x2) R2 (fun os3 H3 Fr3 kp tr i => ?_) (by rw [zipT_length]; have := sz.2 a1 vs s.sq; rw [← q.length]; omega)⟩⟩
      have s1 : SqT X.K H3 a1 vs := by
        rcases s with s | s
        · exact .inl (.inl (kp a1 (.tup vs) trivial s.1 s.2).1)
        · exact .inr s.1
      have s2 : SqT X.K H3 b1 us := by
        rcases t with t | t
        · exact .inl (.inl (kp b1 (.tup us) trivial t.1 t.2).1)
        · exact .inr t.1
      have r1 : RpAll X.K H3 (Av os3 Fr3) vs ds := q.map kp
      have r2 : RpAll X.K H3 (Av os3 Fr3) us es := q'.map kp
      refine ⟨fun dd hd => ?_, fun hl => ⟨vs, us, s1, s2, by rw [zipT_length] at hl; rw [q.length, q'.length]; omega⟩⟩
      obtain ⟨x, y, hx, hy, rfl⟩ := zipT_get hd
      obtain ⟨v, hv, pv⟩ := r1.get hx
      obtain ⟨u, hu, pu⟩ := r2.get hy
      refine ⟨⟨vs, us, v, u, s1, s2, hv, hu⟩, fun z H4 ⟨T, x', y', e, np, eH, g1, g2⟩ => ?_⟩
      have : v = x' := Option.some.inj (hv.symm.trans (g1 vs s1))
      subst this
      have : u = y' := Option.some.inj (hu.symm.trans (g2 us s2))
      subst this
      subst e eH
      exact pair_new tr np pv pu
    | _ => cases q3
  | _ => cases q3
end
end SL

set_option Elab.async false
set_option linter.all false
set_option maxRecDepth 100000
set_option maxHeartbeats 4000000
/-! SL22: what is walked is a list or a tuple. -/
namespace SL
open PySem PySem.Spec PyProof.Rows L2
def seqLT : PyData → Option (List PyData) | .list ds => some ds | .tuple ds => some ds | _ => none
def iS (d : M PyData) : M (List PyData) := bnd d fun x => lft (seqLT x)
section
variable {X : Cx} {e : Expr} {d : M PyData} {tg : Expr}
def iBoth (K : PySem.W.Frag) (te : TE) : TI := fun σ H R => te σ H fun v H1 => ∃ (a : Addr) (xs : List V), v = .ref a ∧ ((SqL K H1 a xs ∧ R (Itl K a) H1) ∨ (SqT K H1 a xs ∧ R (Itt K a) H1))
theorem pi_both {te : TE} (he : PE X e te) : PI X tg e (iBoth X.K te) := ⟨fun pins s σ H R I h => thn (he.run pins s σ H _ I h) fun v s1 ⟨x, H1, I1, r1, a, xs, ex, q⟩ => by
  subst ex
  cases r1
  rcases q with ⟨hq, q⟩ | ⟨hq, q⟩
  · obtain ⟨its, _, p, _⟩ := I1.list hq
    refine wpAny_pyIter_list p.isList ⟨s1.heap.objs.size, [s1.heap.objs.size], _, _, H1, rfl, I1.kept (t' := s1.toks) fun b o z => Heap.get?_push_of_some _ z, turn_list a _, ⟨_, Heap.get?_push_size _ rfl, rfl, rfl⟩, fun b hb => ?_, q⟩
    rw [List.mem_singleton.mp hb]; exact I1.fpOk (Nat.le_refl _) (I1.hok.fresh (Nat.le_refl _))
  · obtain ⟨its, _, p, _⟩ := I1.tuple hq
    refine wpAny_pyIter_tuple (show s1.heap.IsTuple a its.toArray from p) ⟨s1.heap.objs.size, [s1.heap.objs.size], _, _, H1, rfl, I1.kept (t' := s1.toks) fun b o z => Heap.get?_push_of_some _ z, turn_tuple a _, ⟨_, Heap.get?_push_size _ rfl, rfl, rfl⟩, fun b hb => ?_, q⟩
    rw [List.mem_singleton.mp hb]; exact I1.fpOk (Nat.le_refl _) (I1.hok.fresh (Nat.le_refl _))⟩
theorem si_both (h : SE X e d) : SI X tg e (iS d) := PI.imp (PI.sz (pi_both h)) fun σ H Q ⟨env, os, G, r, env', R, q0, k⟩ => by
  obtain ⟨x, e1, q1, q2⟩ := bnd_inv q0
  obtain ⟨q3, rfl⟩ := lft_inv q2
  refine ⟨env, os, G, _, env', R, q1, fun H1 os1 v x1 R1 p1 => ?_⟩
  have p1 := p1.strong
  cases p1 with
  | @lst a vs ds s q =>
    cases q3
    refine ⟨a, vs, rfl, .inl ⟨s.sq, fun sz => k H1 os1 _ x1 R1 (fun os2 H2 Fr2 kp tr i => ?_) (by rw [← q.length]; exact sz.1 a vs s.sq)⟩⟩
    have h2 := kp a (.lst vs) trivial s.1 s.2
    have q2 : RpAll X.K H2 (Av os2 Fr2) vs r := q.map kp
    have sq : SqL X.K H2 a vs := .inl (.inl h2.1)
    refine ⟨fun dd hd => ?_, fun hl => ⟨vs, sq, by rw [q.length]; exact hl⟩⟩
    obtain ⟨v, hv, pv⟩ := q2.get hd
    exact ⟨⟨vs, v, sq, hv⟩, fun x H3 ⟨e, hy⟩ => by
      subst e
      have : v = x := Option.some.inj (hv.symm.trans (hy vs sq))
      subst this
      exact ⟨Same.refl _, pv⟩⟩
  | @tup a vs ds s q =>
    cases q3
    refine ⟨a, vs, rfl, .inr ⟨s.sq, fun sz => k H1 os1 _ x1 R1 (fun os2 H2 Fr2 kp tr i => ?_) (by rw [← q.length]; exact sz.2 a vs s.sq)⟩⟩
    have s2 : SqT X.K H2 a vs := by
      rcases s with s | s
      · exact .inl (.inl (kp a (.tup vs) trivial s.1 s.2).1)
      · exact .inr s.1
    have q2 : RpAll X.K H2 (Av os2 Fr2) vs r := q.map kp
    refine ⟨fun dd hd => ?_, fun hl => ⟨vs, s2, by rw [q.length]; exact hl⟩⟩
    obtain ⟨v, hv, pv⟩ := q2.get hd
    exact ⟨⟨vs, v, s2, hv⟩, fun x H3 ⟨e, hy⟩ => by
      subst e
      have : v = x := Option.some.inj (hv.symm.trans (hy vs s2))
      subst this
      exact ⟨Same.refl _, pv⟩⟩
  | _ => cases q3
end
end SL

set_option Elab.async false
set_option linter.all false
set_option maxRecDepth 100000
set_option maxHeartbeats 4000000
/-! SL23: for k in a dict that is a value (its keys are numbers and texts). -/
namespace SL
open PySem PySem.Spec PyProof.Rows L2
/-- the keys of the dict that stands in slot i -/
def iDV (i : Nat) : M (List PyData) := fun e => match e.at i with
  | .val (.dict ((.none, _) :: _)) => none
  | .val (.dict ps) => if ps.length ≤ 16777216 then some (ps.map (·.1), e) else none
  | _ => none
theorem iDV_inv {i : Nat} {e : En} {r e'} (h : iDV i e = some (r, e')) : ∃ ps : List (PyData × PyData), e.at i = .val (.dict ps) ∧ r = ps.map (·.1) ∧ e' = e ∧ (∀ x l, ps ≠ (.none, x) :: l) := by
  unfold iDV at h
  split at h
  · cases h
  · rename_i ps hn he
    split at h
    · cases h
      exact ⟨ps, he, rfl, rfl, fun x l z => hn x l z⟩
    · cases h
  · cases h
theorem RpK.get {K H A} : ∀ {kvs : List (Key × V)} {ps : List (PyData × PyData)} {i : Nat} {d}, RpK K H A kvs ps → (ps.map (·.1))[i]? = some d → ∃ k v, kvs[i]? = some (k, v) ∧ d = kd k
  | _, _, _, _, .nil, e => by simp at e
  | _, _, 0, _, .cons a _, e => by simp at e; subst e; exact ⟨_, _, rfl, rfl⟩
  | _, _, i + 1, _, .cons _ b, e => by
    obtain ⟨k, v, h1, h2⟩ := RpK.get (i := i) b (by simpa using e)
    exact ⟨k, v, by simpa using h1, h2⟩
theorem RpK.len {K H A} : ∀ {kvs : List (Key × V)} {ps : List (PyData × PyData)}, RpK K H A kvs ps → kvs.length = ps.length
  | _, _, .nil => rfl
  | _, _, .cons _ b => congrArg (· + 1) (RpK.len b)
theorem rp_kd {K H A} (k : Key) : Rp K H A (kV k) (kd k) := by cases k <;> first | exact .int _ | exact .str _
/-- what stands at a is swapped for the same dict, locked or not -/
theorem keeps_set {H : Hp} {a : Addr} {w : HO} {A : Addr → Prop} (h : ∀ u, dat u → Rq H a u → Rq (L2.upd H a w) a u) : Keeps H (L2.upd H a w) A A := fun b u d r n => ⟨by
  by_cases e : b = a
  · subst e; exact h u d r
  · exact rq_upd (upd_ne e) r, n⟩
theorem lock_rq {H : Hp} {a : Addr} {kvs : List (Key × V)} (h : H a = some (.dK kvs)) (od : Obj) : ∀ u, dat u → Rq H a u → Rq (L2.upd H a (.frz od (.dK kvs))) a u := fun u d r => by
  have one : ∀ {w}, H a = some w → w = .dK kvs := fun e => Option.some.inj (e.symm.trans h)
  cases u with
  | dK k2 =>
    rcases r with r | ⟨o, r⟩
    · have := one r; cases this; exact .inr ⟨od, upd_same⟩
    · cases one r
  | dT k2 =>
    rcases r with r | ⟨o, r⟩
    · cases one r
    · cases one r
  | frz _ _ => exact d.elim
  | _ => cases one r
theorem unlock_rq {H : Hp} {a : Addr} {kvs : List (Key × V)} {od : Obj} (h : H a = some (.frz od (.dK kvs))) : ∀ u, dat u → Rq H a u → Rq (L2.upd H a (.dK kvs)) a u := fun u d r => by
  have one : ∀ {w}, H a = some w → w = .frz od (.dK kvs) := fun e => Option.some.inj (e.symm.trans h)
  cases u with
  | dK k2 =>
    rcases r with r | ⟨o, r⟩
    · cases one r
    · have := one r; cases this; exact .inl upd_same
  | dT k2 =>
    rcases r with r | ⟨o, r⟩
    · cases one r
    · cases one r
  | frz _ _ => exact d.elim
  | _ => cases one r
theorem Rel.set {K H env σ os G a w} (R : Rel K H env σ os G) (n : ¬ Av os G.Fr a) (h : ∀ u, dat u → Rq H a u → Rq (L2.upd H a w) a u) : Rel K (L2.upd H a w) env σ os G := by
  have kp := keeps_set (A := Av os G.Fr) h
  refine ⟨fun i => (R.sl i).map kp fun b e => upd_ne fun z => n (.inl ⟨i, z ▸ e⟩), R.inj, fun b hb => ?_, R.len, R.lt⟩
  obtain ⟨⟨u, m, r⟩, q⟩ := R.fr b hb
  exact ⟨⟨u, m, rq_upd (upd_ne fun z => n (.inr (z ▸ hb))) r⟩, q⟩
section
variable {X : Cx} {e : Expr} {tg : Expr} {pos p : Pos} {body : List Stmt} {d1' : M Fl} {g : PyData → En → Option En} {ts : List Nat}
def lockD (D : Ends) (a : Addr) (od : Obj) (u : HO) : Ends := ⟨fun σ' H' => H' a = some (.frz od u) ∧ D.nx σ' (L2.upd H' a u), fun v H' => H' a = some (.frz od u) ∧ D.rt v (L2.upd H' a u), fun σ' H' => H' a = some (.frz od u) ∧ D.bk σ' (L2.upd H' a u), fun σ' H' => H' a = some (.frz od u) ∧ D.ct σ' (L2.upd H' a u)⟩
theorem post_lock {K H os os' G env' σ' D r H' a od} {kvs : List (Key × V)} (h : H a = some (.dK kvs)) (n : ¬ Av os G.Fr a) (x : Ext os os' (L2.upd H a (.frz od (.dK kvs))) H') (k : ∀ H' os' σ', Ext os os' H H' → Post K H H' os' G env' σ' D r) :
    Post K (L2.upd H a (.frz od (.dK kvs))) H' os' G env' σ' (lockD D a od (.dK kvs)) r := by
  have na : ∀ i, os i ≠ some a := fun i z => n (.inl ⟨i, z⟩)
  have ha : H' a = some (.frz od (.dK kvs)) := x.keep a _ upd_same na
  have na' : ∀ i, os' i ≠ some a := x.own a _ upd_same na
  have n' : ¬ Av os' G.Fr a := fun z => z.elim (fun ⟨i, z⟩ => na' i z) fun z => n (.inr z)
  have hne : ∀ {b o}, H b = some o → b ≠ a → L2.upd H a (.frz od (.dK kvs)) b = some o := fun q z => (upd_ne z).trans q
  have y : Ext os os' H (L2.upd H' a (.dK kvs)) := ⟨fun b o q m => by
      by_cases z : b = a
      · subst z; rw [h] at q; cases q; exact upd_same
      · rw [upd_ne z]; exact x.keep b o (hne q z) m, fun b o q m => by
      by_cases z : b = a
      · subst z; exact na'
      · exact x.own b o (hne q z) m, fun b q => by
      by_cases z : b = a
      · subst z; rw [upd_same]; exact fun w => nomatch w
      · rw [upd_ne z]; exact x.trk b (by rw [upd_ne z]; exact q)⟩
  have kk := k (L2.upd H' a (.dK kvs)) os' σ' y
  have kp := keeps_set (A := Av os' G.Fr) (unlock_rq ha)
  cases r with
  | nx => exact fun R => ⟨ha, kk (R.set n' (unlock_rq ha))⟩
  | bk => exact fun R => ⟨ha, kk (R.set n' (unlock_rq ha))⟩
  | ct => exact fun R => ⟨ha, kk (R.set n' (unlock_rq ha))⟩
  | rt d => exact fun R v pv => ⟨ha, kk (R.set n' (unlock_rq ha)) v (pv.map kp)⟩
  | ro d =>
    intro b hb R o
    have hba : b ≠ a := fun z => by subst z; rw [upd_same] at hb; cases hb
    have hb' : H b = none := by rwa [upd_ne hba] at hb
    have n2 : ¬ Av os' (G.plus b).Fr a := fun z => z.elim (fun ⟨i, z⟩ => na' i z) fun z => z.elim (fun z => n (.inr z)) fun z => hba z.symm
    exact ⟨ha, kk b hb' (R.set n2 (unlock_rq ha)) (o.map (keeps_set (unlock_rq ha)) (upd_ne hba))⟩
theorem walk_dict {K : PySem.W.Frag} {os : Os} {G : Gh} {H : Hp} {a : Addr} {od : Obj} {kvs : List (Key × V)} {ps : List (PyData × PyData)} (ha : H a = some (.frz od (.dK kvs))) (n : ¬ Av os G.Fr a) (r : RpK K H (Av os G.Fr) kvs ps) {os2 : Os} {H2 : Hp} (x : Ext os os2 H H2) :
    ∀ i, (∀ d, (ps.map (·.1))[i]? = some d → (Itk a od kvs).go i H2 ∧ ∀ z H3, (Itk a od kvs).yld i H2 z H3 → Same H2 H3 ∧ Rp K H3 (Av os2 G.Fr) z d) ∧ ((ps.map (·.1)).length ≤ i → (Itk a od kvs).stop i H2) := fun i => by
  have h2 : H2 a = some (.frz od (.dK kvs)) := x.keep a _ ha fun i z => n (.inl ⟨i, z⟩)
  refine ⟨fun d hd => ?_, fun hl => ⟨h2, by rw [r.len]; rwa [List.length_map] at hl⟩⟩
  obtain ⟨k, v, hk, rfl⟩ := r.get hd
  have hi : i < kvs.length := (List.getElem?_eq_some_iff.mp hk).1
  refine ⟨⟨h2, hi⟩, fun z H3 ⟨e, k', v', hk', ez⟩ => ?_⟩
  subst e ez
  rw [hk] at hk'; cases hk'
  exact ⟨Same.refl _, rp_kd k⟩
/-- the body of ss_for over a walk that is known where the loop begins -/
theorem for_run {J : It} {D : Ends} {σ : L2.St} {H : Hp} {env env' : En} {os : Os} {G : Gh} {r : Fl} {items : List PyData} (R : Rel X.K H env σ os G) (q : forGo g d1' items env = some (r, env')) (k : ∀ H' os' σ', Ext os os' H H' → Post X.K H H' os' G env' σ' D r)
    (wk : ∀ os2 H2, Ext os os2 H H2 → ∀ i, (∀ d, items[i]? = some d → J.go i H2 ∧ ∀ z H3, J.yld i H2 z H3 → Same H2 H3 ∧ Rp X.K H3 (Av os2 G.Fr) z d) ∧ (items.length ≤ i → J.stop i H2)) :
    ∃ W : Nat → Nat → L2.St → Hp → Prop, (∃ m, W 0 m σ H) ∧ ∀ i m σ H, W i m σ H →
      (J.stop i H ∧ D.nx σ H) ∨ (J.go i H ∧ ∃ N : L2.St → Hp → Prop, (∀ σ' H', N σ' H' → ∃ m', m' < m ∧ W (i + 1) m' σ' H') ∧ ∀ x H', J.yld i H x H' → rdG X.K g ts x σ H' fun σ2 H2 => rdS X.K d1' { D with nx := N, ct := N, bk := D.nx } σ2 H2) := by
  refine ⟨fun i m σ3 H3 => m = items.length - i ∧ i ≤ items.length ∧ ∃ env3 os3, Ext os os3 H H3 ∧ Rel X.K H3 env3 σ3 os3 G ∧ forGo g d1' (items.drop i) env3 = some (r, env'), ⟨items.length, rfl, Nat.zero_le _, env, os, Ext.refl _ _, R, q⟩, ?_⟩
  rintro i m σ3 H3 ⟨rfl, hi', env3, os3, x3, R3, q3⟩
  by_cases hlt : i < items.length
  · obtain ⟨dd, hd⟩ : ∃ dd, items[i]? = some dd := ⟨items[i], List.getElem?_eq_getElem hlt⟩
    obtain ⟨go, step⟩ := (wk os3 H3 x3 i).1 dd hd
    refine .inr ⟨go, fun σ' H' => ∃ env4 os4, Ext os os4 H H' ∧ Rel X.K H' env4 σ' os4 G ∧ forGo g d1' (items.drop (i + 1)) env4 = some (r, env'),
      fun σ' H' ⟨e4, o4, a1, a2, a3⟩ => ⟨items.length - (i + 1), by omega, rfl, hlt, e4, o4, a1, a2, a3⟩, fun x H4 hy => ?_⟩
    obtain ⟨sm, px⟩ := step x H4 hy
    rw [List.drop_eq_getElem_cons hlt] at q3
    have hd' : items[i] = dd := Option.some.inj ((List.getElem?_eq_getElem hlt).symm.trans hd)
    rw [hd'] at q3
    obtain ⟨e4, q4, q5⟩ := Option.bind_eq_some_iff.mp q3
    obtain ⟨p5, q5, q6⟩ := Option.bind_eq_some_iff.mp q5
    refine ⟨env3, os3, G, dd, e4, R3.ofSame sm, px, q4, fun os5 σ5 x5 R5 _ _ => ⟨e4, os5, G, p5.1, p5.2, R5, q5, fun H6 os6 σ6 x6 => ?_⟩⟩
    have x7 : Ext os os6 H H6 := ((x3.trans (Ext.same _ sm)).trans x5).trans x6
    cases hr : p5.1 with
    | nx => rw [hr] at q6; exact fun R6 => ⟨p5.2, os6, x7, R6, q6⟩
    | ct => rw [hr] at q6; exact fun R6 => ⟨p5.2, os6, x7, R6, q6⟩
    | bk => rw [hr] at q6; cases q6; exact k H6 os6 σ6 x7
    | rt v => rw [hr] at q6; cases q6; exact k H6 os6 σ6 x7
    | ro v => rw [hr] at q6; cases q6; exact Post.mono ((x3.trans (Ext.same _ sm)).trk) (k H6 os6 σ6 x7)
  · have e : i = items.length := by omega
    subst e
    rw [List.drop_length] at q3
    cases q3
    exact .inl ⟨(wk os3 H3 x3 _).2 (Nat.le_refl _), k H3 os3 σ3 x3 R3⟩
theorem ps_or {st : Stmt} {t t' : TS} (h : PS X st t) (h' : PS X st t') : PS X st (fun D σ H => t D σ H ∨ t' D σ H) := ⟨fun pins s σ H D I q => q.elim (h.run pins s σ H D I) (h'.run pins s σ H D I)⟩
theorem ss_forD (i : Nat) {x : Str} (hp : PassesOwn (model X.prog X.w) X.A X.env X.xe) (hc : X.calm = true) (hg : SG X tg g ts) (hb : SB X body d1') (hN : X.N[i]? = some x := by rfl) (hv : Vis X.env.scope x := by first | exact Or.inl rfl | exact Or.inr (Or.inl rfl) | exact Or.inr (Or.inr rfl)) (hd : (x == ("__debug__" : Str)) = false := by decide) (hcd : (x == ("__classdict__" : Str)) = false := by decide)
    (hs : ∀ y, foldedSetIterable (.Name x p) X.env y = pure y := by intro _; rfl) : SS X (.For tg (.Name x p) body [] pos) (sFor (iDV i) g d1') := by
  have base := ps_for hp hc (pi_keys (tg := tg) (pe_var (pos := p) hN hv hd hcd)) hg hb (pos := pos) hs
  refine PS.imp (ps_or base (ps_lock base)) fun D σ H ⟨env, os, G, r, env', R, q, k⟩ => ?_
  obtain ⟨items, e1, q1, q2⟩ := bnd_inv q
  obtain ⟨ps, hat, rfl, rfl, hnn⟩ := iDV_inv q1
  have hsl := R.sl i
  rw [hat] at hsl
  obtain ⟨ho, v, hv', pv⟩ := hsl
  cases pv with
  | @dk a kvs _ rd na rk =>
    rcases rd with rd | ⟨od, rd⟩
    · refine .inr ⟨a, .dK kvs, rd, trivial, fun od => ?_⟩
      have R1 := R.set na (lock_rq rd od)
      refine ⟨.ref a, hv', a, od, rfl, .inl ⟨kvs, upd_same, ?_⟩⟩
      exact for_run R1 q2 (fun H' os' σ' xx => post_lock rd na xx k) fun os2 H2 xx => walk_dict upd_same na (rk.map (keeps_set (lock_rq rd od))) xx
    · refine .inl ⟨.ref a, hv', a, od, rfl, .inl ⟨kvs, rd, ?_⟩⟩
      exact for_run R q2 k fun os2 H2 xx => walk_dict rd na rk xx
  | dt => exact absurd rfl (hnn _ _)
end
end SL

set_option Elab.async false
set_option linter.all false
set_option maxRecDepth 100000
set_option maxHeartbeats 4000000
/-! SL24: list * int; f-strings. -/
namespace SL
open PySem PySem.Spec PyProof.Rows L2
def fRepL : PyData → PyData → Option PyData
  | .list ds, .int k => if 0 ≤ k ∧ k ≤ 1000 ∧ ds.length ≤ 1000 then some (.list (List.replicate k.toNat ds).flatten) else none
  | _, _ => none
theorem of_repL {K : PySem.W.Frag} : OpF K rRep fRepL := by
  intro H A vx vy x y z Q tr rx ry h k
  unfold fRepL at h
  split at h
  · rename_i ds n
    split at h
    · rename_i c; cases h
      obtain ⟨a, vs, rfl, s, r⟩ := rx.lst
      obtain ⟨c1, c2, c3⟩ := c
      have hm : vs.length * n.toNat ≤ 1000 * 1000 := Nat.mul_le_mul (by rw [r.length]; exact c3) (by omega)
      refine ⟨a, n, vs, rfl, ry.int, s, by omega, by omega, szl (by omega), fun p np => ?_⟩
      exact k p _ np trivial (.lst upd_same ((r.flat _).map (keeps_new np)))
    · cases h
  · cases h
theorem os_repL {K : PySem.W.Frag} : OpS K rRep fRepL := by
  intro H A vx vy x y z Q tr rx ry h k
  unfold fRepL at h
  split at h
  · rename_i ds n
    split at h
    · rename_i c; cases h
      obtain ⟨a, vs, rfl, s, r⟩ := rx.lst
      obtain ⟨c1, c2, c3⟩ := c
      have hm : vs.length * n.toNat ≤ 1000 * 1000 := Nat.mul_le_mul (by rw [r.length]; exact c3) (by omega)
      refine ⟨a, n, vs, rfl, ry.int, s, by omega, by omega, szl (by omega), fun p np => ?_⟩
      have sm := same_upd (o := .lst (List.replicate n.toNat vs).flatten) np
      exact k _ _ sm (.lst ⟨upd_same, fun z => tr.no z np⟩ ((r.flat _).map (Keeps.same sm A)))
    · cases h
  · cases h
/-! ### f-strings -/
def fFmt : PyData → Option PyData
  | .int i => if i.natAbs < 2 ^ 1000 then some (.str (toString i)) else none
  | .str y => if y.length ≤ 16777216 then some (.str y) else none
  | _ => none
def dFmt (d : M PyData) : M PyData := bnd d fun x => lft (fFmt x)
def dJoin : List (M PyData) → Str → M PyData
  | [], acc => ret (.str acc)
  | d :: ds, acc => bnd d fun x => match x with
    | .str y => fun e => if (acc ++ y).length ≤ 16777216 then dJoin ds (acc ++ y) e else none
    | _ => fun _ => none
section
variable {X : Cx} {e : Expr} {d : M PyData} {pos : Pos}
theorem se_fmt (h : SE X e d) : SE X (.FormattedValue e (-1) none pos) (dFmt d) := PE.imp (pe_fmt h) fun σ H Q ⟨env, os, G, z, env', R, q, k⟩ => by
  obtain ⟨y, e2, q3, q4⟩ := bnd_inv q
  obtain ⟨q5, rfl⟩ := lft_inv q4
  refine ⟨env, os, G, y, env', R, q3, fun H' os' v x R' p => ?_⟩
  have p := p.strong
  cases y with
  | int i =>
    simp only [fFmt] at q5
    split at q5
    · rename_i c; cases q5
      cases p
      exact .inr ⟨i, rfl, by
        have := PySem.Flt.log2_lt_of (k := 1000) (by decide) c
        omega, k H' os' _ x R' (.inl (.str _))⟩
    · cases q5
  | str y =>
    simp only [fFmt] at q5
    split at q5
    · rename_i c; cases q5
      cases p
      exact .inl ⟨y, rfl, szl c, k H' os' _ x R' (.inl (.str _))⟩
    · cases q5
  | _ => cases q5
inductive SJ (X : Cx) : List Expr → List (M PyData) → Prop where
  | nil : SJ X [] []
  | cons {e : Expr} {d : M PyData} {es : List Expr} {ds : List (M PyData)} (h : SE X e d) (r : SJ X es ds) : SJ X (e :: es) (d :: ds)
theorem SJ.pj {es : List Expr} {ds : List (M PyData)} (h : SJ X es ds) : PJ X es (ds.map fun d => rdV false X.K d) := by
  induction h with
  | nil => exact .nil
  | cons h r ih => exact .cons h ih
theorem join_run : ∀ (ds : List (M PyData)) (acc : Str) {σ : L2.St} {H H0 : Hp} {env env' : En} {os os0 : Os} {G : Gh} {z : PyData} {Q : Str → Hp → Prop}, Rel X.K H env σ os G → Ext os0 os H0 H → dJoin ds acc env = some (z, env') →
    (∀ (H' : Hp) (os' : Os) (out : Str), Ext os0 os' H0 H' → Rel X.K H' env' σ os' G → z = .str out → Q out H') → tJs (ds.map fun d => rdV false X.K d) acc σ H Q
  | [], acc, σ, H, H0, env, env', os, os0, G, z, Q, R, x, q, k => by
    cases q
    exact k H os acc x R rfl
  | d :: ds, acc, σ, H, H0, env, env', os, os0, G, z, Q, R, x, q, k => by
    unfold dJoin at q
    obtain ⟨y, e1, q1, q2⟩ := bnd_inv q
    refine ⟨env, os, G, y, e1, R, q1, fun H1 os1 v x1 R1 p1 => ?_⟩
    have p1 := p1.strong
    cases y with
    | str y =>
      simp only at q2
      split at q2
      · rename_i c
        cases p1
        exact ⟨y, rfl, szl c, join_run ds (acc ++ y) R1 (x.trans x1) q2 k⟩
      · cases q2
    | _ => cases q2
theorem se_join {v1 v2 : Expr} {rest : List Expr} {ds : List (M PyData)} (h : SJ X (v1 :: v2 :: rest) ds) : SE X (.JoinedStr (v1 :: v2 :: rest) pos) (dJoin ds Str.empty) := PE.imp (pe_joined h.pj) fun σ H Q ⟨env, os, G, z, env', R, q, k⟩ =>
  join_run ds Str.empty R (Ext.refl _ _) q fun H' os' out x R' e => by subst e; exact k H' os' _ x R' (.inl (.str _))
end
end SL

set_option Elab.async false
set_option linter.all false
set_option maxRecDepth 100000
set_option maxHeartbeats 4000000
/-! SL25: t[::-1] of a tuple. -/
namespace SL
open PySem PySem.Spec PyProof.Rows L2
section
variable {prog : Program} {w : World} {A : Around} {E : Value → Shared → Prop} {s : Shared}
theorem adj_rev (n : Nat) : Builtin.Slice.sliceAdjust none none (-1) (n : Int) = ((n : Int) - 1, -1) := rfl
theorem places_rev (n : Nat) : Builtin.Slice.slicePlaces ((n : Int) - 1) (-1) (-1) = n := by
  unfold Builtin.Slice.slicePlaces
  rw [if_neg (by decide)]
  by_cases h : (n : Int) - 1 > -1
  · rw [if_pos h, show -(-1 : Int) = 1 by decide, Int.ediv_one]; omega
  · rw [if_neg h]; omega
theorem pick_rev (xs : Array Value) : ((List.range xs.size).filterMap fun (k : Nat) => xs[(((xs.size : Int) - 1) + (k : Int) * (-1)).toNat]?).toArray = xs.toList.reverse.toArray := by
  refine congrArg List.toArray ?_
  have e : ∀ (l : List Nat) (ys : List Value), ys.length = l.length → (∀ i (h : i < l.length) (h2 : i < ys.length), xs[(((xs.size : Int) - 1) + (l[i] : Int) * (-1)).toNat]? = some ys[i]) → (l.filterMap fun (k : Nat) => xs[(((xs.size : Int) - 1) + (k : Int) * (-1)).toNat]?) = ys := by
    intro l
    induction l with
    | nil => intro ys h _; rw [List.length_eq_zero_iff.mp h]; rfl
    | cons k l ih =>
      intro ys h hx
      cases ys with
      | nil => simp at h
      | cons y ys =>
        have h0 := hx 0 (by simp) (by simp)
        simp only [List.getElem_cons_zero] at h0
        rw [List.filterMap_cons, h0]
        refine congrArg (y :: ·) (ih ys (by simpa using h) fun i a b => ?_)
        have := hx (i + 1) (by simpa using a) (by simpa using b)
        simpa using this
  refine e _ _ (by simp) fun i h h2 => ?_
  have hi : i < xs.size := by simpa using h
  rw [List.getElem_range, show (((xs.size : Int) - 1) + (i : Int) * (-1)).toNat = xs.size - 1 - i by omega, List.getElem_reverse]
  rw [Array.getElem?_eq_getElem (by omega)]
  simp
theorem applied_rev {sl : Addr} {vl vu vs : Value} {n : Nat} {Q : Int × Int × Nat → Shared → Prop} (hs : s.heap.IsSliceOf sl vl vu vs) (pl : IsPart vl none) (pu : IsPart vu none) (ps : IsPart vs (some (-1))) (h : Q ((n : Int) - 1, -1, n) s) :
    wpAny (model prog w) A (Builtin.Slice.sliceApplied (.ref sl) (pure (n : Int))) Q E s := by
  cases pl; cases pu
  cases ps with
  | int i t =>
    obtain ⟨ob, hos, _, hds⟩ := id hs
    unfold Builtin.Slice.sliceApplied; unfold Builtin.Slice.sliceFields
    refine wpAny_bind (wpAny_bind (wpAny_field hos hds (x := .none) rfl (wpAny_bind (wpAny_field hos hds (x := .none) rfl (wpAny_bind (wpAny_field hos hds (x := .int (-1) t) rfl (wpAny_pure ?_)))))))
    refine wpAny_bind (slicePart_int ?_)
    show wpAny _ _ (if ((-1 : Int) == 0) = true then _ else _) _ _ s
    rw [if_neg (show ¬ ((-1 : Int) == 0) = true by decide)]
    refine wpAny_bind (slicePart_none (wpAny_bind (slicePart_none (wpAny_bind (wpAny_pure ?_)))))
    show wpAny _ _ (pure ((Builtin.Slice.sliceAdjust none none (-1) (n : Int)).1, (-1 : Int), Builtin.Slice.slicePlaces (Builtin.Slice.sliceAdjust none none (-1) (n : Int)).1 (Builtin.Slice.sliceAdjust none none (-1) (n : Int)).2 (-1))) _ _ s
    rw [adj_rev, places_rev]
    exact wpAny_pure h
theorem item_rev {t sl : Addr} {items : Array Value} {vl vu vs : Value} {Q : Value → Shared → Prop} (ht : IsTup s.heap t items) (hs : s.heap.IsSliceOf sl vl vu vs) (pl : IsPart vl none) (pu : IsPart vu none) (ps : IsPart vs (some (-1)))
    (h : Q (.ref s.heap.objs.size) { s with heap := s.heap.push { cls := .type "tuple", data := .seq items.toList.reverse.toArray } }) (hsz : items.size ≤ sizeLine) : wpAny (model prog w) A (getItem (.ref t) (.ref sl)) Q E s := by
  have hok : sizeOk (.seq items.toList.reverse.toArray) := by
    show items.toList.reverse.toArray.size ≤ sizeLine
    rw [List.size_toArray, List.length_reverse, Array.length_toList]; exact hsz
  obtain ⟨ob, hos, hcs, _⟩ := id hs
  unfold getItem; try with_reducible refine wpAny_holding ?_
  refine wpAny_bind (wpAny_sequenceKey ht.typeIs (by decide) (wpAny_bind (wpAny_callSpecial?_slot (name := Str.ofString "__getitem__") ht.typeIs PyProof.Rows.slot_tuple_getitem
    (wpAny_call_entry PyProof.Rows.slot_tuple_getitem ht.typeIs entry_tuple_getitem ?_ (args_tuple_getitem _ _)))))
  show wpAny _ _ (Builtin.Tuple.tupleItemsOf (.ref t) >>= _) _ _ s
  refine wpAny_bind (tupleItemsOf_ ht (wpAny_bind (wpAny_typeOf (show s.TypeIs (.ref sl) "slice" from ⟨ob, hos, hcs⟩) ?_)))
  rw [if_pos (show (Value.type "slice" == Value.type "slice") = true by decide)]
  refine wpAny_bind (applied_rev hs pl pu ps ?_)
  have hno : ¬ ((((items.size : Int) - 1) == 0 && (-1 : Int) == 1 && items.size == items.size) = true) := by
    rw [show ((-1 : Int) == 1) = false from rfl, Bool.and_false, Bool.false_and]; exact Bool.false_ne_true
  show wpAny _ _ (if (((items.size : Int) - 1) == 0 && (-1 : Int) == 1 && items.size == items.size) = true then _ else _) _ _ s
  rw [if_neg hno, pick_rev]
  first
    | exact wpAny_bind (m := Builtin.Tuple.tupleExact _) (wpAny_newObj_type (wpAny_pure ⟨_, rfl, wpAny_pure h⟩) hok)
    | exact wpAny_bind (m := Builtin.Tuple.tupleExact _) (wpAny_newObj_type (wpAny_bind (wpAny_pure (wpAny_pure ⟨_, rfl, wpAny_pure h⟩))) hok)
    | exact wpAny_bind (wpAny_bind (m := Builtin.Tuple.tupleExact _) (wpAny_newObj_type (wpAny_pure (wpAny_pure ⟨_, rfl, wpAny_pure h⟩)) hok))
    | exact wpAny_bind (wpAny_bind (m := Builtin.Tuple.tupleExact _) (wpAny_newObj_type (wpAny_pure ⟨_, rfl, wpAny_pure h⟩) hok))
end
section
variable {X : Cx} {a : Expr} {da : M PyData}
def tRevT (K : PySem.W.Frag) (te : TE) : TE := fun σ H Q => te σ H fun x H1 => ∃ b xs, x = .ref b ∧ SqT K H1 b xs ∧ ∀ p, H1 p = none → Q (.ref p) (L2.upd H1 p (.tup xs.reverse))
theorem pe_revT {e : Expr} {te : TE} {k : Nat} {p1 p2 p3 pos : Pos} (he : PE X e te) : PE X (.Subscript e (.Slice none none (some (.UnaryOp .USub (.Constant (.int 1) k p1) p2)) p3) pos) (tRevT X.K te) := ⟨fun pins s σ H Q I h => Subscript_ (thn (he.run pins s σ H _ I h) fun v t1 ⟨x, Ha, Ia, ra, b, xs, ex, hx, q⟩ => by
  subst ex; cases ra
  have step : PO X (some (.UnaryOp .USub (.Constant (.int 1) k p1) p2)) (tPart (tUn (rU fun i => .int (-i)) (tC (.int 1)))) := po_some (pe_un un_neg pe_int)
  refine wpAny_Slice (thn (po_none.run pins t1 σ Ha (fun o Hb => o = none ∧ Hb = Ha) Ia ⟨rfl, rfl⟩) fun vl t2 ⟨l, Hb, Ib, pl, el, eb⟩ => ?_)
  subst el eb
  refine thn (po_none.run pins t2 σ Hb (fun o Hc => o = none ∧ Hc = Hb) Ib ⟨rfl, rfl⟩) fun vu t3 ⟨u, Hc, Ic, pu, eu, ec⟩ => ?_
  subst eu ec
  refine thn (step.run pins t3 σ Hc (fun o Hd => o = some (-1) ∧ Hd = Hc) Ic ⟨1, rfl, -1, rfl, rfl, rfl⟩) fun vs t4 ⟨o, Hd, Id, ps, eo, ed⟩ => ?_
  subst eo ed
  have Ie : Inv X pins σ Hd { t4 with heap := t4.heap.push { cls := .type "slice", data := .fields #[vl, vu, vs] } } := Id.kept (t' := t4.toks) fun c ob q => Heap.get?_push_of_some _ q
  obtain ⟨its, r, ht, hz⟩ := Ie.tuple hx
  have hlen := r.length
  show wpAny (model X.prog X.w) X.A (subscriptTail e (.Slice none none (some (.UnaryOp .USub (.Constant (.int 1) k p1) p2)) p3) (.ref b) (.ref t4.heap.objs.size)) (EP X pins σ Q) X.xe { t4 with heap := t4.heap.push { cls := .type "slice", data := .fields #[vl, vu, vs] } }
  refine tail_any (ops := [.ref b, .ref t4.heap.objs.size]) ht.typeIs (PyProof.Rows.slot_tuple_getitem.lookup) ?_ (by with_unfolding_all rfl)
  refine item_rev ht (Heap.IsSliceOf.new _ vl vu vs) pl pu ps ?_ (by rw [List.size_toArray]; omega)
  exact ⟨.ref _, _, Ie.laid (t' := t4.toks) (o := .tup xs.reverse) (fun c ob q => Heap.get?_push_of_some _ q) (Nat.le_refl _) ⟨by rw [List.length_reverse]; exact hz, _, r.reverse, IsTup.new _ _⟩, rfl, q _ (Ie.hok.fresh (Nat.le_refl _))⟩)⟩
theorem pe_or {e : Expr} {t t' : TE} (h : PE X e t) (h' : PE X e t') : PE X e (fun σ H Q => t σ H Q ∨ t' σ H Q) := ⟨fun pins s σ H Q I q => q.elim (h.run pins s σ H Q I) (h'.run pins s σ H Q I)⟩
def fRevA : PyData → Option PyData | .list ds => some (.list ds.reverse) | .tuple ds => some (.tuple ds.reverse) | _ => none
theorem se_revA {k : Nat} {p1 p2 p3 pos : Pos} (ha : SE X a da) : SE X (.Subscript a (.Slice none none (some (.UnaryOp .USub (.Constant (.int 1) k p1) p2)) p3) pos) (d1 fRevA da) :=
  PE.imp (pe_or (pe_revL ha) (pe_revT ha)) fun σ H Q ⟨env, os, G, z, env', R, q, k⟩ => by
    obtain ⟨y, e2, q3, q4⟩ := bnd_inv q
    obtain ⟨q5, rfl⟩ := lft_inv q4
    cases y with
    | list ds =>
      cases q5
      refine .inl ⟨env, os, G, .list ds, env', R, q3, fun H' os' v x R' p => ?_⟩
      obtain ⟨a, vs, rfl, s, r⟩ := (p.rw R').lst
      refine ⟨a, vs, rfl, .inl (.inl s), fun p np => ?_⟩
      have sm := same_upd (o := .lst vs.reverse) np
      exact k _ os' _ (x.trans (Ext.same _ sm)) (R'.ofSame sm) (.inl (.lst ⟨upd_same, R'.new np⟩ (r.reverse'.map (Keeps.same sm _))))
    | tuple ds =>
      cases q5
      refine .inr ⟨env, os, G, .tuple ds, env', R, q3, fun H' os' v x R' p => ?_⟩
      obtain ⟨a, vs, rfl, s, r⟩ := (p.rw R').tup
      refine ⟨a, vs, rfl, s.sq, fun p np => ?_⟩
      have sm := same_upd (o := .tup vs.reverse) np
      exact k _ os' _ (x.trans (Ext.same _ sm)) (R'.ofSame sm) (.inl (.tup (.inl ⟨upd_same, R'.new np⟩) (r.reverse'.map (Keeps.same sm _))))
    | _ => cases q5
end
end SL

set_option Elab.async false
set_option linter.all false
set_option maxRecDepth 100000
set_option maxHeartbeats 4000000
/-! SL26: walking the keys of a dict, in a for and in a comprehension; list(dict); a display of one pair. -/
namespace SL
open PySem PySem.Spec PyProof.Rows L2
/-- the keys of a dict -/
def keysOf : PyData → Option (List PyData)
  | .dict ((.none, _) :: ps) => if ps.length ≤ 16777216 then some (ps.map (·.1)) else none
  | .dict ps => if ps.length ≤ 16777216 then some (ps.map (·.1)) else none
  | _ => none
def isDk : HO → Prop | .dK _ => True | .dT _ => True | _ => False
theorem isDk.mut {u : HO} (h : isDk u) : mutb u := by cases u <;> first | trivial | exact h.elim
theorem isDk.Mut {u : HO} (h : isDk u) : Mut (some u) := by cases u <;> first | trivial | exact h.elim
theorem lock_rqG {H : Hp} {a : Addr} {u0 : HO} (m : isDk u0) (h : H a = some u0) (od : Obj) : ∀ u, dat u → Rq H a u → Rq (L2.upd H a (.frz od u0)) a u := fun u d r => by
  have one : ∀ {w}, H a = some w → w = u0 := fun e => Option.some.inj (e.symm.trans h)
  cases u with
  | dK k2 =>
    rcases r with r | ⟨o, r⟩
    · have := one r; subst this; exact .inr ⟨od, upd_same⟩
    · have := one r; subst this; exact m.elim
  | dT k2 =>
    rcases r with r | ⟨o, r⟩
    · have := one r; subst this; exact .inr ⟨od, upd_same⟩
    · have := one r; subst this; exact m.elim
  | frz _ _ => exact d.elim
  | _ => have := one r; subst this; exact m.elim
theorem unlock_rqG {H : Hp} {a : Addr} {u0 : HO} {od : Obj} (m : isDk u0) (h : H a = some (.frz od u0)) : ∀ u, dat u → Rq H a u → Rq (L2.upd H a u0) a u := fun u d r => by
  have one : ∀ {w}, H a = some w → w = .frz od u0 := fun e => Option.some.inj (e.symm.trans h)
  cases u with
  | dK k2 =>
    rcases r with r | ⟨o, r⟩
    · cases one r
    · have := one r; injection this with _ e; subst e; exact .inl upd_same
  | dT k2 =>
    rcases r with r | ⟨o, r⟩
    · cases one r
    · have := one r; injection this with _ e; subst e; exact .inl upd_same
  | frz _ _ => exact d.elim
  | _ => cases one r
theorem Rel.notTup {K H env σ os G b xs} (R : Rel K H env σ os G) (h : H b = some (.tup xs)) : ¬ Av os G.Fr b := fun z => by
  rcases z with ⟨i, z⟩ | z
  · have s := R.sl i
    cases e : env.at i with
    | no => rw [e] at s; rw [show os i = none from s] at z; cases z
    | val d => rw [e] at s; rw [s.1] at z; cases z
    | own d =>
      rw [e] at s
      obtain ⟨a, e1, _, o⟩ := s
      rw [e1] at z; cases z
      obtain ⟨u, m, hu⟩ := o.rd
      rw [h] at hu; cases hu; exact m
    | lent d =>
      rw [e] at s
      obtain ⟨a, e1, _, o⟩ := s
      rw [e1] at z; cases z
      obtain ⟨u, m, hu⟩ := o.rd
      rw [h] at hu; cases hu; exact m
  · obtain ⟨⟨u, m, r⟩, _⟩ := R.fr b z
    cases u with
    | dK k => rcases r with r | ⟨o, r⟩ <;> (rw [h] at r; cases r)
    | dT k => rcases r with r | ⟨o, r⟩ <;> (rw [h] at r; cases r)
    | lst k => rw [show H b = some (.lst k) from r] at h; cases h
    | ins _ _ _ => rw [show H b = _ from r] at h; cases h
    | _ => exact m.elim
/-- behind the lock: what is done stands for the dict unlocked too -/
theorem ext_unlock {os os' : Os} {G : Gh} {H H' : Hp} {a : Addr} {od : Obj} {u0 : HO} (h : H a = some u0) (n : ¬ Av os G.Fr a) (x : Ext os os' (L2.upd H a (.frz od u0)) H') :
    H' a = some (.frz od u0) ∧ (¬ Av os' G.Fr a) ∧ Ext os os' H (L2.upd H' a u0) := by
  have na : ∀ i, os i ≠ some a := fun i z => n (.inl ⟨i, z⟩)
  have ha : H' a = some (.frz od u0) := x.keep a _ upd_same na
  have na' : ∀ i, os' i ≠ some a := x.own a _ upd_same na
  have hne : ∀ {b o}, H b = some o → b ≠ a → L2.upd H a (.frz od u0) b = some o := fun q z => (upd_ne z).trans q
  exact ⟨ha, fun z => z.elim (fun ⟨i, z⟩ => na' i z) fun z => n (.inr z), fun b o q m => by
      by_cases z : b = a
      · subst z; rw [h] at q; cases q; exact upd_same
      · rw [upd_ne z]; exact x.keep b o (hne q z) m, fun b o q m => by
      by_cases z : b = a
      · subst z; exact na'
      · exact x.own b o (hne q z) m, fun b q => by
      by_cases z : b = a
      · subst z; rw [upd_same]; exact fun w => nomatch w
      · rw [upd_ne z]; exact x.trk b (by rw [upd_ne z]; exact q)⟩
theorem RpK.hd {K H A} : ∀ {kvs : List (Key × V)} {d x : PyData} {l : List (PyData × PyData)}, RpK K H A kvs ((d, x) :: l) → ∃ k : Key, d = kd k
  | (k, _) :: _, _, _, _, .cons _ _ => ⟨k, rfl⟩
theorem RpT.get {K H A} : ∀ {kvs : List (List Key × V)} {ps : List (PyData × PyData)} {i : Nat} {d}, RpT K H A kvs ps → (ps.map (·.1))[i]? = some d → ∃ k v, kvs[i]? = some (k, v) ∧ d = .tuple (k.map kd)
  | _, _, _, _, .nil, e => by simp at e
  | _, _, 0, _, .cons a _, e => by simp at e; subst e; exact ⟨_, _, rfl, rfl⟩
  | _, _, i + 1, _, .cons _ b, e => by
    obtain ⟨k, v, h1, h2⟩ := RpT.get (i := i) b (by simpa using e)
    exact ⟨k, v, by simpa using h1, h2⟩
theorem RpT.len {K H A} : ∀ {kvs : List (List Key × V)} {ps : List (PyData × PyData)}, RpT K H A kvs ps → kvs.length = ps.length
  | _, _, .nil => rfl
  | _, _, .cons _ b => congrArg (· + 1) (RpT.len b)
theorem rp_kds {K H A} : ∀ k : List Key, RpAll K H A (k.map kV) (k.map kd)
  | [] => .nil
  | k :: r => .cons (rp_kd k) (rp_kds r)
/-- what a walk over a locked dict's keys is good for -/
def WkOk (K : PySem.W.Frag) (J : It) (os : Os) (H : Hp) (items : List PyData) : Prop := ∀ os2 H2 Fr, Ext os os2 H H2 → (∀ b xs, H2 b = some (.tup xs) → ¬ Av os2 Fr b) →
  ∀ i, (∀ d, items[i]? = some d → J.go i H2 ∧ ∀ z H3, J.yld i H2 z H3 → Same H2 H3 ∧ Rp K H3 (Av os2 Fr) z d) ∧ (items.length ≤ i → J.stop i H2)
theorem wk_dK {K : PySem.W.Frag} {os : Os} {A : Addr → Prop} {H H0 : Hp} {a : Addr} {od : Obj} {kvs : List (Key × V)} {ps : List (PyData × PyData)} (ha : H a = some (.frz od (.dK kvs))) (n : ∀ i, os i ≠ some a) (r : RpK K H0 A kvs ps) : WkOk K (Itk a od kvs) os H (ps.map (·.1)) := fun os2 H2 Fr x nt i => by
  have h2 : H2 a = some (.frz od (.dK kvs)) := x.keep a _ ha n
  refine ⟨fun d hd => ?_, fun hl => ⟨h2, by rw [r.len]; rwa [List.length_map] at hl⟩⟩
  obtain ⟨k, v, hk, rfl⟩ := r.get hd
  refine ⟨⟨h2, (List.getElem?_eq_some_iff.mp hk).1⟩, fun z H3 ⟨e, k', v', hk', ez⟩ => ?_⟩
  subst e ez
  rw [hk] at hk'; cases hk'
  exact ⟨Same.refl _, rp_kd k⟩
theorem wk_dT {K : PySem.W.Frag} {os : Os} {A : Addr → Prop} {H H0 : Hp} {a : Addr} {od : Obj} {kvs : List (List Key × V)} {ps : List (PyData × PyData)} (ha : H a = some (.frz od (.dT kvs))) (n : ∀ i, os i ≠ some a) (r : RpT K H0 A kvs ps) : WkOk K (Itkt a od kvs) os H (ps.map (·.1)) := fun os2 H2 Fr x nt i => by
  have h2 : H2 a = some (.frz od (.dT kvs)) := x.keep a _ ha n
  refine ⟨fun d hd => ?_, fun hl => ⟨h2, by rw [r.len]; rwa [List.length_map] at hl⟩⟩
  obtain ⟨k, v, hk, rfl⟩ := r.get hd
  refine ⟨⟨h2, (List.getElem?_eq_some_iff.mp hk).1⟩, fun z H3 ⟨e, k', v', q, hk', ez, hq⟩ => ?_⟩
  subst e ez
  rw [hk] at hk'; cases hk'
  exact ⟨Same.refl _, .tup (.inl ⟨hq, nt _ _ hq⟩) (rp_kds k)⟩
/-- where a dict that is read stands -/
def Src (X : Cx) (e : Expr) (d : M PyData) : Prop := ∃ te : TE, PE X e te ∧ ∀ {σ H env os G x env'}, Rel X.K H env σ os G → d env = some (x, env') → env' = env ∧ ∃ v, Rp X.K H (Av os G.Fr) v x ∧
  ∀ H1, (∀ b u, H b = some u → ¬ isDk u → H1 b = some u) → ∀ Q : V → Hp → Prop, Q v H1 → te σ H1 Q
/-- the lock: a dict that is read, the walk over its keys -/
theorem src_walk {X : Cx} {e : Expr} {d : M PyData} (h : Src X e d) : ∃ te : TE, PE X e te ∧ ∀ {σ H env os G items env'}, Rel X.K H env σ os G → (bnd d fun x => lft (keysOf x)) env = some (items, env') → env' = env ∧ items.length ≤ 16777216 ∧
    ((∃ J, (∀ R : It → Hp → Prop, R J H → iKeys te σ H R) ∧ WkOk X.K J os H items) ∨
     ∃ a u0, isDk u0 ∧ H a = some u0 ∧ (¬ Av os G.Fr a) ∧ ∀ od, ∃ J, (∀ R : It → Hp → Prop, R J (L2.upd H a (.frz od u0)) → iKeys te σ (L2.upd H a (.frz od u0)) R) ∧ WkOk X.K J os (L2.upd H a (.frz od u0)) items) := by
  obtain ⟨te, he, k⟩ := h
  refine ⟨te, he, fun {σ H env os G items env'} R q => ?_⟩
  obtain ⟨x, e1, q1, q2⟩ := bnd_inv q
  obtain ⟨q3, rfl⟩ := lft_inv q2
  obtain ⟨rfl, v, pv, kk⟩ := k R q1
  refine ⟨rfl, ?_⟩
  have idm : ∀ b u, H b = some u → ¬ isDk u → H b = some u := fun _ _ z _ => z
  cases pv with
  | @dk a kvs ps rd na rk =>
    have hq : ps.length ≤ 16777216 ∧ items = ps.map (·.1) := by
      unfold keysOf at q3
      split at q3
      · rename_i e
        injection e with e; subst e
        obtain ⟨k, e⟩ := rk.hd
        cases k <;> cases e
      · rename_i e
        injection e with e; subst e
        split at q3
        · rename_i hl; cases q3; exact ⟨hl, rfl⟩
        · cases q3
      · rename_i e; exact absurd rfl (e _)
    obtain ⟨hl, rfl⟩ := hq
    refine ⟨by rw [List.length_map]; exact hl, ?_⟩
    have no : ∀ i, os i ≠ some a := fun i z => na (.inl ⟨i, z⟩)
    rcases rd with rd | ⟨od, rd⟩
    · refine .inr ⟨a, .dK kvs, trivial, rd, na, fun od => ⟨Itk a od kvs, fun Rr hR => ?_, wk_dK upd_same no rk⟩⟩
      exact kk _ (fun b u hb nd => by
        by_cases z : b = a
        · subst z; rw [rd] at hb; cases hb; exact absurd trivial nd
        · rw [upd_ne z]; exact hb) _ ⟨a, od, rfl, .inl ⟨kvs, upd_same, hR⟩⟩
    · exact .inl ⟨Itk a od kvs, fun Rr hR => kk H idm _ ⟨a, od, rfl, .inl ⟨kvs, rd, hR⟩⟩, wk_dK rd no rk⟩
  | @dt a kvs ps rd na rk =>
    have hq : ps.length ≤ 16777216 ∧ items = ps.map (·.1) := by
      unfold keysOf at q3
      simp only at q3
      split at q3
      · rename_i hl; cases q3; exact ⟨hl, rfl⟩
      · cases q3
    obtain ⟨hl, rfl⟩ := hq
    refine ⟨by rw [List.length_map]; exact hl, ?_⟩
    have no : ∀ i, os i ≠ some a := fun i z => na (.inl ⟨i, z⟩)
    rcases rd with rd | ⟨od, rd⟩
    · refine .inr ⟨a, .dT kvs, trivial, rd, na, fun od => ⟨Itkt a od kvs, fun Rr hR => ?_, wk_dT upd_same no rk⟩⟩
      exact kk _ (fun b u hb nd => by
        by_cases z : b = a
        · subst z; rw [rd] at hb; cases hb; exact absurd trivial nd
        · rw [upd_ne z]; exact hb) _ ⟨a, od, rfl, .inr ⟨kvs, upd_same, hR⟩⟩
    · exact .inl ⟨Itkt a od kvs, fun Rr hR => kk H idm _ ⟨a, od, rfl, .inr ⟨kvs, rd, hR⟩⟩, wk_dT rd no rk⟩
  | _ => cases q3
section
variable {d : M PyData}
theorem comp_run {K : PySem.W.Frag} {vs ts : List Nat} {g : PyData → En → Option En} {tc : M Bool} (hts : ∀ j ∈ ts, j ∈ vs) {σ : L2.St} {H1 : Hp} {Q : VK} {e1 : En} {os1 : Os} {G : Gh} {items : List PyData} {p2 : List PyData × En} {J : It}
    (R1 : Rel K H1 e1 σ os1 G) (ok0 : okW e1 vs = true) (q2' : compGo vs g tc d items e1 = some p2) (hz : items.length ≤ 16777216) (wk : WkOk K J os1 H1 items)
    (k : ∀ H3 os3 D, Ext os1 os3 H1 H3 → H1 D = none → Rel K H3 (restore p2.2 e1 vs) σ os3 (G.plus D) → OwnAt K H3 (Av os3 (G.plus D).Fr) D (.list p2.1) → Q (.ref D) H3) :
    ∀ D, H1 D = none → ∃ W : Nat → Nat → Hp → Prop, (∃ m, W 0 m (upd H1 D (.lst []))) ∧ ∀ i m H, W i m H →
      (J.stop i H ∧ Q (.ref D) H) ∨ (J.go i H ∧ ∃ Nx : Hp → Prop, (∀ H', Nx H' → ∃ m', m' < m ∧ W (i + 1) m' H') ∧ ∀ x H', J.yld i H x H' → rdG K g ts x (wipe σ vs) H' fun σ2 H2 => wipe σ2 vs = wipe σ vs ∧ rdT K tc σ2 H2 fun b H3 =>
        if b = true then rdV false K d σ2 H3 fun y H4 => ∃ acc, H4 D = some (.lst acc) ∧ acc.length < sizeLine ∧ Nx (upd H4 D (.lst (acc ++ [y]))) else Nx H3) := by
  intro D nD
  have sm0 : Same H1 (upd H1 D (.lst [])) := same_upd nD
  have RD := R1.plus (u := .lst []) nD trivial
  have fD : ∀ a, (G.plus D).Fr a → G.Fr a ∨ H1 a = none := fun a h => h.elim .inl fun q => .inr (by rw [q]; exact nD)
  refine ⟨fun i m H3 => m = items.length - i ∧ i ≤ items.length ∧ ∃ env3 os3 acc ds, okW env3 vs = true ∧ env3.length = e1.length ∧ Ext os1 os3 H1 H3 ∧ Rel K H3 (wipeE env3 vs) (L2.wipe σ vs) os3 (G.plus D) ∧ H3 D = some (.lst acc) ∧ RpAll K H3 (Av os3 (G.plus D).Fr) acc ds ∧ ds.length ≤ i ∧
    ∃ rr, compGo vs g tc d (items.drop i) env3 = some (rr, p2.2) ∧ ds ++ rr = p2.1,
    ⟨items.length, rfl, Nat.zero_le _, e1, os1, [], [], ok0, rfl, Ext.same _ sm0, RD.wipe ok0 (wipe_length _ _) (fun i m => wipe_at m), upd_same, .nil, Nat.zero_le _, p2.1, q2', rfl⟩, ?_⟩
  rintro i m H3 ⟨rfl, hi', env3, os3, acc, ds, ok3, l3, x3, R3, hD, ra, hds, rr, q3, e3⟩
  by_cases hlt : i < items.length
  · obtain ⟨dd, hd⟩ : ∃ dd, items[i]? = some dd := ⟨items[i], List.getElem?_eq_getElem hlt⟩
    obtain ⟨go, step⟩ := (wk os3 H3 (G.plus D).Fr x3 (fun b xs h => R3.notTup h) i).1 dd hd
    rw [List.drop_eq_getElem_cons hlt] at q3
    have hd' : items[i] = dd := Option.some.inj ((List.getElem?_eq_getElem hlt).symm.trans hd)
    rw [hd'] at q3
    obtain ⟨e4, q4, q5⟩ := Option.bind_eq_some_iff.mp q3
    obtain ⟨t, q5, q6⟩ := Option.bind_eq_some_iff.mp q5
    refine .inr ⟨go, fun H' => ∃ env3 os3 acc ds, okW env3 vs = true ∧ env3.length = e1.length ∧ Ext os1 os3 H1 H' ∧ Rel K H' (wipeE env3 vs) (L2.wipe σ vs) os3 (G.plus D) ∧ H' D = some (.lst acc) ∧ RpAll K H' (Av os3 (G.plus D).Fr) acc ds ∧ ds.length ≤ i + 1 ∧
      ∃ rr, compGo vs g tc d (items.drop (i + 1)) env3 = some (rr, p2.2) ∧ ds ++ rr = p2.1, fun H' h => ⟨items.length - (i + 1), by omega, rfl, hlt, h⟩, fun x H4 hy => ?_⟩
    obtain ⟨sm, px⟩ := step x H4 hy
    have nD3 := (R3.fr D (.inr rfl)).2
    have hD4 : H4 D = some (.lst acc) := sm _ _ hD
    refine ⟨wipeE env3 vs, os3, G.plus D, dd, e4, R3.ofSame sm, px, q4, fun os5 σ5 x5 R5 l5 s5 => ⟨?_, e4, os5, G.plus D, t.1, t.2, R5, q5, fun H6 os6 x6 R6 => ?_⟩⟩
    · exact wipe_same (by rw [l5, wipe_length]) fun j hj => (s5 j fun z => hj (hts j z)).trans (wipe_at hj)
    · have x36 : Ext os3 os6 H3 H6 := ((Ext.same _ sm).trans x5).trans x6
      cases ht : t.1 with
      | false =>
        rw [ht, if_neg Bool.false_ne_true] at q6
        refine iteF ?_
        split at q6
        · rename_i ok6
          have hl6 : t.2.length = e1.length := by
            have a1 := R6.len; have a2 := R5.len; have a3 := R3.len
            rw [wipeE_length, l3, wipe_length] at a3
            rw [l5, wipe_length] at a1
            omega
          refine ⟨t.2, os6, acc, ds, ok6, hl6, x3.trans x36, R6.wipe ok6 (by rw [wipe_length, l5, wipe_length]) (fun j hj => by rw [wipe_at hj, s5 j fun z => hj (hts j z), wipe_at hj]), x36.keep D _ hD nD3, ra.ext x36, by omega, rr, q6, e3⟩
        · cases q6
      | true =>
        rw [ht, if_pos rfl] at q6
        refine iteT ?_
        obtain ⟨y, q7, q8⟩ := Option.bind_eq_some_iff.mp q6
        split at q8
        · rename_i ok7
          obtain ⟨r9, q9, q10⟩ := Option.map_eq_some_iff.mp q8
          refine ⟨t.2, os6, G.plus D, y.1, y.2, R6, q7, fun H7 os7 v x7 R7 p7 => ?_⟩
          have x37 := x36.trans x7
          have hD7 : H7 D = some (.lst acc) := x37.keep D _ hD nD3
          have ra7 := ra.ext x37
          have kp : Keeps H7 (upd H7 D (.lst (acc ++ [v]))) (Av os7 (G.plus D).Fr) (Av os7 (G.plus D).Fr) := fun b u _ r n => ⟨rq_upd (upd_ne fun z => n (.inr (.inr z))) r, n⟩
          have hl7 : y.2.length = e1.length := by
            have a1 := R7.len; have a3 := R3.len
            rw [wipeE_length, l3, wipe_length] at a3
            rw [l5, wipe_length] at a1
            omega
          have e10 : rr = y.1 :: r9.1 ∧ p2.2 = r9.2 := by
            have := Prod.mk.inj q10; exact ⟨this.1.symm, this.2.symm⟩
          refine ⟨acc, hD7, ?_, y.2, os7, acc ++ [v], ds ++ [y.1], ok7, hl7, ?_, ?_, upd_same, ?_, by rw [List.length_append, List.length_singleton]; omega, r9.1, ?_, ?_⟩
          · rw [ra.length]; exact szlt (by omega)
          · have xx := x3.trans x37
            refine ⟨fun b u hb nb => ?_, xx.own, fun b hb => ?_⟩
            · have z : b ≠ D := fun z => by subst z; rw [nD] at hb; cases hb
              rw [upd_ne z]; exact xx.keep b u hb nb
            · by_cases z : b = D
              · subst z; rw [upd_same]; exact fun z => nomatch z
              · rw [upd_ne z]; exact xx.trk b hb
          · refine Rel.wipe (R7.upd (o := .lst (acc ++ [v])) (.inr rfl) trivial) ok7 (by rw [wipe_length, l5, wipe_length]) (fun j hj => by rw [wipe_at hj, s5 j fun z => hj (hts j z), wipe_at hj])
          · exact (ra7.append (.one p7.strong)).map kp
          · rw [q9, e10.2]
          · rw [← e3, e10.1, List.append_assoc]; rfl
        · cases q8
  · have e : i = items.length := by omega
    subst e
    rw [List.drop_length] at q3
    cases q3
    rw [List.append_nil] at e3
    subst e3
    refine .inl ⟨(wk os3 H3 (G.plus D).Fr x3 (fun b xs h => R3.notTup h) _).2 (Nat.le_refl _), ?_⟩
    refine k H3 os3 D x3 nD ?_ (.lst hD ra)
    have hln : p2.2.length = e1.length := l3
    have kp2 := x3.keeps2 fD
    refine ⟨fun j => ?_, R3.inj, R3.fr, by rw [restore_length]; rw [hln]; exact R1.len, fun j b z => ?_⟩
    · rw [restore_at hln]
      have s3 := R3.sl j
      rw [wipeE_at] at s3
      by_cases m : j ∈ vs
      · rw [if_pos m] at s3 ⊢
        have s1 := R1.sl j
        have o3 : os3 j = none := s3
        rcases okW_at ok0 m with z | ⟨dz, z⟩
        · rw [z]; exact o3
        · rw [z] at s1 ⊢
          obtain ⟨_, v, h1, h2⟩ := s1
          exact ⟨o3, v, h1, h2.map kp2⟩
      · rw [if_neg m] at s3 ⊢
        rw [wipe_at m] at s3
        exact s3
    · obtain ⟨h1, dz, h2⟩ := R3.lt j b z
      refine ⟨h1, dz, ?_⟩
      rw [restore_at hln]
      rw [wipeE_at] at h2
      by_cases m : j ∈ vs
      · rw [if_pos m] at h2; cases h2
      · rw [if_neg m] at h2 ⊢; exact h2
end
section
variable {X : Cx} {e : Expr} {tg : Expr} {pos p : Pos} {body : List Stmt} {d1' : M Fl} {g : PyData → En → Option En} {ts : List Nat} {d ds : M PyData}
theorem post_lockG {K H os os' G env' σ' D r H' a od} {u0 : HO} (m : isDk u0) (h : H a = some u0) (n : ¬ Av os G.Fr a) (x : Ext os os' (L2.upd H a (.frz od u0)) H') (k : ∀ H' os' σ', Ext os os' H H' → Post K H H' os' G env' σ' D r) :
    Post K (L2.upd H a (.frz od u0)) H' os' G env' σ' (lockD D a od u0) r := by
  have na : ∀ i, os i ≠ some a := fun i z => n (.inl ⟨i, z⟩)
  have ha : H' a = some (.frz od u0) := x.keep a _ upd_same na
  have na' : ∀ i, os' i ≠ some a := x.own a _ upd_same na
  have n' : ¬ Av os' G.Fr a := fun z => z.elim (fun ⟨i, z⟩ => na' i z) fun z => n (.inr z)
  have hne : ∀ {b o}, H b = some o → b ≠ a → L2.upd H a (.frz od u0) b = some o := fun q z => (upd_ne z).trans q
  have y : Ext os os' H (L2.upd H' a u0) := ⟨fun b o q m => by
      by_cases z : b = a
      · subst z; rw [h] at q; cases q; exact upd_same
      · rw [upd_ne z]; exact x.keep b o (hne q z) m, fun b o q m => by
      by_cases z : b = a
      · subst z; exact na'
      · exact x.own b o (hne q z) m, fun b q => by
      by_cases z : b = a
      · subst z; rw [upd_same]; exact fun w => nomatch w
      · rw [upd_ne z]; exact x.trk b (by rw [upd_ne z]; exact q)⟩
  have kk := k (L2.upd H' a u0) os' σ' y
  have kp := keeps_set (A := Av os' G.Fr) (unlock_rqG m ha)
  cases r with
  | nx => exact fun R => ⟨ha, kk (R.set n' (unlock_rqG m ha))⟩
  | bk => exact fun R => ⟨ha, kk (R.set n' (unlock_rqG m ha))⟩
  | ct => exact fun R => ⟨ha, kk (R.set n' (unlock_rqG m ha))⟩
  | rt d => exact fun R v pv => ⟨ha, kk (R.set n' (unlock_rqG m ha)) v (pv.map kp)⟩
  | ro d =>
    intro b hb R o
    have hba : b ≠ a := fun z => by subst z; rw [upd_same] at hb; cases hb
    have hb' : H b = none := by rwa [upd_ne hba] at hb
    have n2 : ¬ Av os' (G.plus b).Fr a := fun z => z.elim (fun ⟨i, z⟩ => na' i z) fun z => z.elim (fun z => n (.inr z)) fun z => hba z.symm
    exact ⟨ha, kk b hb' (R.set n2 (unlock_rqG m ha)) (o.map (keeps_set (unlock_rqG m ha)) (upd_ne hba))⟩
/-- the body of ss_for over a walk that is known where the loop begins -/
theorem for_runT {J : It} {D : Ends} {σ : L2.St} {H : Hp} {env env' : En} {os : Os} {G : Gh} {r : Fl} {items : List PyData} (R : Rel X.K H env σ os G) (q : forGo g d1' items env = some (r, env')) (k : ∀ H' os' σ', Ext os os' H H' → Post X.K H H' os' G env' σ' D r)
    (wk : WkOk X.K J os H items) :
    ∃ W : Nat → Nat → L2.St → Hp → Prop, (∃ m, W 0 m σ H) ∧ ∀ i m σ H, W i m σ H →
      (J.stop i H ∧ D.nx σ H) ∨ (J.go i H ∧ ∃ N : L2.St → Hp → Prop, (∀ σ' H', N σ' H' → ∃ m', m' < m ∧ W (i + 1) m' σ' H') ∧ ∀ x H', J.yld i H x H' → rdG X.K g ts x σ H' fun σ2 H2 => rdS X.K d1' { D with nx := N, ct := N, bk := D.nx } σ2 H2) := by
  refine ⟨fun i m σ3 H3 => m = items.length - i ∧ i ≤ items.length ∧ ∃ env3 os3, Ext os os3 H H3 ∧ Rel X.K H3 env3 σ3 os3 G ∧ forGo g d1' (items.drop i) env3 = some (r, env'), ⟨items.length, rfl, Nat.zero_le _, env, os, Ext.refl _ _, R, q⟩, ?_⟩
  rintro i m σ3 H3 ⟨rfl, hi', env3, os3, x3, R3, q3⟩
  by_cases hlt : i < items.length
  · obtain ⟨dd, hd⟩ : ∃ dd, items[i]? = some dd := ⟨items[i], List.getElem?_eq_getElem hlt⟩
    obtain ⟨go, step⟩ := (wk os3 H3 G.Fr x3 (fun b xs h => R3.notTup h) i).1 dd hd
    refine .inr ⟨go, fun σ' H' => ∃ env4 os4, Ext os os4 H H' ∧ Rel X.K H' env4 σ' os4 G ∧ forGo g d1' (items.drop (i + 1)) env4 = some (r, env'),
      fun σ' H' ⟨e4, o4, a1, a2, a3⟩ => ⟨items.length - (i + 1), by omega, rfl, hlt, e4, o4, a1, a2, a3⟩, fun x H4 hy => ?_⟩
    obtain ⟨sm, px⟩ := step x H4 hy
    rw [List.drop_eq_getElem_cons hlt] at q3
    have hd' : items[i] = dd := Option.some.inj ((List.getElem?_eq_getElem hlt).symm.trans hd)
    rw [hd'] at q3
    obtain ⟨e4, q4, q5⟩ := Option.bind_eq_some_iff.mp q3
    obtain ⟨p5, q5, q6⟩ := Option.bind_eq_some_iff.mp q5
    refine ⟨env3, os3, G, dd, e4, R3.ofSame sm, px, q4, fun os5 σ5 x5 R5 _ _ => ⟨e4, os5, G, p5.1, p5.2, R5, q5, fun H6 os6 σ6 x6 => ?_⟩⟩
    have x7 : Ext os os6 H H6 := ((x3.trans (Ext.same _ sm)).trans x5).trans x6
    cases hr : p5.1 with
    | nx => rw [hr] at q6; exact fun R6 => ⟨p5.2, os6, x7, R6, q6⟩
    | ct => rw [hr] at q6; exact fun R6 => ⟨p5.2, os6, x7, R6, q6⟩
    | bk => rw [hr] at q6; cases q6; exact k H6 os6 σ6 x7
    | rt v => rw [hr] at q6; cases q6; exact k H6 os6 σ6 x7
    | ro v => rw [hr] at q6; cases q6; exact Post.mono ((x3.trans (Ext.same _ sm)).trk) (k H6 os6 σ6 x7)
  · have e : i = items.length := by omega
    subst e
    rw [List.drop_length] at q3
    cases q3
    exact .inl ⟨(wk os3 H3 G.Fr x3 (fun b xs h => R3.notTup h) _).2 (Nat.le_refl _), k H3 os3 σ3 x3 R3⟩
def iKy (d : M PyData) : M (List PyData) := bnd d fun x => lft (keysOf x)
theorem ss_forE (hsrc : Src X e ds) (hp : PassesOwn (model X.prog X.w) X.A X.env X.xe) (hc : X.calm = true) (hg : SG X tg g ts) (hb : SB X body d1')
    (hs : ∀ y, foldedSetIterable e X.env y = pure y := by intro _; rfl) : SS X (.For tg e body [] pos) (sFor (iKy ds) g d1') := by
  obtain ⟨te, he, kk⟩ := src_walk hsrc
  have base := ps_for hp hc (pi_keys (tg := tg) he) hg hb (pos := pos) hs
  refine PS.imp (ps_or base (ps_lock base)) fun D σ H ⟨env, os, G, r, env', R, q, k⟩ => ?_
  obtain ⟨items, e1, q1, q2⟩ := bnd_inv q
  obtain ⟨rfl, hl, w⟩ := kk R q1
  rcases w with ⟨J, hJ, wk⟩ | ⟨a, u0, m, ha, na, w⟩
  · exact .inl (hJ _ (for_runT R q2 k wk))
  · refine .inr ⟨a, u0, ha, m.Mut, fun od => ?_⟩
    obtain ⟨J, hJ, wk⟩ := w od
    exact hJ _ (for_runT (R.set na (lock_rqG m ha od)) q2 (fun H' os' σ' xx => post_lockG m ha na xx k) wk)
theorem comp_inv {vs : List Nat} {g : PyData → En → Option En} {c : M Bool} {el : M PyData} {di : M (List PyData)} {env r env'} (h : dComp vs di g c el env = some (r, env')) :
    ∃ items e1 p2, di env = some (items, e1) ∧ okW e1 vs = true ∧ compGo vs g c el items e1 = some p2 ∧ r = .list p2.1 ∧ env' = restore p2.2 e1 vs := by
  obtain ⟨items, e1, q1, q2⟩ := bnd_inv h
  split at q2
  · rename_i ok0
    obtain ⟨p2, q3, q4⟩ := Option.map_eq_some_iff.mp q2
    cases q4
    exact ⟨items, e1, p2, q1, ok0, q3, rfl, rfl⟩
  · cases q2
/-- both ways of a comprehension over a dict's keys: the dict is locked already, or it is locked here -/
theorem comp_both {te : TE} {vs : List Nat} {tc : M Bool} (hts : ∀ j ∈ ts, j ∈ vs) {σ H} {Q : VK} {env os G r env'}
    (kk : ∀ {σ H env os G items env'}, Rel X.K H env σ os G → (bnd ds fun x => lft (keysOf x)) env = some (items, env') → env' = env ∧ items.length ≤ 16777216 ∧
      ((∃ J, (∀ R : It → Hp → Prop, R J H → iKeys te σ H R) ∧ WkOk X.K J os H items) ∨
       ∃ a u0, isDk u0 ∧ H a = some u0 ∧ (¬ Av os G.Fr a) ∧ ∀ od, ∃ J, (∀ R : It → Hp → Prop, R J (L2.upd H a (.frz od u0)) → iKeys te σ (L2.upd H a (.frz od u0)) R) ∧ WkOk X.K J os (L2.upd H a (.frz od u0)) items))
    (R : Rel X.K H env σ os G) (q : dComp vs (iKy ds) g tc d env = some (r, env'))
    (k : ∀ H' os' a, Ext os os' H H' → H a = none → Rel X.K H' env' σ os' (G.plus a) → OwnAt X.K H' (Av os' (G.plus a).Fr) a r → Q (.ref a) H') :
    tLc (iKeys te) (rdG X.K g ts) (rdT X.K tc) (rdV false X.K d) vs σ H Q ∨ tLockE (tLc (iKeys te) (rdG X.K g ts) (rdT X.K tc) (rdV false X.K d) vs) σ H Q := by
  obtain ⟨items, e1, p2, q1, ok0, q2, rfl, rfl⟩ := comp_inv q
  obtain ⟨rfl, hl, w⟩ := kk R q1
  rcases w with ⟨J, hJ, wk⟩ | ⟨a, u0, m, ha, na, w⟩
  · exact .inl (hJ _ (comp_run hts R ok0 q2 hl wk fun H3 os3 D x n R3 o => k H3 os3 D x n R3 o))
  · refine .inr ⟨a, u0, ha, m.Mut, fun od => ?_⟩
    obtain ⟨J, hJ, wk⟩ := w od
    refine hJ _ (comp_run (Q := fun v H' => H' a = some (.frz od u0) ∧ Q v (L2.upd H' a u0)) hts (R.set na (lock_rqG m ha od)) ok0 q2 hl wk fun H3 os3 D x n R3 o => ?_)
    obtain ⟨h3, n3, x3⟩ := ext_unlock ha na x
    have hDa : D ≠ a := fun z => by subst z; rw [upd_same] at n; cases n
    have nD : H D = none := by rwa [upd_ne hDa] at n
    have n3' : ¬ Av os3 (G.plus D).Fr a := fun z => z.elim (fun q => n3 (.inl q)) fun z => z.elim (fun q => n3 (.inr q)) fun z => hDa z.symm
    exact ⟨h3, k _ os3 D x3 nD (R3.set n3' (unlock_rqG m h3)) (o.map (keeps_set (unlock_rqG m h3)) (upd_ne hDa))⟩
theorem sf_compE {elt iter : Expr} {ifs : List Expr} {scope : Scope} {own : List (Str × Nat)} {tc : M Bool} (hsrc : Src X iter ds) (hc : X.calm = true) (hN : X.N.Nodup) (ok : BlkOk X.N X.env.scope scope own)
    (hg : ∀ (s : Shared) (H : Hp) (C : Addr) (cl : List (Str × Addr)) (fp : List Addr), SG (X.blk s H scope (compEnvC scope cl C X.env) fp) tg g ts)
    (ht : ∀ (s : Shared) (H : Hp) (C : Addr) (cl : List (Str × Addr)) (fp : List Addr), PTs (X.blk s H scope (compEnvC scope cl C X.env) fp) ifs (rdT X.K tc))
    (he : ∀ (s : Shared) (H : Hp) (C : Addr) (cl : List (Str × Addr)) (fp : List Addr), SE (X.blk s H scope (compEnvC scope cl C X.env) fp) elt d)
    (hts : ∀ j ∈ ts, j ∈ own.map (·.2) := by decide) (hs : ∀ x, foldedSetIterable iter X.env x = pure x := by intro _; rfl) :
    SF X (.ListComp elt [⟨tg, iter, ifs, 0⟩] scope pos) (dComp (own.map (·.2)) (iKy ds) g tc d) := by
  obtain ⟨te, hte, kk⟩ := src_walk hsrc
  have base := pe_lc (pos := pos) (g := rdG X.K g ts) (te := rdV false X.K d) hc hN (pi_keys (tg := tg) hte) ok hg ht he hs
  exact PE.imp (pe_or base (pe_lock base)) fun σ H Q ⟨env, os, G, r, env', R, q, k⟩ => comp_both hts kk R q k
theorem ss_setLcE (i : Nat) {y : Str} {py : Pos} {elt iter : Expr} {ifs : List Expr} {scope : Scope} {own : List (Str × Nat)} {spos : Pos} {tc : M Bool} (hsrc : Src X iter ds) (hc : X.calm = true) (hN : X.N.Nodup) (hsw : swapsWith (.ListComp elt [⟨tg, iter, ifs, 0⟩] scope pos) (some (.Name y py)) spos.line X.env = pure true)
    (ok : BlkOk X.N X.env.scope scope own)
    (hg : ∀ (s : Shared) (H : Hp) (C : Addr) (cl : List (Str × Addr)) (fp : List Addr), SG (X.blk s H scope (compEnvC scope cl C X.env) fp) tg g ts)
    (ht : ∀ (s : Shared) (H : Hp) (C : Addr) (cl : List (Str × Addr)) (fp : List Addr), PTs (X.blk s H scope (compEnvC scope cl C X.env) fp) ifs (rdT X.K tc))
    (he : ∀ (s : Shared) (H : Hp) (C : Addr) (cl : List (Str × Addr)) (fp : List Addr), SE (X.blk s H scope (compEnvC scope cl C X.env) fp) elt d)
    (hts : ∀ j ∈ ts, j ∈ own.map (·.2) := by decide) (hs : ∀ x, foldedSetIterable iter X.env x = pure x := by intro _; rfl) (hy : X.N[i]? = some y := by rfl) (hyl : X.env.scope.names.lookup y = some .local := by rfl) :
    SS X (.Assign [.Name y py] (.ListComp elt [⟨tg, iter, ifs, 0⟩] scope pos) spos) (sSet i (dComp (own.map (·.2)) (iKy ds) g tc d)) := by
  obtain ⟨te, hte, kk⟩ := src_walk hsrc
  have base := ps_setLc (g := rdG X.K g ts) (te := rdV false X.K d) hc hN hy hyl hsw (pi_keys (tg := tg) hte) ok hg ht he hs
  refine PS.imp (ps_or base (ps_lock base)) fun D σ H ⟨env, os, G, r, env', R, q, k⟩ => ?_
  unfold sSet sAsg at q
  obtain ⟨x, e1, q1, q2⟩ := bnd_inv q
  obtain ⟨e2, q3, q4⟩ := Option.map_eq_some_iff.mp q2
  cases q4
  refine comp_both (Q := fun v H' => D.nx (σ.set i (some v)) H') hts kk R q1 fun H1 os1 a x1 n R1 o1 => ?_
  have nF : ¬ G.Fr a := fun z => by obtain ⟨⟨u, _, t⟩, _⟩ := R.fr a z; exact rdSome t n
  have p1 : Rp X.K H1 (Av os1 G.Fr) (.ref a) x := by
    have kp : Keeps H1 H1 (Av os1 (G.plus a).Fr) (Av os1 G.Fr) := Keeps.sub fun b z => z.elim .inl fun q => .inr (.inl q)
    exact (o1.map kp rfl).rp fun z => z.elim (fun ⟨i, z⟩ => (R1.fr a (.inr rfl)).2 i z) nF
  exact k H1 _ _ (x1.trans (Ext.del _ _ _)) (R1.unplus.put_val p1 q3)
end
/-! where the dicts stand that are read -/
section
variable {X : Cx} {pos : Pos}
/-- the value that stands in slot i, nothing moved -/
def dVl (i : Nat) : M PyData := fun e => match e.at i with | .val d => some (d, e) | _ => none
theorem src_name (i : Nat) {x : Str} (hN : X.N[i]? = some x := by rfl) (hv : Vis X.env.scope x := by first | exact Or.inl rfl | exact Or.inr (Or.inl rfl) | exact Or.inr (Or.inr rfl)) (hd : (x == ("__debug__" : Str)) = false := by decide) (hcd : (x == ("__classdict__" : Str)) = false := by decide) : Src X (.Name x pos) (dVl i) := by
  refine ⟨_, pe_var hN hv hd hcd, fun {σ H env os G y env'} R q => ?_⟩
  unfold dVl at q
  split at q
  · rename_i d he
    cases q
    have s := R.sl i
    rw [he] at s
    obtain ⟨_, v, hv', pv⟩ := s
    exact ⟨rfl, v, pv, fun H1 _ Q hQ => ⟨v, hv', hQ⟩⟩
  · cases q
end
/-! list(d), and a display of one pair whose key is a number or a text -/
def fListK : PyData → Option PyData
  | .dict ((.none, _) :: _) => none
  | .dict ps => some (.list (ps.map (·.1)))
  | _ => none
theorem rpK_keys {K H A H' A'} : ∀ {kvs : List (Key × V)} {ps : List (PyData × PyData)}, RpK K H A kvs ps → RpAll K H' A' (kvs.map fun kv => kV kv.1) (ps.map (·.1))
  | _, _, .nil => .nil
  | _, _, .cons a b => .cons (rp_kd _) (rpK_keys b)
theorem c1f_listK {K : PySem.W.Frag} : C1F K (fun xs H Q => ∃ (a : Addr) (kvs : List (Key × V)), xs = [.ref a] ∧ Rd H a (.dK kvs) ∧ ∀ p, H p = none → Q (.ref p) (upd H p (.lst (kvs.map fun kv => kV kv.1)))) fListK := by
  intro H A v d z Q tr r h k
  unfold fListK at h
  split at h
  · cases h
  · rename_i ps hn
    cases h
    rcases r with r | ⟨a, rfl, o⟩
    · cases r with
      | dk rd na rk => exact ⟨_, _, rfl, rd, fun p np => k p _ np trivial (.lst upd_same (rpK_keys rk))⟩
      | dt => exact absurd rfl (hn _ _)
    · cases o with
      | dk x rk => exact ⟨_, _, rfl, .inl x, fun p np => k p _ np trivial (.lst upd_same (rpK_keys rk))⟩
      | dt => exact absurd rfl (hn _ _)
  · cases h
section
variable {X : Cx} {e a b : Expr} {d da db : M PyData} {pos p : Pos}
theorem sf_listK (B : Blt X.mg) (hc : X.calm = true) (ha : SW X e d) (hg : Gl X "list" := by rfl) (h1 : starEach [e] X.env = (false, eval e X.env) :: starEach [] X.env := by rfl) (hpl : (backTo pos (starEach [] X.env)).any (·.1) = false := by rfl) : SF X (.Call (.Name "list" p) [e] [] pos) (d1 fListK d) := sf_callT c1f_listK (call_listD hc) hg B.list boot_list ha (by decide) (by decide) h1 h1 hpl
def fDisp1 (k v : PyData) : Option PyData := match dkOf k with | some (.inl _) => some (.dict [(k, v)]) | _ => none
theorem dkOf_l {k : PyData} {kk : Key} (h : dkOf k = some (.inl kk)) : k = kd kk := by
  unfold dkOf at h
  split at h
  · cases h; rfl
  · cases h; rfl
  · split at h
    · cases h
    · rename_i ds _
      cases q : ksOf ds with
      | none => rw [q] at h; cases h
      | some ks => rw [q] at h; cases h
  · cases h
theorem sf_disp1 (ha : SE X a da) (hb : SE X b db) : SF X (.Dict [some a] [b] pos) (d2 fDisp1 da db) := by
  refine PE.imp (pe_disp (pps_cons ha hb pps_nil) rfl rfl (List.cons_ne_nil _ _) (by show 1 ≤ 15; decide)) fun σ H Q ⟨env, os, G, r, env', R, q, k⟩ p np => ?_
  obtain ⟨y, e1, q1, q2⟩ := bnd_inv q
  obtain ⟨z, e2, q3, q4⟩ := bnd_inv q2
  obtain ⟨q5, rfl⟩ := lft_inv q4
  refine ⟨env, os, G.plus p, y, e1, R.plus np trivial, q1, fun H1 os1 v x1 R1 p1 => ⟨e1, os1, G.plus p, z, env', R1, q3, fun H2 os2 u x2 R2 p2 => ?_⟩⟩
  have nos : ∀ i, os i ≠ some p := fun i z => R.tracked (.inl ⟨i, z⟩) np
  have x := x1.trans x2
  have hp : H2 p = some (.dK []) := x.keep p _ upd_same nos
  unfold fDisp1 at q5
  split at q5
  · rename_i kk hk
    cases q5
    have ek := dkOf_l hk
    subst ek
    have hv : v = kV kk := by
      have := p1.strong
      cases kk <;> (cases this; rfl)
    subst hv
    refine ⟨hp, [(kk, u)], rfl, by show 1 ≤ 15; decide, ?_⟩
    have pu : Rp X.K H2 (Av os2 (G.plus p).Fr) u z := p2.strong
    have kp : Keeps H2 (L2.upd H2 p (.dK [(kk, u)])) (Av os2 (G.plus p).Fr) (Av os2 (G.plus p).Fr) := fun b u _ r n => ⟨rq_upd (upd_ne fun z => n (.inr (.inr z))) r, n⟩
    refine k _ os2 p ⟨fun b u hb nb => ?_, fun b u hb nb => ?_, fun b hb => ?_⟩ np (R2.upd (.inr rfl) trivial) (.dk upd_same (.cons (pu.map kp) .nil))
    · have z : b ≠ p := fun z => by subst z; rw [np] at hb; cases hb
      rw [upd_ne z]
      exact x.keep b u (by rw [upd_ne z]; exact hb) nb
    · have z : b ≠ p := fun z => by subst z; rw [np] at hb; cases hb
      exact x.own b u (by rw [upd_ne z]; exact hb) nb
    · by_cases z : b = p
      · subst z; rw [upd_same]; exact fun z => nomatch z
      · rw [upd_ne z]; exact x.trk b (by rw [upd_ne z]; exact hb)
  · cases q5
end
end SL

set_option Elab.async false
set_option linter.all false
set_option maxRecDepth 100000
set_option maxHeartbeats 4000000
/-! SL27: a display of one pair whose key is a tuple; the last of an owned list, a dict whose keys are walked. -/
namespace SL
open PySem PySem.Spec PyProof.Rows L2
section
variable {X : Cx} {a b : Expr} {da db : M PyData} {pos : Pos}
def tDispT (tk tv : TE) : TE := fun σ H Q => ∀ p, H p = none → tk σ (upd H p (.dT [])) fun x H1 => tv σ H1 fun y H2 => ∃ (k : List Key) (b : Addr), x = .ref b ∧ H2 b = some (.tup (k.map kV)) ∧ H2 p = some (.dT []) ∧ Q (.ref p) (upd H2 p (.dT [(k, y)]))
theorem pe_dispT {tk tv : TE} (hu : X.A.units + 64 < cLine) (hk : PE X a tk) (hv : PE X b tv) : PE X (.Dict [some a] [b] pos) (tDispT tk tv) := by
  refine ⟨fun pins s σ H Q I q => ?_⟩
  have hn := I.hok.fresh (Nat.le_refl s.heap.objs.size)
  have I1 := I.laid (a := s.heap.objs.size) (o := .dT []) (h' := s.heap.push { cls := .type "dict", data := .dict #[] }) (t' := s.toks) (fun _ _ q => Heap.get?_push_of_some _ q) (Nat.le_refl _) (dt_empty s.heap I.big)
  refine wpAny_Dict_any rfl rfl (List.cons_ne_nil _ _) (by show 1 ≤ 15; decide) ?_
  refine pairTrees_cons_walk (thn (hk.run pins _ σ _ _ I1 (q _ hn)) fun u s2 ⟨x, H1, I2, rx, q2⟩ => thn (hv.run pins s2 σ H1 _ I2 q2) fun w2 s3 ⟨y, H2, I3, ry, k, b, ex, eb, ep, q3⟩ => pairTrees_nil_walk ?_)
  subst ex
  cases (show u = Value.ref b from rx)
  obtain ⟨z, hd, xs, rel, dd⟩ := dt_of I3.hok ep
  cases rel
  show wpAny _ _ (storeAll s.heap.objs.size [(.ref b, w2)]) _ _ s3
  unfold storeAll
  rw [List.forIn_cons]
  refine wpAny_bind (wpAny_bind (wpAny_dictSet_heap (hsz := by rw [sizeLine_eq]; exact Nat.zero_le _) (show (tupleKind (mixKind X.prog X.w)).room X.A from (by omega : X.A.units < cLine)) (key_of I3.hok eb) dd fun h' dd' hs => wpAny_pure ?_))
  simp only [List.forIn_nil]
  refine wpAny_pure ?_
  obtain ⟨qo, es, epp, hq, h2, h3, h4, _, h5⟩ := dd'
  refine ⟨.ref s.heap.objs.size, _, d_write (ob := .dT [(k, y)]) I3 (by rw [ep]; exact True.intro) hs ⟨qo, hq⟩ ⟨by rw [sizeLine_eq]; show 1 ≤ _; decide, hd, _, (KT.keeps (H := H2) (.cons ⟨rfl, eb, ry⟩ .nil) fun c ys ec => ?_), qo, es, epp, hq, h2, h3, h4, h5⟩, rfl, q3⟩
  rw [upd_ne (ne_of ec ep (fun z => nomatch z))]
  exact ec
def fDispT (k v : PyData) : Option PyData := match dkOf k with | some (.inr _) => some (.dict [(.none, .none), (k, v)]) | _ => none
theorem sf_dispT (hu : X.A.units + 64 < cLine) (ha : SE X a da) (hb : SE X b db) : SF X (.Dict [some a] [b] pos) (d2 fDispT da db) := by
  refine PE.imp (pe_dispT hu ha hb) fun σ H Q ⟨env, os, G, r, env', R, q, k⟩ p np => ?_
  obtain ⟨y, e1, q1, q2⟩ := bnd_inv q
  obtain ⟨z, e2, q3, q4⟩ := bnd_inv q2
  obtain ⟨q5, rfl⟩ := lft_inv q4
  refine ⟨env, os, G.plus p, y, e1, R.plus np trivial, q1, fun H1 os1 v x1 R1 p1 => ⟨e1, os1, G.plus p, z, env', R1, q3, fun H2 os2 u x2 R2 p2 => ?_⟩⟩
  have nos : ∀ i, os i ≠ some p := fun i z => R.tracked (.inl ⟨i, z⟩) np
  have x := x1.trans x2
  have hp : H2 p = some (.dT []) := x.keep p _ upd_same nos
  unfold fDispT at q5
  split at q5
  · rename_i kk hk
    cases q5
    have p1' : Rp X.K H2 (Av os2 (G.plus p).Fr) v y := p1.strong.ext x2
    obtain ⟨⟨b, rfl, hb⟩, e⟩ := Rw.key (.inl p1') hk
    have e : y = .tuple (kk.map kd) := e
    subst e
    refine ⟨kk, b, rfl, hb, hp, ?_⟩
    have pu : Rp X.K H2 (Av os2 (G.plus p).Fr) u z := p2.strong
    have kp : Keeps H2 (L2.upd H2 p (.dT [(kk, u)])) (Av os2 (G.plus p).Fr) (Av os2 (G.plus p).Fr) := fun b u _ r n => ⟨rq_upd (upd_ne fun z => n (.inr (.inr z))) r, n⟩
    refine k _ os2 p ⟨fun b u hb nb => ?_, fun b u hb nb => ?_, fun b hb => ?_⟩ np (R2.upd (.inr rfl) trivial) (.dt upd_same (.cons (pu.map kp) .nil))
    · have z : b ≠ p := fun z => by subst z; rw [np] at hb; cases hb
      rw [upd_ne z]
      exact x.keep b u (by rw [upd_ne z]; exact hb) nb
    · have z : b ≠ p := fun z => by subst z; rw [np] at hb; cases hb
      exact x.own b u (by rw [upd_ne z]; exact hb) nb
    · by_cases z : b = p
      · subst z; rw [upd_same]; exact fun z => nomatch z
      · rw [upd_ne z]; exact x.trk b (by rw [upd_ne z]; exact hb)
  · cases q5
/-- the last of the owned list in slot i -/
def dLastO (i : Nat) : M PyData := fun e => match e.at i with | .own (.list ds) => (L2.atI ds (-1)).map fun d => (d, e) | _ => none
theorem src_last (i : Nat) {x : Str} {k : Nat} {p1 p2 p3 : Pos} (hN : X.N[i]? = some x := by rfl) (hv : Vis X.env.scope x := by first | exact Or.inl rfl | exact Or.inr (Or.inl rfl) | exact Or.inr (Or.inr rfl)) (hd : (x == ("__debug__" : Str)) = false := by decide) (hcd : (x == ("__classdict__" : Str)) = false := by decide)
    (hs : PlainIx (.UnaryOp .USub (.Constant (.int 1) k p1) p2) := by intro _ _; rfl) : Src X (.Subscript (.Name x p3) (.UnaryOp .USub (.Constant (.int 1) k p1) p2) pos) (dLastO i) := by
  refine ⟨_, pe_ix ix_seq (pe_var hN hv hd hcd) (pe_un un_neg pe_int) hs, fun {σ H env os G y env'} R q => ?_⟩
  unfold dLastO at q
  split at q
  · rename_i ds he
    obtain ⟨d, hd', e⟩ := Option.map_eq_some_iff.mp q
    cases e
    have s := R.sl i
    rw [he] at s
    obtain ⟨a, _, hv', o⟩ := s
    cases o with
    | @lst vs _ ha rl =>
      obtain ⟨v, hvv, pv⟩ := rl.atI hd'
      exact ⟨rfl, v, pv, fun H1 hH Q hQ => ⟨.ref a, hv', 1, rfl, .inl ⟨a, vs, -1, v, rfl, rfl, .inl (.inl (hH a _ ha (fun z => z))), hvv, hQ⟩⟩⟩
  · cases q
end
end SL

set_option Elab.async false
set_option linter.all false
set_option maxRecDepth 100000
set_option maxHeartbeats 4000000
/-! SL28: bool(x) of numbers. -/
namespace SL
open PySem PySem.Spec PyProof.Rows L2
def fBool : PyData → Option PyData | .int i => some (.bool (i != 0)) | .bool b => some (.bool b) | _ => none
theorem c1_bool {K : PySem.W.Frag} : C1 K (fun xs H Q => (∃ i, xs = [.int i] ∧ Q (.bl (i != 0)) H) ∨ ∃ k, xs = [.bl k] ∧ Q (.bl k) H) fBool := by
  intro H A v d z Q tr r h k
  cases d <;> simp only [fBool, Option.some.injEq, reduceCtorEq] at h
  · subst h; rw [r.bool]; exact .inr ⟨_, rfl, k H _ (Same.refl H) (.bl _)⟩
  · subst h; rw [r.int]; exact .inl ⟨_, rfl, k H _ (Same.refl H) (.bl _)⟩
section
variable {X : Cx} {e : Expr} {d : M PyData} {pos p : Pos}
theorem se_boolc (B : Blt X.mg) (ha : SW X e d) (hg : Gl X "bool" := by rfl) (h1 : starEach [e] X.env = (false, eval e X.env) :: starEach [] X.env := by rfl) (hpl : (backTo pos (starEach [] X.env)).any (·.1) = false := by rfl) : SE X (.Call (.Name "bool" p) [e] [] pos) (d1 fBool d) := se_callT c1_bool call_bool1 hg B.bool (by decide +kernel) ha (by decide) (by decide) h1 h1 hpl
/-! is True, is not False .. -/
def fIsB : PyData → PyData → Option Bool | .bool a, .bool b => some (decide (a = b)) | _, _ => none
def fNotB : PyData → PyData → Option Bool | .bool a, .bool b => some (!decide (a = b)) | _, _ => none
def rIsBA : R2 := fun x y H Q => ∃ a b, x = .bl a ∧ y = .bl b ∧ Q (.bl (decide (a = b))) H
def rNotBA : R2 := fun x y H Q => ∃ a b, x = .bl a ∧ y = .bl b ∧ Q (.bl (!decide (a = b))) H
theorem op_isBA : OpR X (compareOp .Is) rIsBA := op_is_bl
theorem op_notBA : OpR X (compareOp .IsNot) rNotBA := op_isnot_bl
theorem ob_isB {K : PySem.W.Frag} : OpB K rIsBA fIsB := by
  intro H A vx vy x y z Q rx ry h k
  unfold fIsB at h
  split at h
  · cases h; rw [rx.bool, ry.bool]; exact ⟨_, _, rfl, rfl, k⟩
  · cases h
theorem ob_notB {K : PySem.W.Frag} : OpB K rNotBA fNotB := by
  intro H A vx vy x y z Q rx ry h k
  unfold fNotB at h
  split at h
  · cases h; rw [rx.bool, ry.bool]; exact ⟨_, _, rfl, rfl, k⟩
  · cases h
end
end SL

set_option Elab.async false
set_option linter.all false
set_option maxRecDepth 100000
set_option maxHeartbeats 4000000
/-! SL29: a table of rows that is changed in place (the law's greatest gaps): what it reckons, and how its places are read and put. -/
namespace SL
open PySem PySem.Spec PyProof.Rows L2
abbrev Ru := Int × Int × Int
abbrev Mx := Nat → Nat → Option Int
def mset (M : Mx) (a b : Nat) (x : Option Int) : Mx := fun i j => if i = a ∧ j = b then x else M i j
def M0 : Mx := fun i j => if i = j then some 0 else none
def mxo : Option Int → Int → Int | none, g => g | some x, g => if g < x then x else g
def rstep (M : Mx) (r : Ru) : Mx := mset M r.1.toNat r.2.1.toNat (some (mxo (M r.1.toNat r.2.1.toNat) r.2.2))
def bto (z : Option Int) (s : Int) : Bool := match z with | none => true | some z => decide (z < s)
def fstep (M : Mx) (m a b : Nat) : Mx := match M a m, M m b with
  | some x, some y => if bto (M a b) (x + y) = true then mset M a b (some (x + y)) else M
  | _, _ => M
def frow (n m a : Nat) (M : Mx) : Mx := (List.range n).foldl (fun M b => fstep M m a b) M
def fph (n m : Nat) (M : Mx) : Mx := (List.range n).foldl (fun M a => frow n m a M) M
def fwm (n : Nat) (M : Mx) : Mx := (List.range n).foldl (fun M m => fph n m M) M
def far (n : Nat) (R : List Ru) : Mx := fwm n (R.foldl rstep M0)
def dO : Option Int → PyData | none => .none | some x => .int x
def vO : Option Int → V | none => .non | some x => .int x
def ruOf : PyData → Ru | .tuple [.int a, .int b, .int g] => (a, b, g) | _ => (0, 0, 0)
def isRu (n : Int) : PyData → Bool | .tuple [.int a, .int b, .int _] => (decide (0 ≤ a) && decide (a < n)) && (decide (0 ≤ b) && decide (b < n)) | _ => false
def farD (n : Nat) (M : Mx) : PyData := .list ((List.range n).map fun i => .list ((List.range n).map fun j => dO (M i j)))
def F_l_far_gaps : FS := fun as => match as with
  | [.val (.tuple [.int n, .tuple rs])] => if 0 ≤ n ∧ n ≤ 100 ∧ rs.all (isRu n) = true then some (farD n.toNat (far n.toNat (rs.map ruOf)), as) else none
  | _ => none
theorem F_far_inv {as : List Sl} {r as'} (h : F_l_far_gaps as = some (r, as')) : ∃ (n : Nat) (rs : List PyData), as = [.val (.tuple [.int (n : Int), .tuple rs])] ∧ n ≤ 100 ∧ rs.all (isRu (n : Int)) = true ∧ r = farD n (far n (rs.map ruOf)) ∧ as' = as := by
  unfold F_l_far_gaps at h
  split at h
  · rename_i n rs
    split at h
    · rename_i c
      cases h
      obtain ⟨k, rfl⟩ := Int.eq_ofNat_of_zero_le c.1
      exact ⟨k, rs, rfl, by omega, c.2.2, rfl, rfl⟩
    · cases h
  · cases h
theorem isRu_inv {n : Int} {d : PyData} (h : isRu n d = true) : ∃ a b g : Int, d = .tuple [.int a, .int b, .int g] ∧ ruOf d = (a, b, g) ∧ (0 ≤ a ∧ a < n) ∧ (0 ≤ b ∧ b < n) := by
  unfold isRu at h
  split at h
  · rename_i a b g
    simp only [Bool.and_eq_true, decide_eq_true_eq] at h
    exact ⟨a, b, g, rfl, rfl, h.1, h.2⟩
  · cases h
/-! ## the table on the heap -/
def rowV (n : Nat) (f : Nat → Option Int) : List V := (List.range n).map fun j => vO (f j)
theorem rowV_len (n : Nat) (f : Nat → Option Int) : (rowV n f).length = n := by unfold rowV; simp
theorem rowV_get {n : Nat} {f : Nat → Option Int} {j : Nat} (h : j < n) : (rowV n f)[j]? = some (vO (f j)) := by unfold rowV; rw [List.getElem?_map, List.getElem?_range h]; rfl
structure FI (H0 H : Hp) (L : Addr) (rows : List Addr) (m n : Nat) (M : Mx) : Prop where
  same : Same H0 H
  nL : H0 L = none
  nR : ∀ r ∈ rows, H0 r = none
  hL : H L = some (.lst (rows.map .ref))
  nd : (L :: rows).Nodup
  len : rows.length = m
  hR : ∀ i (h : i < rows.length), H rows[i] = some (.lst (rowV n (M i)))
theorem FI.congr {H0 H L rows m n M M'} (I : FI H0 H L rows m n M) (h : ∀ i j, i < m → j < n → M i j = M' i j) : FI H0 H L rows m n M' :=
  ⟨I.same, I.nL, I.nR, I.hL, I.nd, I.len, fun i hi => by
    rw [I.hR i hi]
    refine congrArg (fun l => some (HO.lst l)) ?_
    unfold rowV
    refine List.map_congr_left fun j hj => ?_
    rw [h i j (by rw [← I.len]; exact hi) (List.mem_range.mp hj)]⟩
/-- a new object aside -/
theorem FI.aside {H0 H L rows m n M p o} (I : FI H0 H L rows m n M) (hp : H p = none) : FI H0 (upd H p o) L rows m n M :=
  ⟨fun b u e => (upd_ne (ne_of_none (I.same b u e) hp)).trans (I.same b u e), I.nL, I.nR, (upd_ne (ne_of_none I.hL hp)).trans I.hL, I.nd, I.len, fun i hi => (upd_ne (ne_of_none (I.hR i hi) hp)).trans (I.hR i hi)⟩
/-- a row more -/
theorem FI.more {H0 H L rows m n M p} {o : HO} (I : FI H0 H L rows m n M) (hp : H p = none) (ho : o = .lst (rowV n (M m))) : FI H0 (upd (upd H p o) L (.lst (rows.map V.ref ++ [.ref p]))) L (rows ++ [p]) (m + 1) n M := by
  subst ho
  have h0 : H0 p = none := by
    cases e : H0 p with
    | none => rfl
    | some u => rw [I.same _ _ e] at hp; cases hp
  have neL : p ≠ L := fun z => by subst z; rw [I.hL] at hp; cases hp
  have neR : p ∉ rows := fun z => by
    obtain ⟨i, hi, e⟩ := List.getElem_of_mem z
    have := I.hR i hi
    rw [e, hp] at this; cases this
  obtain ⟨n1, n2⟩ := List.nodup_cons.mp I.nd
  refine ⟨fun b u e => ?_, I.nL, fun r hr => ?_, ?_, ?_, by rw [List.length_append, I.len]; rfl, fun i hi => ?_⟩
  · have := I.same b u e
    rw [upd_ne (ne_of_none e I.nL), upd_ne (ne_of_none this hp)]; exact this
  · rcases List.mem_append.mp hr with hr | hr
    · exact I.nR r hr
    · rw [List.mem_singleton.mp hr]; exact h0
  · rw [upd_same, List.map_append]; rfl
  · refine List.nodup_cons.mpr ⟨fun z => ?_, List.nodup_append.mpr ⟨n2, by simp, fun x hx y hy => ?_⟩⟩
    · rcases List.mem_append.mp z with z | z
      · exact n1 z
      · exact neL (List.mem_singleton.mp z).symm
    · rw [List.mem_singleton.mp hy]; exact fun z => neR (z ▸ hx)
  · by_cases c : i < rows.length
    · rw [List.getElem_append_left c, upd_ne (show rows[i] ≠ L from fun z => n1 (by rw [← z]; exact List.getElem_mem c)), upd_ne (show rows[i] ≠ p from fun z => neR (by rw [← z]; exact List.getElem_mem c))]
      exact I.hR i c
    · have e : i = rows.length := by rw [List.length_append, List.length_singleton] at hi; omega
      subst e
      rw [List.getElem_append_right (Nat.le_refl _)]
      simp only [Nat.sub_self, List.getElem_cons_zero]
      rw [upd_ne neL, upd_same, I.len]
theorem FI.row {H0 H L rows m n M} (I : FI H0 H L rows m n M) {i : Nat} (hi : i < m) : ∃ h : i < rows.length, (rows.map V.ref)[i]? = some (.ref rows[i]) ∧ H rows[i] = some (.lst (rowV n (M i))) := by
  have h : i < rows.length := by rw [I.len]; exact hi
  refine ⟨h, ?_, I.hR i h⟩
  rw [List.getElem?_map, List.getElem?_eq_getElem h]; rfl
theorem rowV_set {n : Nat} {f : Nat → Option Int} {j : Nat} (x : Option Int) : (rowV n f).set j (vO x) = rowV n fun k => if k = j then x else f k := by
  unfold rowV
  apply List.ext_getElem
  · simp
  · intro k h1 h2
    rw [List.getElem_set]
    simp only [List.getElem_map, List.getElem_range]
    by_cases e : j = k
    · subst e; rw [if_pos rfl, if_pos rfl]
    · rw [if_neg e, if_neg fun z => e z.symm]
theorem FI.put {H0 H L rows m n M} (I : FI H0 H L rows m n M) {i j : Nat} (hi : i < rows.length) (x : Option Int) : FI H0 (upd H rows[i] (.lst ((rowV n (M i)).set j (vO x)))) L rows m n (mset M i j x) := by
  obtain ⟨n1, n2⟩ := List.nodup_cons.mp I.nd
  have hm : rows[i] ∈ rows := List.getElem_mem hi
  refine ⟨fun b u e => ?_, I.nL, I.nR, ?_, I.nd, I.len, fun k hk => ?_⟩
  · rw [upd_ne (ne_of_none e (I.nR _ hm))]; exact I.same b u e
  · rw [upd_ne (show L ≠ rows[i] from fun z => n1 (by rw [z]; exact hm))]; exact I.hL
  · by_cases c : k = i
    · subst c
      rw [upd_same, rowV_set]
      refine congrArg (fun l => some (HO.lst l)) (congrArg (rowV n) (funext fun q => ?_))
      unfold mset
      by_cases d : q = j
      · rw [if_pos d, if_pos ⟨rfl, d⟩]
      · rw [if_neg d, if_neg fun z => d z.2]
    · have ne : rows[k] ≠ rows[i] := fun z => c ((List.getElem_inj n2).mp z)
      rw [upd_ne ne, I.hR k hk]
      refine congrArg (fun l => some (HO.lst l)) (congrArg (rowV n) (funext fun q => ?_))
      unfold mset
      rw [if_neg fun z => c z.1]
section
variable {K : PySem.W.Frag} {H0 H : Hp} {L : Addr} {rows : List Addr} {n : Nat} {M : Mx} {σ : L2.St} {x y : Nat} {i j : Nat}
theorem rd_far (I : FI H0 H L rows n n M) (h2 : σ[2]? = some (some (.ref L))) (hx : σ[x]? = some (some (.int (i : Int)))) (hy : σ[y]? = some (some (.int (j : Int)))) (hi : i < n) (hj : j < n) {Q : VK} (q : Q (vO (M i j)) H) :
    tOp (rIxL K) (tOp (rIxL K) (tVar 2) (tVar x)) (tVar y) σ H Q := by
  obtain ⟨h, e1, e2⟩ := I.row hi
  exact ⟨_, h2, _, hx, _, _, _, _, rfl, rfl, SqL.of I.hL, L2.atI_nat e1, _, hy, _, _, _, _, rfl, rfl, SqL.of e2, L2.atI_nat (rowV_get hj), q⟩
theorem wr_far (I : FI H0 H L rows n n M) (h2 : σ[2]? = some (some (.ref L))) (hx : σ[x]? = some (some (.int (i : Int)))) (hy : σ[y]? = some (some (.int (j : Int)))) (hi : i < n) (hj : j < n) (v : Option Int) {Q : L2.St → Hp → Prop} (q : ∀ H', FI H0 H' L rows n n (mset M i j v) → Q σ H') :
    gSub (tOp (rIxL K) (tVar 2) (tVar x)) (tVar y) rSetL (vO v) σ H Q := by
  obtain ⟨h, e1, e2⟩ := I.row hi
  refine ⟨_, h2, _, hx, _, _, _, _, rfl, rfl, SqL.of I.hL, L2.atI_nat e1, _, hy, _, _, _, j, rfl, rfl, e2, ?_, q _ (I.put h v)⟩
  rw [rowV_len]
  unfold L2.ixN
  rw [if_pos (by omega), if_pos (by omega), Int.toNat_natCast]
end
theorem rp_row {K : PySem.W.Frag} {H : Hp} {A : Addr → Prop} (f : Nat → Option Int) : ∀ l : List Nat, RpAll K H A (l.map fun j => vO (f j)) (l.map fun j => dO (f j))
  | [] => .nil
  | k :: l => .cons (by show Rp K H A (vO (f k)) (dO (f k)); cases f k with | none => exact .non | some x => exact .int x) (rp_row f l)
theorem rp_far {K : PySem.W.Frag} {H0 H : Hp} {A : Addr → Prop} {L rows n M} (I : FI H0 H L rows n n M) (nL : ¬ A L) (nR : ∀ r ∈ rows, ¬ A r) : Rp K H A (.ref L) (farD n M) := by
  refine .lst ⟨I.hL, nL⟩ ?_
  have : ∀ (l : List Addr) (s : Nat), (∀ r ∈ l, ¬ A r) → (∀ k (h : k < l.length), H l[k] = some (.lst (rowV n (M (s + k))))) → RpAll K H A (l.map .ref) ((List.range' s l.length).map fun i => .list ((List.range n).map fun j => dO (M i j))) := by
    intro l
    induction l with
    | nil => intro s _ _; exact .nil
    | cons r l ih =>
      intro s h1 h2
      rw [List.length_cons, List.range'_succ, List.map_cons, List.map_cons]
      refine .cons (.lst ⟨h2 0 (Nat.zero_lt_succ _), h1 r List.mem_cons_self⟩ (rp_row _ _)) (ih (s + 1) (fun r hr => h1 r (List.mem_cons_of_mem _ hr)) fun k hk => ?_)
      have := h2 (k + 1) (Nat.succ_lt_succ hk)
      rw [show s + (k + 1) = s + 1 + k by omega] at this
      exact this
  have t := this rows 0 nR fun k hk => by rw [Nat.zero_add]; exact I.hR k hk
  rw [I.len, ← List.range_eq_range'] at t
  exact t
end SL
namespace SL
open PySem PySem.Spec PyProof.Rows L2
theorem rep_rowV (n : Nat) : (List.replicate n [V.non]).flatten = rowV n fun _ => none := by
  unfold rowV
  induction n with
  | zero => rfl
  | succ n ih => rw [List.replicate_succ', List.flatten_append, ih, List.range_succ, List.map_append]; rfl
/-- the slots that stay: the exits, their number, the table -/
structure FS0 (σ : L2.St) (a : Addr) (n : Nat) (L : Addr) : Prop where
  len : σ.length = 8
  s0 : σ[0]? = some (some (.ref a))
  s1 : σ[1]? = some (some (.int (n : Int)))
  s2 : σ[2]? = some (some (.ref L))
theorem FS0.set {σ a n L} (h : FS0 σ a n L) {i : Nat} {x : Option V} (hi : 3 ≤ i) : FS0 (σ.set i x) a n L :=
  ⟨by rw [List.length_set]; exact h.len, by rw [List.getElem?_set_ne (by omega)]; exact h.s0, by rw [List.getElem?_set_ne (by omega)]; exact h.s1, by rw [List.getElem?_set_ne (by omega)]; exact h.s2⟩
theorem FS0.get {σ a n L} (h : FS0 σ a n L) {i : Nat} {x : Option V} (hi : i < 8) : (σ.set i x)[i]? = some x := by
  rw [List.getElem?_set_self (by rw [h.len]; exact hi)]
theorem vO_non {o : Option Int} : vO o = .non ↔ o = none := by cases o <;> simp [vO]
theorem foldl_take_succ {α β : Type} (f : β → α → β) (s : β) (l : List α) {i : Nat} {x : α} (h : l[i]? = some x) : (l.take (i + 1)).foldl f s = f ((l.take i).foldl f s) x := by
  rw [List.take_succ, h, List.foldl_append]; rfl
theorem fr_step {M : Mx} {m a b : Nat} {x y : Int} (hx : M a m = some x) (hy : M m b = some y) (h : bto (M a b) (x + y) = true) : fstep M m a b = mset M a b (some (x + y)) := by
  unfold fstep; rw [hx, hy]; exact if_pos h
theorem fr_calm {M : Mx} {m a b : Nat} (h : ∀ x y, M a m = some x → M m b = some y → bto (M a b) (x + y) = false) : fstep M m a b = M := by
  unfold fstep
  split
  · rename_i x y e1 e2
    rw [if_neg (by rw [h x y e1 e2]; simp)]
  · rfl
theorem rpAll_2 {K H A vs d e} (r : RpAll K H A vs [d, e]) : ∃ x y, vs = [x, y] ∧ Rp K H A x d ∧ Rp K H A y e := by
  cases r with
  | cons a r => cases r with
    | cons b r => cases r; exact ⟨_, _, rfl, a, b⟩
theorem rpAll_3 {K H A vs d e g} (r : RpAll K H A vs [d, e, g]) : ∃ x y z, vs = [x, y, z] ∧ Rp K H A x d ∧ Rp K H A y e ∧ Rp K H A z g := by
  cases r with
  | cons a r => obtain ⟨x, y, rfl, b, c⟩ := rpAll_2 r; exact ⟨_, _, _, rfl, a, b, c⟩
theorem rp_int {K H A v i} (r : Rp K H A v (.int i)) : v = .int i := by cases r; rfl
theorem tYes_if {σ : L2.St} {H : Hp} {f g : Hp → Prop} (h : f H) : L2.tYes σ H fun b H3 => if b = true then f H3 else g H3 := @iteT (f H) (g H) h
end SL

set_option Elab.async false
set_option linter.all false
set_option maxRecDepth 100000
set_option maxHeartbeats 4000000
/-! SL30: sorted of a tuple. -/
namespace SL
open PySem PySem.Spec PyProof.Rows L2 PySem.W PySem.SeqAt
section
variable {prog : Program} {w : World} {A : Around} {E : Value → Shared → Prop} {s : Shared}
theorem collect_tupX {l : Addr} {vs : List Value} {Q : List Value → Shared → Prop} (hl : IsTup s.heap l vs.toArray)
    (h : Q vs { s with heap := (s.heap.push (seqObj "list" #[] 0)).update s.heap.objs.size (Obj.mapSeq (· ++ vs.toArray)) }) (hsz : vs.length ≤ sizeLine) :
    wpAny (model prog w) A (collect (.ref l)) Q E s := by
  obtain ⟨o, ho, hc, n, hd⟩ := id hl
  unfold collect
  refine wpAny_bind (wpAny_runValue (codeAny_builtin entry_proto_collect' ?_))
  show wpAny _ _ (do again (.builtin "list.__iadd__" ⟨[← newList [], .ref l], []⟩)) _ _ s
  refine wpAny_bind (wpAny_newList (wpAny_pure ⟨Code.quiet_builtin _ (by decide +kernel), codeAny_builtin entry_list_iadd' ?_⟩))
  show wpAny _ _ (Builtin.List.listExtendWith (.ref s.heap.objs.size) (.ref l) (.ref s.heap.objs.size)) _ _ { s with heap := s.heap.push (seqObj "list" #[] 0) }
  unfold Builtin.List.listExtendWith
  have ho' : (s.heap.push (seqObj "list" #[] 0)).get? l = some o := Heap.get?_push_of_some _ ho
  refine wpAny_bind (wpAny_typeOf (T := "tuple") ⟨o, ho', hc⟩ ?_)
  have ht : (Value.type "tuple" == Value.type "tuple") = true := by rfl
  rw [if_pos (by rw [ht]; simp)]
  refine wpAny_bind (listItems_at ho' hd ?_)
  refine wpAny_bind (listItems_at (xs := #[]) (n := 0) (Heap.get?_push_size _ rfl) rfl ?_)
  rw [if_neg (by simp)]
  refine wpAny_bind (listUpdate_at (xs := #[]) (n := 0) (Heap.get?_push_size _ rfl) rfl ?_ (Nat.zero_le _) (by show (#[] ++ vs.toArray).size ≤ sizeLine + 1; simp only [Array.size_append, List.size_toArray, List.length_nil]; omega))
  refine wpAny_pure ?_
  show wpAny (model prog w) A (do
      let o ← load s.heap.objs.size
      match o.data with
      | .seq xs _ => pure xs.toList
      | _ => unsupported "internal:collect") Q E { s with heap := (s.heap.push (seqObj "list" #[] 0)).update s.heap.objs.size (Obj.mapSeq (· ++ vs.toArray)) }
  refine wpAny_bind (wpAny_load (get?_update_seq (Heap.get?_push_size _ rfl) _) ?_)
  show wpAny _ _ (pure ((#[] : Array Value) ++ vs.toArray).toList) Q E _
  rw [show ((#[] : Array Value) ++ vs.toArray).toList = vs by simp]
  exact wpAny_pure h
theorem sorted_of_sortT {l : Addr} {vs : List Value} {kw : List (Str × Value)} {Q : Value → Shared → Prop} (hl : IsTup s.heap l vs.toArray) (hL : vs.length ≤ sizeLine) (ha1 : argsOk "sorted" ⟨[.ref l], kw⟩) (ha2 : ∀ x, argsOk "list.sort" ⟨[.ref x], kw⟩)
    (body : ∀ E' : Value → Shared → Prop, wpAny (model prog w) A.in1.in1 (Builtin.«list.sort» ⟨[.ref (s.heap.objs.size + 1)], kw⟩) (fun f s' => f = .done (.ret .none) ∧ Q (.ref (s.heap.objs.size + 1)) s') E' { s with heap := copyHeap s.heap vs }) :
    wpAny (model prog w) A (call (.builtin "sorted") [.ref l] kw) Q E s := by
  refine call_function_entry_kw kind_sorted plain_sorted entry_sorted ha1 ?_
  unfold Builtin.«sorted»
  refine wpAny_bind (m := checkCount "sorted" 1 1 _) (wpAny_pure ?_)
  refine wpAny_bind (collect_tupX hl ?_ hL)
  refine wpAny_bind (wpAny_newList ?_ hL)
  have hsz : ((s.heap.push (seqObj "list" #[] 0)).update s.heap.objs.size (Obj.mapSeq (· ++ vs.toArray))).objs.size = s.heap.objs.size + 1 := by
    rw [Heap.size_update, size_push']
  show wpAny _ _ _ _ _ { s with heap := copyHeap s.heap vs }
  rw [hsz]
  refine wpAny_bind (wpAny_holding (wpAny_call_entry_kw slot_list_sort ⟨_, copyHeap_at s.heap vs, rfl⟩ entry_list_sort ?body (ha2 _)))
  case body =>
    show wpAny (model prog w) A.in1.in1 (Builtin.«list.sort» ⟨[.ref (s.heap.objs.size + 1)], kw⟩) _ _ _
    refine wpAny_mono (body _) (fun f s' hf => ?_) fun _ _ e => e
    obtain ⟨rfl, hq⟩ := hf
    exact ⟨_, rfl, wpAny_pure ⟨_, rfl, hq⟩⟩
variable {β : Type} {R : Value → β → Prop} {bs : List β} {enc : β → PyData} {vs : List Value}
theorem sorted_dataT {l : Addr} {Q : Value → Shared → Prop} (hl : IsTup s.heap l vs.toArray) (e : EachIs R vs bs) (er : EachIs (fun v b => ∃ as, Reads s.heap v (enc b) as) vs bs) (hal : AllAlike (bs.map enc)) (hk : PySem.W.Sortable (bs.map enc))
    (hL : bs.length ≤ sizeLine) (hu : ∀ b, b ∈ bs → A.units + 2 + (enc b).depth < cLine) (h : ∀ out, out.length = bs.length → EachIs R out (bs.mergeSort (dataLe false enc)) → Q (.ref (s.heap.objs.size + 1)) { s with heap := sortedAll s.heap vs (List.toArray out) }) :
    wpAny (model prog w) A (call (.builtin "sorted") [.ref l]) Q E s := by
  have e2 : EachIs (fun v b => ∃ as, Reads (sortingHeap (copyHeap s.heap vs) (s.heap.objs.size + 1) vs) v (enc b) as) vs bs := er.mono fun _ _ ⟨as, r⟩ => ⟨as, PyProof.Rows.Reads.keeps (fun _ _ z => sorting_copy_old z) r⟩
  have S := SortsAt.data (prog := prog) (w := w) (A := A.in1.in1) (s := { s with heap := sortingHeap (copyHeap s.heap vs) (s.heap.objs.size + 1) vs }) (each_map (R := fun v d => ∃ as, Reads (sortingHeap (copyHeap s.heap vs) (s.heap.objs.size + 1) vs) v d as) enc e2) hal hk (bound_map hu)
  refine sorted_of_sortT hl (e.length ▸ hL) (args_sorted1 _) (fun _ => args_list_sort _) fun _ => list_sort_vals (s := { s with heap := copyHeap s.heap vs }) (copyHeap_at s.heap vs) S (e.length ▸ hL) ⟨rfl, ?_⟩
  exact h _ ((sortVals_length false rfl).trans e.length) (sortVals_data false e e2 hal)
end
def rSortTA (K : PySem.W.Frag) : List V → Hp → VK → Prop := fun vs H Q => ∃ (a : Addr) (xs : List V) (ds : List PyData), vs = [V.ref a] ∧ SqT K H a xs ∧ DpAll K H xs ds ∧ SeqAt.shaped (.list ds) = true ∧ alikeB ds = true ∧ sortB ds = true ∧ (∀ d ∈ ds, ∀ xs, d ≠ .tuple xs) ∧
  ∀ (p : Addr), H p = none → Q (.ref p) (upd H p (.lst (((xs.zip ds).mergeSort fun x y => dLe x.2 y.2).map (·.1))))
theorem call_sortedTA {X : Cx} (hu : X.A.units + 70 < cLine) : CallR X (.builtin "sorted") (rSortTA X.K) := by
  intro pins s σ H vs us Q I r h
  obtain ⟨a, xs, ds, rfl, hs, hd, sh, al, so, nt, q⟩ := h
  obtain ⟨its, rv, hl, hz⟩ := I.tuple hs
  rw [Vals.ref1 r]
  obtain ⟨h1, h2⟩ := each_zip I hd rv
  have e2 : (xs.zip ds).map (·.2) = ds := map_zip2 (dpAll_length hd)
  have hlz : (xs.zip ds).length = its.length := by rw [List.length_zip, ← dpAll_length hd, Nat.min_self, rv.length]
  refine sorted_dataT (enc := fun b : V × PyData => b.2) hl h1 h2 (by rw [e2]; exact alikeB_inv al) ?_ (by rw [hlz, ← rv.length]; exact hz) (fun b hb => ?_) fun out ho ho2 => ?_
  · rw [e2]
    rcases sortB_inv so with k | ⟨⟨r, rfl⟩, _⟩
    · exact k
    · exact absurd rfl (nt _ List.mem_cons_self _)
  · have hb2 : b.2 ∈ ds := by rw [← e2]; exact List.mem_map_of_mem hb
    have h3 := depth_all b.2 hb2
    have h4 := SeqAt.depth_of_shaped sh
    simp only [PyData.depth] at h4
    omega
  · obtain ⟨ep, he'⟩ := PyProof.Rows.sortedAll_at s.heap its out.toArray
    have hv := vals_each ho2
    refine ⟨.ref _, upd H (s.heap.objs.size + 1) (.lst (((xs.zip ds).mergeSort fun x y => dLe x.2 y.2).map (·.1))), I.laid (t' := s.toks) (fun _ _ => PyProof.Rows.sortedAll_old) (Nat.le_succ _) ⟨?_, out, ep, hv, he'⟩, rfl, q _ (I.hok.fresh (Nat.le_succ _))⟩
    rw [List.length_map, List.length_mergeSort, hlz, ← rv.length]; exact hz
def noTupB : PyData → Bool | .tuple _ => false | _ => true
/-- sorted of a list or a tuple (of a tuple's items none is a tuple) -/
def fSortedB : PyData → Option PyData
  | .tuple ds => if shp (.list ds) && alikeB ds && sortB ds && ds.all noTupB then some (.list (ds.mergeSort dLe)) else none
  | d => fSorted d
def rSortB (K : PySem.W.Frag) : List V → Hp → VK → Prop := fun vs H Q => rSortA K vs H Q ∨ rSortTA K vs H Q
theorem call_sortedB {X : Cx} (hu : X.A.units + 70 < cLine) : CallR X (.builtin "sorted") (rSortB X.K) := fun pins s σ H vs us Q I r h => h.elim (call_sortedA hu pins s σ H vs us Q I r) (call_sortedTA hu pins s σ H vs us Q I r)
theorem c1f_sortedB {K : PySem.W.Frag} : C1F K (rSortB K) fSortedB := by
  intro H A v d z Q tr r h k
  cases d with
  | tuple ds =>
    simp only [fSortedB] at h
    split at h
    · rename_i c; cases h
      simp only [Bool.and_eq_true] at c
      obtain ⟨a, vs, rfl, s, q⟩ := r.tup
      have cl := SeqAt.canLay_of_shaped c.1.1.1
      refine .inr ⟨a, vs, _, rfl, s.sq, q.dp (by simpa [PyData.canLay0] using cl), c.1.1.1, c.1.1.2, c.1.2, fun d hd xs e => ?_, fun p np => k p _ np trivial (.lst upd_same (q.sort.map (keeps_new np)))⟩
      have := List.all_eq_true.mp c.2 d hd
      rw [e] at this; cases this
    · cases h
  | list ds => exact .inl (c1f_sorted H A v (.list ds) z Q tr r h k)
  | _ => cases h
section
variable {X : Cx} {e : Expr} {d : M PyData} {pos p : Pos}
theorem sf_sortedB (B : Blt X.mg) (hu : X.A.units + 70 < cLine) (ha : SW X e d) (hg : Gl X "sorted" := by rfl) (h1 : starEach [e] X.env = (false, eval e X.env) :: starEach [] X.env := by rfl) (hpl : (backTo pos (starEach [] X.env)).any (·.1) = false := by rfl) : SF X (.Call (.Name "sorted" p) [e] [] pos) (d1 fSortedB d) := sf_callB c1f_sortedB (call_sortedB hu) hg B.sorted (by decide +kernel) ha (by decide) (by decide) h1 h1 hpl
end
end SL

set_option maxRecDepth 100000
namespace SL
open PySem PySem.Spec PyProof.Rows L2
/-- is_whole(value): 0 value -/
def d_is_whole : M Fl :=
  (sRt (dAnd (dIs "int" (dVar 0)) (dNot (dIs "bool" (dVar 0)))))
def F_is_whole : FS := bodyF 1 d_is_whole
/-- _law_is_integer(actual): 0 actual -/
def d_l_is_integer : M Fl :=
  (sRt (dAnd (dIs "int" (dVar 0)) (dNot (dIs "bool" (dVar 0)))))
def F_l_is_integer : FS := bodyF 1 d_l_is_integer
/-- _law_same(actual, due): 0 actual, 1 due, 2 k -/
def d_l_same (R : FS) : M Fl :=
  (sSeq (sIf (tOr2 (tVal (dIs "tuple" (dVar 1))) (tVal (dIs "list" (dVar 1)))) (sSeq (sIf (tOr2 (t2 fNe (dIs "tuple" (dVar 1)) (dIs "tuple" (dVar 0))) (tOr2 (t2 fNe (dIs "list" (dVar 1)) (dIs "list" (dVar 0))) (t2 fNe (d1 fLen (dVar 0)) (d1 fLen (dVar 1))))) (sRt (dC (.bool false))) sNx)
  (sRt (vB (t2 fEq (d1 fLen (dComp [2] (iR1 (d1 fLen (dVar 1))) (gN 2) (tNot1 (tVal (dCall R (cV (d2 fIx (dVar 0) (dVar 2)) (cV (d2 fIx (dVar 1) (dVar 2)) cNil))))) (dVar 2))) (dC (.int 0)))))) sNx)
  (sSeq (sIf (tIsNon (dVar 1)) (sRt (vB (tIsNon (dVar 0)))) sNx)
  (sSeq (sIf (tOr2 (tVal (dIs "bool" (dVar 1))) (tVal (dIs "bool" (dVar 0)))) (sRt (dAnd (dIs "bool" (dVar 1)) (dAnd (dIs "bool" (dVar 0)) (vB (t2 fEq (dVar 0) (dVar 1)))))) sNx)
  (sSeq (sIf (tVal (dIs "int" (dVar 1))) (sRt (dAnd (dIs "int" (dVar 0)) (vB (t2 fEq (dVar 0) (dVar 1))))) sNx)
  (sRt (dAnd (dIs "str" (dVar 0)) (dAnd (dIs "str" (dVar 1)) (vB (t2 fEq (dVar 0) (dVar 1))))))))))
def F_l_same : FS := FSame 40
/-- _law_spread(cell): 0 cell, 1 mixed, 2 total, 3 k -/
def d_l_spread : M Fl :=
  (sSeq (sSet 1 (d2 (fI2 gMod') (d1 fInt (dVar 0)) (dC (.int 2147483647))))
  (sSeq (sSet 2 (dC (.int 1)))
  (sSeq (sFor (iR1 (dC (.int 4))) (gN 3) (sSeq (sSet 1 (d2 (fI2 gMod') (d1 fInt (d2 fAdd (d2 fAdd (d2 (fI2 gMul') (dVar 1) (dC (.int 48271))) (dC (.int 12345))) (dVar 3))) (dC (.int 2147483647))))
  (sSet 2 (d2 fAdd (d2 (fI2 gMul') (dVar 2) (dC (.int 2147483647))) (dVar 1)))))
  (sRt (dVar 2)))))
def F_l_spread : FS := bodyF 4 d_l_spread
/-- _law_draw(pool, many): 0 pool, 1 many, 2 cell, 3 mixed, 4 value -/
def d_l_draw : M Fl :=
  (sSeq (sIf (tAnd2 (t2 fLe (d2 fIx (dOwn 0) (dC (.int 2))) (dC (.int 0))) (t2 fLt (d2 fIx (dOwn 0) (dC (.int 1))) (d1 fLen (d2 fIx (dOwn 0) (dC (.int 0)))))) (sSeq (sSet 2 (d2 fIx (d2 fIx (dOwn 0) (dC (.int 0))) (d2 fIx (dOwn 0) (dC (.int 1)))))
  (sSeq (sPut 0 (dC (.int 1)) (d2 fAdd (d2 fIx (dOwn 0) (dC (.int 1))) (dC (.int 1))))
  (sSeq (sPut 0 (dC (.int 2)) (dVar 2))
  (sIf (t2 fLt (dVar 2) (dC (.int 1000000000000000000))) (sPut 0 (dC (.int 2)) (dCall F_l_spread (cV (dVar 2) cNil))) sNx)))) sNx)
  (sSeq (sPut 0 (dC (.int 3)) (d2 fAdd (d2 fIx (dOwn 0) (dC (.int 3))) (dC (.int 1))))
  (sSeq (sIf (t2 fLe (d2 fIx (dOwn 0) (dC (.int 2))) (dC (.int 0))) (sSeq (sSet 3 (d2 (fI2 gMod') (d1 fInt (d2 fAdd (d2 fAdd (d2 (fI2 gMul') (d2 fIx (dOwn 0) (dC (.int 4))) (dC (.int 48271))) (d2 (fI2 gMul') (d2 fIx (dOwn 0) (dC (.int 3))) (dC (.int 69621)))) (dC (.int 1)))) (dC (.int 2147483647))))
  (sSeq (sSet 3 (d2 (fI2 gMod') (d1 fInt (d2 fAdd (d2 (fI2 gMul') (dVar 3) (dC (.int 16807))) (d2 fIx (dOwn 0) (dC (.int 3))))) (dC (.int 2147483629))))
  (sRt (d2 (fI2 gMod') (d2 (fI2 gDiv') (dVar 3) (dC (.int 5))) (dVar 1))))) sNx)
  (sSeq (sSet 4 (d2 (fI2 gMod') (d1 fInt (d2 fIx (dOwn 0) (dC (.int 2)))) (dVar 1)))
  (sSeq (sPut 0 (dC (.int 2)) (d2 (fI2 gDiv') (d2 fIx (dOwn 0) (dC (.int 2))) (dVar 1)))
  (sRt (dVar 4)))))))
def F_l_draw : FS := bodyF 5 d_l_draw
/-- _law_is_up(items): 0 items, 1 k -/
def d_l_is_up : M Fl :=
  (sRt (vB (t2 fEq (d1 fLen (dComp [1] (iR2 (dC (.int 1)) (d1 fLen (dVar 0))) (gN 1) (tNot1 (t2 fLt (d2 fIx (dVar 0) (d2 (fI2 gSub') (dVar 1) (dC (.int 1)))) (d2 fIx (dVar 0) (dVar 1)))) (dVar 1))) (dC (.int 0)))))
def F_l_is_up : FS := bodyF 2 d_l_is_up
/-- _law_is_row(value, many, low, high): 0 value, 1 many, 2 low, 3 high, 4 one -/
def d_l_is_row : M Fl :=
  (sSeq (sIf (tOr2 (tNot1 (tVal (dIs "tuple" (dVar 0)))) (tAnd2 (tIsNot (dVar 1)) (t2 fNe (d1 fLen (dVar 0)) (dVar 1)))) (sRt (dC (.bool false))) sNx)
  (sRt (vB (t2 fEq (d1 fLen (dComp [4] (iT (dVar 0)) (gN 4) (tOr2 (tNot1 (tVal (dCall F_l_is_integer (cV (dVar 4) cNil)))) (tOr2 (t2 fLt (dVar 4) (dVar 2)) (t2 fGt (dVar 4) (dVar 3)))) (dVar 4))) (dC (.int 0))))))
def F_l_is_row : FS := bodyF 5 d_l_is_row
/-- _law_pick(pool, items): 0 pool, 1 items -/
def d_l_pick : M Fl :=
  (sRt (d2 fIx (dVar 1) (dCall F_l_draw (cP 0 (cV (d1 fLen (dVar 1)) cNil)))))
def F_l_pick : FS := bodyF 2 d_l_pick
/-- are_times(exits, value): 0 exits, 1 value, 2 time, 3 a, 4 b, 5 gap -/
def d_are_times : M Fl :=
  (sSeq (sIf (tOr2 (tNot1 (tVal (dIs "tuple" (dVar 1)))) (tOr2 (t2 fNe (d1 fLen (dVar 1)) (d2 fIx (dVar 0) (dC (.int 0)))) (tNot1 (tVal (d1 fAll (dComp [2] (iT (dVar 1)) (gN 2) tT (dCall F_is_whole (cV (dVar 2) cNil)))))))) (sRt (dC (.bool false))) sNx)
  (sRt (d1 fAll (dComp [3, 4, 5] (iT (d2 fIx (dVar 0) (dC (.int 1)))) (gT 3 (gsCons (gN 3) (gsCons (gN 4) (gsCons (gN 5) gsNil)))) tT (vB (t2 fGe (d2 (fI2 gSub') (d2 fIx (dVar 1) (dVar 4)) (d2 fIx (dVar 1) (dVar 3))) (dVar 5)))))))
def F_are_times : FS := bodyF 6 d_are_times
/-- ring_at(exits, last, here): 0 exits, 1 last, 2 here, 3 _, 4 found -/
def d_ring_at : M Fl :=
  (sSeq (sFor (iR1 (d2 fIx (dVar 0) (dC (.int 0)))) (gN 3) (sSet 2 (d2 fIx (d2 fIx (d2 fIx (dVar 0) (dC (.int 1))) (d2 fIx (dVar 1) (dVar 2))) (dC (.int 0)))))
  (sSeq (sOwn 4 (dLst (aCons (d2 fIx (dVar 1) (dVar 2)) aNil)))
  (sSeq (sWh 100000 (t2 fNe (d2 fIx (d2 fIx (d2 fIx (dVar 0) (dC (.int 1))) (d2 fIx (dOw 4) (d1 fNeg (dC (.int 1))))) (dC (.int 0))) (dVar 2)) (sApp 4 (d2 fIx (dVar 1) (d2 fIx (d2 fIx (d2 fIx (dVar 0) (dC (.int 1))) (d2 fIx (dOw 4) (d1 fNeg (dC (.int 1))))) (dC (.int 0))))))
  (sRt (d1 fTuple (d1 fRev (dOw 4)))))))
def F_ring_at : FS := bodyF 5 d_ring_at
/-- longest(exits, first): 0 exits, 1 first, 2 best, 3 last, 4 _, 5 changed, 6 k, 7 a, 8 b, 9 gap -/
def d_longest : M Fl :=
  (sSeq (sOwn 2 (d1 fList (dVar 1)))
  (sSeq (sOwn 3 (d2 fRepL (dLst (aCons (dC .none) aNil)) (d2 fIx (dVar 0) (dC (.int 0)))))
  (sSeq (sFor (iR1 (d2 fAdd (d2 fIx (dVar 0) (dC (.int 0))) (dC (.int 1)))) (gN 4) (sSeq (sSet 5 (dC .none))
  (sSeq (sFor (iR1 (d1 fLen (d2 fIx (dVar 0) (dC (.int 1))))) (gN 6) (sSeq (sAsg (d2 fIx (d2 fIx (dVar 0) (dC (.int 1))) (dVar 6)) (gT 3 (gsCons (gN 7) (gsCons (gN 8) (gsCons (gN 9) gsNil)))))
  (sIf (tAnd2 (tIsNot (d2 fIx (dOw 2) (dVar 7))) (tOr2 (tIsNon (d2 fIx (dOw 2) (dVar 8))) (t2 fGt (d2 fAdd (d2 fIx (dOw 2) (dVar 7)) (dVar 9)) (d2 fIx (dOw 2) (dVar 8))))) (sSeq (sPut 2 (dVar 8) (d2 fAdd (d2 fIx (dOw 2) (dVar 7)) (dVar 9)))
  (sSeq (sPut 3 (dVar 8) (dVar 6))
  (sSet 5 (dVar 8)))) sNx)))
  (sIf (tIsNon (dVar 5)) (sFz 2 (sRt (dTup (aCons (dVar 2) (aCons (dC .none) aNil))))) sNx))))
  (sFz 3 (sRt (dTup (aCons (dC .none) (aCons (dCall F_ring_at (cV (dVar 0) (cV (dVar 3) (cV (dVar 5) cNil)))) aNil))))))))
def F_longest : FS := bodyF 10 d_longest
/-- exit_paper(exits): 0 exits, 1 times, 2 ring -/
def d_exit_paper : M Fl :=
  (sSeq (sAsg (dCall F_longest (cV (dVar 0) (cV (d2 fRepL (dLst (aCons (dC (.int 0)) aNil)) (d2 fIx (dVar 0) (dC (.int 0)))) cNil))) (gT 2 (gsCons (gN 1) (gsCons (gN 2) gsNil))))
  (sRt (dIf (tIsNon (dVar 2)) (dTup (aCons (dC (.str "times")) (aCons (d1 fTuple (dVar 1)) aNil))) (dTup (aCons (dC (.str "ring")) (aCons (dVar 2) aNil))))))
def F_exit_paper : FS := bodyF 3 d_exit_paper
/-- _law_exits(pool): 0 pool, 1 many, 2 rows, 3 around, 4 k, 5 a, 6 b, 7 g, 8 gap -/
def d_l_exits : M Fl :=
  (sSeq (sSet 1 (d2 fAdd (dC (.int 1)) (dCall F_l_draw (cP 0 (cV (dC (.int 6)) cNil)))))
  (sSeq (sOwn 2 (dLst aNil))
  (sSeq (sSet 3 (d2 fIx (dTup (aCons (dC (.int 3)) (aCons (dC (.int 9)) (aCons (dC (.int 99)) aNil)))) (dCall F_l_draw (cP 0 (cV (dC (.int 3)) cNil)))))
  (sSeq (sFor (iR1 (dIf (t2 fGt (dVar 1) (dC (.int 1))) (dCall F_l_draw (cP 0 (cV (dC (.int 13)) cNil))) (dC (.int 0)))) (gN 4) (sSeq (sSet 5 (dCall F_l_draw (cP 0 (cV (dVar 1) cNil))))
  (sSeq (sSet 6 (dCall F_l_pick (cP 0 (cV (dComp [7] (iR1 (dVar 1)) (gN 7) (t2 fNe (dVar 7) (dVar 5)) (dVar 7)) cNil))))
  (sSeq (sSet 8 (dCall F_l_draw (cP 0 (cV (d2 fAdd (dVar 3) (dC (.int 1))) cNil))))
  (sApp 2 (dTup (aCons (dVar 5) (aCons (dVar 6) (aCons (dIf (tAnd2 (t2 fLt (dVar 5) (dVar 6)) (t2 fGt (dCall F_l_draw (cP 0 (cV (dC (.int 5)) cNil))) (dC (.int 0)))) (dVar 8) (d2 fMax2 (d1 fNeg (dC (.int 99))) (d2 (fI2 gSub') (d2 (fI2 gSub') (dC (.int 0)) (dVar 8)) (dCall F_l_draw (cP 0 (cV (dC (.int 3)) cNil)))))) aNil)))))))))
  (sRt (dTup (aCons (dVar 1) (aCons (d1 fTuple (dOw 2)) aNil))))))))
def F_l_exits : FS := bodyF 9 d_l_exits
/-- _law_are_times(exits, value): 0 exits, 1 value, 2 one, 3 rule -/
def d_l_are_times : M Fl :=
  (sSeq (sIf (tOr2 (tNot1 (tVal (dIs "tuple" (dVar 1)))) (tOr2 (t2 fNe (d1 fLen (dVar 1)) (d2 fIx (dVar 0) (dC (.int 0)))) (t2 fGt (d1 fLen (dComp [2] (iT (dVar 1)) (gN 2) (tNot1 (tVal (dCall F_l_is_integer (cV (dVar 2) cNil)))) (dVar 2))) (dC (.int 0))))) (sRt (dC (.bool false))) sNx)
  (sRt (vB (t2 fEq (d1 fLen (dComp [3] (iT (d2 fIx (dVar 0) (dC (.int 1)))) (gN 3) (t2 fLt (d2 (fI2 gSub') (d2 fIx (dVar 1) (d2 fIx (dVar 3) (dC (.int 1)))) (d2 fIx (dVar 1) (d2 fIx (dVar 3) (dC (.int 0))))) (d2 fIx (dVar 3) (dC (.int 2)))) (dVar 3))) (dC (.int 0))))))
def F_l_are_times : FS := bodyF 4 d_l_are_times
/-- _law_has_times(exits): 0 exits, 1 far, 2 k -/
def d_l_has_times : M Fl :=
  (sSeq (sSet 1 (dCall F_l_far_gaps (cV (dVar 0) cNil)))
  (sRt (vB (t2 fEq (d1 fLen (dComp [2] (iR1 (d2 fIx (dVar 0) (dC (.int 0)))) (gN 2) (t2 fGt (d2 fIx (d2 fIx (dVar 1) (dVar 2)) (dVar 2)) (dC (.int 0))) (dVar 2))) (dC (.int 0))))))
def F_l_has_times : FS := bodyF 3 d_l_has_times
/-- earliest(exits): 0 exits, 1 paper -/
def d_earliest : M Fl :=
  (sSeq (sSet 1 (dCall F_exit_paper (cV (dVar 0) cNil)))
  (sRt (dIf (t2 fEq (d2 fIx (dVar 1) (dC (.int 0))) (dC (.str "times"))) (d2 fIx (dVar 1) (dC (.int 1))) (dC .none))))
def F_earliest : FS := bodyF 2 d_earliest
/-- least_gap(exits, a, b): 0 exits, 1 a, 2 b, 3 first -/
def d_least_gap : M Fl :=
  (sSeq (sOwn 3 (d2 fRepL (dLst (aCons (dC .none) aNil)) (d2 fIx (dVar 0) (dC (.int 0)))))
  (sSeq (sPut 3 (dVar 1) (dC (.int 0)))
  (sFz 3 (sRt (d2 fIx (d2 fIx (dCall F_longest (cV (dVar 0) (cV (dVar 3) cNil))) (dC (.int 0))) (dVar 2))))))
def F_least_gap : FS := bodyF 4 d_least_gap
end SL

set_option Elab.async false
set_option linter.all false
set_option maxRecDepth 100000
set_option maxHeartbeats 4000000
/-! Ev: reasoning about meanings, step by step. -/
namespace SL
open PySem PySem.Spec PyProof.Rows L2
/-- the meaning comes to an end of which Q holds -/
def Ev {α} (m : M α) (e : En) (Q : α → En → Prop) : Prop := ∃ x e', m e = some (x, e') ∧ Q x e'
theorem Ev.mono {α} {m : M α} {e Q Q'} (h : Ev m e Q) (f : ∀ x e', Q x e' → Q' x e') : Ev m e Q' := let ⟨x, e', a, b⟩ := h; ⟨x, e', a, f _ _ b⟩
theorem ev_ret {α} {x : α} {e Q} : Ev (ret x) e Q = Q x e := propext ⟨fun ⟨y, e', a, b⟩ => by cases a; exact b, fun h => ⟨x, e, rfl, h⟩⟩
theorem ev_bnd {α β} {m : M α} {f : α → M β} {e Q} : Ev (bnd m f) e Q = Ev m e fun x e' => Ev (f x) e' Q := propext ⟨fun ⟨y, e', a, b⟩ => by
  obtain ⟨x, e1, q1, q2⟩ := bnd_inv a
  exact ⟨x, e1, q1, y, e', q2, b⟩, fun ⟨x, e1, q1, y, e', q2, b⟩ => ⟨y, e', by unfold bnd; rw [q1]; exact q2, b⟩⟩
theorem ev_lft {α} {o : Option α} {e Q} : Ev (lft o) e Q = ∃ x, o = some x ∧ Q x e := propext ⟨fun ⟨y, e', a, b⟩ => by
  obtain ⟨q, rfl⟩ := lft_inv a
  exact ⟨y, q, b⟩, fun ⟨x, q, b⟩ => ⟨x, e, by unfold lft; rw [q]; rfl, b⟩⟩
theorem ex_some {α} {x : α} {P : α → Prop} : (∃ y, some x = some y ∧ P y) = P x := propext ⟨fun ⟨y, a, b⟩ => by cases a; exact b, fun h => ⟨x, rfl, h⟩⟩
theorem ev_fn {α} {f : En → Option (α × En)} {e Q} : Ev f e Q = ∃ p, f e = some p ∧ Q p.1 p.2 := propext ⟨fun ⟨y, e', a, b⟩ => ⟨_, a, b⟩, fun ⟨p, a, b⟩ => ⟨p.1, p.2, a, b⟩⟩
theorem ev_ite {α} {c : Prop} [Decidable c] {m m' : M α} {e Q} : Ev (if c then m else m') e Q = if c then Ev m e Q else Ev m' e Q := by split <;> rfl
/-! the environment -/
theorem at_0 {s : Sl} {e : En} : En.at (s :: e) 0 = s := rfl
theorem at_s {s : Sl} {e : En} {i : Nat} : En.at (s :: e) (i + 1) = En.at e i := by simp [En.at]
def NL : Sl → Prop | .lent _ => False | _ => True
theorem nl_no : NL .no = True := rfl
theorem nl_val {d} : NL (.val d) = True := rfl
theorem nl_own {d} : NL (.own d) = True := rfl
theorem put_nl {e : En} {i s} (h : NL (e.at i)) : e.put i s = some (e.set i s) := by
  unfold En.put
  cases q : e.at i with
  | lent d => rw [q] at h; exact h.elim
  | _ => rfl
theorem ev_var {i : Nat} {e : En} {Q} : Ev (dVar i) e Q = ∃ d, e.at i = .val d ∧ Q d e := propext ⟨fun ⟨y, e', a, b⟩ => (by
  unfold dVar at a; split at a
  · rename_i d h; cases a; exact ⟨_, h, b⟩
  · cases a), fun ⟨d, h, b⟩ => ⟨d, e, by unfold dVar; rw [h], b⟩⟩
theorem ex_val {x : PyData} {P : PyData → Prop} : (∃ d, Sl.val x = .val d ∧ P d) = P x := propext ⟨fun ⟨y, a, b⟩ => by cases a; exact b, fun h => ⟨x, rfl, h⟩⟩
theorem ev_own {i : Nat} {e : En} {Q} : Ev (dOwn i) e Q = ∃ d, e.obj i = some d ∧ Q d e := propext ⟨fun ⟨y, e', a, b⟩ => (by
  unfold dOwn at a; split at a
  · rename_i d h; cases a; exact ⟨_, h, b⟩
  · cases a), fun ⟨d, h, b⟩ => ⟨d, e, by unfold dOwn; rw [h], b⟩⟩
theorem obj_0o {d : PyData} {e : En} : En.obj (.own d :: e) 0 = some d := rfl
theorem obj_0l {d : PyData} {e : En} : En.obj (.lent d :: e) 0 = some d := rfl
theorem obj_s {s : Sl} {e : En} {i : Nat} : En.obj (s :: e) (i + 1) = En.obj e i := by unfold En.obj; rw [at_s]
theorem mut_0o {d d' : PyData} {e : En} : En.mut (.own d :: e) 0 d' = .own d' :: e := rfl
theorem mut_0l {d d' : PyData} {e : En} : En.mut (.lent d :: e) 0 d' = .lent d' :: e := rfl
theorem mut_s {s : Sl} {e : En} {i : Nat} {d : PyData} : En.mut (s :: e) (i + 1) d = s :: En.mut e i d := by unfold En.mut; rw [at_s]; split <;> rfl
theorem ev_frz {i : Nat} {e : En} {Q} : Ev (dFrz i) e Q = ∃ d, e.at i = .own d ∧ Q d (e.set i (.val d)) := propext ⟨fun ⟨y, e', a, b⟩ => (by
  unfold dFrz at a; split at a
  · rename_i d h; cases a; exact ⟨_, h, b⟩
  · cases a), fun ⟨d, h, b⟩ => ⟨d, _, by unfold dFrz; rw [h], b⟩⟩
theorem ex_own {x : PyData} {P : PyData → Prop} : (∃ d, Sl.own x = .own d ∧ P d) = P x := propext ⟨fun ⟨y, a, b⟩ => by cases a; exact b, fun h => ⟨x, rfl, h⟩⟩
theorem ev_set {i : Nat} {d : M PyData} {e Q} (h : Ev d e fun x e1 => NL (e1.at i) ∧ Q .nx (e1.set i (.val x))) : Ev (sSet i d) e Q := by
  unfold sSet sAsg; rw [ev_bnd]
  refine h.mono fun x e1 ⟨a, b⟩ => ?_
  rw [ev_fn]
  exact ⟨_, by unfold gN; rw [put_nl a]; rfl, b⟩
theorem ev_asg {g} {d : M PyData} {e Q} (h : Ev d e fun x e1 => ∃ e2, g x e1 = some e2 ∧ Q .nx e2) : Ev (sAsg d g) e Q := by
  unfold sAsg; rw [ev_bnd]
  refine h.mono fun x e1 ⟨e2, a, b⟩ => ?_
  rw [ev_fn]
  exact ⟨_, by rw [a]; rfl, b⟩
theorem ev_sown {i : Nat} {d : M PyData} {e Q} (h : Ev d e fun x e1 => NL (e1.at i) ∧ Q .nx (e1.set i (.own x))) : Ev (sOwn i d) e Q := by
  unfold sOwn; rw [ev_bnd]
  refine h.mono fun x e1 ⟨a, b⟩ => ?_
  rw [ev_fn]
  exact ⟨_, by rw [put_nl a]; rfl, b⟩
theorem ev_app {i : Nat} {d : M PyData} {e Q} {ds0} (h0 : e.obj i = some (.list ds0)) (h : Ev d e fun x e1 => ∃ ds, e1.obj i = some (.list ds) ∧ ds.length < 16777216 ∧ Q .nx (e1.mut i (.list (ds ++ [x])))) : Ev (sApp i d) e Q := by
  obtain ⟨x, e1, q1, ds, a, b, c⟩ := h
  rw [ev_fn]
  refine ⟨(.nx, e1.mut i (.list (ds ++ [x]))), ?_, c⟩
  unfold sApp; rw [h0, if_pos (show isL (some (.list ds0)) = true from rfl)]
  unfold bnd; rw [q1]
  show (match e1.obj i with | some (.list ds) => if ds.length < 16777216 then some (Fl.nx, e1.mut i (.list (ds ++ [x]))) else none | _ => none) = _
  rw [a]; exact if_pos b
theorem ev_put {i : Nat} {dk dv : M PyData} {e Q} (h : Ev dv e fun v e0 => (∃ ds0, e0.obj i = some (.list ds0)) ∧ Ev dk e0 fun k e1 => ∃ ds n j, e1.obj i = some (.list ds) ∧ k = .int n ∧ ixN ds.length n = some j ∧ Q .nx (e1.mut i (.list (ds.set j v)))) : Ev (sPut i dk dv) e Q := by
  unfold sPut; rw [ev_bnd]
  refine h.mono fun v e0 ⟨⟨ds0, h0⟩, h⟩ => ?_
  obtain ⟨k, e1, q1, ds, n, j, a, rfl, b, c⟩ := h
  rw [ev_fn]
  refine ⟨(.nx, e1.mut i (.list (ds.set j v))), ?_, c⟩
  rw [h0, if_pos (show isL (some (.list ds0)) = true from rfl)]
  unfold bnd; rw [q1]
  show (match e1.obj i with | some (.list ds) => ((intOf (.int n)).bind (ixN ds.length)).map fun j => (Fl.nx, e1.mut i (.list (ds.set j v))) | _ => none) = _
  rw [a]
  show ((some n).bind (ixN ds.length)).map _ = _
  rw [Option.bind_some, b]; rfl
theorem ev_seq {d1 d2 : M Fl} {e Q} (h : Ev d1 e fun r e1 => match r with | .nx => Ev d2 e1 Q | r => Q r e1) : Ev (sSeq d1 d2) e Q := by
  unfold sSeq; rw [ev_bnd]
  refine h.mono fun r e1 h => ?_
  cases r with
  | nx => exact h
  | _ => rw [ev_ret]; exact h
theorem ev_for {g} {b : M Fl} {Q} (Inv : Nat → En → Prop) : ∀ {items : List PyData} {e : En} (k : Nat), Inv k e → (∀ i x e, items[i]? = some x → Inv (k + i) e → ∃ e1, g x e = some e1 ∧ Ev b e1 fun r e2 => (r = .nx ∨ r = .ct) ∧ Inv (k + i + 1) e2) → (∀ e, Inv (k + items.length) e → Q .nx e) → Ev (forGo g b items) e Q
  | [], e, k, h, _, hd => ⟨.nx, e, rfl, hd e h⟩
  | x :: xs, e, k, h, hs, hd => by
    obtain ⟨e1, q1, r, e2, q2, hr, h2⟩ := hs 0 x e rfl h
    have go := ev_for (g := g) (b := b) (Q := Q) Inv (items := xs) (e := e2) (k + 1) h2 (fun i y e' hy hi => by
      have := hs (i + 1) y e' (by simpa using hy) (by rw [show k + (i + 1) = k + 1 + i by omega]; exact hi)
      rw [show k + (i + 1) + 1 = k + 1 + i + 1 by omega] at this; exact this) (fun e' he => hd e' (by rw [List.length_cons, show k + (xs.length + 1) = k + 1 + xs.length by omega]; exact he))
    obtain ⟨y, e3, q3, h3⟩ := go
    refine ⟨y, e3, ?_, h3⟩
    show (g x e).bind _ = _
    rw [q1]
    show (b e1).bind _ = _
    rw [q2]
    rcases hr with rfl | rfl <;> exact q3
theorem ev_sfor {di : M (List PyData)} {g} {b : M Fl} {e Q} (h : Ev di e fun items e1 => Ev (forGo g b items) e1 Q) : Ev (sFor di g b) e Q := by unfold sFor; rw [ev_bnd]; exact h
theorem ev_call {F : FS} {da : M (List Ag)} {e Q} (h : Ev da e fun args e1 => ndB (pls args) = true ∧ ∃ r as', F (mkA e1 args) = some (r, as') ∧ Q r (putB e1 args as')) : Ev (dCall F da) e Q := by
  unfold dCall; rw [ev_bnd]
  refine h.mono fun args e1 ⟨a, r, as', b, c⟩ => ?_
  rw [ev_fn]
  exact ⟨_, by rw [if_pos a, b]; rfl, c⟩
theorem ev_cP {i : Nat} {r : M (List Ag)} {e Q} (h : (e.obj i).isSome = true) (h2 : Ev r e fun xs e1 => Q (.p i :: xs) e1) : Ev (cP i r) e Q := by
  obtain ⟨xs, e1, q, h2⟩ := h2
  refine ⟨_, e1, ?_, h2⟩
  unfold cP; rw [if_pos h]; unfold bnd; rw [q]; rfl
/-- a def's result by its body -/
theorem bodyF_ev {n : Nat} {d : M Fl} {as : List Sl} {r as'} (ok : as.all argOk = true) (h : Ev d (as ++ List.replicate (n - as.length) .no) fun fl e => (fl = .rt r ∨ (fl = .nx ∧ r = .none)) ∧ outs as e 0 = as') : bodyF n d as = some (r, as') := by
  obtain ⟨fl, e, q, h, rfl⟩ := h
  unfold bodyF; rw [if_pos ok, q]
  rcases h with rfl | ⟨rfl, rfl⟩ <;> rfl
/-! comprehensions over one name, nothing else changed -/
theorem comp_pure {i : Nat} {di : M (List PyData)} {c : M Bool} {el : M PyData} {e : En} {items : List PyData} (P : PyData → Bool) (v : PyData → PyData) (hi : i < e.length) (ok : okW e [i] = true) (hd : di e = some (items, e))
    (h : ∀ x ∈ items, c (e.set i (.val x)) = some (P x, e.set i (.val x)) ∧ (P x = true → el (e.set i (.val x)) = some (v x, e.set i (.val x)))) : dComp [i] di (gN i) c el e = some (.list ((items.filter P).map v), e) := by
  have w1 : ∀ e', wipeE e' [i] = e'.set i .no := fun _ => rfl
  have main : ∀ (l : List PyData) (e' : En), (∀ x ∈ l, x ∈ items) → e'.set i .no = e.set i .no → okW e' [i] = true → ∃ e2, compGo [i] (gN i) c el l e' = some ((l.filter P).map v, e2) ∧ e2.set i .no = e.set i .no := by
    intro l
    induction l with
    | nil => intro e' _ h1 _; exact ⟨e', rfl, h1⟩
    | cons x r ih =>
      intro e' hm h1 h2
      obtain ⟨c1, c2⟩ := h x (hm x List.mem_cons_self)
      have hs : ∀ y, (e.set i (.val y)).set i .no = e.set i .no := fun y => List.set_set ..
      have okx : okW (e.set i (.val x)) [i] = true := by
        unfold okW; simp only [List.all_cons, List.all_nil, Bool.and_true]; rw [at_set, if_pos ⟨rfl, hi⟩]
      have gx : gN i x (wipeE e' [i]) = some (e.set i (.val x)) := by
        rw [w1, h1]
        unfold gN En.put
        rw [at_set, if_pos ⟨rfl, hi⟩]
        show some _ = some _
        rw [List.set_set]
      obtain ⟨e2, q2, h3⟩ := ih (e.set i (.val x)) (fun y hy => hm y (List.mem_cons_of_mem _ hy)) (hs x) okx
      refine ⟨e2, ?_, h3⟩
      show (gN i x (wipeE e' [i])).bind _ = _
      rw [gx]
      show (c (e.set i (.val x))).bind _ = _
      rw [c1]
      show (if P x = true then _ else _) = _
      by_cases hp : P x = true
      · rw [if_pos hp, List.filter_cons_of_pos hp, List.map_cons, c2 hp]
        show (if okW (e.set i (.val x)) [i] = true then _ else none) = _
        rw [if_pos okx, q2]; rfl
      · rw [if_neg hp, List.filter_cons_of_neg hp]
        show (if okW (e.set i (.val x)) [i] = true then _ else none) = _
        rw [if_pos okx, q2]
  obtain ⟨e2, q, h2⟩ := main items e (fun _ h => h) rfl ok
  unfold dComp bnd
  rw [hd]
  show (if okW e [i] = true then _ else none) = _
  rw [if_pos ok, q]
  show some _ = some _
  have : restore e2 e [i] = e := by
    show e2.set i (e.at i) = e
    have e3 : (e2.set i .no).set i (e.at i) = (e.set i .no).set i (e.at i) := by rw [h2]
    rw [List.set_set, List.set_set] at e3
    rw [e3]
    unfold En.at
    rw [List.getElem?_eq_getElem hi]
    exact List.set_getElem_self hi
  show some (PyData.list _, restore e2 e [i]) = _
  rw [this]
end SL

set_option Elab.async false
set_option linter.all false
set_option maxRecDepth 100000
set_option maxHeartbeats 4000000
/-! Same: _law_same does what same says, and the recursion's levels. -/
namespace SL
open PySem PySem.Spec PyProof.Rows L2
theorem sameAll_iff : ∀ (as ds : List PyData), as.length = ds.length → (sameAll as ds = true ↔ ∀ i, i < ds.length → same (as.getD i .none) (ds.getD i .none) = true)
  | [], [], _ => by simp [sameAll]
  | a :: as, d :: ds, h => by
    have ih := sameAll_iff as ds (by simpa using h)
    simp only [sameAll, Bool.and_eq_true]
    rw [ih]
    constructor
    · rintro ⟨h1, h2⟩ i hi
      cases i with
      | zero => simpa using h1
      | succ i => simpa using h2 i (by simpa using hi)
    · intro h
      exact ⟨by simpa using h 0 (by simp), fun i hi => by simpa using h (i + 1) (by simpa using hi)⟩
  | [], d :: ds, h => by simp at h
  | a :: as, [], h => by simp at h
theorem atI_nat' {ds : List PyData} {i : Nat} (h : i < ds.length) : atI ds (i : Int) = some (ds.getD i .none) := by
  rw [L2.atI_nat (List.getElem?_eq_getElem h)]; simp [List.getD_eq_getElem?_getD, h]
theorem depth_get {ds : List PyData} {i : Nat} (h : i < ds.length) : (ds.getD i .none).depth ≤ PyData.depthAll ds := by
  apply depth_all; simp [List.getD_eq_getElem?_getD, h]
theorem noDict_get : ∀ {ds : List PyData} {i : Nat}, noDictAll ds = true → i < ds.length → noDict (ds.getD i .none) = true
  | d :: ds, 0, h, _ => by simp only [noDictAll, Bool.and_eq_true] at h; simpa using h.1
  | d :: ds, i + 1, h, l => by simp only [noDictAll, Bool.and_eq_true] at h; simpa using noDict_get h.2 (by simpa using l)
/-- the comprehension in _law_same -/
theorem same_comp {R : FS} {a b : PyData} {as ds : List PyData} (ha : a = .tuple as ∧ b = .tuple ds ∨ a = .list as ∧ b = .list ds) (hl : as.length = ds.length) (hz : ds.length ≤ 16777216)
    (hR : ∀ i, i < ds.length → R [.val (as.getD i .none), .val (ds.getD i .none)] = some (.bool (same (as.getD i .none) (ds.getD i .none)), [.val (as.getD i .none), .val (ds.getD i .none)])) :
    dComp [2] (iR1 (d1 fLen (dVar 1))) (gN 2) (tNot1 (tVal (dCall R (cV (d2 fIx (dVar 0) (dVar 2)) (cV (d2 fIx (dVar 1) (dVar 2)) cNil))))) (dVar 2) [.val a, .val b, .no] =
      some (.list ((upTo 0 ds.length).filter fun k => match k with | .int i => !same (as.getD i.toNat .none) (ds.getD i.toNat .none) | _ => false), [.val a, .val b, .no]) := by
  have hlen : fLen b = some (.int ds.length) := by rcases ha with ⟨rfl, rfl⟩ | ⟨rfl, rfl⟩ <;> rfl
  have hrg : rg1 (ds.length : Int) = some (upTo 0 ds.length) := by
    unfold rg1; rw [if_pos ⟨by omega, by omega⟩, Int.toNat_natCast]
  have := comp_pure (i := 2) (di := iR1 (d1 fLen (dVar 1))) (c := tNot1 (tVal (dCall R (cV (d2 fIx (dVar 0) (dVar 2)) (cV (d2 fIx (dVar 1) (dVar 2)) cNil))))) (el := dVar 2) (e := [.val a, .val b, .no]) (items := upTo 0 ds.length)
    (fun k => match k with | .int i => !same (as.getD i.toNat .none) (ds.getD i.toNat .none) | _ => false) id (by show 2 < 3; decide) rfl
    (by simp [iR1, d1, bnd, dVar, En.at, lft, hlen, fRg1, intOf, hrg]) (fun x hx => by
      obtain ⟨i, hi'⟩ := List.getElem?_of_mem hx
      obtain ⟨hi, rfl⟩ := upTo_get hi'
      clear hi' hx
      have h0 : ((0 : Int) + (i : Nat)).toNat = i := by omega
      have f1 : fIx a (.int (0 + (i : Nat))) = some (as.getD i .none) := by
        rcases ha with ⟨rfl, rfl⟩ | ⟨rfl, rfl⟩ <;> (simp only [fIx, Int.zero_add]; exact atI_nat' (by omega))
      have f2 : fIx b (.int (0 + (i : Nat))) = some (ds.getD i .none) := by
        rcases ha with ⟨rfl, rfl⟩ | ⟨rfl, rfl⟩ <;> (simp only [fIx, Int.zero_add]; exact atI_nat' (by omega))
      refine ⟨?_, fun _ => rfl⟩
      have hRi := hR i hi
      show _ = some (!same (as.getD ((0 : Int) + (i : Nat)).toNat .none) (ds.getD ((0 : Int) + (i : Nat)).toNat .none), _)
      rw [h0]
      generalize as.getD i .none = u at *
      generalize ds.getD i .none = v at *
      generalize ((0 : Int) + (i : Nat)) = k at *
      simp [tNot1, tVal, dCall, cV, cNil, bnd, ret, lft, d2, dVar, En.at, f1, f2, pls, ndB, mkA, hRi, putB, boolOf])
  rw [this, List.map_id]
theorem filter_len {n : Nat} {P : PyData → Bool} : ((upTo 0 n).filter P).length = 0 ↔ ∀ i : Nat, i < n → P (.int (0 + (i : Nat))) = false := by
  rw [List.length_eq_zero_iff, List.filter_eq_nil_iff]
  constructor
  · intro h i hi
    have := h (.int (0 + (i : Nat))) (by unfold upTo; exact List.mem_map.mpr ⟨i, List.mem_range.mpr hi, rfl⟩)
    simpa using this
  · intro h x hx
    unfold upTo at hx
    obtain ⟨i, hi, rfl⟩ := List.mem_map.mp hx
    rw [h i (List.mem_range.mp hi)]; exact Bool.false_ne_true
theorem same_seq {R : FS} {a b : PyData} {as ds : List PyData} (ha : a = .tuple as ∧ b = .tuple ds ∨ a = .list as ∧ b = .list ds) (hz : ds.length ≤ 16777216)
    (hR : ∀ i, as.length = ds.length → i < ds.length → R [.val (as.getD i .none), .val (ds.getD i .none)] = some (.bool (same (as.getD i .none) (ds.getD i .none)), [.val (as.getD i .none), .val (ds.getD i .none)])) :
    bodyF 3 (d_l_same R) [.val a, .val b] = some (.bool (sameAll as ds), [.val a, .val b]) := by
  have la : fLen a = some (.int as.length) := by rcases ha with ⟨rfl, rfl⟩ | ⟨rfl, rfl⟩ <;> rfl
  have lb : fLen b = some (.int ds.length) := by rcases ha with ⟨rfl, rfl⟩ | ⟨rfl, rfl⟩ <;> rfl
  have ta : isT "tuple" a = isT "tuple" b := by rcases ha with ⟨rfl, rfl⟩ | ⟨rfl, rfl⟩ <;> rfl
  have tl : isT "list" a = isT "list" b := by rcases ha with ⟨rfl, rfl⟩ | ⟨rfl, rfl⟩ <;> rfl
  have tt : (isT "tuple" b = true) ∨ (isT "tuple" b = false ∧ isT "list" b = true) := ha.elim (fun h => .inl (by rw [h.2]; rfl)) fun h => .inr (by rw [h.2]; exact ⟨rfl, rfl⟩)
  have ne : ∀ x : Bool, fNe (.bool x) (.bool x) = some false := by intro x; cases x <;> rfl
  refine bodyF_ev rfl ?_
  show Ev (d_l_same R) [.val a, .val b, .no] _
  by_cases hl : as.length = ds.length
  · have hc := same_comp ha hl hz fun i => hR i hl
    have e1 : fNe (.int (as.length : Int)) (.int (ds.length : Int)) = some false := by simp [fNe, fEq, hl]
    refine ⟨.rt (.bool (sameAll as ds)), [.val a, .val b, .no], ?_, .inl rfl, rfl⟩
    have fin : fEq (.int ((((upTo 0 ds.length).filter fun k => match k with | .int i => !same (as.getD i.toNat .none) (ds.getD i.toNat .none) | _ => false).length : Nat) : Int)) (.int 0) = some (sameAll as ds) := by
      show some (decide _) = _
      congr 1
      rw [Bool.eq_iff_iff, decide_eq_true_iff, sameAll_iff as ds hl]
      rw [show (((((upTo 0 ds.length).filter fun k => match k with | .int i => !same (as.getD i.toNat .none) (ds.getD i.toNat .none) | _ => false).length : Nat) : Int) = 0) ↔ _ from Int.natCast_eq_zero, filter_len]
      constructor
      · intro h i hi
        have := h i hi
        simpa [show ((0 : Int) + (i : Nat)).toNat = i by omega] using this
      · intro h i hi
        simpa [show ((0 : Int) + (i : Nat)).toNat = i by omega] using h i hi
    generalize hL : ((upTo 0 ds.length).filter fun k => match k with | .int i => !same (as.getD i.toNat .none) (ds.getD i.toNat .none) | _ => false) = L at hc fin
    have fl : fLen (.list L) = some (.int (L.length : Nat)) := rfl
    rcases tt with tt | ⟨tt, tt'⟩
    · simp [d_l_same, sSeq, sIf, tOr2, tVal, dIs, bnd, ret, lft, dVar, En.at, boolOf, tt, t2, ta, tl, ne, d1, la, lb, e1, sNx, sRt, vB, dC, -List.length_eq_zero_iff] at *
      simp [hc, fl, fin, ret]
    · simp [d_l_same, sSeq, sIf, tOr2, tVal, dIs, bnd, ret, lft, dVar, En.at, boolOf, tt, tt', t2, ta, tl, ne, d1, la, lb, e1, sNx, sRt, vB, dC] at *
      simp [hc, fl, fin, ret]
  · have e1 : fNe (.int (as.length : Int)) (.int (ds.length : Int)) = some true := by simp [fNe, fEq]; omega
    have e2 : sameAll as ds = false := by
      cases q : sameAll as ds with
      | false => rfl
      | true =>
        exfalso; apply hl
        clear hl e1 la lb hR hz ha ta tl tt
        induction as generalizing ds with
        | nil => cases ds with | nil => rfl | cons d ds => simp [sameAll] at q
        | cons a as ih => cases ds with | nil => simp [sameAll] at q | cons d ds => simp only [sameAll, Bool.and_eq_true] at q; simp [ih q.2]
    refine ⟨.rt (.bool false), [.val a, .val b, .no], ?_, .inl (by rw [e2]), rfl⟩
    rcases tt with tt | ⟨tt, tt'⟩
    · simp [d_l_same, sSeq, sIf, tOr2, tVal, dIs, bnd, ret, lft, dVar, En.at, boolOf, tt, t2, ta, tl, ne, d1, la, lb, e1, sRt, dC]
    · simp [d_l_same, sSeq, sIf, tOr2, tVal, dIs, bnd, ret, lft, dVar, En.at, boolOf, tt, tt', t2, ta, tl, ne, d1, la, lb, e1, sRt, dC]
theorem same_flat {R : FS} {a b : PyData} (hb : (∀ ds, b ≠ .tuple ds) ∧ (∀ ds, b ≠ .list ds) ∧ ∀ ps, b ≠ .dict ps) : bodyF 3 (d_l_same R) [.val a, .val b] = some (.bool (same a b), [.val a, .val b]) := by
  refine bodyF_ev rfl ?_
  refine ⟨.rt (.bool (same a b)), [.val a, .val b, .no], ?_, .inl rfl, rfl⟩
  show d_l_same R [.val a, .val b, .no] = _
  have eb : ∀ x y : Bool, fEq (.bool x) (.bool y) = some (decide (x = y)) := by intro x y; cases x <;> cases y <;> rfl
  obtain ⟨h1, h2, h3⟩ := hb
  cases b with
  | tuple ds => exact absurd rfl (h1 ds)
  | list ds => exact absurd rfl (h2 ds)
  | dict ps => exact absurd rfl (h3 ps)
  | none => cases a <;> simp [d_l_same, sSeq, sIf, tOr2, tVal, dIs, bnd, ret, lft, dVar, En.at, boolOf, isT, sNx, tIsNon, isNon, sRt, vB, same]
  | bool x => cases a <;> simp [d_l_same, sSeq, sIf, tOr2, tVal, dIs, bnd, ret, lft, dVar, En.at, boolOf, isT, sNx, tIsNon, isNon, sRt, vB, same, dAnd, t2, eb]
  | int x => cases a <;> simp [d_l_same, sSeq, sIf, tOr2, tVal, dIs, bnd, ret, lft, dVar, En.at, boolOf, isT, sNx, tIsNon, isNon, sRt, vB, same, dAnd, t2, fEq]
  | str x => cases a <;> simp [d_l_same, sSeq, sIf, tOr2, tVal, dIs, bnd, ret, lft, dVar, En.at, boolOf, isT, sNx, tIsNon, isNon, sRt, vB, same, dAnd, t2, fEq]
theorem same_kind {R : FS} {a b : PyData} {ds : List PyData} (hb : b = .tuple ds ∧ (∀ as, a ≠ .tuple as) ∨ b = .list ds ∧ ∀ as, a ≠ .list as) : bodyF 3 (d_l_same R) [.val a, .val b] = some (.bool false, [.val a, .val b]) ∧ same a b = false := by
  refine ⟨bodyF_ev rfl ⟨.rt (.bool false), [.val a, .val b, .no], ?_, .inl rfl, rfl⟩, ?_⟩
  · show d_l_same R [.val a, .val b, .no] = _
    have f1 : fNe (.bool true) (.bool false) = some true := rfl
    have f2 : fNe (.bool false) (.bool true) = some true := rfl
    have f3 : fNe (.bool false) (.bool false) = some false := rfl
    rcases hb with ⟨rfl, h⟩ | ⟨rfl, h⟩
    · cases a <;> first | exact absurd rfl (h _) | simp [d_l_same, sSeq, sIf, tOr2, tVal, dIs, bnd, ret, lft, dVar, En.at, boolOf, isT, t2, f1, f2, f3, sRt, dC]
    · cases a <;> first | exact absurd rfl (h _) | simp [d_l_same, sSeq, sIf, tOr2, tVal, dIs, bnd, ret, lft, dVar, En.at, boolOf, isT, t2, f1, f2, f3, sRt, dC]
  · rcases hb with ⟨rfl, h⟩ | ⟨rfl, h⟩ <;> cases a <;> first | exact absurd rfl (h _) | rfl
theorem same_any {R : FS} {a b : PyData} (hn : noDict b = true) (hR : ∀ (as ds : List PyData), (b = .tuple ds ∨ b = .list ds) → ∀ i, as.length = ds.length → i < ds.length → R [.val (as.getD i .none), .val (ds.getD i .none)] = some (.bool (same (as.getD i .none) (ds.getD i .none)), [.val (as.getD i .none), .val (ds.getD i .none)])) :
    bodyF 3 (d_l_same R) [.val a, .val b] = some (.bool (same a b), [.val a, .val b]) := by
  cases b with
  | tuple ds =>
    have hz : ds.length ≤ 16777216 := by simp only [noDict, Bool.and_eq_true, decide_eq_true_eq] at hn; exact hn.1
    by_cases h : ∃ as, a = .tuple as
    · obtain ⟨as, rfl⟩ := h
      rw [same_seq (.inl ⟨rfl, rfl⟩) hz (fun i => hR as ds (.inl rfl) i)]; simp [same]
    · obtain ⟨h1, h2⟩ := same_kind (R := R) (ds := ds) (.inl ⟨rfl, fun as z => h ⟨as, z⟩⟩); rw [h1, h2]
  | list ds =>
    have hz : ds.length ≤ 16777216 := by simp only [noDict, Bool.and_eq_true, decide_eq_true_eq] at hn; exact hn.1
    by_cases h : ∃ as, a = .list as
    · obtain ⟨as, rfl⟩ := h
      rw [same_seq (.inr ⟨rfl, rfl⟩) hz (fun i => hR as ds (.inr rfl) i)]; simp [same]
    · obtain ⟨h1, h2⟩ := same_kind (R := R) (ds := ds) (.inr ⟨rfl, fun as z => h ⟨as, z⟩⟩); rw [h1, h2]
  | dict ps => simp [noDict] at hn
  | none => exact same_flat (by refine ⟨fun _ z => ?_, fun _ z => ?_, fun _ z => ?_⟩ <;> cases z)
  | bool x => exact same_flat (by refine ⟨fun _ z => ?_, fun _ z => ?_, fun _ z => ?_⟩ <;> cases z)
  | int x => exact same_flat (by refine ⟨fun _ z => ?_, fun _ z => ?_, fun _ z => ?_⟩ <;> cases z)
  | str x => exact same_flat (by refine ⟨fun _ z => ?_, fun _ z => ?_, fun _ z => ?_⟩ <;> cases z)
theorem fsame_inv {n : Nat} {as r} (h : FSame n as = some r) : ∃ a b, as = [.val a, .val b] ∧ b.depth ≤ n ∧ noDict b = true ∧ r = (.bool (same a b), [.val a, .val b]) := by
  unfold FSame at h
  split at h
  · split at h
    · rename_i c; cases h; exact ⟨_, _, rfl, c.1, c.2, rfl⟩
    · cases h
  · cases h
theorem same_step (n : Nat) : ∀ as r, FSame (n + 1) as = some r → bodyF 3 (d_l_same (FSame n)) as = some r := by
  intro as r h
  obtain ⟨a, b, rfl, hd, hn, rfl⟩ := fsame_inv h
  refine same_any hn fun as ds hb i hl hi => ?_
  have hdi : (ds.getD i .none).depth ≤ n := by
    have := depth_get hi
    rcases hb with rfl | rfl <;> (simp only [PyData.depth] at hd; omega)
  have hni : noDict (ds.getD i .none) = true := by
    rcases hb with rfl | rfl <;> (simp only [noDict, Bool.and_eq_true] at hn; exact noDict_get hn.2 hi)
  unfold FSame; exact if_pos ⟨hdi, hni⟩
theorem same_zero : ∀ as r, FSame 0 as = some r → bodyF 3 (d_l_same (fun _ => none)) as = some r := by
  intro as r h
  obtain ⟨a, b, rfl, hd, hn, rfl⟩ := fsame_inv h
  refine same_any hn fun as ds hb i hl hi => ?_
  rcases hb with rfl | rfl <;> (simp only [PyData.depth] at hd; omega)
theorem rec_l_same {P : Program} {w : World} {K : PySem.W.Frag} {mg : Str → Option Value} {base h : Heap} {st : Stmt} (B : Blt mg) (Z : K.In h) (G : h.Ns mainGlobals mg) (D : DefAt K "_law_same" st) (bd : BindsOf "_law_same" st ["actual", "due"])
    (stp : ∀ {R : FS} {k : Nat}, Cal P w K mg base "_law_same" k ["actual", "due"] (spOf K 2 R) → 0 ≤ k → ∀ {f : Addr} {fd : FuncData}, L2.Fun K "_law_same" "_law_same" st f fd → FnOk P w K mg base CX0 (k + 1) f fd ["actual", "due"] (spOf K 2 (bodyF 3 (d_l_same R)))) :
    Cal P w K mg base "_law_same" 41 ["actual", "due"] (spOf K 2 F_l_same) := by
  obtain ⟨f, fd, a, F⟩ := D.ex
  have hg := PySem.W.mg_of Z G a
  have all : ∀ n, Cal P w K mg base "_law_same" (n + 1) ["actual", "due"] (spOf K 2 (FSame n)) := by
    intro n
    induction n with
    | zero =>
      have f0 : FnOk P w K mg base CX0 0 f fd ["actual", "due"] (spOf K 2 (fun _ => none)) := by
        refine ⟨fun vs H Q E q => ?_, fun A o s H ar us vs Q E _ _ _ _ q => ?_⟩
        · obtain ⟨as, os, G, r, as', _, _, _, q, _⟩ := q; cases q
        · obtain ⟨as, os, G, r, as', _, _, _, q, _⟩ := q; cases q
      have c0 : Cal P w K mg base "_law_same" 0 ["actual", "due"] (spOf K 2 (fun _ => none)) := ⟨f, fd, hg, F.kp, F.binds bd, f0⟩
      exact ⟨f, fd, hg, F.kp, F.binds bd, (stp c0 (Nat.zero_le _) F).imp (spOf_mono same_zero)⟩
    | succ n ih => exact ⟨f, fd, hg, F.kp, F.binds bd, (stp ih (Nat.zero_le _) F).imp (spOf_mono (same_step n))⟩
  exact all 40
end SL

set_option Elab.async false
set_option linter.all false
set_option maxRecDepth 100000
set_option maxHeartbeats 4000000
/-! Draw: what a draw gives. -/
namespace SL
open PySem PySem.Spec PyProof.Rows L2
theorem ev_sif {c : M Bool} {a b : M Fl} {e Q} : Ev (sIf c a b) e Q = Ev c e fun t e1 => if t = true then Ev a e1 Q else Ev b e1 Q := by
  unfold sIf; rw [ev_bnd]; congr; funext t e1; rw [ev_ite]
theorem ev_and {a b : M Bool} {e Q} : Ev (tAnd2 a b) e Q = Ev a e fun t e1 => if t = true then Ev b e1 Q else Q false e1 := by
  unfold tAnd2; rw [ev_bnd]; congr; funext t e1; rw [ev_ite, ev_ret]
theorem ev_or {a b : M Bool} {e Q} : Ev (tOr2 a b) e Q = Ev a e fun t e1 => if t = true then Q true e1 else Ev b e1 Q := by
  unfold tOr2; rw [ev_bnd]; congr; funext t e1; rw [ev_ite, ev_ret]
theorem ev_dif {c : M Bool} {a b : M PyData} {e Q} : Ev (dIf c a b) e Q = Ev c e fun t e1 => if t = true then Ev a e1 Q else Ev b e1 Q := by
  unfold dIf; rw [ev_bnd]; congr; funext t e1; rw [ev_ite]
theorem ev_d1 {f} {d : M PyData} {e Q} : Ev (d1 f d) e Q = Ev d e fun x e1 => ∃ y, f x = some y ∧ Q y e1 := by unfold d1; simp only [ev_bnd, ev_lft]
theorem ev_d2 {f} {d d' : M PyData} {e Q} : Ev (d2 f d d') e Q = Ev d e fun x e1 => Ev d' e1 fun y e2 => ∃ z, f x y = some z ∧ Q z e2 := by unfold d2; simp only [ev_bnd, ev_lft]
theorem ev_t2 {f} {d d' : M PyData} {e Q} : Ev (t2 f d d') e Q = Ev d e fun x e1 => Ev d' e1 fun y e2 => ∃ z, f x y = some z ∧ Q z e2 := by unfold t2; simp only [ev_bnd, ev_lft]
theorem ev_c {x : PyData} {e Q} : Ev (dC x) e Q = Q x e := ev_ret
theorem ev_sRt {d : M PyData} {e Q} : Ev (sRt d) e Q = Ev d e fun x e1 => Q (.rt x) e1 := by unfold sRt; simp only [ev_bnd, ev_ret]
theorem ev_sNx {e Q} : Ev sNx e Q = Q .nx e := ev_ret
theorem ev_tval {d : M PyData} {e Q} : Ev (tVal d) e Q = Ev d e fun x e1 => ∃ b, boolOf x = some b ∧ Q b e1 := by unfold tVal; simp only [ev_bnd, ev_lft]
theorem ev_vB {d : M Bool} {e Q} : Ev (vB d) e Q = Ev d e fun x e1 => Q (.bool x) e1 := by unfold vB; simp only [ev_bnd, ev_ret]
theorem ev_tnot {d : M Bool} {e Q} : Ev (tNot1 d) e Q = Ev d e fun x e1 => Q (!x) e1 := by unfold tNot1; simp only [ev_bnd, ev_ret]
theorem ev_dtup {d : M (List PyData)} {e Q} : Ev (dTup d) e Q = Ev d e fun x e1 => Q (.tuple x) e1 := by unfold dTup; simp only [ev_bnd, ev_ret]
theorem ev_dlst {d : M (List PyData)} {e Q} : Ev (dLst d) e Q = Ev d e fun x e1 => Q (.list x) e1 := by unfold dLst; simp only [ev_bnd, ev_ret]
theorem ev_anil {e Q} : Ev aNil e Q = Q [] e := ev_ret
theorem ev_acons {d ds} {e Q} : Ev (aCons d ds) e Q = Ev d e fun x e1 => Ev ds e1 fun xs e2 => Q (x :: xs) e2 := by unfold aCons; simp only [ev_bnd, ev_ret]
theorem ev_cnil {e Q} : Ev cNil e Q = Q [] e := ev_ret
theorem ev_cV {d ds} {e Q} : Ev (cV d ds) e Q = Ev d e fun x e1 => Ev ds e1 fun xs e2 => Q (.v x :: xs) e2 := by unfold cV; simp only [ev_bnd, ev_ret]
theorem ev_iL {d} {e Q} : Ev (iL d) e Q = Ev d e fun x e1 => ∃ l, listOf x = some l ∧ Q l e1 := by unfold iL; simp only [ev_bnd, ev_lft]
theorem ev_iT {d} {e Q} : Ev (iT d) e Q = Ev d e fun x e1 => ∃ l, tupOf x = some l ∧ Q l e1 := by unfold iT; simp only [ev_bnd, ev_lft]
theorem ev_iR1 {d} {e Q} : Ev (iR1 d) e Q = Ev d e fun x e1 => ∃ l, fRg1 x = some l ∧ Q l e1 := by unfold iR1; simp only [ev_bnd, ev_lft]
theorem ev_iR2 {d d'} {e Q} : Ev (iR2 d d') e Q = Ev d e fun x e1 => Ev d' e1 fun y e2 => ∃ l, fRg2 x y = some l ∧ Q l e2 := by unfold iR2; simp only [ev_bnd, ev_lft]
theorem ev_isnon {d} {e Q} : Ev (tIsNon d) e Q = Ev d e fun x e1 => Q (isNon x) e1 := by unfold tIsNon; simp only [ev_bnd, ev_ret]
theorem ev_isnot {d} {e Q} : Ev (tIsNot d) e Q = Ev d e fun x e1 => Q (!isNon x) e1 := by unfold tIsNot; simp only [ev_bnd, ev_ret]
theorem ev_dis {T d} {e Q} : Ev (dIs T d) e Q = Ev d e fun x e1 => Q (.bool (isT T x)) e1 := by unfold dIs; simp only [ev_bnd, ev_ret]
theorem ev_dand {a b} {e Q} : Ev (dAnd a b) e Q = Ev a e fun x e1 => ∃ t, boolOf x = some t ∧ if t = true then Ev b e1 Q else Q (.bool false) e1 := by
  unfold dAnd; simp only [ev_bnd, ev_tval, ev_ite, ev_ret]
theorem ev_dor {a b} {e Q} : Ev (dOr a b) e Q = Ev a e fun x e1 => ∃ t, boolOf x = some t ∧ if t = true then Q (.bool true) e1 else Ev b e1 Q := by
  unfold dOr; simp only [ev_bnd, ev_tval, ev_ite, ev_ret]
theorem ev_dnot {a} {e Q} : Ev (dNot a) e Q = Ev a e fun x e1 => ∃ t, boolOf x = some t ∧ Q (.bool (!t)) e1 := by
  unfold dNot; simp only [ev_bnd, ev_tval, ev_ret]
theorem ev_seq' {d1 d2 : M Fl} {e Q} : Ev (sSeq d1 d2) e Q = Ev d1 e fun r e1 => match r with | .nx => Ev d2 e1 Q | r => Q r e1 := by
  unfold sSeq; rw [ev_bnd]; congr; funext r e1; cases r <;> simp only [ev_ret]
theorem ev_set' {i : Nat} {d : M PyData} {e Q} : Ev (sSet i d) e Q = Ev d e fun x e1 => NL (e1.at i) ∧ Q .nx (e1.set i (.val x)) := propext ⟨fun h => by
  unfold sSet sAsg at h; rw [ev_bnd] at h
  refine h.mono fun x e1 h => ?_
  rw [ev_fn] at h
  obtain ⟨p, a, b⟩ := h
  obtain ⟨e2, q1, q2⟩ := Option.map_eq_some_iff.mp a
  obtain ⟨rfl, nl⟩ := put_inv q1
  cases q2
  exact ⟨by cases z : e1.at i with | lent d => exact absurd z (nl d) | _ => trivial, b⟩, ev_set⟩
theorem ev_sown' {i : Nat} {d : M PyData} {e Q} : Ev (sOwn i d) e Q = Ev d e fun x e1 => NL (e1.at i) ∧ Q .nx (e1.set i (.own x)) := propext ⟨fun h => by
  unfold sOwn at h; rw [ev_bnd] at h
  refine h.mono fun x e1 h => ?_
  rw [ev_fn] at h
  obtain ⟨p, a, b⟩ := h
  obtain ⟨e2, q1, q2⟩ := Option.map_eq_some_iff.mp a
  obtain ⟨rfl, nl⟩ := put_inv q1
  cases q2
  exact ⟨by cases z : e1.at i with | lent d => exact absurd z (nl d) | _ => trivial, b⟩, ev_sown⟩
theorem ev_put' {i : Nat} {dk dv : M PyData} {e Q} : Ev (sPut i dk dv) e Q = Ev dv e fun v e0 => isL (e0.obj i) = true ∧ Ev dk e0 fun k e1 => ∃ ds, e1.obj i = some (.list ds) ∧ ∃ j, (intOf k).bind (ixN ds.length) = some j ∧ Q .nx (e1.mut i (.list (ds.set j v))) := propext ⟨fun h => (by
  unfold sPut at h; rw [ev_bnd] at h
  refine h.mono fun v e0 h => ?_
  rw [ev_fn] at h
  obtain ⟨p, a, b⟩ := h
  split at a
  · rename_i hl
    refine ⟨hl, ?_⟩
    obtain ⟨k, e1, q1, q2⟩ := bnd_inv (r := p) a
    refine ⟨k, e1, q1, ?_⟩
    split at q2
    · rename_i ds ho
      obtain ⟨j, q3, q4⟩ := Option.map_eq_some_iff.mp q2
      cases q4
      exact ⟨ds, ho, j, q3, b⟩
    · cases q2
  · cases a), fun h => by
  refine ev_put (h.mono fun v e0 ⟨hl, h⟩ => ⟨isL_inv hl, h.mono fun k e1 ⟨ds, a, j, b, c⟩ => ?_⟩)
  obtain ⟨n, b1, b2⟩ := Option.bind_eq_some_iff.mp b
  exact ⟨ds, n, j, a, intOf_inv b1, b2, c⟩⟩
theorem ev_app' {i : Nat} {d : M PyData} {e Q} : Ev (sApp i d) e Q = (isL (e.obj i) = true ∧ Ev d e fun x e1 => ∃ ds, e1.obj i = some (.list ds) ∧ ds.length < 16777216 ∧ Q .nx (e1.mut i (.list (ds ++ [x])))) := propext ⟨fun h => (by
  rw [ev_fn] at h
  obtain ⟨p, a, b⟩ := h
  unfold sApp at a
  split at a
  · rename_i hl
    refine ⟨hl, ?_⟩
    obtain ⟨x, e1, q1, q2⟩ := bnd_inv a
    refine ⟨x, e1, q1, ?_⟩
    split at q2
    · rename_i ds ho
      split at q2
      · rename_i hz; cases q2; exact ⟨ds, ho, hz, b⟩
      · cases q2
    · cases q2
  · cases a), fun ⟨h1, h2⟩ => by obtain ⟨ds, h0⟩ := isL_inv h1; exact ev_app h0 h2⟩
theorem bodyF_ex {n : Nat} {d : M Fl} {as : List Sl} {P : PyData → List Sl → Prop} (ok : as.all argOk = true) (h : Ev d (as ++ List.replicate (n - as.length) .no) fun fl e => match fl with | .rt r => P r (outs as e 0) | .nx => P .none (outs as e 0) | _ => False) : ∃ r as', bodyF n d as = some (r, as') ∧ P r as' := by
  obtain ⟨fl, e, q, h⟩ := h
  unfold bodyF; rw [if_pos ok, q]
  cases fl with
  | rt r => exact ⟨r, _, rfl, h⟩
  | nx => exact ⟨.none, _, rfl, h⟩
  | _ => exact h.elim
theorem isL_some {ds : List PyData} : (isL (some (.list ds)) = true) = True := eq_true rfl
theorem ex_list {ds : List PyData} {P : List PyData → Prop} : (∃ d, some (PyData.list ds) = some (.list d) ∧ P d) = P ds := propext ⟨fun ⟨d, a, b⟩ => by cases a; exact b, fun h => ⟨ds, rfl, h⟩⟩
theorem t_if {A B : Prop} : (if true = true then A else B) = A := by simp
theorem f_if {A B : Prop} : (if false = true then A else B) = B := by simp
/-! ints -/
theorem ix_l {ds : List PyData} {i : Int} {d : PyData} (h : atI ds i = some d) : fIx (.list ds) (.int i) = some d := h
theorem ix_t {ds : List PyData} {i : Int} {d : PyData} (h : atI ds i = some d) : fIx (.tuple ds) (.int i) = some d := h
theorem mul_c {a b : Int} (h : b.natAbs < 2 ^ 64) : fI2 gMul' (.int a) (.int b) = some (.int (a * b)) := by
  unfold fI2 gMul'; simp only [h, or_true, if_true]; rfl
theorem mul_c' {a b : Int} (h : a.natAbs < 2 ^ 64) : fI2 gMul' (.int a) (.int b) = some (.int (a * b)) := by
  unfold fI2 gMul'; simp only [h, true_or, if_true]; rfl
theorem mod_c {a b : Int} (h : 0 < b) : fI2 gMod' (.int a) (.int b) = some (.int (a % b)) := by
  unfold fI2 gMod'; simp only [h, if_true]; rfl
theorem div_c {a b : Int} (h : 0 < b) (h2 : b < 1073741824) : fI2 gDiv' (.int a) (.int b) = some (.int (a / b)) := by
  unfold fI2 gDiv'; simp only [h, h2, and_true, if_true]; rfl
theorem add_i {a b : Int} : fAdd (.int a) (.int b) = some (.int (a + b)) := rfl
theorem sub_i {a b : Int} : fI2 gSub' (.int a) (.int b) = some (.int (a - b)) := rfl
theorem lt_i {a b : Int} : fLt (.int a) (.int b) = some (decide (a < b)) := rfl
theorem le_i {a b : Int} : fLe (.int a) (.int b) = some (decide (a ≤ b)) := rfl
theorem gt_i {a b : Int} : fGt (.int a) (.int b) = some (decide (b < a)) := rfl
theorem ge_i {a b : Int} : fGe (.int a) (.int b) = some (decide (b ≤ a)) := rfl
theorem eq_i {a b : Int} : fEq (.int a) (.int b) = some (decide (a = b)) := rfl
theorem ne_i {a b : Int} : fNe (.int a) (.int b) = some (!decide (a = b)) := rfl
theorem int_i {a : Int} : fInt (.int a) = some (.int a) := rfl
theorem len_l {ds : List PyData} : fLen (.list ds) = some (.int ds.length) := rfl
theorem len_t {ds : List PyData} : fLen (.tuple ds) = some (.int ds.length) := rfl
theorem ev_forcons {g} {b : M Fl} {x xs} {e Q} : Ev (forGo g b (x :: xs)) e Q = ∃ e1, g x e = some e1 ∧ Ev b e1 fun r e2 => match r with | .nx => Ev (forGo g b xs) e2 Q | .ct => Ev (forGo g b xs) e2 Q | .bk => Q .nx e2 | r => Q r e2 := propext ⟨fun ⟨y, e', a, q⟩ => (by
  obtain ⟨e1, h1, a⟩ := Option.bind_eq_some_iff.mp (show (g x e).bind _ = _ from a)
  obtain ⟨⟨r, e2⟩, h2, a⟩ := Option.bind_eq_some_iff.mp (show (b e1).bind _ = _ from a)
  refine ⟨e1, h1, r, e2, h2, ?_⟩
  cases r with
  | nx => exact ⟨y, e', a, q⟩
  | ct => exact ⟨y, e', a, q⟩
  | _ => cases a; exact q), fun ⟨e1, h1, r, e2, h2, h⟩ => (by
  have go : ∀ y e', (match r with | .nx => forGo g b xs e2 | .ct => forGo g b xs e2 | .bk => some (.nx, e2) | r => some (r, e2)) = some (y, e') → forGo g b (x :: xs) e = some (y, e') := by
    intro y e' h; show (g x e).bind _ = _
    rw [h1]
    show (b e1).bind _ = _
    rw [h2]; cases r <;> exact h
  cases r with
  | nx => obtain ⟨y, e', a, q⟩ := h; exact ⟨y, e', go _ _ a, q⟩
  | ct => obtain ⟨y, e', a, q⟩ := h; exact ⟨y, e', go _ _ a, q⟩
  | _ => exact ⟨_, _, go _ _ rfl, h⟩)⟩
theorem ev_fornil {g} {b : M Fl} {e Q} : Ev (forGo g b []) e Q = Q .nx e := ev_ret
theorem ev_sfor' {di : M (List PyData)} {g} {b : M Fl} {e Q} : Ev (sFor di g b) e Q = Ev di e fun items e1 => Ev (forGo g b items) e1 Q := by unfold sFor; rw [ev_bnd]
theorem ex_gN {i : Nat} {x : PyData} {e : En} {P : En → Prop} : (∃ e1, gN i x e = some e1 ∧ P e1) = (NL (e.at i) ∧ P (e.set i (.val x))) := propext ⟨fun ⟨e1, a, b⟩ => (by
  obtain ⟨rfl, nl⟩ := put_inv (show e.put i (.val x) = some e1 from a)
  exact ⟨by cases z : e.at i with | lent d => exact absurd z (nl d) | _ => trivial, b⟩), fun ⟨a, b⟩ => ⟨_, by unfold gN; exact put_nl a, b⟩⟩
/-! the pool -/
def Pok (p : PyData) : Prop := ∃ (cs : List Int) (i v t s : Int), p = .list [.list (cs.map .int), .int i, .int v, .int t, .int s] ∧ 0 ≤ i
theorem pok_poolOf (ns : List Int) : Pok (poolOf ns) := ⟨ns, 0, 0, 0, saltOf ns, rfl, Int.le_refl _⟩
theorem spread_ok (c : Int) : ∃ r, F_l_spread [.val (.int c)] = some (.int r, [.val (.int c)]) := by
  have u4 : fRg1 (.int 4) = some [.int 0, .int 1, .int 2, .int 3] := rfl
  have m1 : ∀ a : Int, fI2 gMul' (.int a) (.int 48271) = some (.int (a * 48271)) := fun a => mul_c (by decide)
  have m2 : ∀ a : Int, fI2 gMul' (.int a) (.int 2147483647) = some (.int (a * 2147483647)) := fun a => mul_c (by decide)
  have m3 : ∀ a : Int, fI2 gMod' (.int a) (.int 2147483647) = some (.int (a % 2147483647)) := fun a => mod_c (by decide)
  have go : ∃ r as', F_l_spread [.val (.int c)] = some (r, as') ∧ ∃ x, r = .int x ∧ as' = [.val (.int c)] := by
    unfold F_l_spread
    refine bodyF_ex rfl ?_
    show Ev d_l_spread [.val (.int c), .no, .no, .no] _
    simp only [d_l_spread, ev_seq', ev_set', ev_sRt, ev_sfor', ev_iR1, ev_forcons, ev_fornil, ev_d1, ev_d2, ev_c, ev_var, ex_some, ex_val, ex_gN, u4, m1, m2, m3, int_i, add_i, at_0, at_s, nl_no, nl_val, true_and, List.set_cons_zero, List.set_cons_succ]
    exact ⟨_, rfl, rfl⟩
  obtain ⟨r, as', h, x, rfl, rfl⟩ := go
  exact ⟨x, h⟩
theorem ev_put0 {k : Int} {v : M PyData} {e Q} {ds0 : List PyData} {n : Nat} (h : Ev v e fun x e1 => ∃ ds, e1.obj 0 = some (.list ds) ∧ ∃ j, ixN ds.length k = some j ∧ Q .nx (e1.mut 0 (.list (ds.set j x)))) : Ev (sPut 0 (dC (.int k)) v) e Q := by
  refine ev_put (h.mono fun x e1 ⟨ds, a, j, b, c⟩ => ⟨⟨ds, a⟩, ?_⟩)
  rw [ev_c]
  exact ⟨ds, k, j, a, rfl, b, c⟩
theorem ix5_0 {a b c d e : PyData} : fIx (.list [a, b, c, d, e]) (.int 0) = some a := rfl
theorem ix5_1 {a b c d e : PyData} : fIx (.list [a, b, c, d, e]) (.int 1) = some b := rfl
theorem ix5_2 {a b c d e : PyData} : fIx (.list [a, b, c, d, e]) (.int 2) = some c := rfl
theorem ix5_3 {a b c d e : PyData} : fIx (.list [a, b, c, d, e]) (.int 3) = some d := rfl
theorem ix5_4 {a b c d e : PyData} : fIx (.list [a, b, c, d, e]) (.int 4) = some e := rfl
theorem pt5_1 {a b c d e : PyData} : (intOf (.int 1)).bind (ixN [a, b, c, d, e].length) = some 1 := rfl
theorem pt5_2 {a b c d e : PyData} : (intOf (.int 2)).bind (ixN [a, b, c, d, e].length) = some 2 := rfl
theorem pt5_3 {a b c d e : PyData} : (intOf (.int 3)).bind (ixN [a, b, c, d, e].length) = some 3 := rfl
def dEnd : M Fl :=
  (sSeq (sPut 0 (dC (.int 3)) (d2 fAdd (d2 fIx (dOwn 0) (dC (.int 3))) (dC (.int 1))))
  (sSeq (sIf (t2 fLe (d2 fIx (dOwn 0) (dC (.int 2))) (dC (.int 0))) (sSeq (sSet 3 (d2 (fI2 gMod') (d1 fInt (d2 fAdd (d2 fAdd (d2 (fI2 gMul') (d2 fIx (dOwn 0) (dC (.int 4))) (dC (.int 48271))) (d2 (fI2 gMul') (d2 fIx (dOwn 0) (dC (.int 3))) (dC (.int 69621)))) (dC (.int 1)))) (dC (.int 2147483647))))
  (sSeq (sSet 3 (d2 (fI2 gMod') (d1 fInt (d2 fAdd (d2 (fI2 gMul') (dVar 3) (dC (.int 16807))) (d2 fIx (dOwn 0) (dC (.int 3))))) (dC (.int 2147483629))))
  (sRt (d2 (fI2 gMod') (d2 (fI2 gDiv') (dVar 3) (dC (.int 5))) (dVar 1))))) sNx)
  (sSeq (sSet 4 (d2 (fI2 gMod') (d1 fInt (d2 fIx (dOwn 0) (dC (.int 2)))) (dVar 1)))
  (sSeq (sPut 0 (dC (.int 2)) (d2 (fI2 gDiv') (d2 fIx (dOwn 0) (dC (.int 2))) (dVar 1)))
  (sRt (dVar 4))))))
def dBeg : M Fl :=
  (sIf (tAnd2 (t2 fLe (d2 fIx (dOwn 0) (dC (.int 2))) (dC (.int 0))) (t2 fLt (d2 fIx (dOwn 0) (dC (.int 1))) (d1 fLen (d2 fIx (dOwn 0) (dC (.int 0)))))) (sSeq (sSet 2 (d2 fIx (d2 fIx (dOwn 0) (dC (.int 0))) (d2 fIx (dOwn 0) (dC (.int 1)))))
  (sSeq (sPut 0 (dC (.int 1)) (d2 fAdd (d2 fIx (dOwn 0) (dC (.int 1))) (dC (.int 1))))
  (sSeq (sPut 0 (dC (.int 2)) (dVar 2))
  (sIf (t2 fLt (dVar 2) (dC (.int 1000000000000000000))) (sPut 0 (dC (.int 2)) (dCall F_l_spread (cV (dVar 2) cNil))) sNx)))) sNx)
theorem draw_eq : d_l_draw = sSeq dBeg dEnd := rfl
/-- the later part of a draw -/
theorem draw_end {cs : List Int} {i v t s m : Int} {x2 x3 x4 : Sl} (n2 : NL x2) (n3 : NL x3) (n4 : NL x4) (hi : 0 ≤ i) (h0 : 0 < m) (h1 : m < 1073741824) :
    Ev dEnd [.lent (.list [.list (cs.map .int), .int i, .int v, .int t, .int s]), .val (.int m), x2, x3, x4]
      fun fl e => ∃ r p' y2 y3 y4, fl = .rt (.int r) ∧ e = [.lent p', .val (.int m), y2, y3, y4] ∧ 0 ≤ r ∧ r < m ∧ Pok p' := by
  have m1 : ∀ a : Int, fI2 gMul' (.int a) (.int 48271) = some (.int (a * 48271)) := fun a => mul_c (by decide)
  have m2 : ∀ a : Int, fI2 gMul' (.int a) (.int 69621) = some (.int (a * 69621)) := fun a => mul_c (by decide)
  have m3 : ∀ a : Int, fI2 gMul' (.int a) (.int 16807) = some (.int (a * 16807)) := fun a => mul_c (by decide)
  have m4 : ∀ a : Int, fI2 gMod' (.int a) (.int 2147483647) = some (.int (a % 2147483647)) := fun a => mod_c (by decide)
  have m5 : ∀ a : Int, fI2 gMod' (.int a) (.int 2147483629) = some (.int (a % 2147483629)) := fun a => mod_c (by decide)
  have m6 : ∀ a : Int, fI2 gMod' (.int a) (.int m) = some (.int (a % m)) := fun a => mod_c h0
  have m7 : ∀ a : Int, fI2 gDiv' (.int a) (.int m) = some (.int (a / m)) := fun a => div_c h0 h1
  have m8 : ∀ a : Int, fI2 gDiv' (.int a) (.int 5) = some (.int (a / 5)) := fun a => div_c (by decide) (by decide)
  unfold dEnd
  have pos : ∀ a : Int, 0 ≤ a % m ∧ a % m < m := fun a => ⟨Int.emod_nonneg _ (by omega), Int.emod_lt_of_pos _ h0⟩
  simp only [ev_seq', ev_put', ev_set', ev_sif, ev_sRt, ev_sNx, ev_t2, ev_d2, ev_d1, ev_own, ev_var, ev_c, obj_0l, mut_0l, ex_some, ex_list, isL_some, true_and, ix5_1, ix5_2, ix5_3, ix5_4, pt5_1, pt5_2, pt5_3, List.set_cons_succ, List.set_cons_zero, add_i, le_i, int_i, m1, m2, m3, m4, m5, m6, m7, m8, at_0, at_s, ex_val, nl_val]
  by_cases hv : v ≤ 0
  · rw [decide_eq_true hv, t_if]
    exact ⟨n3, _, _, _, _, _, rfl, rfl, (pos _).1, (pos _).2, ⟨cs, i, v, t + 1, s, rfl, hi⟩⟩
  · rw [decide_eq_false hv, f_if]
    exact ⟨n4, _, _, _, _, _, rfl, rfl, (pos _).1, (pos _).2, ⟨cs, i, v / m, t + 1, s, rfl, hi⟩⟩
theorem draw_ok {p : PyData} (hp : Pok p) {m : Int} (h0 : 0 < m) (h1 : m < 1073741824) : ∃ r p', F_l_draw [.lent p, .val (.int m)] = some (.int r, [.lent p', .val (.int m)]) ∧ 0 ≤ r ∧ r < m ∧ Pok p' := by
  obtain ⟨cs, i, v, t, s, rfl, hi⟩ := hp
  have go : ∃ r as', F_l_draw [.lent (.list [.list (cs.map .int), .int i, .int v, .int t, .int s]), .val (.int m)] = some (r, as') ∧ ∃ x p', r = .int x ∧ as' = [.lent p', .val (.int m)] ∧ 0 ≤ x ∧ x < m ∧ Pok p' := by
    unfold F_l_draw
    refine bodyF_ex rfl ?_
    show Ev d_l_draw [.lent (.list [.list (cs.map .int), .int i, .int v, .int t, .int s]), .val (.int m), .no, .no, .no] _
    have fin : ∀ {fl : Fl} {e : En}, (∃ r p' y2 y3 y4, fl = .rt (.int r) ∧ e = [.lent p', .val (.int m), y2, y3, y4] ∧ 0 ≤ r ∧ r < m ∧ Pok p') →
        (match fl with | .rt r => ∃ x p', r = .int x ∧ outs [.lent (.list [.list (cs.map .int), .int i, .int v, .int t, .int s]), .val (.int m)] e 0 = [.lent p', .val (.int m)] ∧ 0 ≤ x ∧ x < m ∧ Pok p' | .nx => ∃ x p', PyData.none = .int x ∧ outs [.lent (.list [.list (cs.map .int), .int i, .int v, .int t, .int s]), .val (.int m)] e 0 = [.lent p', .val (.int m)] ∧ 0 ≤ x ∧ x < m ∧ Pok p' | _ => False) := by
      rintro fl e ⟨r, p', y2, y3, y4, rfl, rfl, h⟩
      exact ⟨r, p', rfl, rfl, h⟩
    refine Ev.mono ?_ fun fl e h => fin h
    rw [draw_eq, ev_seq']
    unfold dBeg
    simp only [ev_sif, ev_and, ev_t2, ev_d2, ev_d1, ev_own, ev_c, obj_0l, ex_some, ix5_0, ix5_1, ix5_2, le_i, lt_i, len_l, ev_sNx]
    by_cases hv : v ≤ 0
    · rw [decide_eq_true hv, t_if]
      by_cases hl : i < ((cs.map PyData.int).length : Int)
      · rw [decide_eq_true hl, t_if]
        obtain ⟨i, rfl⟩ : ∃ j : Nat, i = (j : Int) := ⟨i.toNat, by omega⟩
        have hl' : i < cs.length := by rw [List.length_map] at hl; omega
        have hx : fIx (.list (cs.map .int)) (.int i) = some (.int cs[i]) := by
          exact L2.atI_nat (by rw [List.getElem?_map, List.getElem?_eq_getElem hl']; rfl)
        simp only [ev_seq', ev_put', ev_set', ev_sif, ev_t2, ev_d2, ev_own, ev_var, ev_c, obj_0l, mut_0l, ex_some, ex_list, isL_some, true_and, ix5_0, ix5_1, ix5_2, hx, pt5_1, pt5_2, List.set_cons_succ, List.set_cons_zero, add_i, lt_i, at_0, at_s, ex_val, nl_no, ev_sNx]
        by_cases hc : cs[i] < 1000000000000000000
        · rw [decide_eq_true hc, t_if]
          obtain ⟨r, hr⟩ := spread_ok cs[i]
          refine ev_call ?_
          simp only [ev_cV, ev_cnil, ev_var, at_0, at_s, ex_val]
          refine ⟨rfl, .int r, [.val (.int cs[i])], hr, ?_⟩
          refine ⟨rfl, _, rfl, 2, rfl, ?_⟩
          refine draw_end ?_ ?_ ?_ (by omega) h0 h1 <;> trivial
        · rw [decide_eq_false hc, f_if]
          refine draw_end ?_ ?_ ?_ (by omega) h0 h1 <;> trivial
      · rw [decide_eq_false hl, f_if]
        refine draw_end ?_ ?_ ?_ hi h0 h1 <;> trivial
    · rw [decide_eq_false hv, f_if, f_if]
      refine draw_end ?_ ?_ ?_ hi h0 h1 <;> trivial
  obtain ⟨r, as', h, x, p', rfl, rfl, h2⟩ := go
  exact ⟨x, p', h, h2⟩
/-- a draw in a def: the pool stands in slot i -/
theorem ev_draw {i : Nat} {dm : M PyData} {e : En} {Q} {p : PyData} {m : Int} (ho : e.obj i = some p) (hp : Pok p) (hm : dm e = some (.int m, e)) (h0 : 0 < m) (h1 : m < 1073741824) (h : ∀ r p', 0 ≤ r → r < m → Pok p' → Q (.int r) (e.mut i p')) : Ev (dCall F_l_draw (cP i (cV dm cNil))) e Q := by
  obtain ⟨r, p', q, a, b, c⟩ := draw_ok hp h0 h1
  refine ev_call (ev_cP (by rw [ho]; rfl) ?_)
  rw [ev_cV]
  refine ⟨_, _, hm, ?_⟩
  show Ev cNil e _
  rw [ev_cnil]
  refine ⟨rfl, .int r, [.lent p', .val (.int m)], ?_, h r p' a b c⟩
  show F_l_draw [match e.obj i with | some d => .lent d | none => .no, .val (.int m)] = _
  rw [ho]; exact q
end SL

set_option Elab.async false
set_option linter.all false
set_option maxRecDepth 100000
set_option maxHeartbeats 4000000
/-! Dat: comprehensions, sorting, min over plain numbers and pairs. -/
namespace SL
open PySem PySem.Spec PyProof.Rows L2
theorem restore_wipe {e e2 : En} {vs : List Nat} (h : wipeE e2 vs = wipeE e vs) : restore e2 e vs = e := by
  have hl : e2.length = e.length := by rw [← wipeE_length e2 vs, ← wipeE_length e vs, h]
  refine en_ext (by rw [restore_length, hl]) fun j => ?_
  rw [restore_at hl]
  split
  · rfl
  · rename_i nm
    have q : (wipeE e2 vs).at j = (wipeE e vs).at j := by rw [h]
    rw [wipeE_at, wipeE_at, if_neg nm, if_neg nm] at q
    exact q
/-- a comprehension whose parts change nothing -/
theorem comp_gen {α : Type} {vs : List Nat} {di : M (List PyData)} {g} {c : M Bool} {el : M PyData} {e : En} {l : List α} (enc : α → PyData) (P : α → Bool) (v : α → PyData) (st : α → En) (ok : okW e vs = true) (hd : di e = some (l.map enc, e))
    (h : ∀ x ∈ l, g (enc x) (wipeE e vs) = some (st x) ∧ okW (st x) vs = true ∧ wipeE (st x) vs = wipeE e vs ∧ c (st x) = some (P x, st x) ∧ (P x = true → el (st x) = some (v x, st x))) :
    dComp vs di g c el e = some (.list ((l.filter P).map v), e) := by
  have main : ∀ (l' : List α) (e' : En), (∀ x ∈ l', x ∈ l) → wipeE e' vs = wipeE e vs → ∃ e2, compGo vs g c el (l'.map enc) e' = some ((l'.filter P).map v, e2) ∧ wipeE e2 vs = wipeE e vs := by
    intro l'
    induction l' with
    | nil => intro e' _ h1; exact ⟨e', rfl, h1⟩
    | cons x r ih =>
      intro e' hm h1
      obtain ⟨h2, h3, h4, h5, h6⟩ := h x (hm x List.mem_cons_self)
      obtain ⟨e2, q2, h7⟩ := ih (st x) (fun y hy => hm y (List.mem_cons_of_mem _ hy)) h4
      refine ⟨e2, ?_, h7⟩
      show (g (enc x) (wipeE e' vs)).bind _ = _
      rw [h1, h2]
      show (c (st x)).bind _ = _
      rw [h5]
      show (if P x = true then _ else _) = _
      by_cases hp : P x = true
      · rw [if_pos hp, List.filter_cons_of_pos hp, List.map_cons, h6 hp]
        show (if okW (st x) vs = true then _ else none) = _
        rw [if_pos h3, q2]; rfl
      · rw [if_neg hp, List.filter_cons_of_neg hp]
        show (if okW (st x) vs = true then _ else none) = _
        rw [if_pos h3, q2]
  obtain ⟨e2, q, h2⟩ := main l e (fun _ h => h) rfl
  unfold dComp bnd
  rw [hd]
  show (if okW e vs = true then _ else none) = _
  rw [if_pos ok, q]
  show some (PyData.list _, restore e2 e vs) = _
  rw [restore_wipe h2]
/-- pure readings -/
def Is {α} (m : M α) (e : En) (x : α) : Prop := m e = some (x, e)
theorem is_ev {α} {m : M α} {e x} : Ev m e (fun y e' => y = x ∧ e' = e) → Is m e x := fun ⟨y, e', a, b, c⟩ => by subst b; subst c; exact a
theorem ev_is {α} {m : M α} {e x Q} (h : Is m e x) : Ev m e Q = Q x e := propext ⟨fun ⟨y, e', a, b⟩ => by rw [h] at a; cases a; exact b, fun b => ⟨x, e, h, b⟩⟩
theorem comp1 {α : Type} {i : Nat} {di : M (List PyData)} {c : M Bool} {el : M PyData} {e : En} {l : List α} (enc : α → PyData) (P : α → Bool) (v : α → PyData) (hi : i < e.length) (ok : okW e [i] = true) (hd : Is di e (l.map enc))
    (h : ∀ x ∈ l, Is c (e.set i (.val (enc x))) (P x) ∧ (P x = true → Is el (e.set i (.val (enc x))) (v x))) : Is (dComp [i] di (gN i) c el) e (.list ((l.filter P).map v)) := by
  refine comp_gen enc P v (fun x => e.set i (.val (enc x))) ok hd fun x hx => ?_
  obtain ⟨h1, h2⟩ := h x hx
  refine ⟨?_, ?_, ?_, h1, h2⟩
  · show gN i (enc x) (e.set i .no) = _
    unfold gN En.put
    rw [at_set, if_pos ⟨rfl, hi⟩]
    show some _ = some _
    rw [List.set_set]
  · unfold okW; simp only [List.all_cons, List.all_nil, Bool.and_true]; rw [at_set, if_pos ⟨rfl, hi⟩]
  · exact List.set_set ..
theorem filter_T {α} {l : List α} : l.filter (fun _ => true) = l := List.filter_eq_self.mpr fun _ _ => rfl
/-- the same, no test -/
theorem comp0 {α : Type} {i : Nat} {di : M (List PyData)} {el : M PyData} {e : En} {l : List α} (enc : α → PyData) (v : α → PyData) (hi : i < e.length) (ok : okW e [i] = true) (hd : Is di e (l.map enc))
    (h : ∀ x ∈ l, Is el (e.set i (.val (enc x))) (v x)) : Is (dComp [i] di (gN i) tT el) e (.list (l.map v)) := by
  have := comp1 (c := tT) enc (fun _ => true) v hi ok hd fun x hx => ⟨rfl, fun _ => h x hx⟩
  rw [filter_T] at this
  exact this
/-! numbers and pairs -/
def pr (p : Int × Int) : PyData := .tuple [.int p.1, .int p.2]
def leII (p q : Int × Int) : Bool := decide (p.1 < q.1 ∨ p.1 = q.1 ∧ p.2 ≤ q.2)
theorem can_ints : ∀ ns : List Int, PyData.canLayAll0 (ns.map .int) = true
  | [] => by simp [PyData.canLayAll0]
  | n :: r => by simp [PyData.canLayAll0, PyData.canLay0, can_ints r]
theorem dep_ints : ∀ ns : List Int, PyData.depthAll (ns.map .int) = 0 := PySem.W.depth_ints
theorem shp_li (ns : List Int) : shp (.list (ns.map .int)) = true := by simp [shp, SeqAt.shaped, PyData.canLay0, PyData.depth, can_ints, dep_ints]
theorem shp_ti (ns : List Int) : shp (.tuple (ns.map .int)) = true := by simp [shp, SeqAt.shaped, PyData.canLay0, PyData.depth, can_ints, dep_ints]
theorem can_prs : ∀ ps : List (Int × Int), PyData.canLayAll0 (ps.map pr) = true
  | [] => by simp [PyData.canLayAll0]
  | n :: r => by simp [PyData.canLayAll0, PyData.canLay0, pr, can_prs r]
theorem dep_prs : ∀ ps : List (Int × Int), PyData.depthAll (ps.map pr) ≤ 1
  | [] => by simp [PyData.depthAll]
  | n :: r => by have := dep_prs r; simp [PyData.depthAll, PyData.depth, pr]; omega
theorem shp_lp (ps : List (Int × Int)) : shp (.list (ps.map pr)) = true := by
  have := dep_prs ps
  simp [shp, SeqAt.shaped, PyData.canLay0, PyData.depth, can_prs]; omega
theorem alike_pr (p q : Int × Int) : PySem.W.alike (pr p) (pr q) = true := by simp [pr, PySem.W.alike, PySem.W.alikeAll]
theorem all_map_b {α β} {f : α → β} {P : β → Bool} (h : ∀ a, P (f a) = true) (l : List α) : (l.map f).all P = true := by
  rw [List.all_eq_true]; intro x hx; obtain ⟨a, _, rfl⟩ := List.mem_map.mp hx; exact h a
theorem alikeB_pr (ps : List (Int × Int)) : alikeB (ps.map pr) = true := by
  unfold alikeB; exact all_map_b (P := fun d => (ps.map pr).all fun d' => PySem.W.alike d d') (fun p => all_map_b (P := fun d' => PySem.W.alike (pr p) d') (fun q => alike_pr p q) ps) ps
theorem alikeB_int (ps : List Int) : alikeB (ps.map .int) = true := by
  unfold alikeB; exact all_map_b (P := fun d => (ps.map PyData.int).all fun d' => PySem.W.alike d d') (fun p => all_map_b (P := fun d' => PySem.W.alike (.int p) d') (fun q => by show PySem.W.alike (.int p) (.int q) = true; simp only [PySem.W.alike]) ps) ps
theorem dLe_pr (p q : Int × Int) : dLe (pr p) (pr q) = leII p q := by
  unfold dLe pr leII; rw [PySem.W.dataLt_ii]
  rw [Bool.eq_iff_iff]; simp only [Bool.not_eq_true', decide_eq_true_eq, decide_eq_false_iff_not]; omega
theorem dLe_int (p q : Int) : dLe (.int p) (.int q) = decide (p ≤ q) := by
  unfold dLe; rw [PySem.W.dataLt_int]
  rw [Bool.eq_iff_iff]; simp only [Bool.not_eq_true', decide_eq_true_eq, decide_eq_false_iff_not]; omega
theorem sorted_pr (ps : List (Int × Int)) : fSorted (.list (ps.map pr)) = some (.list ((ps.mergeSort leII).map pr)) := by
  show (if (shp (.list (ps.map pr)) && alikeB (ps.map pr) && sortB (ps.map pr)) = true then some (PyData.list ((ps.map pr).mergeSort dLe)) else none) = _
  rw [shp_lp, alikeB_pr, show sortB (ps.map pr) = true by unfold sortB; rw [all_map_b (P := isTup1) (fun p => rfl) ps]; rfl]
  refine (if_pos rfl).trans ?_
  rw [← List.map_mergeSort (r := leII) (s := dLe) (f := pr) fun a _ b _ => (dLe_pr a b).symm]
theorem sorted_int (ps : List Int) : fSorted (.list (ps.map .int)) = some (.list ((ps.mergeSort fun a b => decide (a ≤ b)).map .int)) := by
  show (if (shp (.list (ps.map .int)) && alikeB (ps.map .int) && sortB (ps.map .int)) = true then some (PyData.list ((ps.map PyData.int).mergeSort dLe)) else none) = _
  rw [shp_li, alikeB_int, show sortB (ps.map .int) = true by unfold sortB; rw [all_map_b (P := noTup) (fun p => rfl) ps, Bool.or_true]; rfl]
  refine (if_pos rfl).trans ?_
  rw [← List.map_mergeSort (r := fun a b => decide (a ≤ b)) (s := dLe) (f := .int) fun a _ b _ => (dLe_int a b).symm]
theorem leII_trans (a b c : Int × Int) : leII a b = true → leII b c = true → leII a c = true := by
  unfold leII; simp only [decide_eq_true_eq]; omega
theorem leII_total (a b : Int × Int) : (leII a b || leII b a) = true := by
  unfold leII; simp only [Bool.or_eq_true, decide_eq_true_eq]; omega
/-- the least of some pairs -/
theorem min_pr (p : Int × Int) (ps : List (Int × Int)) : ∃ m ∈ p :: ps, (∀ q ∈ p :: ps, leII m q = true) ∧ fMinL PySem.W.minD (.list ((p :: ps).map pr)) = some (pr m) := by
  have go : ∀ (ps : List (Int × Int)) (p : Int × Int), ∃ m ∈ p :: ps, (∀ q ∈ p :: ps, leII m q = true) ∧ PySem.W.minD (pr p) (ps.map pr) = pr m := by
    intro ps
    induction ps with
    | nil => intro p; exact ⟨p, List.mem_cons_self, fun q hq => by rw [List.mem_singleton.mp hq]; unfold leII; simp, rfl⟩
    | cons q r ih =>
      intro p
      have hs : PySem.W.minD (pr p) ((q :: r).map pr) = PySem.W.minD (if PySem.W.dataLt (pr q) (pr p) = true then pr q else pr p) (r.map pr) := rfl
      have hb : PySem.W.dataLt (pr q) (pr p) = !leII p q := by rw [← dLe_pr]; unfold dLe; rw [Bool.not_not]
      rw [hs, hb]
      cases hpq : leII p q with
      | true =>
        obtain ⟨m, h1, h2, h3⟩ := ih p
        refine ⟨m, ?_, fun z hz => ?_, h3⟩
        · rcases List.mem_cons.mp h1 with rfl | h1
          · exact List.mem_cons_self
          · exact List.mem_cons_of_mem _ (List.mem_cons_of_mem _ h1)
        · rcases List.mem_cons.mp hz with rfl | hz
          · exact h2 _ List.mem_cons_self
          rcases List.mem_cons.mp hz with rfl | hz
          · exact leII_trans _ _ _ (h2 _ List.mem_cons_self) hpq
          · exact h2 _ (List.mem_cons_of_mem _ hz)
      | false =>
        obtain ⟨m, h1, h2, h3⟩ := ih q
        have hqp : leII q p = true := by have := leII_total p q; rw [hpq] at this; simpa using this
        refine ⟨m, List.mem_cons_of_mem _ h1, fun z hz => ?_, h3⟩
        rcases List.mem_cons.mp hz with rfl | hz
        · exact leII_trans _ _ _ (h2 _ List.mem_cons_self) hqp
        · exact h2 _ hz
  obtain ⟨m, h1, h2, h3⟩ := go ps p
  refine ⟨m, h1, h2, ?_⟩
  show (if okMin ((p :: ps).map pr) = true then some (PySem.W.minD (pr p) (ps.map pr)) else none) = _
  rw [if_pos (by unfold okMin; rw [shp_lp, alikeB_pr, all_map_b (P := notN) (fun p => rfl) (p :: ps)]; rfl), h3]
theorem eqv_ti : ∀ (a b : List Int), PyData.eqv (.tuple (a.map .int)) (.tuple (b.map .int)) = decide (a = b) := by
  have go : ∀ (a b : List Int), PyData.eqvAll (a.map .int) (b.map .int) = decide (a = b) := by
    intro a
    induction a with
    | nil => intro b; cases b <;> simp [PyData.eqvAll]
    | cons x a ih => intro b; cases b with
      | nil => simp [PyData.eqvAll]
      | cons y b => simp only [List.map_cons, PyData.eqvAll, ih]; simp [PyData.eqv, Bool.decide_and]; rw [Bool.eq_iff_iff]; simp
  intro a b; rw [PyData.eqv]; exact go a b
theorem rg1_ok {n : Nat} (h : n ≤ 16777216) : fRg1 (.int n) = some ((List.range n).map fun i => .int (i : Nat)) := by
  show rg1 n = _
  unfold rg1; rw [if_pos ⟨by omega, by omega⟩, Int.toNat_natCast]
  unfold upTo; simp
end SL

set_option Elab.async false
set_option linter.all false
set_option maxRecDepth 100000
set_option maxHeartbeats 4000000
/-! Com: the laws' common helpers, by what they answer. -/
namespace SL
open PySem PySem.Spec PyProof.Rows L2
theorem ev_wh {c : M Bool} {b : M Fl} {Q} (I : Nat → En → Prop) : ∀ fuel m e, m < fuel → I m e → (∀ m e, I m e → Ev c e fun t e1 => if t = true then Ev b e1 fun r e2 => (r = .nx ∨ r = .ct) ∧ ∃ m', m' < m ∧ I m' e2 else Q .nx e1) → Ev (whGo c b fuel) e Q
  | 0, m, e, h, _, _ => by omega
  | n + 1, m, e, h, hi, hs => by
    obtain ⟨t, e1, q1, h1⟩ := hs m e hi
    cases t with
    | false => exact ⟨.nx, e1, by show (c e).bind _ = _; rw [q1]; rfl, by simpa using h1⟩
    | true =>
      obtain ⟨r, e2, q2, hr, m', lm, h2⟩ := (by simpa using h1 : Ev b e1 fun r e2 => (r = .nx ∨ r = .ct) ∧ ∃ m', m' < m ∧ I m' e2)
      obtain ⟨y, e3, q3, h3⟩ := ev_wh I n m' e2 (by omega) h2 hs
      refine ⟨y, e3, ?_, h3⟩
      show (c e).bind _ = _
      rw [q1]
      show (b e1).bind _ = _
      rw [q2]
      rcases hr with rfl | rfl <;> exact q3
theorem ev_swh {n} {c : M Bool} {b : M Fl} {e Q} : Ev (sWh n c b) e Q = Ev (whGo c b n) e Q := rfl
theorem ev_draw0 {c : Int} {p : PyData} {e : En} {Q} (hp : Pok p) (h0 : 0 < c) (h1 : c < 1073741824) (h : ∀ r p', 0 ≤ r → r < c → Pok p' → Q (.int r) (.lent p' :: e)) : Ev (dCall F_l_draw (cP 0 (cV (dC (.int c)) cNil))) (.lent p :: e) Q :=
  ev_draw (i := 0) rfl hp rfl h0 h1 h
theorem ev_drawv {dm : M PyData} {m : Int} {p : PyData} {e : En} {Q} (hm : Is dm (.lent p :: e) (.int m)) (hp : Pok p) (h0 : 0 < m) (h1 : m < 1073741824) (h : ∀ r p', 0 ≤ r → r < m → Pok p' → Q (.int r) (.lent p' :: e)) : Ev (dCall F_l_draw (cP 0 (cV dm cNil))) (.lent p :: e) Q :=
  ev_draw (i := 0) rfl hp hm h0 h1 h
theorem ev_asg' {g} {d : M PyData} {e Q} : Ev (sAsg d g) e Q = Ev d e fun x e1 => ∃ e2, g x e1 = some e2 ∧ Q .nx e2 := propext ⟨fun h => (by
  unfold sAsg at h; rw [ev_bnd] at h
  refine h.mono fun x e1 h => ?_
  rw [ev_fn] at h
  obtain ⟨p, a, b⟩ := h
  obtain ⟨e2, q1, q2⟩ := Option.map_eq_some_iff.mp a
  cases q2; exact ⟨e2, q1, b⟩), ev_asg⟩
theorem ex_gT2 {i j : Nat} {a b : PyData} {e : En} {P : En → Prop} : (∃ e2, gT 2 (gsCons (gN i) (gsCons (gN j) gsNil)) (.tuple [a, b]) e = some e2 ∧ P e2) = (NL (e.at i) ∧ NL (En.at (e.set i (.val a)) j) ∧ P ((e.set i (.val a)).set j (.val b))) := propext ⟨fun ⟨e2, h, p⟩ => (by
  change (gN i a e).bind (gsCons (gN j) gsNil [b]) = some e2 at h
  obtain ⟨e1, h1, h⟩ := Option.bind_eq_some_iff.mp h
  obtain ⟨e3, h3, h⟩ := Option.bind_eq_some_iff.mp (show (gN j b e1).bind (gsNil []) = some e2 from h)
  cases h
  obtain ⟨n1, t⟩ := (ex_gN (P := fun z => z = e1)).mp ⟨e1, h1, rfl⟩
  subst t
  obtain ⟨n2, t⟩ := (ex_gN (P := fun z => z = e2)).mp ⟨e2, h3, rfl⟩
  subst t
  exact ⟨n1, n2, p⟩), fun ⟨n1, n2, p⟩ => (by
  refine ⟨_, ?_, p⟩
  show (gN i a e).bind (gsCons (gN j) gsNil [b]) = _
  have h1 : gN i a e = some (e.set i (.val a)) := put_nl n1
  have h2 : gN j b (e.set i (.val a)) = some ((e.set i (.val a)).set j (.val b)) := put_nl n2
  rw [h1]; show (gN j b _).bind (gsNil []) = _
  rw [h2]; rfl)⟩
theorem filter_F {α} {l : List α} : l.filter (fun _ => false) = [] := by induction l with
  | nil => rfl
  | cons x l ih => rw [List.filter_cons_of_neg (by simp), ih]
theorem filter_nil' {α} {l : List α} {P : α → Bool} (h : ∀ x ∈ l, P x = false) : l.filter P = [] := by
  rw [List.filter_eq_nil_iff]; intro x hx; rw [h x hx]; simp
/-! defs' answers -/
def Gives (F : FS) (as : List PyData) (r : PyData) : Prop := F (as.map .val) = some (r, as.map .val)
theorem outs_vals : ∀ (as : List PyData) (e : En) (i : Nat), outs (as.map .val) e i = as.map .val
  | [], _, _ => rfl
  | a :: as, e, i => by show Sl.val a :: outs (as.map .val) e (i + 1) = _; rw [outs_vals as]; rfl
theorem gives {n : Nat} {d : M Fl} {as : List PyData} {r : PyData} (h : Ev d (as.map .val ++ List.replicate (n - as.length) .no) fun fl _ => fl = .rt r) : Gives (bodyF n d) as r := by
  obtain ⟨fl, e, q, rfl⟩ := h
  unfold Gives bodyF
  rw [if_pos (by rw [List.all_eq_true]; intro x hx; obtain ⟨a, _, rfl⟩ := List.mem_map.mp hx; rfl), List.length_map, q]
  show some (r, outs _ _ _) = _
  rw [outs_vals]
theorem gives_ex {n : Nat} {d : M Fl} {as : List PyData} {P : PyData → Prop} (h : Ev d (as.map .val ++ List.replicate (n - as.length) .no) fun fl _ => ∃ r, fl = .rt r ∧ P r) : ∃ r, Gives (bodyF n d) as r ∧ P r := by
  obtain ⟨fl, e, q, r, rfl, p⟩ := h
  exact ⟨r, gives ⟨_, e, q, rfl⟩, p⟩
theorem mkA_vals : ∀ (e : En) (as : List PyData), mkA e (as.map .v) = as.map .val
  | _, [] => rfl
  | e, a :: as => by show Sl.val a :: mkA e (as.map .v) = _; rw [mkA_vals e as]; rfl
theorem putB_vals : ∀ (e : En) (as : List PyData), putB e (as.map .v) (as.map .val) = e
  | _, [] => rfl
  | e, a :: as => by show putB e (as.map .v) (as.map .val) = e; exact putB_vals e as
theorem pls_vals : ∀ as : List PyData, pls (as.map .v) = []
  | [] => rfl
  | a :: as => by show pls (as.map .v) = []; exact pls_vals as
theorem ev_gives {F : FS} {da : M (List Ag)} {e : En} {Q} {as : List PyData} {r : PyData} (g : Gives F as r) (ha : Is da e (as.map .v)) (h : Q r e) : Ev (dCall F da) e Q := by
  refine ev_call ?_
  rw [ev_is ha]
  refine ⟨by rw [pls_vals]; rfl, r, as.map .val, ?_, ?_⟩
  · rw [mkA_vals]; exact g
  · rw [putB_vals]; exact h
theorem is_gives {F : FS} {da : M (List Ag)} {e : En} {as : List PyData} {r : PyData} (g : Gives F as r) (ha : Is da e (as.map .v)) : Is (dCall F da) e r := is_ev (ev_gives g ha ⟨rfl, rfl⟩)
theorem is_cV {d ds} {e : En} {a : PyData} {as : List PyData} (h : Is d e a) (h2 : Is ds e (as.map .v)) : Is (cV d ds) e ((a :: as).map .v) := is_ev (by rw [ev_cV, ev_is h, ev_is h2]; exact ⟨rfl, rfl⟩)
theorem is_cNil {e : En} : Is cNil e (([] : List PyData).map .v) := rfl
theorem is_var {i : Nat} {e : En} {d : PyData} (h : e.at i = .val d) : Is (dVar i) e d := is_ev (by rw [ev_var]; exact ⟨d, h, rfl, rfl⟩)
theorem is_c {e : En} {d : PyData} : Is (dC d) e d := rfl
theorem is_d1 {f} {d : M PyData} {e : En} {x y} (h : Is d e x) (hf : f x = some y) : Is (d1 f d) e y := is_ev (by rw [ev_d1, ev_is h]; exact ⟨y, hf, rfl, rfl⟩)
theorem is_d2 {f} {d d' : M PyData} {e : En} {x x' y} (h : Is d e x) (h' : Is d' e x') (hf : f x x' = some y) : Is (d2 f d d') e y := is_ev (by rw [ev_d2, ev_is h, ev_is h']; exact ⟨y, hf, rfl, rfl⟩)
theorem is_t2 {f} {d d' : M PyData} {e : En} {x x' y} (h : Is d e x) (h' : Is d' e x') (hf : f x x' = some y) : Is (t2 f d d') e y := is_ev (by rw [ev_t2, ev_is h, ev_is h']; exact ⟨y, hf, rfl, rfl⟩)
theorem is_tnot {d : M Bool} {e : En} {x} (h : Is d e x) : Is (tNot1 d) e (!x) := is_ev (by rw [ev_tnot, ev_is h]; exact ⟨rfl, rfl⟩)
theorem is_tval {d : M PyData} {e : En} {x b} (h : Is d e x) (hb : boolOf x = some b) : Is (tVal d) e b := is_ev (by rw [ev_tval, ev_is h]; exact ⟨b, hb, rfl, rfl⟩)
theorem is_vB {d : M Bool} {e : En} {x} (h : Is d e x) : Is (vB d) e (.bool x) := is_ev (by rw [ev_vB, ev_is h]; exact ⟨rfl, rfl⟩)
theorem is_or {a b : M Bool} {e : En} {x y} (h : Is a e x) (h2 : x = false → Is b e y) : Is (tOr2 a b) e (x || y) := is_ev (by
  rw [ev_or, ev_is h]
  cases x with
  | true => exact ⟨rfl, rfl⟩
  | false => rw [if_neg (by simp), ev_is (h2 rfl)]; exact ⟨rfl, rfl⟩)
theorem is_and {a b : M Bool} {e : En} {x y} (h : Is a e x) (h2 : x = true → Is b e y) : Is (tAnd2 a b) e (x && y) := is_ev (by
  rw [ev_and, ev_is h]
  cases x with
  | false => exact ⟨rfl, rfl⟩
  | true => rw [if_pos rfl, ev_is (h2 rfl)]; exact ⟨rfl, rfl⟩)
theorem is_iT {d} {e : En} {x l} (h : Is d e x) (hl : tupOf x = some l) : Is (iT d) e l := is_ev (by rw [ev_iT, ev_is h]; exact ⟨l, hl, rfl, rfl⟩)
theorem is_iL {d} {e : En} {x l} (h : Is d e x) (hl : listOf x = some l) : Is (iL d) e l := is_ev (by rw [ev_iL, ev_is h]; exact ⟨l, hl, rfl, rfl⟩)
theorem is_iR1 {d} {e : En} {x l} (h : Is d e x) (hl : fRg1 x = some l) : Is (iR1 d) e l := is_ev (by rw [ev_iR1, ev_is h]; exact ⟨l, hl, rfl, rfl⟩)
theorem is_iR2 {d d'} {e : En} {x y l} (h : Is d e x) (h' : Is d' e y) (hl : fRg2 x y = some l) : Is (iR2 d d') e l := is_ev (by rw [ev_iR2, ev_is h, ev_is h']; exact ⟨l, hl, rfl, rfl⟩)
theorem is_nil {e : En} : Is aNil e [] := rfl
theorem is_cons {d ds} {e : En} {x xs} (h : Is d e x) (h2 : Is ds e xs) : Is (aCons d ds) e (x :: xs) := is_ev (by rw [ev_acons, ev_is h, ev_is h2]; exact ⟨rfl, rfl⟩)
theorem is_dtup {d} {e : En} {x} (h : Is d e x) : Is (dTup d) e (.tuple x) := is_ev (by rw [ev_dtup, ev_is h]; exact ⟨rfl, rfl⟩)
theorem is_dlst {d} {e : En} {x} (h : Is d e x) : Is (dLst d) e (.list x) := is_ev (by rw [ev_dlst, ev_is h]; exact ⟨rfl, rfl⟩)
theorem is_dis {T d} {e : En} {x} (h : Is d e x) : Is (dIs T d) e (.bool (isT T x)) := is_ev (by rw [ev_dis, ev_is h]; exact ⟨rfl, rfl⟩)
theorem is_not {d} {e : En} {x} (h : Is d e x) : Is (tIsNot d) e (!isNon x) := is_ev (by rw [ev_isnot, ev_is h]; exact ⟨rfl, rfl⟩)
theorem is_t3 {f f'} {da db dc : M PyData} {e : En} {x y z b b'} (h1 : Is da e x) (h2 : Is db e y) (h3 : f x y = some b) (h4 : Is dc e z) (h5 : f' y z = some b') : Is (t3 f f' da db dc) e (b && b') := is_ev (by
  unfold t3
  rw [ev_bnd, ev_is h1, ev_bnd, ev_is h2, ev_bnd, ev_lft, h3, ex_some, ev_ite]
  cases b with
  | false => rw [if_neg (by simp), ev_ret]; exact ⟨rfl, rfl⟩
  | true => rw [if_pos rfl, ev_bnd, ev_is h4, ev_lft, h5, ex_some]; exact ⟨rfl, rfl⟩)
theorem is_rg1 {d : M PyData} {e : En} {x l} (h : Is d e x) (hl : fRg1 x = some l) : Is (dRg1 d) e (.list l) := is_ev (by
  unfold dRg1
  rw [ev_bnd, ev_is h, ev_lft, hl]; exact ⟨_, rfl, rfl, rfl⟩)
theorem match_nx {A : Prop} {P : Fl → Prop} : (match Fl.nx with | .nx => A | r => P r) = A := rfl
/-! _law_is_integer, _law_is_up, _law_is_row, _law_same -/
theorem g_integer (n : Int) : Gives F_l_is_integer [.int n] (.bool true) := by
  refine gives ?_
  show Ev d_l_is_integer [.val (.int n)] _
  unfold d_l_is_integer
  rw [ev_sRt, ev_dand, ev_dis, ev_var]
  refine ⟨.int n, rfl, true, rfl, ?_⟩
  rw [if_pos rfl, ev_dnot, ev_dis, ev_var]
  exact ⟨.int n, rfl, false, rfl, rfl⟩
theorem fRg2_i (i j : Int) : fRg2 (.int i) (.int j) = rg2 i j := rfl
theorem get_pair {R : Int → Int → Prop} {ns : List Int} (h : ns.Pairwise R) {i j : Nat} (hij : i < j) (hj : j < ns.length) : R (ns[i]'(by omega)) ns[j] := List.pairwise_iff_getElem.mp h i j (by omega) hj hij
theorem ix_ints {ns : List Int} {i : Nat} (h : i < ns.length) : fIx (.tuple (ns.map .int)) (.int i) = some (.int ns[i]) := L2.atI_nat (by rw [List.getElem?_map, List.getElem?_eq_getElem h]; rfl)
theorem ix_intsL {ns : List Int} {i : Nat} (h : i < ns.length) : fIx (.list (ns.map .int)) (.int i) = some (.int ns[i]) := L2.atI_nat (by rw [List.getElem?_map, List.getElem?_eq_getElem h]; rfl)
theorem g_up {ns : List Int} (h : ns.Pairwise (· < ·)) (hl : ns.length ≤ 16777216) : Gives F_l_is_up [.tuple (ns.map .int)] (.bool true) := by
  refine gives ?_
  show Ev d_l_is_up [.val (.tuple (ns.map .int)), .no] _
  unfold d_l_is_up
  have hr : fRg2 (.int 1) (.int ((ns.map PyData.int).length : Int)) = some ((List.range (ns.length - 1)).map fun i => .int (1 + (i : Nat))) := by
    rw [fRg2_i, List.length_map]
    unfold rg2; rw [if_pos ⟨by omega, by omega, by omega⟩, show ((ns.length : Int) - 1).toNat = ns.length - 1 by omega]; rfl
  have hc : Is (dComp [1] (iR2 (dC (.int 1)) (d1 fLen (dVar 0))) (gN 1) (tNot1 (t2 fLt (d2 fIx (dVar 0) (d2 (fI2 gSub') (dVar 1) (dC (.int 1)))) (d2 fIx (dVar 0) (dVar 1)))) (dVar 1)) [.val (.tuple (ns.map .int)), .no] (.list []) := by
    have := comp1 (i := 1) (di := iR2 (dC (.int 1)) (d1 fLen (dVar 0))) (c := tNot1 (t2 fLt (d2 fIx (dVar 0) (d2 (fI2 gSub') (dVar 1) (dC (.int 1)))) (d2 fIx (dVar 0) (dVar 1)))) (el := dVar 1) (e := [.val (.tuple (ns.map .int)), .no])
      (l := List.range (ns.length - 1)) (fun i => .int (1 + (i : Nat))) (fun _ => false) (fun i => .int (1 + (i : Nat))) (by show 1 < 2; omega) rfl (is_iR2 is_c (is_d1 (is_var rfl) (len_t)) hr) (fun i hi => ?_)
    · rw [filter_F] at this; exact this
    · have hi := List.mem_range.mp hi
      refine ⟨?_, fun h => by cases h⟩
      have f1 : fIx (.tuple (ns.map .int)) (.int (1 + (i : Nat) - 1)) = some (.int (ns[i]'(by omega))) := by rw [show (1 : Int) + (i : Nat) - 1 = (i : Nat) by omega]; exact ix_ints _
      have f2 : fIx (.tuple (ns.map .int)) (.int (1 + (i : Nat))) = some (.int (ns[i + 1]'(by omega))) := by rw [show (1 : Int) + (i : Nat) = ((i + 1 : Nat) : Int) by omega]; exact ix_ints _
      have lt : ns[i]'(by omega) < ns[i + 1]'(by omega) := get_pair h (by omega) (by omega)
      have := is_tnot (is_t2 (f := fLt) (is_d2 (f := fIx) (is_var (i := 0) (e := [.val (.tuple (ns.map .int)), .val (.int (1 + (i : Nat)))]) rfl) (is_d2 (f := fI2 gSub') (is_var (i := 1) rfl) is_c sub_i) f1) (is_d2 (f := fIx) (is_var (i := 0) rfl) (is_var (i := 1) rfl) f2) lt_i)
      rw [decide_eq_true lt] at this
      exact this
  rw [ev_sRt, ev_is (is_vB (is_t2 (f := fEq) (is_d1 (f := fLen) hc len_l) is_c eq_i))]
  rfl
theorem g_row {ns : List Int} {many : PyData} {lo hi : Int} (hm : many = .none ∨ many = .int ns.length) (h : ∀ n ∈ ns, lo ≤ n ∧ n ≤ hi) : Gives F_l_is_row [.tuple (ns.map .int), many, .int lo, .int hi] (.bool true) := by
  refine gives ?_
  show Ev d_l_is_row [.val (.tuple (ns.map .int)), .val many, .val (.int lo), .val (.int hi), .no] _
  unfold d_l_is_row
  rw [ev_seq', ev_sif]
  have i1 : Is (tNot1 (tVal (dIs "tuple" (dVar 0)))) [.val (.tuple (ns.map .int)), .val many, .val (.int lo), .val (.int hi), .no] false := is_tnot (x := true) (is_tval (x := .bool true) (is_dis (x := .tuple (ns.map .int)) (is_var rfl)) rfl)
  have i2 : Is (tAnd2 (tIsNot (dVar 1)) (t2 fNe (d1 fLen (dVar 0)) (dVar 1))) [.val (.tuple (ns.map .int)), .val many, .val (.int lo), .val (.int hi), .no] false := by
    rcases hm with rfl | rfl
    · have := is_and (is_not (is_var (i := 1) (e := [.val (.tuple (ns.map .int)), .val PyData.none, .val (.int lo), .val (.int hi), .no]) rfl)) (b := t2 fNe (d1 fLen (dVar 0)) (dVar 1)) (y := true) (fun h => by cases h)
      exact this
    · have := is_and (is_not (is_var (i := 1) (e := [.val (.tuple (ns.map .int)), .val (.int ns.length), .val (.int lo), .val (.int hi), .no]) rfl)) (fun _ => is_t2 (f := fNe) (is_d1 (f := fLen) (is_var (i := 0) rfl) len_t) (is_var (i := 1) rfl) ne_i)
      rw [List.length_map, decide_eq_true rfl] at this
      exact this
  rw [ev_is (is_or i1 fun _ => i2)]
  show Ev sNx _ _
  rw [ev_sNx]
  have hc : Is (dComp [4] (iT (dVar 0)) (gN 4) (tOr2 (tNot1 (tVal (dCall F_l_is_integer (cV (dVar 4) cNil)))) (tOr2 (t2 fLt (dVar 4) (dVar 2)) (t2 fGt (dVar 4) (dVar 3)))) (dVar 4)) [.val (.tuple (ns.map .int)), .val many, .val (.int lo), .val (.int hi), .no] (.list []) := by
    have := comp1 (i := 4) (di := iT (dVar 0)) (c := tOr2 (tNot1 (tVal (dCall F_l_is_integer (cV (dVar 4) cNil)))) (tOr2 (t2 fLt (dVar 4) (dVar 2)) (t2 fGt (dVar 4) (dVar 3)))) (el := dVar 4) (e := [.val (.tuple (ns.map .int)), .val many, .val (.int lo), .val (.int hi), .no])
      (l := ns) (fun i => .int i) (fun _ => false) (fun i => .int i) (by show 4 < 5; omega) rfl (is_iT (is_var rfl) rfl) (fun n hn => ?_)
    · rw [filter_F] at this; exact this
    · refine ⟨?_, fun h => by cases h⟩
      have := is_or (is_tnot (is_tval (is_gives (g_integer n) (is_cV (is_var (i := 4) (e := [.val (.tuple (ns.map .int)), .val many, .val (.int lo), .val (.int hi), .val (.int n)]) rfl) is_cNil)) rfl)) (fun _ => is_or (is_t2 (f := fLt) (is_var (i := 4) rfl) (is_var (i := 2) rfl) lt_i) (fun _ => is_t2 (f := fGt) (is_var (i := 4) rfl) (is_var (i := 3) rfl) gt_i))
      rw [decide_eq_false (by have := h n hn; omega), decide_eq_false (by have := h n hn; omega)] at this
      exact this
  rw [ev_sRt, ev_is (is_vB (is_t2 (f := fEq) (is_d1 (f := fLen) hc len_l) is_c eq_i))]
  rfl
theorem g_same {d : PyData} (h : noDict d = true) (hd : d.depth ≤ 40) : Gives F_l_same [d, d] (.bool true) := by
  show FSame 40 _ = _
  show (if d.depth ≤ 40 ∧ noDict d = true then some (PyData.bool (same d d), _) else none) = _
  rw [if_pos ⟨hd, h⟩, same_refl d h]
theorem nd_ints : ∀ ns : List Int, noDictAll (ns.map .int) = true
  | [] => rfl
  | n :: r => by simp [noDictAll, noDict, nd_ints r]
theorem ev_draw1 {dm : M PyData} {m : Int} {p : PyData} {s0 : Sl} {e : En} {Q} (hm : Is dm (s0 :: .own p :: e) (.int m)) (hp : Pok p) (h0 : 0 < m) (h1 : m < 1073741824) (h : ∀ r p', 0 ≤ r → r < m → Pok p' → Q (.int r) (s0 :: .own p' :: e)) : Ev (dCall F_l_draw (cP 1 (cV dm cNil))) (s0 :: .own p :: e) Q :=
  ev_draw (i := 1) rfl hp hm h0 h1 h
theorem ev_pool1 {F : FS} {p p' r : PyData} {s0 : Sl} {e : En} {Q} (q : F [.lent p] = some (r, [.lent p'])) (h : Q r (s0 :: .own p' :: e)) : Ev (dCall F (cP 1 cNil)) (s0 :: .own p :: e) Q := by
  refine ev_call (ev_cP rfl ?_)
  rw [ev_cnil]
  exact ⟨rfl, r, [.lent p'], q, h⟩
theorem ev_sl {da : M PyData} {dl dh : M (Option Int)} {e Q} : Ev (dSl da dl dh) e Q = Ev da e fun x e1 => Ev dl e1 fun l e2 => Ev dh e2 fun u e3 => ∃ z, fSl x l u = some z ∧ Q z e3 := by unfold dSl; simp only [ev_bnd, ev_lft]
theorem is_noP {e : En} : Is dNoP e none := rfl
theorem is_part {d : M PyData} {e : En} {i : Int} (h : Is d e (.int i)) : Is (dPart d) e (some i) := is_ev (by unfold dPart; rw [ev_bnd, ev_is h, ev_lft]; exact ⟨_, rfl, rfl, rfl⟩)
theorem is_sl {da : M PyData} {dl dh : M (Option Int)} {e : En} {x l u z} (h1 : Is da e x) (h2 : Is dl e l) (h3 : Is dh e u) (h : fSl x l u = some z) : Is (dSl da dl dh) e z := is_ev (by rw [ev_sl, ev_is h1, ev_is h2, ev_is h3]; exact ⟨z, h, rfl, rfl⟩)
theorem cut_take {ds : List PyData} {k : Nat} : cutD ds none (some (k : Int)) = ds.take k := by
  unfold cutD; rw [HT.sIx_nat]
  show (ds.drop 0).take (min k ds.length - 0) = _
  rw [List.drop_zero, Nat.sub_zero]
  by_cases h : k ≤ ds.length
  · rw [Nat.min_eq_left h]
  · rw [Nat.min_eq_right (by omega), List.take_of_length_le (by omega), List.take_of_length_le (by omega)]
theorem cut_drop {ds : List PyData} {k : Nat} : cutD ds (some (k : Int)) none = ds.drop k := by
  unfold cutD; rw [HT.sIx_nat]
  show (ds.drop (min k ds.length)).take (ds.length - min k ds.length) = _
  by_cases h : k ≤ ds.length
  · rw [Nat.min_eq_left h, List.take_of_length_le (by rw [List.length_drop]; omega)]
  · rw [Nat.min_eq_right (by omega), List.drop_of_length_le (by omega), List.drop_of_length_le (by omega), List.take_nil]
theorem add_t {a b : List PyData} (h : a.length + b.length ≤ 16777216) : fAdd (.tuple a) (.tuple b) = some (.tuple (a ++ b)) := if_pos h
def VN : Sl → Prop | .no => True | .val _ => True | _ => False
theorem VN.nl {s} (h : VN s) : NL s := by cases s <;> trivial
theorem ev_drawE {dm : M PyData} {p : PyData} {e : En} {Q} (h : Ev dm (.lent p :: e) fun x e1 => ∃ (m : Int) (p1 : PyData) (e' : En), x = .int m ∧ e1 = .lent p1 :: e' ∧ Pok p1 ∧ 0 < m ∧ m < 1073741824 ∧ ∀ r p', 0 ≤ r → r < m → Pok p' → Q (.int r) (.lent p' :: e')) : Ev (dCall F_l_draw (cP 0 (cV dm cNil))) (.lent p :: e) Q := by
  obtain ⟨x, e1, q1, m, p1, e', rfl, rfl, hp, h0, h1, h⟩ := h
  obtain ⟨r, p', q, a, b, c⟩ := draw_ok hp h0 h1
  refine ev_call (ev_cP rfl ?_)
  rw [ev_cV]
  refine ⟨_, _, q1, ?_⟩
  show Ev cNil _ _
  rw [ev_cnil]
  refine ⟨rfl, .int r, [.lent p', .val (.int m)], q, h r p' a b c⟩
theorem two01 {r : Int} (h0 : 0 ≤ r) (h1 : r < 2) : r = 0 ∨ r = 1 := by omega
end SL

set_option Elab.async false
set_option linter.all false
set_option maxRecDepth 100000
set_option maxHeartbeats 4000000
/-! TX: meanings answer typed programs without slots: a program is a predicate transformer (Wp); draws are all possible ones. -/
namespace SL
open PySem PySem.Spec PyProof.Rows L2
abbrev Wp (α : Type) := (α → Prop) → Prop
def wret {α} (x : α) : Wp α := fun Q => Q x
def wbind {α β} (w : Wp α) (f : α → Wp β) : Wp β := fun Q => w fun x => f x Q
def wo {α} (o : Option α) : Wp α := fun Q => ∃ x, o = some x ∧ Q x
def wg {α} (c : Prop) (x : α) : Wp α := fun Q => c ∧ Q x
def wdraw (m : Int) : Wp Int := fun Q => (0 < m ∧ m < 1073741824) ∧ ∀ r, 0 ≤ r → r < m → Q r
def lt' {α β} (x : α) (f : α → β) : β := f x
def wfm {α β} (c : α → Wp Bool) (f : α → Wp β) : List α → Wp (List β)
  | [] => wret []
  | x :: xs => wbind (c x) fun t => if t = true then wbind (f x) fun y => wbind (wfm c f xs) fun ys => wret (y :: ys) else wfm c f xs
def wmap {α β} (f : α → Wp β) : List α → Wp (List β)
  | [] => wret []
  | x :: xs => wbind (f x) fun y => wbind (wmap f xs) fun ys => wret (y :: ys)
def wfold {σ α} (f : σ → α → Wp σ) : List α → σ → Wp σ
  | [], s => wret s
  | x :: xs, s => wbind (f s x) fun s' => wfold f xs s'
inductive St (σ ρ : Type) where | go (s : σ) | stop (s : σ) | ret (r : ρ)
inductive Rt (σ ρ : Type) where | nx (s : σ) | ret (r : ρ)
def onR {σ ρ β : Type} (k : σ → Wp β) (kr : ρ → Wp β) : Rt σ ρ → Wp β | .nx s => k s | .ret r => kr r
def wfoldX {σ ρ α} (f : σ → α → Wp (St σ ρ)) : List α → σ → Wp (Rt σ ρ)
  | [], s => wret (.nx s)
  | x :: xs, s => wbind (f s x) fun r => match r with | .go s' => wfoldX f xs s' | .stop s' => wret (.nx s') | .ret r => wret (.ret r)
def wwhile {σ} (c : σ → Wp Bool) (f : σ → Wp σ) : Nat → σ → Wp σ
  | 0, _ => fun _ => False
  | n + 1, s => wbind (c s) fun t => if t = true then wbind (f s) fun s' => wwhile c f n s' else wret s
def wwhileX {σ ρ} (c : σ → Wp Bool) (f : σ → Wp (St σ ρ)) : Nat → σ → Wp (Rt σ ρ)
  | 0, _ => fun _ => False
  | n + 1, s => wbind (c s) fun t => if t = true then wbind (f s) fun r => match r with | .go s' => wwhileX c f n s' | .stop s' => wret (.nx s') | .ret r => wret (.ret r) else wret (.nx s)
theorem wret_bind {α β} (x : α) (f : α → Wp β) : wbind (wret x) f = f x := rfl
theorem wbind_ret {α} (w : Wp α) : wbind w wret = w := rfl
theorem wbind_assoc {α β γ} (w : Wp α) (f : α → Wp β) (g : β → Wp γ) : wbind (wbind w f) g = wbind w fun x => wbind (f x) g := rfl
theorem wo_some {α} (x : α) : wo (some x) = wret x := funext fun Q => propext ⟨fun ⟨y, a, b⟩ => by cases a; exact b, fun h => ⟨x, rfl, h⟩⟩
theorem wg_true {α} {c : Prop} (h : c) (x : α) : wg c x = wret x := funext fun Q => propext ⟨fun q => q.2, fun q => ⟨h, q⟩⟩
theorem wfm_t {α β} (c : α → Bool) (f : α → β) : ∀ l : List α, wfm (fun x => wret (c x)) (fun x => wret (f x)) l = wret ((l.filter c).map f)
  | [] => rfl
  | x :: xs => by
    unfold wfm; rw [wret_bind]
    cases h : c x with
    | true => rw [if_pos rfl, wret_bind, wfm_t c f xs, List.filter_cons_of_pos h]; rfl
    | false => rw [if_neg (by simp), wfm_t c f xs, List.filter_cons_of_neg (by rw [h]; simp)]
theorem wmap_t {α β} (f : α → β) : ∀ l : List α, wmap (fun x => wret (f x)) l = wret (l.map f)
  | [] => rfl
  | x :: xs => by unfold wmap; rw [wret_bind, wmap_t f xs]; rfl
theorem wfold_t {σ α} (f : σ → α → σ) : ∀ (l : List α) (s : σ), wfold (fun s x => wret (f s x)) l s = wret (l.foldl f s)
  | [], _ => rfl
  | x :: xs, s => by unfold wfold; rw [wret_bind, wfold_t f xs]; rfl
theorem wmap_congr {α β} {f g : α → Wp β} : ∀ {l : List α}, (∀ x ∈ l, f x = g x) → wmap f l = wmap g l
  | [], _ => rfl
  | x :: xs, h => by unfold wmap; rw [h x List.mem_cons_self, wmap_congr fun y hy => h y (List.mem_cons_of_mem _ hy)]
theorem wfm_congr {α β} {c c' : α → Wp Bool} {f g : α → Wp β} : ∀ {l : List α}, (∀ x ∈ l, c x = c' x ∧ f x = g x) → wfm c f l = wfm c' g l
  | [], _ => rfl
  | x :: xs, h => by unfold wfm; rw [(h x List.mem_cons_self).1, (h x List.mem_cons_self).2, wfm_congr fun y hy => h y (List.mem_cons_of_mem _ hy)]
/-- a fold whose steps are known under an invariant -/
theorem wfold_inv {σ α} {f : σ → α → Wp σ} {g : σ → α → σ} (I : List α → σ → Prop) : ∀ (l : List α) (s : σ), I l s → (∀ x xs s, I (x :: xs) s → f s x = wret (g s x) ∧ I xs (g s x)) → wfold f l s = wret (l.foldl g s)
  | [], _, _, _ => rfl
  | x :: xs, s, h, k => by
    unfold wfold; rw [(k x xs s h).1, wret_bind, wfold_inv I xs _ (k x xs s h).2 k]; rfl
/-- the demonic way: all that a program may answer -/
theorem wmap_all {α β} {f : α → Wp β} {Q : List β → Prop} (P : List α → List β → Prop) : ∀ (l : List α), P [] [] → (∀ x xs ys, (∀ z ∈ x :: xs, z ∈ l) → P xs ys → True) → True → True := fun _ _ _ _ => trivial
def Mono {α} (w : Wp α) : Prop := ∀ {P Q : α → Prop}, (∀ x, P x → Q x) → w P → w Q
theorem mono_ret {α} {x : α} : Mono (wret x) := fun h q => h _ q
theorem mono_bind {α β} {w : Wp α} {f : α → Wp β} (h : Mono w) (k : ∀ x, Mono (f x)) : Mono (wbind w f) := fun h' q => h (fun x z => k x h' z) q
theorem mono_draw {m} : Mono (wdraw m) := fun h q => ⟨q.1, fun r a b => h _ (q.2 r a b)⟩
theorem mono_wo {α} {o : Option α} : Mono (wo o) := fun h ⟨x, a, b⟩ => ⟨x, a, h _ b⟩
theorem mono_wg {α} {c : Prop} {x : α} : Mono (wg c x) := fun h ⟨a, b⟩ => ⟨a, h _ b⟩

/-! ## what a meaning answers -/
def RG {α β : Type} (I : PyData → Prop) (enc : α → β) (d : M β) (E : PyData → En) (w : Wp α) : Prop := ∀ p (Q : α → Prop), I p → w Q → ∃ x p', d (E p) = some (enc x, E p') ∧ I p' ∧ Q x
section
variable {I : PyData → Prop} {α β γ δ : Type} {ea : α → γ} {eb : β → δ} {E : PyData → En}
theorem rg_bp {d : M γ} {K : γ → M δ} {w : Wp α} {k : α → Wp β} (h : RG I ea d E w) (h2 : ∀ x, RG I eb (K (ea x)) E (k x)) : RG I eb (bnd d K) E (wbind w k) := fun p Q hp hw => by
  obtain ⟨x, p1, q1, hp1, hq⟩ := h p _ hp hw
  obtain ⟨y, p2, q2, hp2, hq2⟩ := h2 x p1 Q hp1 hq
  exact ⟨y, p2, by unfold bnd; rw [q1]; exact q2, hp2, hq2⟩
theorem rg_bt {d : M γ} {K : γ → M δ} {x : α} {w : Wp β} (h : RG I ea d E (wret x)) (h2 : RG I eb (K (ea x)) E w) : RG I eb (bnd d K) E w := fun p Q hp hw => by
  obtain ⟨y, p1, q1, hp1, hq⟩ := h p (fun y => y = x) hp rfl
  subst hq
  obtain ⟨z, p2, q2, hp2, hq2⟩ := h2 p1 Q hp1 hw
  exact ⟨z, p2, by unfold bnd; rw [q1]; exact q2, hp2, hq2⟩
theorem rg_ret {x : α} {y : γ} (h : y = ea x) : RG I ea (ret y) E (wret x) := fun p Q hp hw => ⟨x, p, by rw [h]; rfl, hp, hw⟩
theorem rg_some {x : α} {o : Option γ} (h : o = some (ea x)) : RG I ea (lft o) E (wret x) := fun p Q hp hw => ⟨x, p, by rw [h]; rfl, hp, hw⟩
theorem rg_wg {x : α} {o : Option γ} {c : Prop} (h : c → o = some (ea x)) : RG I ea (lft o) E (wg c x) := fun p Q hp hw => ⟨x, p, by rw [h hw.1]; rfl, hp, hw.2⟩
theorem rg_wo {o : Option γ} {o' : Option α} (h : ∀ x, o' = some x → o = some (ea x)) : RG I ea (lft o) E (wo o') := fun p Q hp ⟨x, a, b⟩ => ⟨x, p, by rw [h x a]; rfl, hp, b⟩
theorem rg_dyn {o : Option γ} : RG I id (lft o) E (wo o) := rg_wo fun _ h => h
theorem rg_cast {ec : β → γ} {d : M γ} {w : Wp α} (f : α → β) (h : ∀ x, ea x = ec (f x)) (k : RG I ea d E w) : RG I ec d E (wbind w fun x => wret (f x)) := fun p Q hp hw => by
  obtain ⟨x, p1, q1, hp1, hq⟩ := k p _ hp hw
  exact ⟨f x, p1, by rw [q1, h], hp1, hq⟩
theorem rg_castT {ec : β → γ} {d : M γ} {x : α} {y : β} (h : ea x = ec y) (k : RG I ea d E (wret x)) : RG I ec d E (wret y) := fun p Q hp hw => by
  obtain ⟨z, p1, q1, hp1, hq⟩ := k p (fun z => z = x) hp rfl
  subst hq
  exact ⟨y, p1, by rw [q1, h], hp1, hw⟩
theorem rg_if {c : M Bool} {a b : M γ} {t : Bool} {w1 w2 : Wp α} (h : RG I id c E (wret t)) (h1 : t = true → RG I ea a E w1) (h2 : t = false → RG I ea b E w2) : RG I ea (bnd c fun c => if c = true then a else b) E (if t = true then w1 else w2) := fun p Q hp hw => by
  obtain ⟨z, p1, q1, hp1, hq⟩ := h p (fun z => z = t) hp rfl
  subst hq
  unfold bnd; rw [q1]
  cases z with
  | true => rw [if_pos rfl] at hw; exact h1 rfl p1 Q hp1 hw
  | false => rw [if_neg (by simp)] at hw; exact h2 rfl p1 Q hp1 hw
/-- after the test -/
theorem rg_ite {a b : M γ} {t : Bool} {w1 w2 : Wp α} (h1 : RG I ea a E w1) (h2 : RG I ea b E w2) : RG I ea (if t = true then a else b) E (if t = true then w1 else w2) := by
  cases t <;> simpa
theorem rg_iteT {a b : M γ} {t : Bool} {x y : α} (h1 : RG I ea a E (wret x)) (h2 : RG I ea b E (wret y)) : RG I ea (if t = true then a else b) E (wret (if t = true then x else y)) := by
  cases t <;> simpa
end
/-! ### encodings -/
abbrev eI : Int → PyData := .int
abbrev eB : Bool → PyData := .bool
abbrev eS : Str → PyData := .str
abbrev eD : PyData → PyData := id
abbrev eN : Unit → PyData := fun _ => .none
abbrev eL {α} (f : α → PyData) (l : List α) : PyData := .list (l.map f)
abbrev eT {α} (f : α → PyData) (l : List α) : PyData := .tuple (l.map f)
abbrev eP0 : Unit → PyData := fun _ => .tuple []
abbrev eP1 {α} (f : α → PyData) (x : α) : PyData := .tuple [f x]
abbrev eP2 {α β} (f : α → PyData) (g : β → PyData) (x : α × β) : PyData := .tuple [f x.1, g x.2]
abbrev eP3 {α β γ} (f : α → PyData) (g : β → PyData) (h : γ → PyData) (x : α × β × γ) : PyData := .tuple [f x.1, g x.2.1, h x.2.2]
abbrev eP4 {α β γ δ} (f : α → PyData) (g : β → PyData) (h : γ → PyData) (i : δ → PyData) (x : α × β × γ × δ) : PyData := .tuple [f x.1, g x.2.1, h x.2.2.1, i x.2.2.2]
abbrev eP5 {α β γ δ ε} (f : α → PyData) (g : β → PyData) (h : γ → PyData) (i : δ → PyData) (j : ε → PyData) (x : α × β × γ × δ × ε) : PyData := .tuple [f x.1, g x.2.1, h x.2.2.1, i x.2.2.2.1, j x.2.2.2.2]
abbrev eQ1 {α} (f : α → PyData) (x : α) : PyData := .list [f x]
abbrev eQ2 {α β} (f : α → PyData) (g : β → PyData) (x : α × β) : PyData := .list [f x.1, g x.2]
abbrev eQ3 {α β γ} (f : α → PyData) (g : β → PyData) (h : γ → PyData) (x : α × β × γ) : PyData := .list [f x.1, g x.2.1, h x.2.2]
abbrev eQ4 {α β γ δ} (f : α → PyData) (g : β → PyData) (h : γ → PyData) (i : δ → PyData) (x : α × β × γ × δ) : PyData := .list [f x.1, g x.2.1, h x.2.2.1, i x.2.2.2]
abbrev eQ5 {α β γ δ ε} (f : α → PyData) (g : β → PyData) (h : γ → PyData) (i : δ → PyData) (j : ε → PyData) (x : α × β × γ × δ × ε) : PyData := .list [f x.1, g x.2.1, h x.2.2.1, i x.2.2.2.1, j x.2.2.2.2]
abbrev eO {α} (f : α → PyData) : Option α → PyData := fun o => match o with | none => .none | some x => f x
/-- encodings that may be compared -/
class OkE {α : Type} (ea : α → PyData) (n : outParam Nat) : Prop where
  lay : ∀ x, (ea x).canLay0 = true
  dep : ∀ x, (ea x).depth ≤ n
  eqv : ∀ x y, PyData.eqv (ea x) (ea y) = true ↔ x = y
instance : OkE eI 0 := ⟨fun _ => by simp [PyData.canLay0], fun _ => by simp [PyData.depth], fun x y => by simp [PyData.eqv]⟩
instance : OkE eB 0 := ⟨fun _ => by simp [PyData.canLay0], fun _ => by simp [PyData.depth], fun x y => by cases x <;> cases y <;> simp [PyData.eqv]⟩
section
variable {α β γ δ ε : Type} {ea : α → PyData} {eb : β → PyData} {ec : γ → PyData} {ed : δ → PyData} {ee : ε → PyData} {n m k l j : Nat}
theorem okl_lay (h : ∀ x, (ea x).canLay0 = true) : ∀ xs : List α, PyData.canLayAll0 (xs.map ea) = true
  | [] => by simp [PyData.canLayAll0]
  | x :: xs => by simp [PyData.canLayAll0, h x, okl_lay h xs]
theorem okl_dep (h : ∀ x, (ea x).depth ≤ n) : ∀ xs : List α, PyData.depthAll (xs.map ea) ≤ n
  | [] => by simp [PyData.depthAll]
  | x :: xs => by have := h x; have := okl_dep h xs; simp [PyData.depthAll]; omega
theorem okl_eqv (h : ∀ x y, PyData.eqv (ea x) (ea y) = true ↔ x = y) : ∀ xs ys : List α, PyData.eqvAll (xs.map ea) (ys.map ea) = true ↔ xs = ys
  | [], [] => by simp [PyData.eqvAll]
  | [], y :: ys => by simp [PyData.eqvAll]
  | x :: xs, [] => by simp [PyData.eqvAll]
  | x :: xs, y :: ys => by simp [PyData.eqvAll, h x y, okl_eqv h xs ys]
instance okL [o : OkE ea n] : OkE (eL ea) (n + 1) := ⟨fun xs => by simp [PyData.canLay0, okl_lay o.lay xs], fun xs => by have := okl_dep o.dep xs; simp [PyData.depth]; omega, fun xs ys => by rw [PyData.eqv]; exact okl_eqv o.eqv xs ys⟩
instance okT [o : OkE ea n] : OkE (eT ea) (n + 1) := ⟨fun xs => by simp [PyData.canLay0, okl_lay o.lay xs], fun xs => by have := okl_dep o.dep xs; simp [PyData.depth]; omega, fun xs ys => by rw [PyData.eqv]; exact okl_eqv o.eqv xs ys⟩
instance okP1 [o : OkE ea n] : OkE (eP1 ea) (n + 1) := ⟨fun x => by simp [PyData.canLay0, PyData.canLayAll0, o.lay], fun x => by have := o.dep x; simp [PyData.depth, PyData.depthAll]; omega, fun x y => by simp [PyData.eqv, PyData.eqvAll, o.eqv]⟩
instance okP2 [o : OkE ea n] [o2 : OkE eb m] : OkE (eP2 ea eb) (n + m + 1) := ⟨fun x => by simp [PyData.canLay0, PyData.canLayAll0, o.lay, o2.lay], fun x => by have := o.dep x.1; have := o2.dep x.2; simp [PyData.depth, PyData.depthAll]; omega, fun x y => by obtain ⟨a, b⟩ := x; obtain ⟨c, d⟩ := y; simp [PyData.eqv, PyData.eqvAll, o.eqv, o2.eqv]⟩
instance okP3 [o : OkE ea n] [o2 : OkE eb m] [o3 : OkE ec k] : OkE (eP3 ea eb ec) (n + m + k + 1) := ⟨fun x => by simp [PyData.canLay0, PyData.canLayAll0, o.lay, o2.lay, o3.lay], fun x => by have := o.dep x.1; have := o2.dep x.2.1; have := o3.dep x.2.2; simp [PyData.depth, PyData.depthAll]; omega, fun x y => by obtain ⟨a, b, c⟩ := x; obtain ⟨a', b', c'⟩ := y; simp [PyData.eqv, PyData.eqvAll, o.eqv, o2.eqv, o3.eqv]⟩
instance okP4 [o : OkE ea n] [o2 : OkE eb m] [o3 : OkE ec k] [o4 : OkE ed l] : OkE (eP4 ea eb ec ed) (n + m + k + l + 1) := ⟨fun x => by simp [PyData.canLay0, PyData.canLayAll0, o.lay, o2.lay, o3.lay, o4.lay], fun x => by have := o.dep x.1; have := o2.dep x.2.1; have := o3.dep x.2.2.1; have := o4.dep x.2.2.2; simp [PyData.depth, PyData.depthAll]; omega, fun x y => by obtain ⟨a, b, c, d⟩ := x; obtain ⟨a', b', c', d'⟩ := y; simp [PyData.eqv, PyData.eqvAll, o.eqv, o2.eqv, o3.eqv, o4.eqv]⟩
instance okP5 [o : OkE ea n] [o2 : OkE eb m] [o3 : OkE ec k] [o4 : OkE ed l] [o5 : OkE ee j] : OkE (eP5 ea eb ec ed ee) (n + m + k + l + j + 1) := ⟨fun x => by simp [PyData.canLay0, PyData.canLayAll0, o.lay, o2.lay, o3.lay, o4.lay, o5.lay], fun x => by have := o.dep x.1; have := o2.dep x.2.1; have := o3.dep x.2.2.1; have := o4.dep x.2.2.2.1; have := o5.dep x.2.2.2.2; simp [PyData.depth, PyData.depthAll]; omega, fun x y => by obtain ⟨a, b, c, d, e⟩ := x; obtain ⟨a', b', c', d', e'⟩ := y; simp [PyData.eqv, PyData.eqvAll, o.eqv, o2.eqv, o3.eqv, o4.eqv, o5.eqv]⟩
theorem OkE.shp [o : OkE ea n] (h : n ≤ 64) (x : α) : shp (ea x) = true := by
  show ((ea x).canLay0 && decide ((ea x).depth ≤ 64)) = true
  rw [o.lay x, decide_eq_true (Nat.le_trans (o.dep x) h)]; rfl
theorem op_eq [DecidableEq α] [o : OkE ea n] (h : n ≤ 64) (x y : α) : fEq (ea x) (ea y) = some (decide (x = y)) := by
  have e : PyData.eqv (ea x) (ea y) = decide (x = y) := by
    have := o.eqv x y
    by_cases q : x = y
    · rw [decide_eq_true q]; exact this.mpr q
    · rw [decide_eq_false q]; exact Bool.eq_false_iff.mpr fun z => q (this.mp z)
  have s1 := OkE.shp (ea := ea) h x; have s2 := OkE.shp (ea := ea) h y
  unfold fEq
  split
  · rename_i a b h1 h2; rw [h1, h2] at e; rw [← e]; simp only [PyData.eqv]; refine congrArg some ?_; rw [Bool.eq_iff_iff]; simp
  · rename_i a b h1 h2; rw [h1, h2] at e; rw [← e]; simp only [PyData.eqv]; refine congrArg some ?_; rw [Bool.eq_iff_iff]; simp
  · rw [s1, s2, e]; rfl
theorem op_eqS (x y : Str) : fEq (eS x) (eS y) = some (decide (x = y)) := rfl
theorem op_neS (x y : Str) : fNe (eS x) (eS y) = some (!decide (x = y)) := rfl
theorem op_ne [DecidableEq α] [o : OkE ea n] (h : n ≤ 64) (x y : α) : fNe (ea x) (ea y) = some (!decide (x = y)) := by unfold fNe; rw [op_eq (ea := ea) h]; rfl
theorem any_eqv [DecidableEq α] [o : OkE ea n] (xs : List α) (x : α) : ((xs.map ea).any fun z => PyData.eqv z (ea x)) = decide (x ∈ xs) := by
  rw [Bool.eq_iff_iff, List.any_eq_true, decide_eq_true_eq]
  constructor
  · rintro ⟨z, hz, h⟩
    obtain ⟨y, hy, rfl⟩ := List.mem_map.mp hz
    rw [← (o.eqv y x).mp h]; exact hy
  · intro h; exact ⟨ea x, List.mem_map.mpr ⟨x, h, rfl⟩, (o.eqv x x).mpr rfl⟩
/-- membership, one way of deciding it -/
def memB {α : Type} [DecidableEq α] (x : α) (l : List α) : Bool := decide (x ∈ l)
theorem memB_iff [DecidableEq α] {x : α} {l : List α} : memB x l = true ↔ x ∈ l := by unfold memB; exact decide_eq_true_iff
theorem memB_f [DecidableEq α] {x : α} {l : List α} : memB x l = false ↔ x ∉ l := by unfold memB; exact decide_eq_false_iff_not
theorem op_in [DecidableEq α] [o : OkE ea n] (h : n < 64) (x : α) (xs : List α) : fIn (ea x) (eL ea xs) = some (memB x xs) := by
  show (if (SeqAt.shaped (ea x) && SeqAt.shaped (eL ea xs)) = true then some ((xs.map ea).any fun z => PyData.eqv z (ea x)) else none) = _
  rw [show SeqAt.shaped (ea x) = true from OkE.shp (ea := ea) (by omega) x, show SeqAt.shaped (eL ea xs) = true from OkE.shp (ea := eL ea) (by omega) xs, any_eqv]; rfl
theorem op_inT [DecidableEq α] [o : OkE ea n] (h : n < 64) (x : α) (xs : List α) : fIn (ea x) (eT ea xs) = some (memB x xs) := by
  show (if (SeqAt.shaped (ea x) && SeqAt.shaped (eL ea xs)) = true then some ((xs.map ea).any fun z => PyData.eqv z (ea x)) else none) = _
  rw [show SeqAt.shaped (ea x) = true from OkE.shp (ea := ea) (by omega) x, show SeqAt.shaped (eL ea xs) = true from OkE.shp (ea := eL ea) (by omega) xs, any_eqv]; rfl
theorem op_ni [DecidableEq α] [o : OkE ea n] (h : n < 64) (x : α) (xs : List α) : fNotIn (ea x) (eL ea xs) = some (!memB x xs) := by unfold fNotIn; rw [op_in (ea := ea) h]; rfl
theorem op_niT [DecidableEq α] [o : OkE ea n] (h : n < 64) (x : α) (xs : List α) : fNotIn (ea x) (eT ea xs) = some (!memB x xs) := by unfold fNotIn; rw [op_inT (ea := ea) h]; rfl
end
end SL

set_option Elab.async false
set_option linter.all false
set_option maxRecDepth 100000
set_option maxHeartbeats 4000000
/-! TX2: the rules by which gen2.py goes from meanings to typed programs. -/
namespace SL
open PySem PySem.Spec PyProof.Rows L2
section
variable {I : PyData → Prop} {α β γ δ ε : Type} {ea : α → PyData} {eb : β → PyData} {enc : β → δ} {E : PyData → En} {a b c : M PyData} {w : Wp β}
theorem rg_var {i : Nat} {x : α} (h : ∀ p, (E p).at i = .val (ea x)) : RG I ea (dVar i) E (wret x) := fun p Q hp hw => ⟨x, p, by unfold dVar; rw [h], hp, hw⟩
theorem rg_own {i : Nat} {x : α} (h : ∀ p, (E p).obj i = some (ea x)) : RG I ea (dOwn i) E (wret x) := fun p Q hp hw => ⟨x, p, by unfold dOwn; rw [h], hp, hw⟩
theorem rg_c {x : α} : RG I ea (dC (ea x)) E (wret x) := fun p Q hp hw => ⟨x, p, rfl, hp, hw⟩
/- structure: each is the same run, said in binds -/
/-- the same value, said otherwise -/
theorem rg_bi {d : M PyData} {K : PyData → M δ} {ea : β → PyData} {w : Wp β} (h : RG I ea d E w) (h2 : ∀ x, RG I enc (K (ea x)) E (wret x)) : RG I enc (bnd d K) E w := rg_bp (k := wret) h h2
theorem rg_bb {d : M Bool} {K : Bool → M δ} {w : Wp Bool} {eb : Bool → δ} (h : RG I id d E w) (h2 : ∀ x, RG I eb (K x) E (wret x)) : RG I eb (bnd d K) E w := rg_bp (k := wret) h h2
theorem rg_acons {d : M PyData} {ds : M (List PyData)} {K : List PyData → M δ} (h : RG I enc (bnd d fun x => bnd ds fun xs => K (x :: xs)) E w) : RG I enc (bnd (aCons d ds) K) E w := by
  have : bnd (aCons d ds) K = bnd d fun x => bnd ds fun xs => K (x :: xs) := by
    funext e; simp only [aCons, bnd, ret]
    cases d e with
    | none => rfl
    | some p => obtain ⟨p, q⟩ := p; show ((ds q).bind _).bind _ = _; rw [Option.bind_assoc]; rfl
  rw [this]; exact h
theorem rg_anil {K : List PyData → M δ} (h : RG I enc (K []) E w) : RG I enc (bnd aNil K) E w := h
theorem rg_cv {d : M PyData} {ds : M (List Ag)} {K : List Ag → M δ} (h : RG I enc (bnd d fun x => bnd ds fun xs => K (.v x :: xs)) E w) : RG I enc (bnd (cV d ds) K) E w := by
  have : bnd (cV d ds) K = bnd d fun x => bnd ds fun xs => K (.v x :: xs) := by
    funext e; simp only [cV, bnd, ret]
    cases d e with
    | none => rfl
    | some p => obtain ⟨p, q⟩ := p; show ((ds q).bind _).bind _ = _; rw [Option.bind_assoc]; rfl
  rw [this]; exact h
theorem rg_cnil {K : List Ag → M δ} (h : RG I enc (K []) E w) : RG I enc (bnd cNil K) E w := h
theorem rg_cp {i : Nat} {ds : M (List Ag)} {K : List Ag → M δ} (h0 : ∀ p, ((E p).obj i).isSome = true) (h : RG I enc (bnd ds fun xs => K (.p i :: xs)) E w) : RG I enc (bnd (cP i ds) K) E w := fun p Q hp hw => by
  obtain ⟨x, p', q, r⟩ := h p Q hp hw
  refine ⟨x, p', ?_, r⟩
  have : bnd (cP i ds) K (E p) = bnd ds (fun xs => K (.p i :: xs)) (E p) := by
    simp only [cP, bnd, ret]; rw [if_pos (h0 p)]
    show ((ds (E p)).bind _).bind _ = _; rw [Option.bind_assoc]; rfl
  rw [this]; exact q
def callK (F : FS) : List Ag → M PyData := fun args => fun env => if ndB (pls args) = true then (F (mkA env args)).map fun p => (p.1, putB env args p.2) else none
theorem dCall_eq (F : FS) (da : M (List Ag)) : dCall F da = bnd da (callK F) := rfl
/-- a def that draws nothing and changes nothing -/
def CA (F : FS) (as : List PyData) (ea : α → PyData) (w : Wp α) : Prop := ∀ Q, w Q → ∃ r, F (as.map .val) = some (ea r, as.map .val) ∧ Q r
/-- a def with the pool ahead -/
def CP (F : FS) (as : List PyData) (ea : α → PyData) (w : Wp α) : Prop := ∀ p Q, Pok p → w Q → ∃ r p', F (.lent p :: as.map .val) = some (ea r, .lent p' :: as.map .val) ∧ Pok p' ∧ Q r
theorem rg_c0 {F : FS} {as : List PyData} {ags : List Ag} {w : Wp α} (h : CA F as ea w) (e : ags = as.map .v) : RG I ea (callK F ags) E w := fun p Q hp hw => by
  obtain ⟨r, q, hq⟩ := h Q hw
  subst e
  refine ⟨r, p, ?_, hp, hq⟩
  unfold callK
  rw [pls_vals, if_pos (show ndB [] = true from rfl), mkA_vals, q]
  show some (ea r, putB _ _ _) = _
  rw [putB_vals]
theorem rg_c1 {F : FS} {as : List PyData} {ags : List Ag} {i : Nat} {w : Wp α} (h : CP F as ea w) (e : ags = .p i :: as.map .v) (ho : ∀ p, (E p).obj i = some p) (hm : ∀ p p', (E p).mut i p' = E p') : RG Pok ea (callK F ags) E w := fun p Q hp hw => by
  obtain ⟨r, p', q, hp', hq⟩ := h p Q hp hw
  subst e
  refine ⟨r, p', ?_, hp', hq⟩
  unfold callK
  show (if (!(pls (as.map .v)).contains i && ndB (pls (as.map .v))) = true then _ else _) = _
  rw [pls_vals, if_pos (show (!([] : List Nat).contains i && ndB []) = true from rfl)]
  show (F ((match (E p).obj i with | some d => .lent d | none => .no) :: mkA (E p) (as.map .v))).map _ = _
  rw [ho, mkA_vals]
  show (F (.lent p :: as.map .val)).map _ = _
  rw [q]
  show some (ea r, putB ((E p).mut i p') (as.map .v) (as.map .val)) = _
  rw [putB_vals, hm]
theorem c1_draw {m : Int} : CP F_l_draw [.int m] eI (wdraw m) := fun p Q hp ⟨h, hq⟩ => by
  obtain ⟨r, p', q, a, b, hp'⟩ := draw_ok hp h.1 h.2
  exact ⟨r, p', q, hp', hq r a b⟩
theorem c0_same {x y : PyData} : CA F_l_same [x, y] eB (wg (y.depth ≤ 40 ∧ noDict y = true) (same x y)) := fun Q ⟨h, hq⟩ => ⟨same x y, by
  show (if y.depth ≤ 40 ∧ noDict y = true then some (PyData.bool (same x y), _) else none) = _
  rw [if_pos h], hq⟩
/-! comprehensions -/
def compK (vs : List Nat) (g : PyData → En → Option En) (c : M Bool) (el : M PyData) : List PyData → M PyData := fun items => fun e0 => if okW e0 vs = true then (compGo vs g c el items e0).map fun r => (.list r.1, restore r.2 e0 vs) else none
theorem dComp_eq {vs di g c el} : dComp vs di g c el = bnd di (compK vs g c el) := rfl
theorem rg_comp {vs : List Nat} {g} {cc : M Bool} {el : M PyData} {l : List α} {wc : α → Wp Bool} {we : α → Wp β} (S : α → PyData → En) (ok : ∀ p, okW (E p) vs = true) (hr : ∀ p p', vs.map (E p).at = vs.map (E p').at) (hl : ∀ p p', (E p).length = (E p').length)
    (hg : ∀ x p, g (ea x) (wipeE (E p) vs) = some (S x p)) (hs : ∀ x p, okW (S x p) vs = true) (hw : ∀ x p, wipeE (S x p) vs = wipeE (E p) vs)
    (hc : ∀ x, RG I id cc (S x) (wc x)) (he : ∀ x, RG I eb el (S x) (we x)) : RG I (eL eb) (compK vs g cc el (l.map ea)) E (wfm wc we l) := by
  have main : ∀ (l : List α) (e : En) (p : PyData) (Q : List β → Prop), wipeE e vs = wipeE (E p) vs → I p → wfm wc we l Q → ∃ r e' p', compGo vs g cc el (l.map ea) e = some (r.map eb, e') ∧ wipeE e' vs = wipeE (E p') vs ∧ I p' ∧ Q r := by
    intro l
    induction l with
    | nil => intro e p Q h1 hp hq; exact ⟨[], e, p, rfl, h1, hp, hq⟩
    | cons x xs ih =>
      intro e p Q h1 hp hq
      unfold wfm at hq
      obtain ⟨t, p1, q1, hp1, hq1⟩ := hc x p _ hp hq
      simp only [List.map_cons, compGo]
      rw [h1, hg]
      show ∃ r e' p', (cc (S x p)).bind _ = _ ∧ _
      rw [q1]
      show ∃ r e' p', (if t = true then _ else _) = _ ∧ _
      cases t with
      | true =>
        rw [if_pos rfl] at hq1
        obtain ⟨y, p2, q2, hp2, hq2⟩ := he x p1 _ hp1 hq1
        obtain ⟨r, e', p3, q3, h3, hp3, hq3⟩ := ih (S x p2) p2 _ (hw x p2) hp2 hq2
        refine ⟨y :: r, e', p3, ?_, h3, hp3, hq3⟩
        rw [if_pos rfl, show (id true, S x p1).2 = S x p1 from rfl, q2]
        show (if okW (S x p2) vs = true then _ else _) = _
        rw [if_pos (hs x p2), q3]; rfl
      | false =>
        rw [if_neg (by simp)] at hq1
        obtain ⟨r, e', p3, q3, h3, hp3, hq3⟩ := ih (S x p1) p1 _ (hw x p1) hp1 hq1
        refine ⟨r, e', p3, ?_, h3, hp3, hq3⟩
        rw [if_neg (by simp)]
        show (if okW (S x p1) vs = true then _ else _) = _
        rw [if_pos (hs x p1), q3]
  intro p Q hp hq
  obtain ⟨r, e', p', q, h1, hp', hq'⟩ := main l (E p) p Q rfl hp hq
  refine ⟨r, p', ?_, hp', hq'⟩
  unfold compK
  rw [if_pos (ok p), q]
  show some (PyData.list _, restore e' (E p) vs) = some (PyData.list _, E p')
  have : restore e' (E p) vs = E p' := by
    have : restore e' (E p) vs = restore e' (E p') vs := by
      have gen : ∀ ws : List Nat, ws.map (E p).at = ws.map (E p').at → restore e' (E p) ws = restore e' (E p') ws := by
        intro ws
        induction ws with
        | nil => intro _; rfl
        | cons v ws ih => intro h; simp only [List.map_cons, List.cons.injEq] at h; unfold restore; rw [h.1, ih h.2]
      exact gen vs (hr p p')
    rw [this]; exact restore_wipe h1
  rw [this]
theorem rg_compT {vs : List Nat} {g} {cc : M Bool} {el : M PyData} {l : List α} {wc : α → Bool} {we : α → β} (S : α → PyData → En) (ok : ∀ p, okW (E p) vs = true) (hr : ∀ p p', vs.map (E p).at = vs.map (E p').at) (hl : ∀ p p', (E p).length = (E p').length)
    (hg : ∀ x p, g (ea x) (wipeE (E p) vs) = some (S x p)) (hs : ∀ x p, okW (S x p) vs = true) (hw : ∀ x p, wipeE (S x p) vs = wipeE (E p) vs)
    (hc : ∀ x, RG I id cc (S x) (wret (wc x))) (he : ∀ x, RG I eb el (S x) (wret (we x))) : RG I (eL eb) (compK vs g cc el (l.map ea)) E (wret ((l.filter wc).map we)) := by
  have := rg_comp (l := l) S ok hr hl hg hs hw hc he
  rwa [wfm_t] at this
theorem rg_comp1 {vs : List Nat} {g} {el : M PyData} {l : List α} {we : α → Wp β} (S : α → PyData → En) (ok : ∀ p, okW (E p) vs = true) (hr : ∀ p p', vs.map (E p).at = vs.map (E p').at) (hl : ∀ p p', (E p).length = (E p').length)
    (hg : ∀ x p, g (ea x) (wipeE (E p) vs) = some (S x p)) (hs : ∀ x p, okW (S x p) vs = true) (hw : ∀ x p, wipeE (S x p) vs = wipeE (E p) vs)
    (he : ∀ x, RG I eb el (S x) (we x)) : RG I (eL eb) (compK vs g tT el (l.map ea)) E (wmap we l) := by
  have := rg_comp (l := l) (cc := tT) (wc := fun _ => wret true) S ok hr hl hg hs hw (fun x p Q hp hw => ⟨true, p, rfl, hp, hw⟩) he
  have e : ∀ l : List α, wfm (fun _ => wret true) we l = wmap we l := by
    intro l
    induction l with
    | nil => rfl
    | cons x xs ih => unfold wfm wmap; rw [wret_bind, if_pos rfl, ih]
  rwa [e] at this
theorem rg_compM {vs : List Nat} {g} {el : M PyData} {l : List α} {we : α → β} (S : α → PyData → En) (ok : ∀ p, okW (E p) vs = true) (hr : ∀ p p', vs.map (E p).at = vs.map (E p').at) (hl : ∀ p p', (E p).length = (E p').length)
    (hg : ∀ x p, g (ea x) (wipeE (E p) vs) = some (S x p)) (hs : ∀ x p, okW (S x p) vs = true) (hw : ∀ x p, wipeE (S x p) vs = wipeE (E p) vs)
    (he : ∀ x, RG I eb el (S x) (wret (we x))) : RG I (eL eb) (compK vs g tT el (l.map ea)) E (wret (l.map we)) := by
  have := rg_comp1 (l := l) S ok hr hl hg hs hw he
  rwa [wmap_t] at this
theorem okw_nil {e : En} : okW e [] = true := rfl
theorem okw_c {e : En} {i : Nat} {is : List Nat} (h : VN (e.at i)) (h2 : okW e is = true) : okW e (i :: is) = true := by
  unfold okW at h2 ⊢
  rw [List.all_cons, h2, Bool.and_true]
  revert h; cases e.at i <;> intro h <;> first | rfl | exact h.elim
end
/-! ## statements -/
def RS {β : Type} (I : PyData → Prop) (d : M Fl) (E : PyData → En) (w : Wp β) (post : β → Fl → En → Prop) : Prop := ∀ p (Q : β → Prop), I p → w Q → ∃ fl x e', d (E p) = some (fl, e') ∧ Q x ∧ post x fl e'
section
variable {I : PyData → Prop} {α β γ : Type} {ea : α → PyData} {E : PyData → En} {D d1' d2' : M Fl} {post : β → Fl → En → Prop} {w : Wp β} {d : M PyData}
theorem seq_of {d1 d2 : M Fl} {e e1 : En} (h : d1 e = some (.nx, e1)) : sSeq d1 d2 e = d2 e1 := by unfold sSeq bnd; rw [h]; rfl
theorem seq_stop {d1 d2 : M Fl} {e e1 : En} {fl : Fl} (h : d1 e = some (fl, e1)) (n : fl ≠ .nx) : sSeq d1 d2 e = some (fl, e1) := by
  unfold sSeq bnd; rw [h]
  cases fl <;> first | exact absurd rfl n | rfl
theorem rs_set {i : Nat} {wa : Wp α} {k : α → Wp β} (h : RG I ea d E wa) (n : ∀ p, NL ((E p).at i)) (h2 : ∀ x, RS I D (fun p => (E p).set i (.val (ea x))) (k x) post) : RS I (sSeq (sSet i d) D) E (wbind wa k) post := fun p Q hp hw => by
  obtain ⟨x, p1, q1, hp1, hq⟩ := h p _ hp hw
  obtain ⟨fl, y, e', q2, hq2, hpo⟩ := h2 x p1 Q hp1 hq
  refine ⟨fl, y, e', ?_, hq2, hpo⟩
  rw [seq_of (e1 := (E p1).set i (.val (ea x)))]
  · exact q2
  · unfold sSet sAsg bnd; rw [q1]
    show (En.put (E p1) i (.val (ea x))).map _ = _
    rw [put_nl (n p1)]; rfl
theorem rs_setT {i : Nat} {t : α} {k : α → Wp β} (h : RG I ea d E (wret t)) (n : ∀ p, NL ((E p).at i)) (h2 : ∀ x, RS I D (fun p => (E p).set i (.val (ea x))) (k x) post) : RS I (sSeq (sSet i d) D) E (lt' t k) post := rs_set (k := k) h n h2
theorem rs_own {i : Nat} {wa : Wp α} {k : α → Wp β} (h : RG I ea d E wa) (n : ∀ p, NL ((E p).at i)) (h2 : ∀ x, RS I D (fun p => (E p).set i (.own (ea x))) (k x) post) : RS I (sSeq (sOwn i d) D) E (wbind wa k) post := fun p Q hp hw => by
  obtain ⟨x, p1, q1, hp1, hq⟩ := h p _ hp hw
  obtain ⟨fl, y, e', q2, hq2, hpo⟩ := h2 x p1 Q hp1 hq
  refine ⟨fl, y, e', ?_, hq2, hpo⟩
  rw [seq_of (e1 := (E p1).set i (.own (ea x)))]
  · exact q2
  · unfold sOwn bnd; rw [q1]
    show (En.put (E p1) i (.own (ea x))).map _ = _
    rw [put_nl (n p1)]; rfl
theorem rs_ownT {i : Nat} {t : α} {k : α → Wp β} (h : RG I ea d E (wret t)) (n : ∀ p, NL ((E p).at i)) (h2 : ∀ x, RS I D (fun p => (E p).set i (.own (ea x))) (k x) post) : RS I (sSeq (sOwn i d) D) E (lt' t k) post := rs_own (k := k) h n h2
/-- an assignment to several names -/
theorem rs_asg {g} {wa : Wp α} {k : α → Wp β} (S : α → PyData → En) (h : RG I ea d E wa) (n : ∀ x p, g (ea x) (E p) = some (S x p)) (h2 : ∀ x, RS I D (S x) (k x) post) : RS I (sSeq (sAsg d g) D) E (wbind wa k) post := fun p Q hp hw => by
  obtain ⟨x, p1, q1, hp1, hq⟩ := h p _ hp hw
  obtain ⟨fl, y, e', q2, hq2, hpo⟩ := h2 x p1 Q hp1 hq
  refine ⟨fl, y, e', ?_, hq2, hpo⟩
  rw [seq_of (e1 := S x p1)]
  · exact q2
  · unfold sAsg bnd; rw [q1]
    show (g (ea x) (E p1)).map _ = _
    rw [n]; rfl
theorem rs_asgT {g} {t : α} {k : α → Wp β} (S : α → PyData → En) (h : RG I ea d E (wret t)) (n : ∀ x p, g (ea x) (E p) = some (S x p)) (h2 : ∀ x, RS I D (S x) (k x) post) : RS I (sSeq (sAsg d g) D) E (lt' t k) post := rs_asg (k := k) S h n h2
theorem gn_nl {i : Nat} {x : PyData} {e : En} (h : NL (e.at i)) : gN i x e = some (e.set i (.val x)) := put_nl h
theorem gt_of {n : Nat} {gs} {xs : List PyData} {e e' : En} (h : xs.length = n) (h2 : gs xs e = some e') : gT n gs (.tuple xs) e = some e' := by
  show (if xs.length = n then _ else none) = _
  rw [if_pos h]; exact h2
theorem gs_cons {g gs x xs} {e e1 e2 : En} (h : g x e = some e1) (h2 : gs xs e1 = some e2) : gsCons g gs (x :: xs) e = some e2 := by
  show (g x e).bind (gs xs) = _
  rw [h]; exact h2
theorem gs_nil {e : En} : gsNil [] e = some e := rfl
theorem rs_app {i : Nat} {wa : Wp α} {l : List α} {k : List α → Wp β} (h : RG I ea d E wa) (ho : ∀ p, (E p).obj i = some (eL ea l)) (h2 : ∀ l, RS I D (fun p => (E p).mut i (eL ea l)) (k l) post) :
    RS I (sSeq (sApp i d) D) E (wbind wa fun x => wbind (wg (l.length < 16777216) (l ++ [x])) k) post := fun p Q hp hw => by
  obtain ⟨x, p1, q1, hp1, hc, hq⟩ := h p _ hp hw
  obtain ⟨fl, y, e', q2, hq2, hpo⟩ := h2 _ p1 Q hp1 hq
  refine ⟨fl, y, e', ?_, hq2, hpo⟩
  rw [seq_of (e1 := (E p1).mut i (eL ea (l ++ [x])))]
  · exact q2
  · unfold sApp; rw [ho, if_pos (show isL (some (eL ea l)) = true from rfl)]
    unfold bnd; rw [q1]
    show (match (E p1).obj i with | some (.list ds) => if ds.length < 16777216 then some (Fl.nx, (E p1).mut i (.list (ds ++ [ea x]))) else none | _ => none) = _
    rw [ho]
    show (if (l.map ea).length < 16777216 then some (Fl.nx, (E p1).mut i (.list (l.map ea ++ [ea x]))) else none) = _
    rw [List.length_map, if_pos hc]
    show _ = some (Fl.nx, (E p1).mut i (.list ((l ++ [x]).map ea)))
    rw [List.map_append]; rfl
theorem rs_appT {i : Nat} {x : α} {l : List α} {k : List α → Wp β} (h : RG I ea d E (wret x)) (ho : ∀ p, (E p).obj i = some (eL ea l)) (h2 : ∀ l, RS I D (fun p => (E p).mut i (eL ea l)) (k l) post) :
    RS I (sSeq (sApp i d) D) E (wbind (wg (l.length < 16777216) (l ++ [x])) k) post := rs_app h ho h2
theorem rs_ext {i : Nat} {wa : Wp (List α)} {l : List α} {k : List α → Wp β} (h : RG I (eL ea) d E wa) (ho : ∀ p, (E p).obj i = some (eL ea l)) (h2 : ∀ l, RS I D (fun p => (E p).mut i (eL ea l)) (k l) post) :
    RS I (sSeq (sExt i d) D) E (wbind wa fun x => wbind (wg (l.length + x.length ≤ 16777216) (l ++ x)) k) post := fun p Q hp hw => by
  obtain ⟨x, p1, q1, hp1, hc, hq⟩ := h p _ hp hw
  obtain ⟨fl, y, e', q2, hq2, hpo⟩ := h2 _ p1 Q hp1 hq
  refine ⟨fl, y, e', ?_, hq2, hpo⟩
  rw [seq_of (e1 := (E p1).mut i (eL ea (l ++ x)))]
  · exact q2
  · unfold sExt; rw [ho, if_pos (show isL (some (eL ea l)) = true from rfl)]
    unfold bnd; rw [q1]
    show (match eL ea x, (E p1).obj i with | .list zs, some (.list ds) => if ds.length + zs.length ≤ 16777216 then some (Fl.nx, (E p1).mut i (.list (ds ++ zs))) else none | _, _ => none) = _
    rw [ho]
    show (if (l.map ea).length + (x.map ea).length ≤ 16777216 then some (Fl.nx, (E p1).mut i (.list (l.map ea ++ x.map ea))) else none) = _
    rw [List.length_map, List.length_map, if_pos hc]
    show _ = some (Fl.nx, (E p1).mut i (.list ((l ++ x).map ea)))
    rw [List.map_append]
theorem rs_extT {i : Nat} {x : List α} {l : List α} {k : List α → Wp β} (h : RG I (eL ea) d E (wret x)) (ho : ∀ p, (E p).obj i = some (eL ea l)) (h2 : ∀ l, RS I D (fun p => (E p).mut i (eL ea l)) (k l) post) :
    RS I (sSeq (sExt i d) D) E (wbind (wg (l.length + x.length ≤ 16777216) (l ++ x)) k) post := rs_ext h ho h2
/-- xs[k] = v: the value first -/
def setL {α} (l : List α) (i : Int) (v : α) : Option (List α) := (ixN l.length i).map fun j => l.set j v
theorem rs_put {i : Nat} {dk : M PyData} {v : α} {kx : Int} {l : List α} {k : List α → Wp β} (h : RG I ea d E (wret v)) (hk : RG I eI dk E (wret kx)) (ho : ∀ p, (E p).obj i = some (eL ea l)) (h2 : ∀ l, RS I D (fun p => (E p).mut i (eL ea l)) (k l) post) :
    RS I (sSeq (sPut i dk d) D) E (wbind (wo (setL l kx v)) k) post := fun p Q hp ⟨l', hl', hq⟩ => by
  obtain ⟨x, p1, q1, hp1, ex⟩ := h p (fun y => y = v) hp rfl
  subst ex
  obtain ⟨kk, p2, q2, hp2, ek⟩ := hk p1 (fun y => y = kx) hp1 rfl
  subst ek
  obtain ⟨j, hj, rfl⟩ := Option.map_eq_some_iff.mp hl'
  obtain ⟨fl, y, e', q3, hq3, hpo⟩ := h2 _ p2 Q hp2 hq
  refine ⟨fl, y, e', ?_, hq3, hpo⟩
  rw [seq_of (e1 := (E p2).mut i (eL ea (l.set j x)))]
  · exact q3
  · unfold sPut bnd; rw [q1]
    show (if isL ((E p1).obj i) = true then _ else none) = _
    rw [ho, if_pos (show isL (some (eL ea l)) = true from rfl)]
    show ((dk (E p1)).bind _) = _
    rw [q2]
    show (match (E p2).obj i with | some (.list ds) => ((intOf (.int kk)).bind (ixN ds.length)).map fun j => (Fl.nx, (E p2).mut i (.list (ds.set j (ea x)))) | _ => none) = _
    rw [ho]
    show ((some kk).bind (ixN (l.map ea).length)).map (fun j => (Fl.nx, (E p2).mut i (.list ((l.map ea).set j (ea x))))) = _
    rw [Option.bind_some, List.length_map, hj]
    show some (Fl.nx, (E p2).mut i (.list ((l.map ea).set j (ea x)))) = some (Fl.nx, (E p2).mut i (.list ((l.set j x).map ea)))
    rw [List.map_set]
theorem rs_putP {i : Nat} {dk : M PyData} {wv : Wp α} {kx : Int} {l : List α} {k : List α → Wp β} (h : RG I ea d E wv) (hk : RG I eI dk E (wret kx)) (ho : ∀ p, (E p).obj i = some (eL ea l)) (h2 : ∀ l, RS I D (fun p => (E p).mut i (eL ea l)) (k l) post) :
    RS I (sSeq (sPut i dk d) D) E (wbind wv fun v => wbind (wo (setL l kx v)) k) post := fun p Q hp hw => by
  obtain ⟨x, p1, q1, hp1, l', hl', hq⟩ := h p _ hp hw
  obtain ⟨kk, p2, q2, hp2, ek⟩ := hk p1 (fun y => y = kx) hp1 rfl
  subst ek
  obtain ⟨j, hj, rfl⟩ := Option.map_eq_some_iff.mp hl'
  obtain ⟨fl, y, e', q3, hq3, hpo⟩ := h2 _ p2 Q hp2 hq
  refine ⟨fl, y, e', ?_, hq3, hpo⟩
  rw [seq_of (e1 := (E p2).mut i (eL ea (l.set j x)))]
  · exact q3
  · unfold sPut bnd; rw [q1]
    show (if isL ((E p1).obj i) = true then _ else none) = _
    rw [ho, if_pos (show isL (some (eL ea l)) = true from rfl)]
    show ((dk (E p1)).bind _) = _
    rw [q2]
    show (match (E p2).obj i with | some (.list ds) => ((intOf (.int kk)).bind (ixN ds.length)).map fun j => (Fl.nx, (E p2).mut i (.list (ds.set j (ea x)))) | _ => none) = _
    rw [ho]
    show ((some kk).bind (ixN (l.map ea).length)).map (fun j => (Fl.nx, (E p2).mut i (.list ((l.map ea).set j (ea x))))) = _
    rw [Option.bind_some, List.length_map, hj]
    show some (Fl.nx, (E p2).mut i (.list ((l.map ea).set j (ea x)))) = some (Fl.nx, (E p2).mut i (.list ((l.set j x).map ea)))
    rw [List.map_set]
theorem rs_drop {wa : Wp α} {k : α → Wp β} (h : RG I ea d E wa) (h2 : ∀ x, RS I D E (k x) post) : RS I (sSeq (sDrop d) D) E (wbind wa k) post := fun p Q hp hw => by
  obtain ⟨x, p1, q1, hp1, hq⟩ := h p _ hp hw
  obtain ⟨fl, y, e', q2, hq2, hpo⟩ := h2 x p1 Q hp1 hq
  exact ⟨fl, y, e', by rw [seq_of (e1 := E p1)]; exact q2; unfold sDrop bnd; rw [q1]; rfl, hq2, hpo⟩
/-- returning -/
theorem rs_ret {wa : Wp α} {r : α → β} (h : RG I ea d E wa) (hpo : ∀ x p, I p → post (r x) (.rt (ea x)) (E p)) : RS I (sRt d) E (wbind wa fun x => wret (r x)) post := fun p Q hp hw => by
  obtain ⟨x, p1, q1, hp1, hq⟩ := h p _ hp hw
  exact ⟨.rt (ea x), r x, E p1, by unfold sRt bnd; rw [q1]; rfl, hq, hpo x p1 hp1⟩
theorem rs_retI {post : α → Fl → En → Prop} {wa : Wp α} (h : RG I ea d E wa) (hpo : ∀ x p, I p → post x (.rt (ea x)) (E p)) : RS I (sRt d) E wa post := rs_ret (r := id) h hpo
theorem rs_retT {t : α} {r : β} {ea : α → PyData} (h : RG I ea d E (wret t)) (hpo : ∀ p, I p → post r (.rt (ea t)) (E p)) : RS I (sRt d) E (wret r) post := fun p Q hp hw => by
  obtain ⟨x, p1, q1, hp1, ex⟩ := h p (fun y => y = t) hp rfl
  subst ex
  exact ⟨.rt (ea x), r, E p1, by unfold sRt bnd; rw [q1]; rfl, hw, hpo p1 hp1⟩
/-- an owned list is returned for good -/
theorem rs_retF {i : Nat} {t : α} {r : β} (h : ∀ p, (E p).at i = .own (ea t)) (hpo : ∀ p, I p → post r (.rt (ea t)) ((E p).set i (.val (ea t)))) : RS I (sRt (dFrz i)) E (wret r) post := fun p Q hp hw =>
  ⟨.rt (ea t), r, (E p).set i (.val (ea t)), by unfold sRt bnd dFrz; rw [h p]; rfl, hw, hpo p hp⟩
theorem rs_retN {r : β} (hpo : ∀ p, I p → post r (.rt .none) (E p)) : RS I sRtN E (wret r) post := fun p Q hp hw => ⟨.rt .none, r, E p, rfl, hw, hpo p hp⟩
theorem rs_bk {r : β} (hpo : ∀ p, I p → post r .bk (E p)) : RS I sBk E (wret r) post := fun p Q hp hw => ⟨.bk, r, E p, rfl, hw, hpo p hp⟩
theorem rs_ct {r : β} (hpo : ∀ p, I p → post r .ct (E p)) : RS I sCt E (wret r) post := fun p Q hp hw => ⟨.ct, r, E p, rfl, hw, hpo p hp⟩
theorem rs_nx {r : β} (hpo : ∀ p, I p → post r .nx (E p)) : RS I sNx E (wret r) post := fun p Q hp hw => ⟨.nx, r, E p, rfl, hw, hpo p hp⟩
theorem rs_skip (h : RS I D E w post) : RS I (sSeq sNx D) E w post := h
theorem rs_last (h : RS I (sSeq d1' sNx) E w post) : RS I d1' E w post := fun p Q hp hw => by
  obtain ⟨fl, x, e', q, r⟩ := h p Q hp hw
  refine ⟨fl, x, e', ?_, r⟩
  rw [← q]
  unfold sSeq bnd
  cases d1' (E p) with
  | none => rfl
  | some z => obtain ⟨fl, e⟩ := z; cases fl <;> rfl
theorem rs_assoc {d0 : M Fl} (h : RS I (sSeq d0 (sSeq d1' D)) E w post) : RS I (sSeq (sSeq d0 d1') D) E w post := fun p Q hp hw => by
  obtain ⟨fl, x, e', q, r⟩ := h p Q hp hw
  refine ⟨fl, x, e', ?_, r⟩
  rw [← q]
  unfold sSeq bnd
  cases d0 (E p) with
  | none => rfl
  | some z =>
    obtain ⟨fl, e⟩ := z
    cases fl with
    | nx => show ((d1' e).bind _) = ((d1' e).bind _); rfl
    | _ => rfl
/-- a block's last statement that stops -/
theorem rs_stRt {dd : M PyData} (h : RS I (sRt dd) E w post) : RS I (sSeq (sRt dd) D) E w post := fun p Q hp hw => by
  obtain ⟨fl, x, e', q, r⟩ := h p Q hp hw
  refine ⟨fl, x, e', ?_, r⟩
  rw [seq_stop q]
  intro z; subst z
  unfold sRt at q
  obtain ⟨a, b, _, c⟩ := bnd_inv q
  cases c
theorem rs_stRtN (h : RS I sRtN E w post) : RS I (sSeq sRtN D) E w post := h
theorem rs_stBk (h : RS I sBk E w post) : RS I (sSeq sBk D) E w post := h
theorem rs_stCt (h : RS I sCt E w post) : RS I (sSeq sCt D) E w post := h
/-- both branches go on with what follows -/
theorem rs_if {c : M Bool} {t : Bool} {w1 w2 : Wp β} (h : RG I id c E (wret t)) (h1 : RS I (sSeq d1' D) E w1 post) (h2 : RS I (sSeq d2' D) E w2 post) : RS I (sSeq (sIf c d1' d2') D) E (if t = true then w1 else w2) post := fun p Q hp hw => by
  obtain ⟨z, p1, q1, hp1, hq⟩ := h p (fun z => z = t) hp rfl
  subst hq
  have e : sSeq (sIf c d1' d2') D (E p) = sSeq (if z = true then d1' else d2') D (E p1) := by unfold sSeq sIf bnd; rw [q1]; rfl
  rw [e]
  cases z with
  | true => rw [if_pos rfl] at hw ⊢; exact h1 p1 Q hp1 hw
  | false => rw [if_neg (by simp)] at hw ⊢; exact h2 p1 Q hp1 hw
theorem rs_ifP {c : M Bool} {wc : Wp Bool} {w1 w2 : Wp β} (h : RG I id c E wc) (h1 : RS I (sSeq d1' D) E w1 post) (h2 : RS I (sSeq d2' D) E w2 post) : RS I (sSeq (sIf c d1' d2') D) E (wbind wc fun t => if t = true then w1 else w2) post := fun p Q hp hw => by
  obtain ⟨z, p1, q1, hp1, hq⟩ := h p _ hp hw
  have e : sSeq (sIf c d1' d2') D (E p) = sSeq (if z = true then d1' else d2') D (E p1) := by unfold sSeq sIf bnd; rw [q1]; rfl
  rw [e]
  cases z with
  | true => rw [if_pos rfl] at hq ⊢; exact h1 p1 Q hp1 hq
  | false => rw [if_neg (by simp)] at hq ⊢; exact h2 p1 Q hp1 hq
/-- both branches meet again -/
theorem rs_join {d0 : M Fl} {ws : Wp γ} {k : γ → Wp β} (mid : γ → Fl → En → Prop) (h : RS I d0 E ws mid) (h2 : ∀ s fl e, mid s fl e → fl = .nx ∧ ∃ E1 p, I p ∧ e = E1 p ∧ RS I D E1 (k s) post) : RS I (sSeq d0 D) E (wbind ws k) post := fun p Q hp hw => by
  obtain ⟨fl, s, e1, q1, hq, hm⟩ := h p _ hp hw
  obtain ⟨rfl, E1, p1, hp1, rfl, r⟩ := h2 s fl e1 hm
  obtain ⟨fl2, x, e2, q2, r2⟩ := r p1 Q hp1 hq
  exact ⟨fl2, x, e2, by rw [seq_of q1]; exact q2, r2⟩
theorem rs_for {σ : Type} {di : M (List PyData)} {g} {b : M Fl} {wl : Wp (List α)} {s0 : σ} {f : σ → α → Wp σ} {k : σ → Wp β} (Sh : σ → En → Prop) (h : RG I (List.map ea) di E wl) (h0 : ∀ p, I p → Sh s0 (E p))
    (hb : ∀ s x e, Sh s e → ∃ E1 p, I p ∧ g (ea x) e = some (E1 p) ∧ RS I b E1 (f s x) fun s' fl e' => (fl = .nx ∨ fl = .ct) ∧ Sh s' e')
    (h2 : ∀ s e, Sh s e → ∃ E1 p, I p ∧ e = E1 p ∧ RS I D E1 (k s) post) : RS I (sSeq (sFor di g b) D) E (wbind wl fun l => wbind (wfold f l s0) k) post := fun p Q hp hw => by
  obtain ⟨l, p1, q1, hp1, hq⟩ := h p _ hp hw
  have main : ∀ (l : List α) (s : σ) (e : En) (R : σ → Prop), Sh s e → wfold f l s R → ∃ s' e', forGo g b (l.map ea) e = some (.nx, e') ∧ Sh s' e' ∧ R s' := by
    intro l
    induction l with
    | nil => intro s e R hs hr; exact ⟨s, e, rfl, hs, hr⟩
    | cons x xs ih =>
      intro s e R hs hr
      obtain ⟨E1, p2, hp2, hg, rb⟩ := hb s x e hs
      obtain ⟨fl, s', e', q2, hr2, hfl, hs'⟩ := rb p2 _ hp2 hr
      obtain ⟨s'', e'', q3, hs'', hr3⟩ := ih s' e' R hs' hr2
      refine ⟨s'', e'', ?_, hs'', hr3⟩
      show (g (ea x) e).bind _ = _
      rw [hg]; show (b (E1 p2)).bind _ = _
      rw [q2]
      rcases hfl with rfl | rfl <;> exact q3
  obtain ⟨s', e', q2, hs', hr⟩ := main l s0 (E p1) _ (h0 p1 hp1) hq
  obtain ⟨E1, p2, hp2, rfl, r⟩ := h2 s' e' hs'
  obtain ⟨fl2, x, e2, q3, r2⟩ := r p2 Q hp2 hr
  refine ⟨fl2, x, e2, ?_, r2⟩
  rw [seq_of (e1 := E1 p2)]
  · exact q3
  · unfold sFor bnd; rw [q1]; exact q2
theorem forGo_cons {g} {b : M Fl} {x : PyData} {xs : List PyData} {e e1 : En} (h : g x e = some e1) : forGo g b (x :: xs) e = (b e1).bind fun p => match p.1 with
    | .nx => forGo g b xs p.2
    | .ct => forGo g b xs p.2
    | .bk => some (.nx, p.2)
    | r => some (r, p.2) := by
  show (g x e).bind _ = _
  rw [h]; rfl
theorem whGo_true {c : M Bool} {b : M Fl} {n : Nat} {e e1 : En} (h : c e = some (true, e1)) : whGo c b (n + 1) e = (b e1).bind fun p => match p.1 with
    | .nx => whGo c b n p.2
    | .ct => whGo c b n p.2
    | .bk => some (.nx, p.2)
    | r => some (r, p.2) := by
  show (c e).bind _ = _
  rw [h]; rfl
/-- a for that may stop or return -/
theorem rs_forX {σ ρ : Type} {di : M (List PyData)} {g} {b : M Fl} {wl : Wp (List α)} {s0 : σ} {f : σ → α → Wp (St σ ρ)} {k : σ → Wp β} {kr : ρ → Wp β} (Sh : σ → En → Prop) (Re : ρ → PyData → En → Prop) (h : RG I (List.map ea) di E wl) (h0 : ∀ p, I p → Sh s0 (E p))
    (hb : ∀ s x e, Sh s e → ∃ E1 p, I p ∧ g (ea x) e = some (E1 p) ∧ RS I b E1 (f s x) fun r fl e' => match r with | .go s' => (fl = .nx ∨ fl = .ct) ∧ Sh s' e' | .stop s' => fl = .bk ∧ Sh s' e' | .ret r => ∃ v, fl = .rt v ∧ Re r v e')
    (h2 : ∀ s e, Sh s e → ∃ E1 p, I p ∧ e = E1 p ∧ RS I D E1 (k s) post) (h3 : ∀ r v e Q, Re r v e → kr r Q → ∃ x, Q x ∧ post x (.rt v) e) :
    RS I (sSeq (sFor di g b) D) E (wbind wl fun l => wbind (wfoldX f l s0) (onR k kr)) post := fun p Q hp hw => by
  obtain ⟨l, p1, q1, hp1, hq⟩ := h p _ hp hw
  have main : ∀ (l : List α) (s : σ) (e : En) (R : Rt σ ρ → Prop), Sh s e → wfoldX f l s R → (∃ s' e', forGo g b (l.map ea) e = some (.nx, e') ∧ Sh s' e' ∧ R (.nx s')) ∨ ∃ r v e', forGo g b (l.map ea) e = some (.rt v, e') ∧ Re r v e' ∧ R (.ret r) := by
    intro l
    induction l with
    | nil => intro s e R hs hr; exact .inl ⟨s, e, rfl, hs, hr⟩
    | cons x xs ih =>
      intro s e R hs hr
      obtain ⟨E1, p2, hp2, hg, rb⟩ := hb s x e hs
      obtain ⟨fl, st, e', q2, hr2, hfl⟩ := rb p2 _ hp2 hr
      have e0 := forGo_cons (b := b) (xs := xs.map ea) hg
      rw [q2] at e0
      rw [List.map_cons, e0]
      cases st with
      | go s' =>
        obtain ⟨hfl, hs'⟩ := hfl
        have := ih s' e' R hs' hr2
        rcases hfl with rfl | rfl <;> exact this
      | stop s' => obtain ⟨rfl, hs'⟩ := hfl; exact .inl ⟨s', e', rfl, hs', hr2⟩
      | ret r => obtain ⟨v, rfl, hv⟩ := hfl; exact .inr ⟨r, v, e', rfl, hv, hr2⟩
  rcases main l s0 (E p1) _ (h0 p1 hp1) hq with ⟨s', e', q2, hs', hr⟩ | ⟨r, v, e', q2, hv, hr⟩
  · obtain ⟨E1, p2, hp2, rfl, r⟩ := h2 s' e' hs'
    obtain ⟨fl2, x, e2, q3, r2⟩ := r p2 Q hp2 hr
    refine ⟨fl2, x, e2, ?_, r2⟩
    rw [seq_of (e1 := E1 p2)]
    · exact q3
    · unfold sFor bnd; rw [q1]; exact q2
  · obtain ⟨x, hx, hpo⟩ := h3 r v e' Q hv hr
    refine ⟨.rt v, x, e', ?_, hx, hpo⟩
    rw [seq_stop (e1 := e') (fl := .rt v)]
    · unfold sFor bnd; rw [q1]; exact q2
    · intro z; cases z
theorem rs_forT {σ : Type} {di : M (List PyData)} {g} {b : M Fl} {l : List α} {s0 : σ} {f : σ → α → Wp σ} {k : σ → Wp β} (Sh : σ → En → Prop) (h : RG I (List.map ea) di E (wret l)) (h0 : ∀ p, I p → Sh s0 (E p))
    (hb : ∀ s x e, Sh s e → ∃ E1 p, I p ∧ g (ea x) e = some (E1 p) ∧ RS I b E1 (f s x) fun s' fl e' => (fl = .nx ∨ fl = .ct) ∧ Sh s' e')
    (h2 : ∀ s e, Sh s e → ∃ E1 p, I p ∧ e = E1 p ∧ RS I D E1 (k s) post) : RS I (sSeq (sFor di g b) D) E (wbind (wfold f l s0) k) post := rs_for (wl := wret l) (f := f) (k := k) Sh h h0 hb h2
theorem rs_forXT {σ ρ : Type} {di : M (List PyData)} {g} {b : M Fl} {l : List α} {s0 : σ} {f : σ → α → Wp (St σ ρ)} {k : σ → Wp β} {kr : ρ → Wp β} (Sh : σ → En → Prop) (Re : ρ → PyData → En → Prop) (h : RG I (List.map ea) di E (wret l)) (h0 : ∀ p, I p → Sh s0 (E p))
    (hb : ∀ s x e, Sh s e → ∃ E1 p, I p ∧ g (ea x) e = some (E1 p) ∧ RS I b E1 (f s x) fun r fl e' => match r with | .go s' => (fl = .nx ∨ fl = .ct) ∧ Sh s' e' | .stop s' => fl = .bk ∧ Sh s' e' | .ret r => ∃ v, fl = .rt v ∧ Re r v e')
    (h2 : ∀ s e, Sh s e → ∃ E1 p, I p ∧ e = E1 p ∧ RS I D E1 (k s) post) (h3 : ∀ r v e Q, Re r v e → kr r Q → ∃ x, Q x ∧ post x (.rt v) e) :
    RS I (sSeq (sFor di g b) D) E (wbind (wfoldX f l s0) (onR k kr)) post := rs_forX (wl := wret l) (f := f) (k := k) (kr := kr) Sh Re h h0 hb h2 h3
theorem rs_while {σ : Type} {n : Nat} {c : M Bool} {b : M Fl} {s0 : σ} {wc : σ → Wp Bool} {f : σ → Wp σ} {k : σ → Wp β} (Sh : σ → En → Prop) (h0 : ∀ p, I p → Sh s0 (E p))
    (hb : ∀ s e, Sh s e → ∃ E1 p, I p ∧ e = E1 p ∧ RG I id c E1 (wc s) ∧ (∀ p, I p → Sh s (E1 p)) ∧ RS I b E1 (f s) fun s' fl e' => (fl = .nx ∨ fl = .ct) ∧ Sh s' e')
    (h2 : ∀ s e, Sh s e → ∃ E1 p, I p ∧ e = E1 p ∧ RS I D E1 (k s) post) : RS I (sSeq (sWh n c b) D) E (wbind (wwhile wc f n s0) k) post := fun p Q hp hw => by
  have main : ∀ (n : Nat) (s : σ) (e : En) (R : σ → Prop), Sh s e → wwhile wc f n s R → ∃ s' e', whGo c b n e = some (.nx, e') ∧ Sh s' e' ∧ R s' := by
    intro n
    induction n with
    | zero => intro s e R hs hr; exact hr.elim
    | succ n ih =>
      intro s e R hs hr
      obtain ⟨E1, p2, hp2, rfl, rc, hsh, rb⟩ := hb s e hs
      obtain ⟨t, p3, q1, hp3, hr1⟩ := rc p2 _ hp2 hr
      cases t with
      | false => exact ⟨s, E1 p3, by show (c (E1 p2)).bind _ = _; rw [q1]; rfl, hsh p3 hp3, by rw [if_neg (by simp)] at hr1; exact hr1⟩
      | true =>
        rw [if_pos rfl] at hr1
        obtain ⟨fl, s', e', q2, hr2, hfl, hs'⟩ := rb p3 _ hp3 hr1
        obtain ⟨s'', e'', q3, hs'', hr3⟩ := ih s' e' R hs' hr2
        refine ⟨s'', e'', ?_, hs'', hr3⟩
        show (c (E1 p2)).bind _ = _
        rw [q1]; show (b (E1 p3)).bind _ = _
        rw [q2]
        rcases hfl with rfl | rfl <;> exact q3
  obtain ⟨s', e', q2, hs', hr⟩ := main n s0 (E p) _ (h0 p hp) hw
  obtain ⟨E1, p2, hp2, rfl, r⟩ := h2 s' e' hs'
  obtain ⟨fl2, x, e2, q3, r2⟩ := r p2 Q hp2 hr
  exact ⟨fl2, x, e2, by rw [seq_of (e1 := E1 p2)]; exact q3; exact q2, r2⟩
theorem rs_whileX {σ ρ : Type} {n : Nat} {c : M Bool} {b : M Fl} {s0 : σ} {wc : σ → Wp Bool} {f : σ → Wp (St σ ρ)} {k : σ → Wp β} {kr : ρ → Wp β} (Sh : σ → En → Prop) (Re : ρ → PyData → En → Prop) (h0 : ∀ p, I p → Sh s0 (E p))
    (hb : ∀ s e, Sh s e → ∃ E1 p, I p ∧ e = E1 p ∧ RG I id c E1 (wc s) ∧ (∀ p, I p → Sh s (E1 p)) ∧ RS I b E1 (f s) fun r fl e' => match r with | .go s' => (fl = .nx ∨ fl = .ct) ∧ Sh s' e' | .stop s' => fl = .bk ∧ Sh s' e' | .ret r => ∃ v, fl = .rt v ∧ Re r v e')
    (h2 : ∀ s e, Sh s e → ∃ E1 p, I p ∧ e = E1 p ∧ RS I D E1 (k s) post) (h3 : ∀ r v e Q, Re r v e → kr r Q → ∃ x, Q x ∧ post x (.rt v) e) : RS I (sSeq (sWh n c b) D) E (wbind (wwhileX wc f n s0) (onR k kr)) post := fun p Q hp hw => by
  have main : ∀ (n : Nat) (s : σ) (e : En) (R : Rt σ ρ → Prop), Sh s e → wwhileX wc f n s R → (∃ s' e', whGo c b n e = some (.nx, e') ∧ Sh s' e' ∧ R (.nx s')) ∨ ∃ r v e', whGo c b n e = some (.rt v, e') ∧ Re r v e' ∧ R (.ret r) := by
    intro n
    induction n with
    | zero => intro s e R hs hr; exact hr.elim
    | succ n ih =>
      intro s e R hs hr
      obtain ⟨E1, p2, hp2, rfl, rc, hsh, rb⟩ := hb s e hs
      obtain ⟨t, p3, q1, hp3, hr1⟩ := rc p2 _ hp2 hr
      cases t with
      | false => exact .inl ⟨s, E1 p3, by show (c (E1 p2)).bind _ = _; rw [q1]; rfl, hsh p3 hp3, by rw [if_neg (by simp)] at hr1; exact hr1⟩
      | true =>
        rw [if_pos rfl] at hr1
        obtain ⟨fl, st, e', q2, hr2, hfl⟩ := rb p3 _ hp3 hr1
        have e0 := whGo_true (b := b) (n := n) q1
        rw [q2] at e0
        rw [e0]
        cases st with
        | go s' =>
          obtain ⟨hfl, hs'⟩ := hfl
          have := ih s' e' R hs' hr2
          rcases hfl with rfl | rfl <;> exact this
        | stop s' => obtain ⟨rfl, hs'⟩ := hfl; exact .inl ⟨s', e', rfl, hs', hr2⟩
        | ret r => obtain ⟨v, rfl, hv⟩ := hfl; exact .inr ⟨r, v, e', rfl, hv, hr2⟩
  rcases main n s0 (E p) _ (h0 p hp) hw with ⟨s', e', q2, hs', hr⟩ | ⟨r, v, e', q2, hv, hr⟩
  · obtain ⟨E1, p2, hp2, rfl, r⟩ := h2 s' e' hs'
    obtain ⟨fl2, x, e2, q3, r2⟩ := r p2 Q hp2 hr
    exact ⟨fl2, x, e2, by rw [seq_of (e1 := E1 p2)]; exact q3; exact q2, r2⟩
  · obtain ⟨x, hx, hpo⟩ := h3 r v e' Q hv hr
    refine ⟨.rt v, x, e', ?_, hx, hpo⟩
    rw [seq_stop (e1 := e') (fl := .rt v)]
    · exact q2
    · intro z; cases z
/-- defs -/
theorem ca_body {n : Nat} {d : M Fl} {as : List PyData} {w : Wp α} (h : RS Pok d (fun _ => as.map .val ++ List.replicate (n - as.length) .no) w fun r fl e => fl = .rt (ea r) ∨ (fl = .nx ∧ ea r = .none)) : CA (bodyF n d) as ea w := fun Q hw => by
  obtain ⟨fl, x, e', q, hq, hfl⟩ := h (poolOf []) Q (pok_poolOf []) hw
  refine ⟨x, ?_, hq⟩
  unfold bodyF
  have ok : ∀ as : List PyData, (as.map Sl.val).all argOk = true := fun as => by rw [List.all_eq_true]; intro s hs; obtain ⟨d, _, rfl⟩ := List.mem_map.mp hs; rfl
  rw [if_pos (ok as), List.length_map, q]
  rcases hfl with rfl | ⟨rfl, hn⟩
  · show some (ea x, outs (as.map .val) e' 0) = _; rw [outs_vals]
  · show some (PyData.none, outs (as.map .val) e' 0) = _; rw [outs_vals, hn]
theorem cp_body {n : Nat} {d : M Fl} {as : List PyData} {w : Wp α} (h : RS Pok d (fun p => .lent p :: as.map .val ++ List.replicate (n - (as.length + 1)) .no) w fun r fl e => (fl = .rt (ea r) ∨ (fl = .nx ∧ ea r = .none)) ∧ ∃ p, Pok p ∧ e.at 0 = .lent p) : CP (bodyF n d) as ea w := fun p Q hp hw => by
  obtain ⟨fl, x, e', q, hq, hfl, p', hp', he⟩ := h p Q hp hw
  refine ⟨x, p', ?_, hp', hq⟩
  unfold bodyF
  have ok : ∀ as : List PyData, (as.map Sl.val).all argOk = true := fun as => by rw [List.all_eq_true]; intro s hs; obtain ⟨d, _, rfl⟩ := List.mem_map.mp hs; rfl
  have ok' : (Sl.lent p :: as.map Sl.val).all argOk = true := by rw [List.all_cons, ok]; rfl
  rw [if_pos ok', List.length_cons, List.length_map, q]
  have ov : outs (Sl.lent p :: as.map Sl.val) e' 0 = .lent p' :: as.map .val := by show e'.at 0 :: outs (as.map .val) e' 1 = _; rw [he, outs_vals]
  rcases hfl with rfl | ⟨rfl, hn⟩
  · show some (ea x, outs (Sl.lent p :: as.map .val) e' 0) = _; rw [ov]
  · show some (PyData.none, outs (Sl.lent p :: as.map .val) e' 0) = _; rw [ov, hn]
end
end SL

set_option Elab.async false
set_option linter.all false
set_option maxRecDepth 100000
set_option maxHeartbeats 4000000
/-! TX3: what the operations answer on typed data. -/
namespace SL
open PySem PySem.Spec PyProof.Rows L2
def smI (x : Int) : Prop := x.natAbs < 2 ^ 64
section
variable {I : PyData → Prop} {α β γ : Type} {ea : α → PyData} {eb : β → PyData} {E : PyData → En}
theorem r_mul {a b : Int} : RG I eI (lft (fI2 gMul' (eI a) (eI b))) E (wg (a.natAbs < 2 ^ 64 ∨ b.natAbs < 2 ^ 64) (a * b)) := rg_wg fun h => by
  rcases h with h | h
  · exact mul_c' h
  · exact mul_c h
theorem r_div {a b : Int} : RG I eI (lft (fI2 gDiv' (eI a) (eI b))) E (wg (0 < b ∧ b < 1073741824) (a / b)) := rg_wg fun h => div_c h.1 h.2
theorem r_mod {a b : Int} : RG I eI (lft (fI2 gMod' (eI a) (eI b))) E (wg (0 < b) (a % b)) := rg_wg fun h => mod_c h
theorem r_pow {a b : Int} : RG I eI (lft (fI2 gPow' (eI a) (eI b))) E (wg (0 ≤ b ∧ b ≤ 1000000 ∧ a.natAbs < 2 ^ 64) (a ^ b.toNat)) := rg_wg fun h => by
  show (gPow' a b).map PyData.int = _
  unfold gPow'; rw [if_pos h]; rfl
theorem rep_map (l : List α) : ∀ n : Nat, (List.replicate n (l.map ea)).flatten = (List.replicate n l).flatten.map ea
  | 0 => rfl
  | n + 1 => by rw [List.replicate_succ, List.replicate_succ, List.flatten_cons, List.flatten_cons, List.map_append, rep_map l n]
theorem r_rep {l : List α} {k : Int} : RG I (eT ea) (lft (fRepT (eT ea l) (eI k))) E (wg (l ≠ [] ∧ 1 ≤ k ∧ k ≤ 1000 ∧ l.length ≤ 1000) (List.replicate k.toNat l).flatten) := rg_wg fun h => by
  show (if l.map ea ≠ [] ∧ 1 ≤ k ∧ k ≤ 1000 ∧ (l.map ea).length ≤ 1000 then some (PyData.tuple (List.replicate k.toNat (l.map ea)).flatten) else none) = _
  rw [if_pos ⟨fun e => h.1 (List.map_eq_nil_iff.mp e), h.2.1, h.2.2.1, by rw [List.length_map]; exact h.2.2.2⟩, rep_map]
theorem r_addT {x y : List α} : RG I (eT ea) (lft (fAdd (eT ea x) (eT ea y))) E (wg (x.length + y.length ≤ 16777216) (x ++ y)) := rg_wg fun h => by
  show (if (x.map ea).length + (y.map ea).length ≤ 16777216 then some (PyData.tuple (x.map ea ++ y.map ea)) else none) = _
  rw [List.length_map, List.length_map, if_pos h, ← List.map_append]
theorem r_addL {x y : List α} : RG I (eL ea) (lft (fAdd (eL ea x) (eL ea y))) E (wg (x.length + y.length ≤ 16777216) (x ++ y)) := rg_wg fun h => by
  show (if (x.map ea).length + (y.map ea).length ≤ 16777216 then some (PyData.list (x.map ea ++ y.map ea)) else none) = _
  rw [List.length_map, List.length_map, if_pos h, ← List.map_append]
theorem r_addLL {x y : List α} : RG I (eL ea) (lft (fAddL (eL ea x) (eL ea y))) E (wg (x.length + y.length ≤ 16777216) (x ++ y)) := rg_wg fun h => by
  show (if (x.map ea).length + (y.map ea).length ≤ 16777216 then some (PyData.list (x.map ea ++ y.map ea)) else none) = _
  rw [List.length_map, List.length_map, if_pos h, ← List.map_append]
theorem r_addS {x y : Str} : RG I eS (lft (fAdd (eS x) (eS y))) E (wg (x.length + y.length ≤ 16777216) (x ++ y)) := rg_wg fun h => if_pos h
theorem atI_map (l : List α) (i : Int) : atI (l.map ea) i = (atI l i).map ea := by
  unfold atI
  rw [List.length_map]
  cases ixN l.length i with
  | none => rfl
  | some j => show (l.map ea)[j]? = (l[j]?).map ea; rw [List.getElem?_map]
theorem r_ixL {l : List α} {i : Int} : RG I ea (lft (fIx (eL ea l) (eI i))) E (wo (atI l i)) := rg_wo fun x h => by
  show atI (l.map ea) i = _
  rw [atI_map, h]; rfl
theorem r_ixT {l : List α} {i : Int} : RG I ea (lft (fIx (eT ea l) (eI i))) E (wo (atI l i)) := rg_wo fun x h => by
  show atI (l.map ea) i = _
  rw [atI_map, h]; rfl
def cutL (ds : List α) (lo hi : Option Int) : List α := (ds.drop (HT.sIx ds.length 0 lo)).take (HT.sIx ds.length ds.length hi - HT.sIx ds.length 0 lo)
theorem cut_map (l : List α) (lo hi : Option Int) : cutD (l.map ea) lo hi = (cutL l lo hi).map ea := by
  unfold cutD cutL
  rw [List.length_map, List.map_take, List.map_drop]
theorem r_slT {l : List α} {lo hi : Option Int} : RG I (eT ea) (lft (fSl (eT ea l) lo hi)) E (wret (cutL l lo hi)) := rg_some (by
  show some (PyData.tuple (cutD _ _ _)) = _
  rw [cut_map])
theorem r_slL {l : List α} {lo hi : Option Int} : RG I (eL ea) (lft (fSl (eL ea l) lo hi)) E (wret (cutL l lo hi)) := rg_some (by
  show some (PyData.list (cutD _ _ _)) = _
  rw [cut_map])
theorem r_rev {l : List α} : RG I (eL ea) (lft (fRev (eL ea l))) E (wret l.reverse) := rg_some (by
  show some (PyData.list (l.map ea).reverse) = _
  rw [← List.map_reverse])
theorem r_lenL {l : List α} : RG I eI (lft (fLen (eL ea l))) E (wret (l.length : Int)) := rg_some (by show some (PyData.int ((l.map ea).length : Int)) = _; rw [List.length_map])
theorem r_lenT {l : List α} : RG I eI (lft (fLen (eT ea l))) E (wret (l.length : Int)) := rg_some (by show some (PyData.int ((l.map ea).length : Int)) = _; rw [List.length_map])
theorem ints_map : ∀ l : List Int, intsOf (l.map .int) = some l
  | [] => rfl
  | n :: r => by simp [intsOf, ints_map r]
theorem bools_map : ∀ l : List Bool, boolsOf (l.map .bool) = some l
  | [] => rfl
  | n :: r => by simp [boolsOf, bools_map r]
theorem r_sum {l : List Int} : RG I eI (lft (fSum (eL eI l))) E (wret l.sum) := rg_some (by show (intsOf (l.map .int)).map _ = _; rw [ints_map]; rfl)
theorem r_sumT {l : List Int} : RG I eI (lft (fSum (eT eI l))) E (wret l.sum) := rg_some (by show (intsOf (l.map .int)).map _ = _; rw [ints_map]; rfl)
theorem r_any {l : List Bool} : RG I eB (lft (fAny (eL eB l))) E (wret (l.any id)) := rg_some (by show (boolsOf (l.map .bool)).map _ = _; rw [bools_map]; rfl)
theorem r_all {l : List Bool} : RG I eB (lft (fAll (eL eB l))) E (wret (l.all id)) := rg_some (by show (boolsOf (l.map .bool)).map _ = _; rw [bools_map]; rfl)
/-! ranges -/
def rngL (i : Int) (n : Nat) : List Int := (List.range n).map fun k => i + (k : Nat)
theorem rng_map (i : Int) (n : Nat) : upTo i n = (rngL i n).map eI := by unfold upTo rngL; rw [List.map_map]; rfl
def okR (i j : Int) : Prop := (-4611686018427387904 ≤ i ∧ i < 4611686018427387904) ∧ (-4611686018427387904 ≤ j ∧ j < 4611686018427387904) ∧ j - i ≤ 16777216
theorem rg1_is {j : Int} (h : okR 0 j) : fRg1 (eI j) = some ((rngL 0 j.toNat).map eI) := by
  show rg1 j = _
  unfold okR at h
  unfold rg1; rw [if_pos ⟨h.2.1.1, by omega⟩, rng_map]
theorem rg2_is {i j : Int} (h : okR i j) : fRg2 (eI i) (eI j) = some ((rngL i (j - i).toNat).map eI) := by
  show rg2 i j = _
  unfold okR at h
  unfold rg2; rw [if_pos h, rng_map]
theorem r_iR1 {j : Int} : RG I (List.map eI) (lft (fRg1 (eI j))) E (wg (okR 0 j) (rngL 0 j.toNat)) := rg_wg rg1_is
theorem r_iR2 {i j : Int} : RG I (List.map eI) (lft (fRg2 (eI i) (eI j))) E (wg (okR i j) (rngL i (j - i).toNat)) := rg_wg rg2_is
theorem r_rg1 {j : Int} : RG I (eL eI) (lft ((fRg1 (eI j)).map .list)) E (wg (okR 0 j) (rngL 0 j.toNat)) := rg_wg fun h => by rw [rg1_is h]; rfl
theorem r_rg2 {i j : Int} : RG I (eL eI) (lft ((fRg2 (eI i) (eI j)).map .list)) E (wg (okR i j) (rngL i (j - i).toNat)) := rg_wg fun h => by rw [rg2_is h]; rfl
theorem r_rgT {j : Int} : RG I (eT eI) (lft ((fRg1 (eI j)).map .tuple)) E (wg (okR 0 j) (rngL 0 j.toNat)) := rg_wg fun h => by rw [rg1_is h]; rfl
/-! order -/
def ltE (ea : α → PyData) (x y : α) : Bool := PySem.W.dataLt (ea x) (ea y)
class AlE {α : Type} (ea : α → PyData) : Prop where
  al : ∀ x y, PySem.W.alike (ea x) (ea y) = true
  nn : ∀ x, notN (ea x) = true
instance : AlE eI := ⟨fun x y => by simp [PySem.W.alike], fun x => rfl⟩
instance : AlE eB := ⟨fun x y => by simp [PySem.W.alike], fun x => rfl⟩
instance : AlE eS := ⟨fun x y => by simp [PySem.W.alike], fun x => rfl⟩
theorem al_all (h : ∀ x y, PySem.W.alike (ea x) (ea y) = true) : ∀ xs ys : List α, PySem.W.alikeAll (xs.map ea) (ys.map ea) = true
  | [], _ => by simp [PySem.W.alikeAll]
  | x :: xs, [] => by simp [PySem.W.alikeAll]
  | x :: xs, y :: ys => by simp [PySem.W.alikeAll, h x y, al_all h xs ys]
instance alL [o : AlE ea] : AlE (eL ea) := ⟨fun x y => by rw [PySem.W.alike]; exact al_all o.al x y, fun x => rfl⟩
instance alT [o : AlE ea] : AlE (eT ea) := ⟨fun x y => by rw [PySem.W.alike]; exact al_all o.al x y, fun x => rfl⟩
instance alP1 [o : AlE ea] : AlE (eP1 ea) := ⟨fun x y => by simp [PySem.W.alike, PySem.W.alikeAll, o.al], fun x => rfl⟩
instance alP2 [o : AlE ea] [o2 : AlE eb] : AlE (eP2 ea eb) := ⟨fun x y => by simp [PySem.W.alike, PySem.W.alikeAll, o.al, o2.al], fun x => rfl⟩
instance alP3 {δ : Type} {ed : δ → PyData} [o : AlE ea] [o2 : AlE eb] [o3 : AlE ed] : AlE (eP3 ea eb ed) := ⟨fun x y => by simp [PySem.W.alike, PySem.W.alikeAll, o.al, o2.al, o3.al], fun x => rfl⟩
theorem op_lt {n : Nat} [o : OkE ea n] [a : AlE ea] (h : n ≤ 64) (x y : α) (hi : ∀ i, ea x ≠ .int i) : fLt (ea x) (ea y) = some (ltE ea x y) := by
  unfold fLt
  split
  · rename_i i j h1 h2; exact absurd h1 (hi i)
  · rw [show shp (ea x) = true from OkE.shp (ea := ea) h x, show shp (ea y) = true from OkE.shp (ea := ea) h y, a.al, a.nn]; rfl
class SoE {α : Type} (ea : α → PyData) : Prop where
  so : (∀ x, isTup1 (ea x) = true) ∨ ∀ x, noTup (ea x) = true
instance : SoE eI := ⟨.inr fun _ => rfl⟩
instance : SoE eB := ⟨.inr fun _ => rfl⟩
instance : SoE eS := ⟨.inr fun _ => rfl⟩
instance : SoE (eL ea) := ⟨.inr fun _ => rfl⟩
instance : SoE (eP1 ea) := ⟨.inl fun _ => rfl⟩
instance : SoE (eP2 ea eb) := ⟨.inl fun _ => rfl⟩
instance {δ : Type} {ed : δ → PyData} : SoE (eP3 ea eb ed) := ⟨.inl fun _ => rfl⟩
theorem alikeB_of [a : AlE ea] (l : List α) : alikeB (l.map ea) = true := by
  unfold alikeB; exact all_map_b (P := fun d => (l.map ea).all fun d' => PySem.W.alike d d') (fun p => all_map_b (P := fun d' => PySem.W.alike (ea p) d') (fun q => a.al p q) l) l
def sortE (ea : α → PyData) (l : List α) : List α := l.mergeSort fun a b => !ltE ea b a
theorem r_sorted {n : Nat} [o : OkE ea n] [a : AlE ea] [s : SoE ea] (h : n < 64) {l : List α} : RG I (eL ea) (lft (fSorted (eL ea l))) E (wret (sortE ea l)) := rg_some (by
  show (if (shp (eL ea l) && alikeB (l.map ea) && sortB (l.map ea)) = true then some (PyData.list ((l.map ea).mergeSort dLe)) else none) = _
  rw [OkE.shp (ea := eL ea) (by omega) l, alikeB_of, show sortB (l.map ea) = true by
    unfold sortB
    rcases s.so with q | q
    · rw [all_map_b (P := isTup1) q]; rfl
    · rw [all_map_b (P := noTup) q, Bool.or_true]; rfl]
  refine (if_pos rfl).trans ?_
  unfold sortE
  rw [← List.map_mergeSort (r := fun a b => !ltE ea b a) (s := dLe) (f := ea) fun a _ b _ => rfl])
/-- sorted of tuples of any kind, when none is empty -/
def isNE (d : PyData) : Prop := isTup1 d = true
theorem r_sortedT {n : Nat} [o : OkE ea n] [a : AlE ea] (h : n + 1 < 64) {l : List (List α)} : RG I (eL (eT ea)) (lft (fSorted (eL (eT ea) l))) E (wg (∀ x ∈ l, x ≠ []) (sortE (eT ea) l)) := rg_wg (fun hne => by
  show (if (shp (eL (eT ea) l) && alikeB (l.map (eT ea)) && sortB (l.map (eT ea))) = true then some (PyData.list ((l.map (eT ea)).mergeSort dLe)) else none) = _
  rw [OkE.shp (ea := eL (eT ea)) (by omega) l, alikeB_of, show sortB (l.map (eT ea)) = true by
    unfold sortB
    rw [show (l.map (eT ea)).all isTup1 = true by
      rw [List.all_eq_true]; intro x hx
      obtain ⟨y, hy, rfl⟩ := List.mem_map.mp hx
      have := hne y hy
      cases y with
      | nil => exact absurd rfl this
      | cons _ _ => rfl]; rfl]
  refine (if_pos rfl).trans ?_
  unfold sortE
  rw [← List.map_mergeSort (r := fun a b => !ltE (eT ea) b a) (s := dLe) (f := eT ea) fun a _ b _ => rfl])
def minE (ea : α → PyData) : List α → Option α | [] => none | x :: xs => some (xs.foldl (fun a y => if ltE ea y a = true then y else a) x)
def maxE (ea : α → PyData) : List α → Option α | [] => none | x :: xs => some (xs.foldl (fun a y => if ltE ea a y = true then y else a) x)
theorem okMin_of {n : Nat} [o : OkE ea n] [a : AlE ea] (h : n < 64) (l : List α) : okMin (l.map ea) = true := by
  unfold okMin
  rw [show shp (.list (l.map ea)) = true from OkE.shp (ea := eL ea) (by omega) l, alikeB_of, all_map_b (P := notN) a.nn]; rfl
theorem minD_map (x : α) (xs : List α) : PySem.W.minD (ea x) (xs.map ea) = ea (xs.foldl (fun a y => if ltE ea y a = true then y else a) x) := by
  unfold PySem.W.minD
  induction xs generalizing x with
  | nil => rfl
  | cons y ys ih =>
    rw [List.map_cons, List.foldl_cons, List.foldl_cons, ← ih]
    congr 1
    show (if ltE ea y x = true then ea y else ea x) = ea (if ltE ea y x = true then y else x)
    split <;> rfl
theorem maxD_map (x : α) (xs : List α) : PySem.W.maxD (ea x) (xs.map ea) = ea (xs.foldl (fun a y => if ltE ea a y = true then y else a) x) := by
  unfold PySem.W.maxD
  induction xs generalizing x with
  | nil => rfl
  | cons y ys ih =>
    rw [List.map_cons, List.foldl_cons, List.foldl_cons, ← ih]
    congr 1
    show (if ltE ea x y = true then ea y else ea x) = ea (if ltE ea x y = true then y else x)
    split <;> rfl
theorem r_minL {n : Nat} [o : OkE ea n] [a : AlE ea] (h : n < 64) {l : List α} : RG I ea (lft (fMinL PySem.W.minD (eL ea l))) E (wo (minE ea l)) := rg_wo fun x hx => by
  cases l with
  | nil => cases hx
  | cons y ys =>
    cases hx
    show (if okMin ((y :: ys).map ea) = true then some (PySem.W.minD (ea y) (ys.map ea)) else none) = _
    rw [if_pos (okMin_of h _), minD_map]
theorem r_minT {n : Nat} [o : OkE ea n] [a : AlE ea] (h : n < 64) {l : List α} : RG I ea (lft (fMinL PySem.W.minD (eT ea l))) E (wo (minE ea l)) := rg_wo fun x hx => by
  cases l with
  | nil => cases hx
  | cons y ys =>
    cases hx
    show (if okMin ((y :: ys).map ea) = true then some (PySem.W.minD (ea y) (ys.map ea)) else none) = _
    rw [if_pos (okMin_of h _), minD_map]
theorem r_maxL {n : Nat} [o : OkE ea n] [a : AlE ea] (h : n < 64) {l : List α} : RG I ea (lft (fMinL PySem.W.maxD (eL ea l))) E (wo (maxE ea l)) := rg_wo fun x hx => by
  cases l with
  | nil => cases hx
  | cons y ys =>
    cases hx
    show (if okMin ((y :: ys).map ea) = true then some (PySem.W.maxD (ea y) (ys.map ea)) else none) = _
    rw [if_pos (okMin_of h _), maxD_map]
theorem r_maxT {n : Nat} [o : OkE ea n] [a : AlE ea] (h : n < 64) {l : List α} : RG I ea (lft (fMinL PySem.W.maxD (eT ea l))) E (wo (maxE ea l)) := rg_wo fun x hx => by
  cases l with
  | nil => cases hx
  | cons y ys =>
    cases hx
    show (if okMin ((y :: ys).map ea) = true then some (PySem.W.maxD (ea y) (ys.map ea)) else none) = _
    rw [if_pos (okMin_of h _), maxD_map]
def okS (l : List Int) : Prop := l.length ≤ 4000 ∧ (dd l).length < 64
theorem r_ssL {l : List Int} : RG I (eL eI) (lft (fSS (eL eI l))) E (wg (okS l) (srtS l)) := rg_wg fun h => by
  show (intsOf (l.map .int)).bind _ = _
  rw [ints_map]; exact if_pos h
theorem r_ssT {l : List Int} : RG I (eL eI) (lft (fSS (eT eI l))) E (wg (okS l) (srtS l)) := rg_wg fun h => by
  show (intsOf (l.map .int)).bind _ = _
  rw [ints_map]; exact if_pos h
/-! tests -/
theorem rg_call {enc : α → PyData} {F : FS} {da : M (List Ag)} {w : Wp α} (h : RG I enc (bnd da (callK F)) E w) : RG I enc (dCall F da) E w := h
theorem rg_dcomp {enc : α → PyData} {vs di g c el} {w : Wp α} (h : RG I enc (bnd di (compK vs g c el)) E w) : RG I enc (dComp vs di g c el) E w := h
theorem rg_and {a : M Bool} {t x : Bool} (h : RG I id a E (wret x)) : RG I id (if t = true then a else ret false) E (wret (t && x)) := by
  cases t
  · exact fun p Q hp hw => ⟨false, p, rfl, hp, hw⟩
  · simpa using h
theorem rg_andP {a : M Bool} {t : Bool} {w : Wp Bool} (h : RG I id a E w) : RG I id (if t = true then a else ret false) E (if t = true then w else wret false) := by
  cases t
  · exact fun p Q hp hw => ⟨false, p, rfl, hp, hw⟩
  · simpa using h
theorem rg_or {a : M Bool} {t x : Bool} (h : RG I id a E (wret x)) : RG I id (if t = true then ret true else a) E (wret (t || x)) := by
  cases t
  · simpa using h
  · exact fun p Q hp hw => ⟨true, p, rfl, hp, hw⟩
theorem rg_orP {a : M Bool} {t : Bool} {w : Wp Bool} (h : RG I id a E w) : RG I id (if t = true then ret true else a) E (if t = true then wret true else w) := by
  cases t
  · simpa using h
  · exact fun p Q hp hw => ⟨true, p, rfl, hp, hw⟩
theorem rg_dandP {a : M PyData} {t : Bool} {w : Wp Bool} (h : RG I eB a E w) : RG I eB (if t = true then a else ret (.bool false)) E (if t = true then w else wret false) := by
  cases t
  · exact fun p Q hp hw => ⟨false, p, rfl, hp, hw⟩
  · simpa using h
theorem rg_dand {a : M PyData} {t x : Bool} (h : RG I eB a E (wret x)) : RG I eB (if t = true then a else ret (.bool false)) E (wret (t && x)) := by
  cases t
  · exact fun p Q hp hw => ⟨false, p, rfl, hp, hw⟩
  · simpa using h
theorem rg_dorP {a : M PyData} {t : Bool} {w : Wp Bool} (h : RG I eB a E w) : RG I eB (if t = true then ret (.bool true) else a) E (if t = true then wret true else w) := by
  cases t
  · simpa using h
  · exact fun p Q hp hw => ⟨true, p, rfl, hp, hw⟩
theorem rg_dor {a : M PyData} {t x : Bool} (h : RG I eB a E (wret x)) : RG I eB (if t = true then ret (.bool true) else a) E (wret (t || x)) := by
  cases t
  · simpa using h
  · exact fun p Q hp hw => ⟨true, p, rfl, hp, hw⟩
theorem castL {f : α → β} (h : ∀ x, ea x = eb (f x)) (l : List α) : eL ea l = eL eb (l.map f) := by show PyData.list _ = PyData.list _; rw [List.map_map]; exact congrArg _ (List.map_congr_left fun x _ => h x)
theorem castT {f : α → β} (h : ∀ x, ea x = eb (f x)) (l : List α) : eT ea l = eT eb (l.map f) := by show PyData.tuple _ = PyData.tuple _; rw [List.map_map]; exact congrArg _ (List.map_congr_left fun x _ => h x)
theorem castO {f : α → β} (h : ∀ x, ea x = eb (f x)) (o : Option α) : eO ea o = eO eb (o.map f) := by cases o <;> simp [h]
def isNo {α} : Option α → Bool | none => true | some _ => false
class NnE {α : Type} (ea : α → PyData) : Prop where
  nn : ∀ x, isNon (ea x) = false
instance : NnE eI := ⟨fun _ => rfl⟩
instance : NnE eB := ⟨fun _ => rfl⟩
instance : NnE eS := ⟨fun _ => rfl⟩
instance : NnE (eL ea) := ⟨fun _ => rfl⟩
instance : NnE (eT ea) := ⟨fun _ => rfl⟩
instance : NnE (eP1 ea) := ⟨fun _ => rfl⟩
instance : NnE (eP2 ea eb) := ⟨fun _ => rfl⟩
instance {δ : Type} {ed : δ → PyData} : NnE (eP3 ea eb ed) := ⟨fun _ => rfl⟩
instance {δ ε : Type} {ed : δ → PyData} {ee : ε → PyData} : NnE (eP4 ea eb ed ee) := ⟨fun _ => rfl⟩
theorem isnon_o [n : NnE ea] (o : Option α) : isNon (eO ea o) = isNo o := by cases o with | none => rfl | some x => exact n.nn x
theorem notnon_o [n : NnE ea] (o : Option α) : (!isNon (eO ea o)) = !isNo o := by rw [isnon_o]
/-- unpacking an option known to be there -/
theorem r_abs {a : Int} : fAbs (eI a) = some (eI (if a < 0 then -a else a)) := rfl
theorem r_min2 {a b : Int} : fMin2 (eI a) (eI b) = some (eI (min a b)) := rfl
theorem r_max2 {a b : Int} : fMax2 (eI a) (eI b) = some (eI (max a b)) := rfl
theorem r_neg {a : Int} : fNeg (eI a) = some (eI (-a)) := rfl
theorem r_intb {a : Bool} : fInt (eB a) = some (eI (if a then 1 else 0)) := rfl
theorem r_tupL {l : List α} : fTuple (eL ea l) = some (eT ea l) := rfl
theorem r_tupT {l : List α} : fTuple (eT ea l) = some (eT ea l) := rfl
theorem r_listL {l : List α} : fList (eL ea l) = some (eL ea l) := rfl
theorem r_listT {l : List α} : fList (eT ea l) = some (eL ea l) := rfl
theorem rg_toI {d : M PyData} {w : Wp PyData} (h : RG I eD d E w) : RG I eI d E (wbind w fun x => wo (intOf x)) := fun p Q hp hw => by
  obtain ⟨x, p1, q1, hp1, n, hn, hq⟩ := h p _ hp hw
  have := intOf_inv hn; subst this
  exact ⟨n, p1, q1, hp1, hq⟩
theorem rg_toIt {d : M PyData} {x : PyData} (h : RG I eD d E (wret x)) : RG I eI d E (wo (intOf x)) := rg_toI h
theorem rg_toL {d : M PyData} {w : Wp PyData} (h : RG I eD d E w) : RG I (eL eD) d E (wbind w fun x => wo (listOf x)) := fun p Q hp hw => by
  obtain ⟨x, p1, q1, hp1, n, hn, hq⟩ := h p _ hp hw
  have e : x = .list n := by
    cases x <;> first | cases hn; rfl | cases hn
  subst e
  exact ⟨n, p1, by rw [q1]; show some (PyData.list n, _) = some (PyData.list (n.map id), _); rw [List.map_id], hp1, hq⟩
theorem rg_toLt {d : M PyData} {x : PyData} (h : RG I eD d E (wret x)) : RG I (eL eD) d E (wo (listOf x)) := rg_toL h
theorem rg_unO {d : M PyData} {w : Wp (Option α)} (h : RG I (eO ea) d E w) : RG I ea d E (wbind w fun o => wo o) := fun p Q hp hw => by
  obtain ⟨x, p1, q1, hp1, n, hn, hq⟩ := h p _ hp hw
  subst hn
  exact ⟨n, p1, q1, hp1, hq⟩
theorem rg_unOt {d : M PyData} {x : Option α} (h : RG I (eO ea) d E (wret x)) : RG I ea d E (wo x) := rg_unO h
/-! _law_same on typed data -/
class SmE {α : Type} (ea : α → PyData) (n : outParam Nat) where
  sz : α → Prop
  nd : ∀ x, sz x → noDict (ea x) = true
  dep : ∀ x, (ea x).depth ≤ n
  sm : ∀ x y, same (ea x) (ea y) = true ↔ x = y
instance : SmE eI 0 := ⟨fun _ => True, fun _ _ => rfl, fun _ => by simp [PyData.depth], fun x y => by simp [same]⟩
instance : SmE eB 0 := ⟨fun _ => True, fun _ _ => rfl, fun _ => by simp [PyData.depth], fun x y => by simp [same]⟩
instance : SmE eS 0 := ⟨fun _ => True, fun _ _ => rfl, fun _ => by simp [PyData.depth], fun x y => by simp [same]⟩
instance : SmE eN 0 := ⟨fun _ => True, fun _ _ => rfl, fun _ => by simp [PyData.depth], fun x y => by simp [same, isNon]⟩
theorem sm_all (h : ∀ x y, same (ea x) (ea y) = true ↔ x = y) : ∀ xs ys : List α, sameAll (xs.map ea) (ys.map ea) = true ↔ xs = ys
  | [], [] => by simp [sameAll]
  | [], y :: ys => by simp [sameAll]
  | x :: xs, [] => by simp [sameAll]
  | x :: xs, y :: ys => by simp [sameAll, h x y, sm_all h xs ys]
theorem sm_nd {P : α → Prop} (h : ∀ x, P x → noDict (ea x) = true) : ∀ xs : List α, (∀ x ∈ xs, P x) → noDictAll (xs.map ea) = true
  | [], _ => by simp [noDictAll]
  | x :: xs, k => by simp [noDictAll, h x (k x List.mem_cons_self), sm_nd h xs fun y hy => k y (List.mem_cons_of_mem _ hy)]
section
variable {δ ε : Type} {ec : γ → PyData} {ed : δ → PyData} {ee : ε → PyData} {n m k l j : Nat}
instance smL [o : SmE ea n] : SmE (eL ea) (n + 1) := ⟨fun l => l.length ≤ 16777216 ∧ ∀ x ∈ l, o.sz x, fun x h => by simp [noDict, h.1, sm_nd o.nd x h.2], fun xs => by have := okl_dep o.dep xs; simp [PyData.depth]; omega, fun x y => by simp only [same]; exact sm_all o.sm x y⟩
instance smT [o : SmE ea n] : SmE (eT ea) (n + 1) := ⟨fun l => l.length ≤ 16777216 ∧ ∀ x ∈ l, o.sz x, fun x h => by simp [noDict, h.1, sm_nd o.nd x h.2], fun xs => by have := okl_dep o.dep xs; simp [PyData.depth]; omega, fun x y => by simp only [same]; exact sm_all o.sm x y⟩
instance smP1 [o : SmE ea n] : SmE (eP1 ea) (n + 1) := ⟨fun x => o.sz x, fun x h => by simp [noDict, noDictAll, o.nd x h], fun x => by have := o.dep x; simp [PyData.depth, PyData.depthAll]; omega, fun x y => by simp [same, sameAll, o.sm]⟩
instance smP2 [o : SmE ea n] [o2 : SmE eb m] : SmE (eP2 ea eb) (n + m + 1) := ⟨fun x => o.sz x.1 ∧ o2.sz x.2, fun x h => by simp [noDict, noDictAll, o.nd _ h.1, o2.nd _ h.2], fun x => by have := o.dep x.1; have := o2.dep x.2; simp [PyData.depth, PyData.depthAll]; omega, fun x y => by obtain ⟨a, b⟩ := x; obtain ⟨c, d⟩ := y; simp [same, sameAll, o.sm, o2.sm]⟩
instance smP3 [o : SmE ea n] [o2 : SmE eb m] [o3 : SmE ec k] : SmE (eP3 ea eb ec) (n + m + k + 1) := ⟨fun x => o.sz x.1 ∧ o2.sz x.2.1 ∧ o3.sz x.2.2, fun x h => by simp [noDict, noDictAll, o.nd _ h.1, o2.nd _ h.2.1, o3.nd _ h.2.2], fun x => by have := o.dep x.1; have := o2.dep x.2.1; have := o3.dep x.2.2; simp [PyData.depth, PyData.depthAll]; omega, fun x y => by obtain ⟨a, b, c⟩ := x; obtain ⟨a', b', c'⟩ := y; simp [same, sameAll, o.sm, o2.sm, o3.sm]⟩
instance smP4 [o : SmE ea n] [o2 : SmE eb m] [o3 : SmE ec k] [o4 : SmE ed l] : SmE (eP4 ea eb ec ed) (n + m + k + l + 1) := ⟨fun x => o.sz x.1 ∧ o2.sz x.2.1 ∧ o3.sz x.2.2.1 ∧ o4.sz x.2.2.2, fun x h => by simp [noDict, noDictAll, o.nd _ h.1, o2.nd _ h.2.1, o3.nd _ h.2.2.1, o4.nd _ h.2.2.2], fun x => by have := o.dep x.1; have := o2.dep x.2.1; have := o3.dep x.2.2.1; have := o4.dep x.2.2.2; simp [PyData.depth, PyData.depthAll]; omega, fun x y => by obtain ⟨a, b, c, d⟩ := x; obtain ⟨a', b', c', d'⟩ := y; simp [same, sameAll, o.sm, o2.sm, o3.sm, o4.sm]⟩
instance smP5 [o : SmE ea n] [o2 : SmE eb m] [o3 : SmE ec k] [o4 : SmE ed l] [o5 : SmE ee j] : SmE (eP5 ea eb ec ed ee) (n + m + k + l + j + 1) := ⟨fun x => o.sz x.1 ∧ o2.sz x.2.1 ∧ o3.sz x.2.2.1 ∧ o4.sz x.2.2.2.1 ∧ o5.sz x.2.2.2.2, fun x h => by simp [noDict, noDictAll, o.nd _ h.1, o2.nd _ h.2.1, o3.nd _ h.2.2.1, o4.nd _ h.2.2.2.1, o5.nd _ h.2.2.2.2], fun x => by have := o.dep x.1; have := o2.dep x.2.1; have := o3.dep x.2.2.1; have := o4.dep x.2.2.2.1; have := o5.dep x.2.2.2.2; simp [PyData.depth, PyData.depthAll]; omega, fun x y => by obtain ⟨a, b, c, d, e⟩ := x; obtain ⟨a', b', c', d', e'⟩ := y; simp [same, sameAll, o.sm, o2.sm, o3.sm, o4.sm, o5.sm]⟩
instance smQ1 [o : SmE ea n] : SmE (eQ1 ea) (n + 1) := ⟨fun x => o.sz x, fun x h => by simp [noDict, noDictAll, o.nd x h], fun x => by have := o.dep x; simp [PyData.depth, PyData.depthAll]; omega, fun x y => by simp [same, sameAll, o.sm]⟩
instance smQ2 [o : SmE ea n] [o2 : SmE eb m] : SmE (eQ2 ea eb) (n + m + 1) := ⟨fun x => o.sz x.1 ∧ o2.sz x.2, fun x h => by simp [noDict, noDictAll, o.nd _ h.1, o2.nd _ h.2], fun x => by have := o.dep x.1; have := o2.dep x.2; simp [PyData.depth, PyData.depthAll]; omega, fun x y => by obtain ⟨a, b⟩ := x; obtain ⟨c, d⟩ := y; simp [same, sameAll, o.sm, o2.sm]⟩
instance smQ3 [o : SmE ea n] [o2 : SmE eb m] [o3 : SmE ec k] : SmE (eQ3 ea eb ec) (n + m + k + 1) := ⟨fun x => o.sz x.1 ∧ o2.sz x.2.1 ∧ o3.sz x.2.2, fun x h => by simp [noDict, noDictAll, o.nd _ h.1, o2.nd _ h.2.1, o3.nd _ h.2.2], fun x => by have := o.dep x.1; have := o2.dep x.2.1; have := o3.dep x.2.2; simp [PyData.depth, PyData.depthAll]; omega, fun x y => by obtain ⟨a, b, c⟩ := x; obtain ⟨a', b', c'⟩ := y; simp [same, sameAll, o.sm, o2.sm, o3.sm]⟩
instance smQ4 [o : SmE ea n] [o2 : SmE eb m] [o3 : SmE ec k] [o4 : SmE ed l] : SmE (eQ4 ea eb ec ed) (n + m + k + l + 1) := ⟨fun x => o.sz x.1 ∧ o2.sz x.2.1 ∧ o3.sz x.2.2.1 ∧ o4.sz x.2.2.2, fun x h => by simp [noDict, noDictAll, o.nd _ h.1, o2.nd _ h.2.1, o3.nd _ h.2.2.1, o4.nd _ h.2.2.2], fun x => by have := o.dep x.1; have := o2.dep x.2.1; have := o3.dep x.2.2.1; have := o4.dep x.2.2.2; simp [PyData.depth, PyData.depthAll]; omega, fun x y => by obtain ⟨a, b, c, d⟩ := x; obtain ⟨a', b', c', d'⟩ := y; simp [same, sameAll, o.sm, o2.sm, o3.sm, o4.sm]⟩
instance smQ5 [o : SmE ea n] [o2 : SmE eb m] [o3 : SmE ec k] [o4 : SmE ed l] [o5 : SmE ee j] : SmE (eQ5 ea eb ec ed ee) (n + m + k + l + j + 1) := ⟨fun x => o.sz x.1 ∧ o2.sz x.2.1 ∧ o3.sz x.2.2.1 ∧ o4.sz x.2.2.2.1 ∧ o5.sz x.2.2.2.2, fun x h => by simp [noDict, noDictAll, o.nd _ h.1, o2.nd _ h.2.1, o3.nd _ h.2.2.1, o4.nd _ h.2.2.2.1, o5.nd _ h.2.2.2.2], fun x => by have := o.dep x.1; have := o2.dep x.2.1; have := o3.dep x.2.2.1; have := o4.dep x.2.2.2.1; have := o5.dep x.2.2.2.2; simp [PyData.depth, PyData.depthAll]; omega, fun x y => by obtain ⟨a, b, c, d, e⟩ := x; obtain ⟨a', b', c', d', e'⟩ := y; simp [same, sameAll, o.sm, o2.sm, o3.sm, o4.sm, o5.sm]⟩
theorem same_none_l {d : PyData} (h : isNon d = false) : same .none d = false := by cases d <;> simp [same, isNon] at *
instance smO [o : SmE ea n] [q : NnE ea] : SmE (eO ea) n := ⟨fun x => match x with | none => True | some y => o.sz y, fun x h => by cases x with | none => rfl | some y => exact o.nd y h, fun x => by cases x with | none => simp [PyData.depth] | some y => exact o.dep y, fun x y => by
  cases x with
  | none => cases y with
    | none => simp [same, isNon]
    | some y => exact ⟨fun h => (by rw [show same (eO ea none) (eO ea (some y)) = false from same_none_l (q.nn y)] at h; cases h), fun h => nomatch h⟩
  | some x => cases y with
    | none => have := q.nn x; simp [same, this]
    | some y => simp [o.sm]⟩
theorem c0_sameE [o : SmE ea n] [DecidableEq α] (h : n ≤ 40) {x y : α} : CA F_l_same [ea x, ea y] eB (wg (o.sz y) (decide (x = y))) := fun Q ⟨hs, hq⟩ => ⟨decide (x = y), by
  show (if (ea y).depth ≤ 40 ∧ noDict (ea y) = true then some (PyData.bool (same (ea x) (ea y)), _) else none) = _
  rw [if_pos ⟨Nat.le_trans (o.dep y) h, o.nd y hs⟩]
  have : same (ea x) (ea y) = decide (x = y) := by
    have := o.sm x y
    by_cases q : x = y
    · rw [decide_eq_true q]; exact this.mpr q
    · rw [decide_eq_false q]; exact Bool.eq_false_iff.mpr fun z => q (this.mp z)
  rw [this], hq⟩
end
/-! comprehensions over two names -/
def compK2 (vs : List Nat) (g : PyData → En → Option En) (c : M Bool) (vs1 : List Nat) (di1 : M (List PyData)) (g1 : PyData → En → Option En) (c1 : M Bool) (el : M PyData) : List PyData → M PyData :=
  fun items => fun e0 => if okW e0 vs = true then (compGo2 vs g c vs1 di1 g1 c1 el items e0).bind fun r => if r.1.length ≤ 16777216 then some (.list r.1, restore r.2 e0 vs) else none else none
theorem rg_dcomp2 {enc : α → PyData} {vs di g c vs1 di1 g1 c1 el} {w : Wp α} (h : RG I enc (bnd di (compK2 vs g c vs1 di1 g1 c1 el)) E w) : RG I enc (dComp2 vs di g c vs1 di1 g1 c1 el) E w := h
theorem dComp2_eq {vs di g c vs1 di1 g1 c1 el} : dComp2 vs di g c vs1 di1 g1 c1 el = bnd di (compK2 vs g c vs1 di1 g1 c1 el) := rfl
def wfm2 {δ : Type} (c : α → Wp Bool) (h : α → Wp (List δ)) (c1 : α → δ → Wp Bool) (f : α → δ → Wp β) : List α → Wp (List β)
  | [] => wret []
  | x :: xs => wbind (c x) fun t => if t = true then wbind (h x) fun m => wbind (wfm (c1 x) (f x) m) fun r => wbind (wfm2 c h c1 f xs) fun rs => wret (r ++ rs) else wfm2 c h c1 f xs
theorem rg_comp2 {δ : Type} {ed : δ → PyData} {vs vs1 : List Nat} {g g1} {cc cc1 : M Bool} {di1 : M (List PyData)} {el : M PyData} {l : List α} {wc : α → Wp Bool} {wh : α → Wp (List δ)} {wc1 : α → δ → Wp Bool} {we : α → δ → Wp β} (S : α → PyData → En) (S1 : α → δ → PyData → En)
    (ok : ∀ p, okW (E p) vs = true) (hr : ∀ p p', vs.map (E p).at = vs.map (E p').at)
    (hg : ∀ x p, g (ea x) (wipeE (E p) vs) = some (S x p)) (hs : ∀ x p, okW (S x p) vs = true) (hw : ∀ x p, wipeE (S x p) vs = wipeE (E p) vs) (hs1 : ∀ x p, okW (S x p) vs1 = true)
    (hg1 : ∀ x z p, g1 (ed z) (wipeE (S x p) vs1) = some (S1 x z p)) (hs2 : ∀ x z p, okW (S1 x z p) vs1 = true) (hs3 : ∀ x z p, okW (S1 x z p) vs = true) (hw1 : ∀ x z p, wipeE (S1 x z p) vs1 = wipeE (S x p) vs1) (hw2 : ∀ x z p, wipeE (S1 x z p) vs = wipeE (E p) vs)
    (hc : ∀ x, RG I id cc (S x) (wc x)) (hd : ∀ x, RG I (List.map ed) di1 (S x) (wh x)) (hc1 : ∀ x z, RG I id cc1 (S1 x z) (wc1 x z)) (he : ∀ x z, RG I eb el (S1 x z) (we x z)) :
    RG I (eL eb) (compK2 vs g cc vs1 di1 g1 cc1 el (l.map ea)) E (wbind (wfm2 wc wh wc1 we l) fun r => wg (r.length ≤ 16777216) r) := by
  -- the inner run
  have inner : ∀ (x : α) (m : List δ) (e : En) (p : PyData) (Q : List β → Prop), wipeE e vs1 = wipeE (S x p) vs1 → (okW e vs = true ∧ wipeE e vs = wipeE (E p) vs) → I p → wfm (wc1 x) (we x) m Q → ∃ r e' p', compGo vs1 g1 cc1 el (m.map ed) e = some (r.map eb, e') ∧ (okW e' vs = true ∧ wipeE e' vs = wipeE (E p') vs) ∧ I p' ∧ Q r := by
    intro x m
    induction m with
    | nil => intro e p Q h1 h2 hp hq; exact ⟨[], e, p, rfl, h2, hp, hq⟩
    | cons z zs ih =>
      intro e p Q h1 h2 hp hq
      unfold wfm at hq
      obtain ⟨t, p1, q1, hp1, hq1⟩ := hc1 x z p _ hp hq
      simp only [List.map_cons, compGo]
      rw [h1, hg1]
      show ∃ r e' p', (cc1 (S1 x z p)).bind _ = _ ∧ _
      rw [q1]
      show ∃ r e' p', (if t = true then _ else _) = _ ∧ _
      cases t with
      | true =>
        rw [if_pos rfl] at hq1
        obtain ⟨y, p2, q2, hp2, hq2⟩ := he x z p1 _ hp1 hq1
        obtain ⟨r, e', p3, q3, h3, hp3, hq3⟩ := ih (S1 x z p2) p2 _ (hw1 x z p2) ⟨hs3 x z p2, hw2 x z p2⟩ hp2 hq2
        refine ⟨y :: r, e', p3, ?_, h3, hp3, hq3⟩
        rw [if_pos rfl, show (id true, S1 x z p1).2 = S1 x z p1 from rfl, q2]
        show (if okW (S1 x z p2) vs1 = true then _ else _) = _
        rw [if_pos (hs2 x z p2), q3]; rfl
      | false =>
        rw [if_neg (by simp)] at hq1
        obtain ⟨r, e', p3, q3, h3, hp3, hq3⟩ := ih (S1 x z p1) p1 _ (hw1 x z p1) ⟨hs3 x z p1, hw2 x z p1⟩ hp1 hq1
        refine ⟨r, e', p3, ?_, h3, hp3, hq3⟩
        rw [if_neg (by simp)]
        show (if okW (S1 x z p1) vs1 = true then _ else _) = _
        rw [if_pos (hs2 x z p1), q3]
  have main : ∀ (l : List α) (e : En) (p : PyData) (Q : List β → Prop), wipeE e vs = wipeE (E p) vs → I p → wfm2 wc wh wc1 we l Q → ∃ r e' p', compGo2 vs g cc vs1 di1 g1 cc1 el (l.map ea) e = some (r.map eb, e') ∧ wipeE e' vs = wipeE (E p') vs ∧ I p' ∧ Q r := by
    intro l
    induction l with
    | nil => intro e p Q h1 hp hq; exact ⟨[], e, p, rfl, h1, hp, hq⟩
    | cons x xs ih =>
      intro e p Q h1 hp hq
      unfold wfm2 at hq
      obtain ⟨t, p1, q1, hp1, hq1⟩ := hc x p _ hp hq
      simp only [List.map_cons, compGo2]
      rw [h1, hg]
      show ∃ r e' p', (cc (S x p)).bind _ = _ ∧ _
      rw [q1]
      show ∃ r e' p', (if t = true then _ else _) = _ ∧ _
      cases t with
      | true =>
        rw [if_pos rfl] at hq1
        obtain ⟨m, p2, q2, hp2, hq2⟩ := hd x p1 _ hp1 hq1
        obtain ⟨ri, ei, p3, q3, ⟨h3, h4⟩, hp3, hq3⟩ := inner x m (S x p2) p2 _ rfl ⟨hs x p2, hw x p2⟩ hp2 hq2
        obtain ⟨r, e', p4, q4, h5, hp4, hq4⟩ := ih ei p3 _ h4 hp3 hq3
        refine ⟨ri ++ r, e', p4, ?_, h5, hp4, hq4⟩
        rw [if_pos rfl, show (id true, S x p1).2 = S x p1 from rfl, q2]
        show (if okW (S x p2) vs1 = true then _ else _) = _
        rw [if_pos (hs1 x p2), q3]
        show (if okW ei vs = true then _ else _) = _
        rw [if_pos h3, q4, List.map_append]; rfl
      | false =>
        rw [if_neg (by simp)] at hq1
        obtain ⟨r, e', p3, q3, h3, hp3, hq3⟩ := ih (S x p1) p1 _ (hw x p1) hp1 hq1
        refine ⟨r, e', p3, ?_, h3, hp3, hq3⟩
        rw [if_neg (by simp)]
        show (if okW (S x p1) vs = true then _ else _) = _
        rw [if_pos (hs x p1), q3]
  intro p Q hp hq
  obtain ⟨r, e', p', q, h1, hp', hlen, hq'⟩ := main l (E p) p _ rfl hp hq
  refine ⟨r, p', ?_, hp', hq'⟩
  unfold compK2
  rw [if_pos (ok p), q]
  show (if (r.map eb).length ≤ 16777216 then some (PyData.list (r.map eb), restore e' (E p) vs) else none) = _
  rw [List.length_map, if_pos hlen]
  have : restore e' (E p) vs = E p' := by
    have : restore e' (E p) vs = restore e' (E p') vs := by
      have gen : ∀ ws : List Nat, ws.map (E p).at = ws.map (E p').at → restore e' (E p) ws = restore e' (E p') ws := by
        intro ws
        induction ws with
        | nil => intro _; rfl
        | cons v ws ih => intro h; simp only [List.map_cons, List.cons.injEq] at h; unfold restore; rw [h.1, ih h.2]
      exact gen vs (hr p p')
    rw [this]; exact restore_wipe h1
  rw [this]
/-! one of several -/
def wpick {α : Type} (l : List α) : Wp α := wbind (wdraw (l.length : Int)) fun i => wo (atI l i)
theorem c1_pickL {l : List α} : CP F_l_pick [eL ea l] ea (wpick l) := by
  refine cp_body (d := d_l_pick) ?_
  unfold d_l_pick wpick
  show RS _ _ (fun p => [.lent p, .val (eL ea l)]) _ _
  refine rs_retI (ea := ea) (rg_bt (rg_var (ea := eL ea) (x := l) fun _ => rfl) (rg_bp (ea := eI) (rg_call (rg_cp (fun _ => rfl) (rg_cv (rg_bt (ea := eI) (x := (l.length : Int)) (rg_bt (rg_var (ea := eL ea) (x := l) fun _ => rfl) r_lenL) (rg_cnil (rg_c1 c1_draw rfl (fun _ => rfl) (fun _ _ => rfl))))))) fun i => r_ixL)) fun x p hp => ⟨.inl rfl, p, hp, rfl⟩
theorem c1_pickT {l : List α} : CP F_l_pick [eT ea l] ea (wpick l) := by
  refine cp_body (d := d_l_pick) ?_
  unfold d_l_pick wpick
  show RS _ _ (fun p => [.lent p, .val (eT ea l)]) _ _
  refine rs_retI (ea := ea) (rg_bt (rg_var (ea := eT ea) (x := l) fun _ => rfl) (rg_bp (ea := eI) (rg_call (rg_cp (fun _ => rfl) (rg_cv (rg_bt (ea := eI) (x := (l.length : Int)) (rg_bt (rg_var (ea := eT ea) (x := l) fun _ => rfl) r_lenT) (rg_cnil (rg_c1 c1_draw rfl (fun _ => rfl) (fun _ _ => rfl))))))) fun i => r_ixT)) fun x p hp => ⟨.inl rfl, p, hp, rfl⟩
/-! a new object as last argument -/
def callFK (F : FS) (args : List Ag) (z : PyData) : M PyData := fun env => if ndB (pls args) = true then (F (mkA env args ++ [.lent z])).map fun p => (p.1, putB env args p.2) else none
def CN (F : FS) (as : List PyData) (z : PyData) (ea : α → PyData) (w : Wp α) : Prop := ∀ Q, w Q → ∃ r s', F (as.map .val ++ [.lent z]) = some (ea r, as.map .val ++ [.lent s']) ∧ Q r
theorem putB_vals2 {s' : Sl} : ∀ (e : En) (as : List PyData), putB e (as.map .v) (as.map .val ++ [s']) = e
  | e, [] => by cases s' <;> rfl
  | e, a :: as => by show putB e (as.map .v) (as.map .val ++ [s']) = e; exact putB_vals2 e as
theorem rg_callF {enc : α → PyData} {F : FS} {da : M (List Ag)} {dz : M PyData} {w : Wp α} (h : RG I enc (bnd da fun args => bnd dz fun z => callFK F args z) E w) : RG I enc (dCallF F da dz) E w := h
theorem rg_newT {δ : Type} {enc : δ → PyData} {K : PyData → M PyData} {w : Wp δ} (h : RG I enc (K (.dict [(.none, .none)])) E w) : RG I enc (bnd dNewT K) E w := h
theorem rg_newK {δ : Type} {enc : δ → PyData} {K : PyData → M PyData} {w : Wp δ} (h : RG I enc (K (.dict [])) E w) : RG I enc (bnd dNewK K) E w := h
theorem rg_cn {F : FS} {as : List PyData} {ags : List Ag} {z : PyData} {w : Wp α} (h : CN F as z ea w) (e : ags = as.map .v) : RG I ea (callFK F ags z) E w := fun p Q hp hw => by
  obtain ⟨r, s', q, hq⟩ := h Q hw
  subst e
  refine ⟨r, p, ?_, hp, hq⟩
  unfold callFK
  rw [pls_vals, if_pos (show ndB [] = true from rfl), mkA_vals, q]
  show some (ea r, putB _ _ _) = _
  rw [putB_vals2]
def dnL (i : Int) (n : Nat) : List Int := (List.range n).map fun k => i - (k : Nat)
theorem dn_map (i : Int) (n : Nat) : dnTo i n = (dnL i n).map eI := by unfold dnTo dnL; rw [List.map_map]; rfl
def okR3 (i j : Int) : Prop := (-1000000 ≤ i ∧ i ≤ 1000000) ∧ (-1000000 ≤ j ∧ j ≤ 1000000)
theorem r_iR3 {i j : Int} : RG I (List.map eI) (lft (fRg3 (eI i) (eI j))) E (wg (okR3 i j) (dnL i (i - j).toNat)) := rg_wg fun h => by
  show rg3 i j = _
  unfold okR3 at h
  unfold rg3; rw [if_pos h, dn_map]
def wfail {α} : Wp α := fun _ => False
theorem rs_nev {β : Type} {D : M Fl} {post : β → Fl → En → Prop} : RS I (sSeq sNev D) E wfail post := fun p Q hp hw => hw.elim
theorem rs_nev1 {β : Type} {post : β → Fl → En → Prop} : RS I sNev E wfail post := fun p Q hp hw => hw.elim
/-! what is owned, read or given away -/
theorem rg_ow {i : Nat} {x : α} (h : ∀ p, (E p).at i = .own (ea x)) : RG I ea (dOw i) E (wret x) := fun p Q hp hw => ⟨x, p, by unfold dOw; rw [h], hp, hw⟩
theorem rg_ov {i : Nat} {x : α} (h : ∀ p, (E p).at i = .val (ea x)) : RG I ea (dOw i) E (wret x) := fun p Q hp hw => ⟨x, p, by unfold dOw; rw [h], hp, hw⟩
theorem rs_fz {β : Type} {i : Nat} {x : PyData} {d D : M Fl} {w : Wp β} {post : β → Fl → En → Prop} (h : ∀ p, (E p).at i = .own x) (k : RS I (sSeq d D) (fun p => (E p).set i (.val x)) w post) : RS I (sSeq (sFz i d) D) E w post := fun p Q hp hw => by
  obtain ⟨fl, y, e', q, r⟩ := k p Q hp hw
  refine ⟨fl, y, e', ?_, r⟩
  rw [← q]
  unfold sSeq bnd sFz frzE; rw [h]
theorem rs_fzV {β : Type} {i : Nat} {x : PyData} {d D : M Fl} {w : Wp β} {post : β → Fl → En → Prop} (h : ∀ p, (E p).at i = .val x) (k : RS I (sSeq d D) E w post) : RS I (sSeq (sFz i d) D) E w post := fun p Q hp hw => by
  obtain ⟨fl, y, e', q, r⟩ := k p Q hp hw
  refine ⟨fl, y, e', ?_, r⟩
  rw [← q]
  unfold sSeq bnd sFz frzE; rw [h]
theorem rs_fz1 {β : Type} {i : Nat} {x : PyData} {d : M Fl} {w : Wp β} {post : β → Fl → En → Prop} (h : ∀ p, (E p).at i = .own x) (k : RS I d (fun p => (E p).set i (.val x)) w post) : RS I (sFz i d) E w post := fun p Q hp hw => by
  obtain ⟨fl, y, e', q, r⟩ := k p Q hp hw
  refine ⟨fl, y, e', ?_, r⟩
  rw [← q]
  unfold sFz frzE; rw [h]
theorem rs_fzV1 {β : Type} {i : Nat} {x : PyData} {d : M Fl} {w : Wp β} {post : β → Fl → En → Prop} (h : ∀ p, (E p).at i = .val x) (k : RS I d E w post) : RS I (sFz i d) E w post := fun p Q hp hw => by
  obtain ⟨fl, y, e', q, r⟩ := k p Q hp hw
  refine ⟨fl, y, e', ?_, r⟩
  rw [← q]
  unfold sFz frzE; rw [h]
/-! sorted(set(..)) of triples of ints -/
def f3 (x : Int × Int × Int) : List Int := [x.1, x.2.1, x.2.2]
def u3 : List Int → Int × Int × Int | [a, b, c] => (a, b, c) | _ => (0, 0, 0)
theorem u3_f3 (x : Int × Int × Int) : u3 (f3 x) = x := rfl
/-- the triples, each once, in their order -/
def srt3 (l : List (Int × Int × Int)) : List (Int × Int × Int) := (srtT (l.map f3)).map u3
theorem rows3 : ∀ l : List (Int × Int × Int), rowsOfD (l.map (eP3 eI eI eI)) = some (l.map f3)
  | [] => rfl
  | x :: l => by
    show (intsOf [.int x.1, .int x.2.1, .int x.2.2]).bind (fun is => (rowsOfD (l.map (eP3 eI eI eI))).map (is :: ·)) = _
    rw [rows3 l]; rfl
theorem srt3_f3 (l : List (Int × Int × Int)) : (srt3 l).map f3 = srtT (l.map f3) := by
  unfold srt3
  rw [List.map_map]
  conv => rhs; rw [← List.map_id (srtT (l.map f3))]
  refine List.map_congr_left fun r hr => ?_
  obtain ⟨x, _, rfl⟩ := List.mem_map.mp (srtT_mem.mp hr)
  rfl
theorem r_ss3 {l : List (Int × Int × Int)} : RG I (eL (eP3 eI eI eI)) (lft (fSST (eL (eP3 eI eI eI) l))) E (wg (l.length < 64) (srt3 l)) := rg_wg fun h => by
  show (rowsOfD (l.map (eP3 eI eI eI))).bind _ = _
  rw [rows3]
  show (if okRows (l.map f3) then some (PyData.list ((srtT (l.map f3)).map tI)) else none) = _
  rw [if_pos ⟨by rw [List.length_map]; exact h, fun r hr => by obtain ⟨x, _, rfl⟩ := List.mem_map.mp hr; exact List.cons_ne_nil _ _⟩, ← srt3_f3, List.map_map]; rfl
theorem srt3_mem {l : List (Int × Int × Int)} {x} : x ∈ srt3 l ↔ x ∈ l := by
  unfold srt3
  constructor
  · intro h
    obtain ⟨r, hr, rfl⟩ := List.mem_map.mp h
    obtain ⟨y, hy, rfl⟩ := List.mem_map.mp (srtT_mem.mp hr)
    exact hy
  · intro h; exact List.mem_map.mpr ⟨f3 x, srtT_mem.mpr (List.mem_map.mpr ⟨x, h, rfl⟩), rfl⟩
/-! a dict of the law's own, of which nothing is told -/
def fstP : PyData → PyData | .tuple [a, _] => a | x => x
def sndP : PyData → PyData | .tuple [_, b] => b | x => x
def I2 (K : PyData → Prop) (p : PyData) : Prop := ∃ a b, p = .tuple [a, b] ∧ Pok a ∧ K b
theorem i2_pok {K : PyData → Prop} {p : PyData} (h : I2 K p) : Pok (fstP p) := by
  obtain ⟨a, b, rfl, h, _⟩ := h; exact h
theorem rs_hid {β : Type} {K : PyData → Prop} {i : Nat} {z : PyData} {D : M Fl} {E : PyData → En} {w : Wp β} {post : β → Fl → En → Prop} (hz : K z) (n : ∀ p, NL ((E p).at i)) (k : RS (I2 K) D (fun p => (E (fstP p)).set i (.own (sndP p))) w post) : RS Pok (sSeq (sOwn i (ret z)) D) E w post := fun p Q hp hw => by
  obtain ⟨fl, x, e', q, r⟩ := k (.tuple [p, z]) Q ⟨p, z, rfl, hp, hz⟩ hw
  refine ⟨fl, x, e', ?_, r⟩
  rw [seq_of (e1 := (E p).set i (.own z))]
  · exact q
  · unfold sOwn bnd
    show (En.put (E p) i (.own z)).map _ = _
    rw [put_nl (n p)]; rfl
theorem rg_c1H {K : PyData → Prop} {F : FS} {as : List PyData} {ags : List Ag} {i : Nat} {w : Wp α} {E : PyData → En} (h : CP F as ea w) (e : ags = .p i :: as.map .v) (ho : ∀ a b, (E (.tuple [a, b])).obj i = some a) (hm : ∀ a b a', (E (.tuple [a, b])).mut i a' = E (.tuple [a', b])) : RG (I2 K) ea (callK F ags) E w := fun p Q hp hw => by
  obtain ⟨a, b, rfl, ha, hb⟩ := hp
  obtain ⟨r, a', q, ha', hq⟩ := h a Q ha hw
  subst e
  refine ⟨r, .tuple [a', b], ?_, ⟨a', b, rfl, ha', hb⟩, hq⟩
  unfold callK
  show (if (!(pls (as.map .v)).contains i && ndB (pls (as.map .v))) = true then _ else _) = _
  rw [pls_vals, if_pos (show (!([] : List Nat).contains i && ndB []) = true from rfl)]
  show (F ((match (E (.tuple [a, b])).obj i with | some d => .lent d | none => .no) :: mkA (E (.tuple [a, b])) (as.map .v))).map _ = _
  rw [ho, mkA_vals]
  show (F (.lent a :: as.map .val)).map _ = _
  rw [q]
  show some (ea r, putB ((E (.tuple [a, b])).mut i a') (as.map .v) (as.map .val)) = _
  rw [putB_vals, hm]
theorem rg_ddisp {enc : α → PyData} {ks : List Str} {dv : M (List PyData)} {E : PyData → En} {w : Wp α} (h : RG I enc (bnd dv fun vs => ret (.dict ((ks.map PyData.str).zip vs))) E w) : RG I enc (dDisp ks dv) E w := h
/-- repr -/
theorem r_repr {E : PyData → En} {x : PyData} : RG I eD (lft (fRepr x)) E (wo (fRepr x)) := rg_wo fun _ h => h
end
end SL

set_option Elab.async false
set_option linter.all false
set_option maxRecDepth 100000
set_option maxHeartbeats 4000000
/-! TX4: reasoning about typed programs. -/
namespace SL
open PySem PySem.Spec PyProof.Rows L2
/-- whatever is drawn: w comes to an end with P -/
def All {α} (w : Wp α) (P : α → Prop) : Prop := ∀ Q : α → Prop, (∀ x, P x → Q x) → w Q
section
variable {α β σ ρ : Type}
theorem all_ret {x : α} {P : α → Prop} (h : P x) : All (wret x) P := fun Q k => k x h
theorem all_bind {w : Wp α} {f : α → Wp β} {R : β → Prop} (P : α → Prop) (h : All w P) (k : ∀ x, P x → All (f x) R) : All (wbind w f) R := fun Q q => h _ fun x hx => k x hx Q q
theorem all_mono {w : Wp α} {P R : α → Prop} (h : All w P) (k : ∀ x, P x → R x) : All w R := fun Q q => h Q fun x hx => q x (k x hx)
theorem all_draw {m : Int} (h0 : 0 < m) (h1 : m < 1073741824) : All (wdraw m) fun r => 0 ≤ r ∧ r < m := fun Q q => ⟨⟨h0, h1⟩, fun r a b => q r ⟨a, b⟩⟩
theorem all_drawB {m : Int} {f : Int → Wp β} {R : β → Prop} (h0 : 0 < m) (h1 : m < 1073741824) (k : ∀ r, 0 ≤ r → r < m → All (f r) R) : All (wbind (wdraw m) f) R := all_bind _ (all_draw h0 h1) fun x hx => k x hx.1 hx.2
theorem all_wg {c : Prop} {x : α} {P : α → Prop} (h : c) (k : P x) : All (wg c x) P := fun Q q => ⟨h, q x k⟩
theorem all_wgB {c : Prop} {x : α} {f : α → Wp β} {R : β → Prop} (h : c) (k : All (f x) R) : All (wbind (wg c x) f) R := fun Q q => ⟨h, k Q q⟩
theorem all_wo {o : Option α} {x : α} {P : α → Prop} (h : o = some x) (k : P x) : All (wo o) P := fun Q q => ⟨x, h, q x k⟩
theorem all_woB {o : Option α} {x : α} {f : α → Wp β} {R : β → Prop} (h : o = some x) (k : All (f x) R) : All (wbind (wo o) f) R := fun Q q => ⟨x, h, k Q q⟩
theorem all_eqB {w : Wp α} {x : α} {f : α → Wp β} {R : β → Prop} (h : w = wret x) (k : All (f x) R) : All (wbind w f) R := by subst h; exact k
theorem all_eq {w : Wp α} {x : α} {P : α → Prop} (h : w = wret x) (k : P x) : All w P := by subst h; exact all_ret k
theorem all_if {t : Bool} {w1 w2 : Wp α} {P : α → Prop} (h1 : t = true → All w1 P) (h2 : t = false → All w2 P) : All (if t = true then w1 else w2) P := by
  cases t
  · simpa using h2 rfl
  · simpa using h1 rfl
theorem all_wmap {f : α → Wp β} (P : β → Prop) : ∀ (l : List α), (∀ x ∈ l, All (f x) P) → All (wmap f l) fun ys => ys.length = l.length ∧ ∀ y ∈ ys, P y
  | [], _ => all_ret ⟨rfl, fun y hy => by cases hy⟩
  | x :: xs, h => all_bind P (h x List.mem_cons_self) fun y hy => all_bind _ (all_wmap P xs fun z hz => h z (List.mem_cons_of_mem _ hz)) fun ys hys => all_ret ⟨by simp [hys.1], fun z hz => (List.mem_cons.mp hz).elim (fun e => e ▸ hy) fun hz => hys.2 z hz⟩
theorem all_wfm {c : α → Wp Bool} {f : α → Wp β} (P : β → Prop) : ∀ (l : List α), (∀ x ∈ l, All (c x) fun _ => True) → (∀ x ∈ l, All (f x) P) → All (wfm c f l) fun ys => ys.length ≤ l.length ∧ ∀ y ∈ ys, P y
  | [], _, _ => all_ret ⟨Nat.le_refl _, fun y hy => by cases hy⟩
  | x :: xs, hc, h => all_bind _ (hc x List.mem_cons_self) fun t _ => by
    have ih := all_wfm P xs (fun z hz => hc z (List.mem_cons_of_mem _ hz)) fun z hz => h z (List.mem_cons_of_mem _ hz)
    exact all_if (fun _ => all_bind P (h x List.mem_cons_self) fun y hy => all_bind _ ih fun ys hys => all_ret ⟨by simp; exact hys.1, fun z hz => (List.mem_cons.mp hz).elim (fun e => e ▸ hy) fun hz => hys.2 z hz⟩)
      fun _ => all_mono ih fun ys hys => ⟨by simp; omega, hys.2⟩
theorem all_fold {f : σ → α → Wp σ} (I : List α → σ → Prop) : ∀ (l : List α) (s : σ), I l s → (∀ x xs s, I (x :: xs) s → All (f s x) (I xs)) → All (wfold f l s) (I [])
  | [], s, h, _ => all_ret h
  | x :: xs, s, h, k => all_bind _ (k x xs s h) fun s' hs' => all_fold I xs s' hs' k
/-- a loop that always goes on -/
theorem all_foldX {f : σ → α → Wp (St σ ρ)} (I : List α → σ → Prop) : ∀ (l : List α) (s : σ), I l s → (∀ x xs s, I (x :: xs) s → All (f s x) fun r => ∃ s', r = .go s' ∧ I xs s') → All (wfoldX f l s) fun r => ∃ s', r = .nx s' ∧ I [] s'
  | [], s, h, _ => all_ret ⟨s, rfl, h⟩
  | x :: xs, s, h, k => all_bind _ (k x xs s h) fun r ⟨s', e, hs'⟩ => by subst e; exact all_foldX I xs s' hs' k
theorem all_onX {f : σ → α → Wp (St σ ρ)} {k : σ → Wp β} {kr : ρ → Wp β} {R : β → Prop} (I : List α → σ → Prop) {l : List α} {s : σ} (h : I l s) (hb : ∀ x xs s, I (x :: xs) s → All (f s x) fun r => ∃ s', r = .go s' ∧ I xs s') (hk : ∀ s, I [] s → All (k s) R) : All (wbind (wfoldX f l s) (onR k kr)) R :=
  all_bind _ (all_foldX I l s h hb) fun r ⟨s', e, hs'⟩ => by subst e; exact hk s' hs'
theorem all_wfoldX {f : σ → α → Wp (St σ ρ)} {R : Rt σ ρ → Prop} (I : List α → σ → Prop) : ∀ (l : List α) (s : σ), I l s → (∀ x xs s, I (x :: xs) s → All (f s x) fun r => match r with | .go s' => I xs s' | .stop s' => R (.nx s') | .ret r => R (.ret r)) → (∀ s, I [] s → R (.nx s)) → All (wfoldX f l s) R
  | [], s, h, _, k => all_ret (k s h)
  | x :: xs, s, h, hb, k => all_bind _ (hb x xs s h) fun r hr => by
    cases r with
    | go s' => exact all_wfoldX I xs s' hr hb k
    | stop s' => exact all_ret hr
    | ret r => exact all_ret hr
/-- the law's loops: nothing is kept, every turn goes on -/
theorem all_turns {f : Unit → α → Wp (St Unit ρ)} {k : Unit → Wp β} {kr : ρ → Wp β} {R : β → Prop} {l : List α} (hb : ∀ x ∈ l, All (f () x) fun r => r = .go ()) (hk : All (k ()) R) : All (wbind (wfoldX f l ()) (onR k kr)) R := by
  refine all_onX (fun l' _ => ∀ x ∈ l', x ∈ l) (fun _ h => h) (fun x xs s h => ?_) (fun _ _ => hk)
  exact all_mono (hb x (h x List.mem_cons_self)) fun r e => ⟨(), e, fun y hy => h y (List.mem_cons_of_mem _ hy)⟩
/-! values -/
theorem wfold_list {f : σ → α → Wp σ} (S : Nat → σ) : ∀ (l : List α) (i : Nat), (∀ k (h : k < l.length), f (S (i + k)) l[k] = wret (S (i + k + 1))) → wfold f l (S i) = wret (S (i + l.length))
  | [], i, _ => rfl
  | x :: xs, i, h => by
    unfold wfold
    rw [show f (S i) x = wret (S (i + 1)) from h 0 (Nat.zero_lt_succ _), wret_bind]
    have := wfold_list S xs (i + 1) fun k hk => by
      have := h (k + 1) (Nat.succ_lt_succ hk)
      rw [show i + (k + 1) = i + 1 + k by omega] at this
      exact this
    rw [this, List.length_cons, show i + 1 + xs.length = i + (xs.length + 1) by omega]
theorem rngL_length (i : Int) (n : Nat) : (rngL i n).length = n := by unfold rngL; simp
theorem rngL_get (i : Int) (n : Nat) {k : Nat} (h : k < (rngL i n).length) : (rngL i n)[k] = i + (k : Nat) := by simp [rngL]
theorem mem_rngL {i : Int} {n : Nat} {x : Int} : x ∈ rngL i n ↔ i ≤ x ∧ x < i + n := by
  unfold rngL
  simp only [List.mem_map, List.mem_range]
  constructor
  · rintro ⟨k, hk, rfl⟩; omega
  · intro h; exact ⟨(x - i).toNat, by omega, by omega⟩
theorem wfold_rng {f : σ → Int → Wp σ} (S : Nat → σ) (n : Nat) (h : ∀ k : Nat, k < n → f (S k) (k : Int) = wret (S (k + 1))) : wfold f (rngL 0 n) (S 0) = wret (S n) := by
  have := wfold_list (f := f) S (rngL 0 n) 0 fun k hk => by
    rw [rngL_get, Nat.zero_add, Int.zero_add]
    exact h k (by rwa [rngL_length] at hk)
  rw [this, rngL_length, Nat.zero_add]
theorem wfold_rngE {f : σ → Int → Wp σ} {s0 : σ} (S : Nat → σ) (n : Nat) (h0 : s0 = S 0) (h : ∀ k : Nat, k < n → f (S k) (k : Int) = wret (S (k + 1))) : wfold f (rngL 0 n) s0 = wret (S n) := by subst h0; exact wfold_rng S n h
theorem wmap_eq {f : α → Wp β} {g : α → β} {l : List α} (h : ∀ x ∈ l, f x = wret (g x)) : wmap f l = wret (l.map g) := by rw [wmap_congr h, wmap_t]
theorem wfm_eq {c : α → Wp Bool} {c' : α → Bool} {f : α → Wp β} {g : α → β} {l : List α} (h1 : ∀ x ∈ l, c x = wret (c' x)) (h2 : ∀ x ∈ l, f x = wret (g x)) : wfm c f l = wret ((l.filter c').map g) := by rw [wfm_congr fun x hx => ⟨h1 x hx, h2 x hx⟩, wfm_t]
theorem wfm2_eq {δ : Type} {c : α → Wp Bool} {h : α → Wp (List δ)} {c1 : α → δ → Wp Bool} {f : α → δ → Wp β} {c' : α → Bool} {h' : α → List δ} {c1' : α → δ → Bool} {g : α → δ → β} : ∀ {l : List α}, (∀ x ∈ l, c x = wret (c' x)) → (∀ x ∈ l, h x = wret (h' x)) → (∀ x ∈ l, ∀ z ∈ h' x, c1 x z = wret (c1' x z)) → (∀ x ∈ l, ∀ z ∈ h' x, f x z = wret (g x z)) →
    wfm2 c h c1 f l = wret ((l.filter c').flatMap fun x => ((h' x).filter (c1' x)).map (g x))
  | [], _, _, _, _ => rfl
  | x :: xs, a, b, d, e => by
    have ih := wfm2_eq (l := xs) (fun y hy => a y (List.mem_cons_of_mem _ hy)) (fun y hy => b y (List.mem_cons_of_mem _ hy)) (fun y hy => d y (List.mem_cons_of_mem _ hy)) (fun y hy => e y (List.mem_cons_of_mem _ hy))
    unfold wfm2
    rw [a x List.mem_cons_self, wret_bind, b x List.mem_cons_self, wret_bind, ih, wfm_eq (d x List.mem_cons_self) (e x List.mem_cons_self), wret_bind, wret_bind]
    cases q : c' x with
    | true => rw [if_pos rfl, List.filter_cons_of_pos q]; rfl
    | false => rw [if_neg (by simp), List.filter_cons_of_neg (by rw [q]; simp)]
theorem atI_ok {l : List α} {i : Nat} (h : i < l.length) : atI l (i : Int) = some l[i] := by
  rw [L2.atI_nat (v := l[i]) (List.getElem?_eq_getElem h)]
theorem atI_0 {x : α} {l : List α} : atI (x :: l) (0 : Int) = some x := atI_ok (l := x :: l) (i := 0) (Nat.zero_lt_succ _)
theorem okR_of {i j : Int} (h1 : -1000000000 ≤ i) (h2 : i ≤ 1000000000) (h3 : -1000000000 ≤ j) (h4 : j ≤ 1000000000) (h5 : j - i ≤ 16777216) : okR i j := by unfold okR; omega
theorem up_len : ∀ (l : List Int) (lo hi : Int), l.Pairwise (· < ·) → (∀ x ∈ l, lo ≤ x ∧ x < hi) → lo ≤ hi → (l.length : Int) ≤ hi - lo
  | [], lo, hi, _, _, h => by simp; omega
  | x :: xs, lo, hi, hp, hx, _ => by
    obtain ⟨h1, h2⟩ := List.pairwise_cons.mp hp
    have := hx x List.mem_cons_self
    have := up_len xs (x + 1) hi h2 (fun y hy => ⟨by have := h1 y hy; omega, (hx y (List.mem_cons_of_mem _ hy)).2⟩) (by omega)
    rw [List.length_cons]; omega
theorem okS_of {l : List Int} (lo hi : Int) (h : lo ≤ hi) (h2 : hi - lo < 64) (hl : l.length ≤ 4000) (hx : ∀ x ∈ l, lo ≤ x ∧ x < hi) : okS l := by
  refine ⟨hl, ?_⟩
  have := up_len (srtS l) lo hi (srtS_up l) (fun x m => hx x (srtS_mem.mp m)) h
  rw [srtS_len] at this; omega
theorem ltE_int (a b : Int) : ltE eI a b = decide (a < b) := PySem.W.dataLt_int a b
theorem minE_int : ∀ (x : Int) (xs : List Int), ∃ m, minE eI (x :: xs) = some m ∧ m ∈ x :: xs ∧ ∀ y ∈ x :: xs, m ≤ y
  | x, [] => ⟨x, rfl, List.mem_cons_self, fun y hy => by rw [List.mem_singleton.mp hy]; exact Int.le_refl _⟩
  | x, y :: ys => by
    show ∃ m, some ((y :: ys).foldl _ x) = some m ∧ _
    rw [List.foldl_cons, ltE_int]
    by_cases h : y < x
    · rw [decide_eq_true h, if_pos rfl]
      obtain ⟨m, h1, h2, h3⟩ := minE_int y ys
      exact ⟨m, h1, List.mem_cons_of_mem _ h2, fun z hz => (List.mem_cons.mp hz).elim (fun e => by have := h3 y List.mem_cons_self; omega) (h3 z)⟩
    · rw [decide_eq_false h, if_neg (by simp)]
      obtain ⟨m, h1, h2, h3⟩ := minE_int x ys
      refine ⟨m, h1, ?_, fun z hz => ?_⟩
      · rcases List.mem_cons.mp h2 with rfl | h2
        · exact List.mem_cons_self
        · exact List.mem_cons_of_mem _ (List.mem_cons_of_mem _ h2)
      · rcases List.mem_cons.mp hz with rfl | hz
        · exact h3 _ List.mem_cons_self
        rcases List.mem_cons.mp hz with rfl | hz
        · have := h3 x List.mem_cons_self; omega
        · exact h3 _ (List.mem_cons_of_mem _ hz)
theorem maxE_int : ∀ (x : Int) (xs : List Int), ∃ m, maxE eI (x :: xs) = some m ∧ m ∈ x :: xs ∧ ∀ y ∈ x :: xs, y ≤ m
  | x, [] => ⟨x, rfl, List.mem_cons_self, fun y hy => by rw [List.mem_singleton.mp hy]; exact Int.le_refl _⟩
  | x, y :: ys => by
    show ∃ m, some ((y :: ys).foldl _ x) = some m ∧ _
    rw [List.foldl_cons, ltE_int]
    by_cases h : x < y
    · rw [decide_eq_true h, if_pos rfl]
      obtain ⟨m, h1, h2, h3⟩ := maxE_int y ys
      exact ⟨m, h1, List.mem_cons_of_mem _ h2, fun z hz => (List.mem_cons.mp hz).elim (fun e => by have := h3 y List.mem_cons_self; omega) (h3 z)⟩
    · rw [decide_eq_false h, if_neg (by simp)]
      obtain ⟨m, h1, h2, h3⟩ := maxE_int x ys
      refine ⟨m, h1, ?_, fun z hz => ?_⟩
      · rcases List.mem_cons.mp h2 with rfl | h2
        · exact List.mem_cons_self
        · exact List.mem_cons_of_mem _ (List.mem_cons_of_mem _ h2)
      · rcases List.mem_cons.mp hz with rfl | hz
        · exact h3 _ List.mem_cons_self
        rcases List.mem_cons.mp hz with rfl | hz
        · have := h3 x List.mem_cons_self; omega
        · exact h3 _ (List.mem_cons_of_mem _ hz)
end
end SL

set_option Elab.async false
set_option linter.all false
set_option maxRecDepth 100000
set_option maxHeartbeats 4000000
/-! TX5: more typed rules: unpacking of values, zip, reversed. -/
namespace SL
open PySem PySem.Spec PyProof.Rows L2
section
variable {I : PyData → Prop} {α β γ δ : Type} {E : PyData → En}
theorem rg_un {ec : β → PyData} {d : M PyData} {w : Wp PyData} (f : PyData → Option β) (hf : ∀ x y, f x = some y → x = ec y) (h : RG I eD d E w) : RG I ec d E (wbind w fun x => wo (f x)) := fun p Q hp hw => by
  obtain ⟨x, p1, q1, hp1, y, hy, hq⟩ := h p _ hp hw
  have := hf x y hy
  subst this
  exact ⟨y, p1, q1, hp1, hq⟩
theorem rg_unt {ec : β → PyData} {d : M PyData} {x : PyData} (f : PyData → Option β) (hf : ∀ x y, f x = some y → x = ec y) (h : RG I eD d E (wret x)) : RG I ec d E (wo (f x)) := rg_un f hf h
def unD2 : PyData → Option (PyData × PyData) | .tuple [a, b] => some (a, b) | _ => none
def unD3 : PyData → Option (PyData × PyData × PyData) | .tuple [a, b, c] => some (a, b, c) | _ => none
def unD4 : PyData → Option (PyData × PyData × PyData × PyData) | .tuple [a, b, c, d] => some (a, b, c, d) | _ => none
def unD5 : PyData → Option (PyData × PyData × PyData × PyData × PyData) | .tuple [a, b, c, d, e] => some (a, b, c, d, e) | _ => none
theorem unD2_inv : ∀ x y, unD2 x = some y → x = eP2 eD eD y := fun x y h => by
  unfold unD2 at h; split at h
  · cases h; rfl
  · cases h
theorem unD3_inv : ∀ x y, unD3 x = some y → x = eP3 eD eD eD y := fun x y h => by
  unfold unD3 at h; split at h
  · cases h; rfl
  · cases h
theorem unD4_inv : ∀ x y, unD4 x = some y → x = eP4 eD eD eD eD y := fun x y h => by
  unfold unD4 at h; split at h
  · cases h; rfl
  · cases h
theorem unD5_inv : ∀ x y, unD5 x = some y → x = eP5 eD eD eD eD eD y := fun x y h => by
  unfold unD5 at h; split at h
  · cases h; rfl
  · cases h
theorem zip_enc {ea : α → PyData} {eb : β → PyData} : ∀ (xs : List α) (ys : List β), zipT (xs.map ea) (ys.map eb) = (xs.zip ys).map (eP2 ea eb)
  | [], ys => by cases ys <;> rfl
  | x :: xs, [] => rfl
  | x :: xs, y :: ys => by
    have := zip_enc (ea := ea) (eb := eb) xs ys
    unfold zipT at this ⊢
    rw [List.map_cons, List.map_cons, List.zip_cons_cons, List.map_cons, this, List.zip_cons_cons, List.map_cons]
theorem r_zipT {ea : α → PyData} {eb : β → PyData} {xs : List α} {ys : List β} : RG I (List.map (eP2 ea eb)) (lft (fZip (eT ea xs) (eT eb ys))) E (wret (xs.zip ys)) := rg_some (by show some (zipT _ _) = _; rw [zip_enc])
theorem r_zipL {ea : α → PyData} {eb : β → PyData} {xs : List α} {ys : List β} : RG I (List.map (eP2 ea eb)) (lft (fZip (eL ea xs) (eL eb ys))) E (wret (xs.zip ys)) := rg_some (by show some (zipT _ _) = _; rw [zip_enc])
theorem r_revT {ea : α → PyData} {xs : List α} : RG I (List.map ea) (lft (seqRev (eT ea xs))) E (wret xs.reverse) := rg_some (by show some (xs.map ea).reverse = _; rw [List.map_reverse])
theorem r_revL {ea : α → PyData} {xs : List α} : RG I (List.map ea) (lft (seqRev (eL ea xs))) E (wret xs.reverse) := rg_some (by show some (xs.map ea).reverse = _; rw [List.map_reverse])
theorem r_sortedT0 {ea : α → PyData} {n : Nat} [o : OkE ea n] [a : AlE ea] (h : n + 1 < 64) {l : List (List α)} : RG I (eL (eT ea)) (lft (fSorted (eL (eT ea) l))) E (wg (l.head? = some []) (sortE (eT ea) l)) := rg_wg (fun hne => by
  show (if (shp (eL (eT ea) l) && alikeB (l.map (eT ea)) && sortB (l.map (eT ea))) = true then some (PyData.list ((l.map (eT ea)).mergeSort dLe)) else none) = _
  rw [OkE.shp (ea := eL (eT ea)) (by omega) l, alikeB_of, show sortB (l.map (eT ea)) = true by
    unfold sortB
    cases l with
    | nil => cases hne
    | cons x r =>
      have hx : x = [] := Option.some.inj hne
      subst hx
      rw [show sort0B (([] :: r).map (eT ea)) = true from by
        show (r.map (eT ea)).all isTupB = true
        rw [List.all_map, List.all_eq_true]; exact fun _ _ => rfl, Bool.or_true]]
  refine (if_pos rfl).trans ?_
  unfold sortE
  rw [← List.map_mergeSort (r := fun a b => !ltE (eT ea) b a) (s := dLe) (f := eT ea) fun a _ b _ => rfl])
/-! walking a dict's keys -/
def keysD : PyData → Option (List PyData)
  | .dict ((.none, _) :: _) => none
  | .dict ps => if ps.length ≤ 16777216 then some (ps.map (·.1)) else none
  | _ => none
def strOf : PyData → Option Str | .str x => some x | _ => none
theorem strOf_inv : ∀ x y, strOf x = some y → x = eS y := fun x y h => by
  unfold strOf at h; split at h
  · cases h; rfl
  · cases h
def keysS (d : PyData) : Option (List Str) := (keysD d).bind fun l => l.mapM strOf
theorem mapM_strOf : ∀ {l : List PyData} {ss : List Str}, l.mapM strOf = some ss → l = ss.map eS
  | [], ss, h => by cases h; rfl
  | x :: l, ss, h => by
    rw [List.mapM_cons] at h
    cases q : strOf x with
    | none => rw [q] at h; cases h
    | some y =>
      rw [q] at h
      cases q2 : l.mapM strOf with
      | none => rw [q2] at h; cases h
      | some ys =>
        rw [q2] at h; cases h
        rw [strOf_inv _ _ q, mapM_strOf q2]; rfl
theorem iDV_of {i : Nat} {d : PyData} {e : En} {l : List PyData} (he : e.at i = .val d) (h : keysD d = some l) : iDV i e = some (l, e) := by
  unfold iDV
  rw [he]
  unfold keysD at h
  split at h
  · cases h
  · rename_i ps hn
    split at h
    · rename_i c
      cases h
      split
      · rename_i x l hx
        cases hx
        exact (hn _ _ rfl).elim
      · rename_i hx
        cases hx
        rw [if_pos c]
      · rename_i hx hy
        first | exact (hy _ rfl).elim | exact (hx _ rfl).elim
    · cases h
  · cases h
theorem rg_keysS {i : Nat} {d : PyData} (he : ∀ p, (E p).at i = .val (eD d)) : RG I (List.map eS) (iDV i) E (wo (keysS d)) := fun p Q hp ⟨ss, hs, hq⟩ => by
  unfold keysS at hs
  obtain ⟨l, hl, hm⟩ := Option.bind_eq_some_iff.mp hs
  refine ⟨ss, p, ?_, hp, hq⟩
  rw [iDV_of (he p) hl, mapM_strOf hm]
theorem rg_toS {d : M PyData} {w : Wp PyData} (h : RG I eD d E w) : RG I eS d E (wbind w fun x => wo (strOf x)) := rg_un strOf strOf_inv h
/-! texts of numbers; list * int -/
def sI (i : Int) : Str := toString i
theorem rg_jnil {acc : Str} : RG I eS (dJoin [] acc) E (wret acc) := rg_ret rfl
theorem rg_jcons {d : M PyData} {ds : List (M PyData)} {acc : Str} {w : Wp Str} {k : Str → Wp Str} (h : RG I eS d E w) (h2 : ∀ a, RG I eS (dJoin ds a) E (k a)) : RG I eS (dJoin (d :: ds) acc) E (wbind w fun y => wbind (wg ((acc ++ y).length ≤ 16777216) (acc ++ y)) k) := fun p Q hp hw => by
  obtain ⟨y, p1, q1, hp1, hc, hq⟩ := h p _ hp hw
  obtain ⟨z, p2, q2, hp2, hq2⟩ := h2 (acc ++ y) p1 Q hp1 hq
  refine ⟨z, p2, ?_, hp2, hq2⟩
  show (bnd d fun x => _) (E p) = _
  unfold bnd
  rw [q1]
  show (if (acc ++ y).length ≤ 16777216 then dJoin ds (acc ++ y) (E p1) else none) = _
  rw [if_pos hc]; exact q2
theorem rg_fmtI {d : M PyData} {w : Wp Int} (h : RG I eI d E w) : RG I eS (dFmt d) E (wbind w fun i => wg (i.natAbs < 2 ^ 1000) (sI i)) := rg_bp h fun i => rg_wg fun c => by
  show (if i.natAbs < 2 ^ 1000 then some (PyData.str (toString i)) else none) = _
  rw [if_pos c]; rfl
theorem rg_fmtS {d : M PyData} {w : Wp Str} (h : RG I eS d E w) : RG I eS (dFmt d) E (wbind w fun y => wg (y.length ≤ 16777216) y) := rg_bp h fun y => rg_wg fun c => by
  show (if y.length ≤ 16777216 then some (PyData.str y) else none) = _
  rw [if_pos c]
theorem r_strI {i : Int} : RG I eS (lft (fStrI (eI i))) E (wg (i.natAbs < 2 ^ 1000) (sI i)) := rg_wg fun c => by
  show (if i.natAbs < 2 ^ 1000 then some (PyData.str (toString i)) else none) = _
  rw [if_pos c]; rfl
theorem r_repL {ea : α → PyData} {l : List α} {k : Int} : RG I (eL ea) (lft (fRepL (eL ea l) (eI k))) E (wg (0 ≤ k ∧ k ≤ 1000 ∧ l.length ≤ 1000) (List.replicate k.toNat l).flatten) := rg_wg fun c => by
  show (if 0 ≤ k ∧ k ≤ 1000 ∧ (l.map ea).length ≤ 1000 then some (PyData.list (List.replicate k.toNat (l.map ea)).flatten) else none) = _
  rw [if_pos ⟨c.1, c.2.1, by rw [List.length_map]; exact c.2.2⟩]
  show _ = some (PyData.list ((List.replicate k.toNat l).flatten.map ea))
  rw [List.map_flatten, List.map_replicate]
/-! a local that may be unset -/
def mayS (ea : α → PyData) : Option α → Sl | none => .no | some v => .val (ea v)
theorem mayS_nl {ea : α → PyData} (o : Option α) : NL (mayS ea o) := by cases o <;> exact trivial
theorem mayS_vn {ea : α → PyData} (o : Option α) : VN (mayS ea o) := by cases o <;> exact trivial
theorem rg_may {ea : α → PyData} {i : Nat} {o : Option α} (h : ∀ p, (E p).at i = mayS ea o) : RG I ea (dVar i) E (wo o) := fun p Q hp ⟨x, hx, hq⟩ => ⟨x, p, by
  subst hx
  unfold dVar; rw [h]; rfl, hp, hq⟩
def unOs : List (Option Int) → Option (List Int) | [] => some [] | some x :: r => (unOs r).map (x :: ·) | none :: _ => none
theorem unOs_inv : ∀ {l : List (Option Int)} {is : List Int}, unOs l = some is → l = is.map some
  | [], _, h => by cases h; rfl
  | some x :: r, is, h => by
    unfold unOs at h
    obtain ⟨js, hj, rfl⟩ := Option.map_eq_some_iff.mp h
    rw [unOs_inv hj]; rfl
  | none :: _, _, h => by cases h
theorem unOs_some : ∀ is : List Int, unOs (is.map some) = some is
  | [] => rfl
  | x :: r => by show (unOs (r.map some)).map _ = _; rw [unOs_some r]; rfl
theorem rg_unOs {d : M PyData} {w : Wp (List (Option Int))} (h : RG I (eT (eO eI)) d E w) : RG I (eT eI) d E (wbind w fun x => wo (unOs x)) := fun p Q hp hw => by
  obtain ⟨x, p1, q1, hp1, y, hy, hq⟩ := h p _ hp hw
  refine ⟨y, p1, ?_, hp1, hq⟩
  rw [q1, unOs_inv hy]
  show some (PyData.tuple ((y.map some).map (eO eI)), _) = some (PyData.tuple (y.map eI), _)
  rw [List.map_map]; rfl
theorem rg_unOst {d : M PyData} {x : List (Option Int)} (h : RG I (eT (eO eI)) d E (wret x)) : RG I (eT eI) d E (wo (unOs x)) := rg_unOs h
end
theorem r_revAT {ea : α → PyData} {l : List α} : RG I (eT ea) (lft (fRevA (eT ea l))) E (wret l.reverse) := rg_some (by
  show some (PyData.tuple (l.map ea).reverse) = _
  rw [← List.map_reverse])
theorem r_revAL {ea : α → PyData} {l : List α} : RG I (eL ea) (lft (fRevA (eL ea l))) E (wret l.reverse) := rg_some (by
  show some (PyData.list (l.map ea).reverse) = _
  rw [← List.map_reverse])
end SL

set_option Elab.async false
set_option linter.all false
set_option maxRecDepth 100000
set_option maxHeartbeats 4000000
/-! TX6: typed dicts whose keys are numbers. -/
namespace SL
open PySem PySem.Spec PyProof.Rows L2
section
variable {α β : Type} {I : PyData → Prop} {E : PyData → En} {ev : α → PyData}
def eM (ev : α → PyData) (l : List (Int × α)) : PyData := .dict (l.map fun p => (.int p.1, ev p.2))
def mget (l : List (Int × α)) (k : Int) : Option α := (l.find? fun p => decide (p.1 = k)).map (·.2)
def mhas (l : List (Int × α)) (k : Int) : Bool := l.any fun p => decide (p.1 = k)
def mput (l : List (Int × α)) (k : Int) (v : α) : List (Int × α) := if mhas l k = true then l.map (fun p => if decide (p.1 = k) = true then (p.1, v) else p) else l ++ [(k, v)]
theorem eqv_i (a b : Int) : PyData.eqv (.int a) (.int b) = decide (a = b) := by
  rw [Bool.eq_iff_iff]; simp [PyData.eqv]
theorem dFind_m (k : Int) : ∀ l : List (Int × α), dFind (l.map fun p => (PyData.int p.1, ev p.2)) (.int k) = (mget l k).map ev
  | [] => rfl
  | p :: r => by
    unfold dFind mget
    rw [List.map_cons, List.find?_cons, List.find?_cons, eqv_i]
    cases h : decide (p.1 = k) with
    | true => rfl
    | false => exact dFind_m k r
theorem look_m (l : List (Int × α)) (k : Int) : fDLook (eM ev l) (.int k) = some ((mget l k).map ev) := by
  rw [← dFind_m]
  cases l <;> rfl
theorem mget_has (l : List (Int × α)) (k : Int) : (mget l k).isSome = mhas l k := by
  unfold mget mhas
  rw [Option.isSome_map]
  induction l with
  | nil => rfl
  | cons p r ih =>
    rw [List.find?_cons, List.any_cons]
    cases decide (p.1 = k) with
    | true => rfl
    | false => exact ih
theorem m_in (k : Int) (l : List (Int × α)) : fIn (eI k) (eM ev l) = some (mhas l k) := by
  show (fDLook (eM ev l) (.int k)).map (·.isSome) = _
  rw [look_m, Option.map_some, Option.isSome_map, mget_has]
theorem m_ni (k : Int) (l : List (Int × α)) : fNotIn (eI k) (eM ev l) = some (!mhas l k) := by
  unfold fNotIn; rw [m_in]; rfl
theorem m_ix {l : List (Int × α)} {k : Int} : RG I ev (lft (fIxD (eM ev l) (eI k))) E (wo (mget l k)) := rg_wo fun x h => by
  show (fDLook (eM ev l) (.int k)).bind id = _
  rw [look_m, h]; rfl
theorem keys_m (l : List (Int × α)) (h : l.length ≤ 16777216) : keysOf (eM ev l) = some ((l.map (·.1)).map eI) := by
  have e : (l.map (·.1)).map eI = (l.map fun p => (PyData.int p.1, ev p.2)).map (·.1) := by rw [List.map_map, List.map_map]; rfl
  rw [e]
  cases l with
  | nil => rfl
  | cons p r =>
    show (if ((p :: r).map fun p => (PyData.int p.1, ev p.2)).length ≤ 16777216 then some _ else none) = _
    rw [if_pos (by rw [List.length_map]; exact h)]; rfl
theorem m_keys {i : Nat} {l : List (Int × α)} (h : ∀ p, (E p).at i = .val (eM ev l)) : RG I (List.map eI) (iKy (dVl i)) E (wg (l.length ≤ 16777216) (l.map (·.1))) := fun p Q hp ⟨hl, hw⟩ => ⟨l.map (·.1), p, by
  unfold iKy dVl bnd
  show (Option.bind (match (E p).at i with | .val d => some (d, E p) | _ => none) fun p => lft (keysOf p.1) p.2) = _
  rw [h]
  show (lft (keysOf (eM ev l))) (E p) = _
  unfold lft
  rw [keys_m l hl]; rfl, hp, hw⟩
theorem m_list {l : List (Int × α)} : RG I (eL eI) (lft (fListK (eM ev l))) E (wret (l.map (·.1))) := rg_some (by
  have e : (l.map (·.1)).map eI = (l.map fun p => (PyData.int p.1, ev p.2)).map (·.1) := by rw [List.map_map, List.map_map]; rfl
  show fListK (eM ev l) = some (.list ((l.map (·.1)).map eI))
  rw [e]
  cases l <;> rfl)
theorem putL_m (k : Int) (v : α) (l : List (Int × α)) : dPutL (l.map fun p => (PyData.int p.1, ev p.2)) (.int k) (ev v) = (mput l k v).map fun p => (PyData.int p.1, ev p.2) := by
  have ha : ((l.map fun p => (PyData.int p.1, ev p.2)).any fun kv => PyData.eqv kv.1 (.int k)) = mhas l k := by
    unfold mhas
    rw [List.any_map]
    exact congrArg (l.any ·) (funext fun p => eqv_i _ _)
  unfold dPutL mput
  rw [ha]
  cases mhas l k with
  | false => rw [if_neg (by simp), if_neg (by simp), List.map_append]; rfl
  | true =>
    rw [if_pos rfl, if_pos rfl, List.map_map, List.map_map]
    refine List.map_congr_left fun p _ => ?_
    simp only [Function.comp, eqv_i]
    by_cases c : p.1 = k
    · simp [c]
    · simp [c]
theorem fDPut_m (k : Int) (v : α) (l : List (Int × α)) (h : l.length < 16777216) : fDPut (eM ev l) (.int k) (ev v) = some (eM ev (mput l k v)) := by
  unfold eM
  rw [← putL_m]
  cases l with
  | nil => rfl
  | cons p r =>
    show (if ((p :: r).map fun p => (PyData.int p.1, ev p.2)).length < 16777216 then some (PyData.dict _) else none) = _
    rw [if_pos (by rw [List.length_map]; exact h)]; rfl
theorem rs_putD {D : M Fl} {d dk : M PyData} {post : β → Fl → En → Prop} {i : Nat} {wv : Wp α} {wk : Wp Int} {l : List (Int × α)} {k : List (Int × α) → Wp β} (h : RG I ev d E wv) (hk : RG I eI dk E wk) (ho : ∀ p, (E p).obj i = some (eM ev l)) (h2 : ∀ l, RS I D (fun p => (E p).mut i (eM ev l)) (k l) post) :
    RS I (sSeq (sPutD i dk d) D) E (wbind wv fun v => wbind wk fun kx => wbind (wg (l.length < 16777216) (mput l kx v)) k) post := fun p Q hp hw => by
  obtain ⟨x, p1, q1, hp1, hw⟩ := h p _ hp hw
  obtain ⟨kk, p2, q2, hp2, hl, hq⟩ := hk p1 _ hp1 hw
  obtain ⟨fl, y, e', q3, hq3, hpo⟩ := h2 _ p2 Q hp2 hq
  refine ⟨fl, y, e', ?_, hq3, hpo⟩
  rw [seq_of (e1 := (E p2).mut i (eM ev (mput l kk x)))]
  · exact q3
  · unfold sPutD bnd; rw [q1]
    show (if isD ((E p1).obj i) = true then _ else none) = _
    rw [ho, if_pos (show isD (some (eM ev l)) = true from rfl)]
    show ((dk (E p1)).bind _) = _
    rw [q2]
    show (match (E p2).obj i with | some x' => (fDPut x' (.int kk) (ev x)).map fun z => (Fl.nx, (E p2).mut i z) | none => none) = _
    rw [ho]
    show (fDPut (eM ev l) (.int kk) (ev x)).map _ = _
    rw [fDPut_m kk x l hl]; rfl
end
end SL

set_option Elab.async false
set_option linter.all false
set_option maxRecDepth 100000
set_option maxHeartbeats 4000000
/-! TX7: typed dicts whose keys are tuples of numbers. -/
namespace SL
open PySem PySem.Spec PyProof.Rows L2
section
variable {α β : Type} {I : PyData → Prop} {E : PyData → En} {ev : α → PyData}
def prT (ev : α → PyData) (p : List Int × α) : PyData × PyData := (.tuple (p.1.map .int), ev p.2)
def eMT (ev : α → PyData) (l : List (List Int × α)) : PyData := .dict ((.none, .none) :: l.map (prT ev))
def tget (l : List (List Int × α)) (k : List Int) : Option α := (l.find? fun p => decide (p.1 = k)).map (·.2)
def thas (l : List (List Int × α)) (k : List Int) : Bool := l.any fun p => decide (p.1 = k)
def tput (l : List (List Int × α)) (k : List Int) (v : α) : List (List Int × α) := if thas l k = true then l.map (fun p => if decide (p.1 = k) = true then (p.1, v) else p) else l ++ [(k, v)]
/-- a row of numbers that may be a key -/
def kOk (k : List Int) : Prop := ¬ k = [-99, 99]
theorem ksOf_ints : ∀ k : List Int, ksOf (k.map .int) = some (k.map fun i => (Sum.inl i : Key))
  | [] => rfl
  | x :: r => by
    show (ksOf (r.map .int)).map _ = _
    rw [ksOf_ints r]; rfl
theorem cst_ints {k : List Int} (h : kOk k) : cst (k.map .int) = false := by
  match k, h with
  | [], _ => rfl
  | [_], _ => rfl
  | [a, b], h =>
    show (a == -99 && b == 99) = false
    cases q : (a == -99 && b == 99) with
    | false => rfl
    | true =>
      rw [Bool.and_eq_true, beq_iff_eq, beq_iff_eq] at q
      exact absurd (by rw [q.1, q.2]) h
  | _ :: _ :: _ :: _, _ => rfl
theorem dkOf_t {k : List Int} (h : kOk k) : dkOf (eT eI k) = some (.inr (k.map fun i => (Sum.inl i : Key))) := by
  show (if cst (k.map PyData.int) = true then none else (ksOf (k.map PyData.int)).map Sum.inr) = _
  rw [cst_ints h, if_neg (by simp), ksOf_ints]; rfl
theorem eqvAll_i : ∀ a b : List Int, PyData.eqvAll (a.map .int) (b.map .int) = decide (a = b)
  | [], [] => by simp [PyData.eqvAll]
  | [], y :: ys => by simp [PyData.eqvAll]
  | x :: xs, [] => by simp [PyData.eqvAll]
  | x :: xs, y :: ys => by
    simp only [List.map_cons, PyData.eqvAll, eqv_i, eqvAll_i xs ys]
    rw [Bool.eq_iff_iff]; simp
theorem eqv_t (a b : List Int) : PyData.eqv (.tuple (a.map .int)) (.tuple (b.map .int)) = decide (a = b) := by
  rw [PyData.eqv]; exact eqvAll_i a b
theorem dFind_t (k : List Int) : ∀ l : List (List Int × α), dFind (l.map (prT ev)) (eT eI k) = (tget l k).map ev
  | [] => rfl
  | p :: r => by
    unfold dFind tget
    rw [List.map_cons, List.find?_cons, List.find?_cons, show PyData.eqv (prT ev p).1 (eT eI k) = decide (p.1 = k) from eqv_t p.1 k]
    cases h : decide (p.1 = k) with
    | true => rfl
    | false => exact dFind_t k r
theorem look_t {l : List (List Int × α)} {k : List Int} (h : kOk k) : fDLook (eMT ev l) (eT eI k) = some ((tget l k).map ev) := by
  rw [← dFind_t]
  show (match dkOf (eT eI k) with | some (.inr _) => some (dFind (l.map (prT ev)) (eT eI k)) | _ => none) = _
  rw [dkOf_t h]
theorem tget_has (l : List (List Int × α)) (k : List Int) : (tget l k).isSome = thas l k := by
  unfold tget thas
  rw [Option.isSome_map]
  induction l with
  | nil => rfl
  | cons p r ih =>
    rw [List.find?_cons, List.any_cons]
    cases decide (p.1 = k) with
    | true => rfl
    | false => exact ih
theorem t_in {k : List Int} {l : List (List Int × α)} : RG I id (fun e => (fIn (eT eI k) (eMT ev l)).map fun b => (b, e)) E (wg (kOk k) (thas l k)) := fun p Q hp ⟨h, hw⟩ => ⟨thas l k, p, by
  show (((fDLook (eMT ev l) (eT eI k)).map (·.isSome)).map _) = _
  rw [look_t h, Option.map_some, Option.isSome_map, tget_has]; rfl, hp, hw⟩
theorem t_inL {k : List Int} {l : List (List Int × α)} : RG I id (lft (fIn (eT eI k) (eMT ev l))) E (wg (kOk k) (thas l k)) := t_in
theorem t_niL {k : List Int} {l : List (List Int × α)} : RG I id (lft (fNotIn (eT eI k) (eMT ev l))) E (wg (kOk k) (!thas l k)) := fun p Q hp ⟨h, hw⟩ => ⟨!thas l k, p, by
  show ((((fDLook (eMT ev l) (eT eI k)).map (·.isSome)).map (!·)).map _) = _
  rw [look_t h, Option.map_some, Option.isSome_map, tget_has]; rfl, hp, hw⟩
theorem t_ix {l : List (List Int × α)} {k : List Int} : RG I ev (lft (fIxD (eMT ev l) (eT eI k))) E (wbind (wg (kOk k) k) fun k => wo (tget l k)) := fun p Q hp ⟨h, x, hx, hw⟩ => ⟨x, p, by
  show (((fDLook (eMT ev l) (eT eI k)).bind id).map _) = _
  rw [look_t h, hx]; rfl, hp, hw⟩
theorem keys_t (l : List (List Int × α)) (h : l.length ≤ 16777216) : keysOf (eMT ev l) = some ((l.map (·.1)).map (eT eI)) := by
  show (if (l.map (prT ev)).length ≤ 16777216 then some ((l.map (prT ev)).map (·.1)) else none) = _
  rw [if_pos (by rw [List.length_map]; exact h), List.map_map, List.map_map]; rfl
theorem t_keys {i : Nat} {l : List (List Int × α)} (h : ∀ p, (E p).at i = .val (eMT ev l)) : RG I (List.map (eT eI)) (iKy (dVl i)) E (wg (l.length ≤ 16777216) (l.map (·.1))) := fun p Q hp ⟨hl, hw⟩ => ⟨l.map (·.1), p, by
  unfold iKy dVl bnd
  show (Option.bind (match (E p).at i with | .val d => some (d, E p) | _ => none) fun p => lft (keysOf p.1) p.2) = _
  rw [h]
  show (lft (keysOf (eMT ev l))) (E p) = _
  unfold lft
  rw [keys_t l hl]; rfl, hp, hw⟩
theorem t_keysL {i : Nat} {ls : List (List (List Int × α))} (h : ∀ p, (E p).at i = .own (eL (eMT ev) ls)) : RG I (List.map (eT eI)) (iKy (dLastO i)) E (wbind (wo (atI ls (-(1 : Int)))) fun l => wg (l.length ≤ 16777216) (l.map (·.1))) := fun p Q hp ⟨l, hls, hl, hw⟩ => ⟨l.map (·.1), p, by
  unfold iKy dLastO bnd
  show (Option.bind (match (E p).at i with | .own (.list ds) => (L2.atI ds (-1)).map fun d => (d, E p) | _ => none) fun p => lft (keysOf p.1) p.2) = _
  rw [h]
  show (Option.bind ((L2.atI (ls.map (eMT ev)) (-1)).map fun d => (d, E p)) _) = _
  rw [atI_map, show L2.atI ls (-1) = some l from hls]
  show (lft (keysOf (eMT ev l))) (E p) = _
  unfold lft
  rw [keys_t l hl]; rfl, hp, hw⟩
theorem putL_t (k : List Int) (v : α) (l : List (List Int × α)) : dPutL (l.map (prT ev)) (eT eI k) (ev v) = (tput l k v).map (prT ev) := by
  have ha : ((l.map (prT ev)).any fun kv => PyData.eqv kv.1 (eT eI k)) = thas l k := by
    unfold thas
    rw [List.any_map]
    exact congrArg (l.any ·) (funext fun p => eqv_t p.1 k)
  unfold dPutL tput
  rw [ha]
  cases thas l k with
  | false => rw [if_neg (by simp), if_neg (by simp), List.map_append]; rfl
  | true =>
    rw [if_pos rfl, if_pos rfl, List.map_map, List.map_map]
    refine List.map_congr_left fun p _ => ?_
    simp only [Function.comp, show PyData.eqv (prT ev p).1 (eT eI k) = decide (p.1 = k) from eqv_t p.1 k]
    by_cases c : p.1 = k
    · simp [c, prT]
    · simp [c, prT]
theorem fDPut_t {k : List Int} (v : α) (l : List (List Int × α)) (hk : kOk k) (h : l.length < 16777216) : fDPut (eMT ev l) (eT eI k) (ev v) = some (eMT ev (tput l k v)) := by
  show (match dkOf (eT eI k) with | some (.inr _) => if (l.map (prT ev)).length < 16777216 then some (PyData.dict ((.none, .none) :: dPutL (l.map (prT ev)) (eT eI k) (ev v))) else none | _ => none) = _
  rw [dkOf_t hk]
  show (if (l.map (prT ev)).length < 16777216 then _ else none) = _
  rw [if_pos (by rw [List.length_map]; exact h), putL_t]; rfl
theorem rs_putT {D : M Fl} {d dk : M PyData} {post : β → Fl → En → Prop} {i : Nat} {wv : Wp α} {wk : Wp (List Int)} {l : List (List Int × α)} {k : List (List Int × α) → Wp β} (h : RG I ev d E wv) (hk : RG I (eT eI) dk E wk) (ho : ∀ p, (E p).obj i = some (eMT ev l)) (h2 : ∀ l, RS I D (fun p => (E p).mut i (eMT ev l)) (k l) post) :
    RS I (sSeq (sPutD i dk d) D) E (wbind wv fun v => wbind wk fun kx => wbind (wg (kOk kx ∧ l.length < 16777216) (tput l kx v)) k) post := fun p Q hp hw => by
  obtain ⟨x, p1, q1, hp1, hw⟩ := h p _ hp hw
  obtain ⟨kk, p2, q2, hp2, hl, hq⟩ := hk p1 _ hp1 hw
  obtain ⟨fl, y, e', q3, hq3, hpo⟩ := h2 _ p2 Q hp2 hq
  refine ⟨fl, y, e', ?_, hq3, hpo⟩
  rw [seq_of (e1 := (E p2).mut i (eMT ev (tput l kk x)))]
  · exact q3
  · unfold sPutD bnd; rw [q1]
    show (if isD ((E p1).obj i) = true then _ else none) = _
    rw [ho, if_pos (show isD (some (eMT ev l)) = true from rfl)]
    show ((dk (E p1)).bind _) = _
    rw [q2]
    show (match (E p2).obj i with | some x' => (fDPut x' (eT eI kk) (ev x)).map fun z => (Fl.nx, (E p2).mut i z) | none => none) = _
    rw [ho]
    show (fDPut (eMT ev l) (eT eI kk) (ev x)).map _ = _
    rw [fDPut_t x l hl.1 hl.2]; rfl
theorem t_disp {k : List Int} {v : α} : RG I (eMT ev) (lft (fDispT (eT eI k) (ev v))) E (wg (kOk k) [(k, v)]) := fun p Q hp ⟨h, hw⟩ => ⟨[(k, v)], p, by
  show ((match dkOf (eT eI k) with | some (.inr _) => some (PyData.dict [(.none, .none), (eT eI k, ev v)]) | _ => none).map _) = _
  rw [dkOf_t h]; rfl, hp, hw⟩
end
end SL

set_option Elab.async false
set_option linter.all false
set_option maxRecDepth 100000
set_option maxHeartbeats 4000000
/-! TX8: lists of optional numbers read as numbers. -/
namespace SL
open PySem PySem.Spec PyProof.Rows L2
section
variable {α β : Type} {I : PyData → Prop} {E : PyData → En}
theorem rg_unOsL {d : M PyData} {w : Wp (List (Option Int))} (h : RG I (eL (eO eI)) d E w) : RG I (eL eI) d E (wbind w fun x => wo (unOs x)) := fun p Q hp hw => by
  obtain ⟨x, p1, q1, hp1, y, hy, hq⟩ := h p _ hp hw
  refine ⟨y, p1, ?_, hp1, hq⟩
  rw [q1, unOs_inv hy]
  show some (PyData.list ((y.map some).map (eO eI)), _) = some (PyData.list (y.map eI), _)
  rw [List.map_map]; rfl
theorem rg_unOsLt {d : M PyData} {x : List (Option Int)} (h : RG I (eL (eO eI)) d E (wret x)) : RG I (eL eI) d E (wo (unOs x)) := rg_unOsL h
end
def unI : List PyData → Option (List Int) | [] => some [] | .int x :: r => (unI r).map (x :: ·) | _ :: _ => none
theorem unI_inv : ∀ {l : List PyData} {is : List Int}, unI l = some is → l = is.map .int
  | [], _, h => by cases h; rfl
  | d :: r, is, h => by
    cases d with
    | int x =>
      obtain ⟨js, hj, rfl⟩ := Option.map_eq_some_iff.mp (show (unI r).map (x :: ·) = some is from h)
      rw [unI_inv hj]; rfl
    | _ => cases h
theorem unI_map : ∀ is : List Int, unI (is.map .int) = some is
  | [] => rfl
  | x :: r => by show (unI (r.map .int)).map _ = _; rw [unI_map r]; rfl
def unTs : List PyData → Option (List (List Int)) | [] => some [] | .tuple x :: r => (unI x).bind fun y => (unTs r).map (y :: ·) | _ :: _ => none
theorem unTs_inv : ∀ {l : List PyData} {is : List (List Int)}, unTs l = some is → l = is.map (eT eI)
  | [], _, h => by cases h; rfl
  | d :: r, is, h => by
    cases d with
    | tuple x =>
      obtain ⟨y, h1, h2⟩ := Option.bind_eq_some_iff.mp (show (unI x).bind (fun y => (unTs r).map (y :: ·)) = some is from h)
      obtain ⟨js, hj, rfl⟩ := Option.map_eq_some_iff.mp h2
      rw [unTs_inv hj, unI_inv h1]; rfl
    | _ => cases h
theorem unTs_map : ∀ is : List (List Int), unTs (is.map (eT eI)) = some is
  | [] => rfl
  | x :: r => by
    show (unI (x.map .int)).bind (fun y => (unTs (r.map (eT eI))).map (y :: ·)) = _
    rw [unI_map, unTs_map r]; rfl
def unTT : PyData → Option (List (List Int)) | .tuple l => unTs l | _ => none
theorem unTT_inv {d : PyData} {x : List (List Int)} (h : unTT d = some x) : d = eT (eT eI) x := by
  cases d with
  | tuple l => rw [unTs_inv (show unTs l = some x from h)]
  | _ => cases h
section
variable {I : PyData → Prop} {E : PyData → En}
theorem rg_unI {d : M PyData} {w : Wp (List PyData)} (h : RG I (eL eD) d E w) : RG I (eL eI) d E (wbind w fun x => wo (unI x)) := fun p Q hp hw => by
  obtain ⟨x, p1, q1, hp1, y, hy, hq⟩ := h p _ hp hw
  refine ⟨y, p1, ?_, hp1, hq⟩
  rw [q1, unI_inv hy]
  show some (PyData.list ((y.map PyData.int).map id), _) = some (PyData.list (y.map eI), _)
  rw [List.map_id]
theorem rg_unIt {d : M PyData} {x : List PyData} (h : RG I (eL eD) d E (wret x)) : RG I (eL eI) d E (wo (unI x)) := rg_unI h
end
end SL

set_option linter.all false
/-! The law itself; printed by gen.py. -/
namespace SL
open PySem PySem.Spec PyProof.Rows L2
def d_law : M Fl :=
  (sSeq (sFor (iR1 (dC (.int 3))) (gN 2) (sSeq (sSet 3 (dCall F_l_exits (cP 1 cNil)))
  (sSeq (sAsg (dVar 3) (gT 2 (gsCons (gN 4) (gsCons (gN 5) gsNil))))
  (sSeq (sSet 6 (dCall F_earliest (cV (dVar 3) cNil)))
  (sSeq (sIf (tNot1 (tVal (dCall F_l_same (cV (dLst (aCons (vB (tIsNot (dVar 6))) (aCons (d2 fIx (dCall F_exit_paper (cV (dVar 3) cNil)) (dC (.int 0))) aNil))) (cV (dLst (aCons (dCall F_l_has_times (cV (dVar 3) cNil)) (aCons (dIf (tVal (dCall F_l_has_times (cV (dVar 3) cNil))) (dC (.str "times")) (dC (.str "ring"))) aNil))) cNil))))) (sRt (dC (.bool false))) sNx)
  (sSeq (sSet 7 (dTup (aCons (dVar 4) (aCons (dSl (dVar 5) (dPart (dC (.int 1))) dNoP) aNil))))
  (sSeq (sSet 8 (dCall F_earliest (cV (dVar 7) cNil)))
  (sSeq (sIf (tIsNon (dVar 6)) sCt sNx)
  (sSeq (sIf (tOr2 (tNot1 (tVal (dCall F_l_are_times (cV (dVar 3) (cV (dVar 6) cNil))))) (tOr2 (t2 fNotB (dCall F_are_times (cV (dVar 3) (cV (d1 fTuple (dComp [9] (iT (dVar 6)) (gN 9) tT (d2 fAdd (dVar 9) (dC (.int 9))))) cNil))) (dC (.bool true))) (tIsNon (dVar 8)))) (sRt (dC (.bool false))) sNx)
  (sSeq (sIf (tOr2 (t2 fGt (d1 fLen (dComp [10] (iR1 (dVar 4)) (gN 10) (t2 fGt (d2 fIx (dVar 8) (dVar 10)) (d2 fIx (dVar 6) (dVar 10))) (dVar 10))) (dC (.int 0))) (t2 fNe (d1 (fMinL PySem.W.minD) (dVar 6)) (dC (.int 0)))) (sRt (dC (.bool false))) sNx)
  (sSeq (sFor (iR1 (dVar 4)) (gN 10) (sIf (tAnd2 (t2 fGt (d2 fIx (dVar 6) (dVar 10)) (dC (.int 0))) (tVal (dCall F_l_are_times (cV (dVar 3) (cV (d2 fAdd (d2 fAdd (dSl (dVar 6) dNoP (dPart (dVar 10))) (dTup (aCons (d2 (fI2 gSub') (d2 fIx (dVar 6) (dVar 10)) (dC (.int 1))) aNil))) (dSl (dVar 6) (dPart (d2 fAdd (dVar 10) (dC (.int 1)))) dNoP)) cNil))))) (sRt (dC (.bool false))) sNx))
  (sFor (iR1 (dVar 4)) (gN 11) (sFor (iR1 (dVar 4)) (gN 12) (sSeq (sSet 13 (dIf (t2 fNe (dVar 11) (dVar 12)) (dCall F_least_gap (cV (dVar 3) (cV (dVar 11) (cV (dVar 12) cNil)))) (dC .none)))
  (sIf (tAnd2 (tIsNot (dVar 13)) (tOr2 (t2 fLt (d2 (fI2 gSub') (d2 fIx (dVar 6) (dVar 12)) (d2 fIx (dVar 6) (dVar 11))) (dVar 13)) (tNot1 (tVal (dCall F_l_has_times (cV (dTup (aCons (dVar 4) (aCons (d2 fAdd (dVar 5) (dTup (aCons (dTup (aCons (dVar 12) (aCons (dVar 11) (aCons (d2 (fI2 gSub') (dC (.int 0)) (dVar 13)) aNil)))) aNil))) aNil))) cNil)))))) (sRt (dC (.bool false))) sNx)))))))))))))))
  (sRt (dC (.bool true))))
/-- law: 0 script, 1 pool, 2 turn, 3 exits, 4 many, 5 rules, 6 times, 7 fewer, 8 before, 9 one, 10 k, 11 a, 12 b, 13 gap -/
def nLaw : Nat := 14
end SL

set_option Elab.async false
set_option linter.all false
set_option maxRecDepth 100000
set_option maxHeartbeats 4000000
/-! what the defs of law_k48 answer on typed data; printed by gen2.py -/
namespace SL
open PySem PySem.Spec PyProof.Rows L2
/-- is_whole -/
def p_is_whole (a0 : PyData) : Wp Bool :=
  wret ((isT "int" a0) && (!(isT "bool" a0)))
theorem r_is_whole (a0 : PyData) : CA F_is_whole [eD a0] eB (p_is_whole a0) := by
  refine ca_body (d := d_is_whole) ?_
  unfold p_is_whole d_is_whole
  show RS _ _ (fun p => [.val (eD a0)]) _ _
  exact rs_retT (ea := eB) (t := ((isT "int" a0) && (!(isT "bool" a0)))) (rg_bt (rg_bt (rg_bt (rg_var (ea := eD) (x := a0) (fun _ => rfl)) (rg_ret (ea := eB) (x := (isT "int" a0)) rfl)) (rg_some (ea := id) (x := (isT "int" a0)) rfl)) (rg_dand (t := (isT "int" a0)) (rg_bt (rg_bt (rg_bt (rg_var (ea := eD) (x := a0) (fun _ => rfl)) (rg_ret (ea := eB) (x := (isT "bool" a0)) rfl)) (rg_some (ea := id) (x := (isT "bool" a0)) rfl)) (rg_ret (ea := eB) (x := !(isT "bool" a0)) rfl)))) (fun p hp => .inl rfl)
/-- are_times -/
def p_are_times (a0 : (Int × (List (Int × Int × Int)))) (a1 : PyData) : Wp Bool :=
  wbind (if (!(isT "tuple" a1)) = true then wret true else (wbind (wbind (wo (fLen a1)) fun v1 => wo (fNe v1 (eI a0.1))) fun v7 => (if v7 = true then wret true else (wbind ((wbind (wbind (wo (tupOf a1)) fun v3 => wmap (fun time2 => p_is_whole time2) v3) fun v4 => wret (v4.all id))) fun v6 => wret (!v6))))) fun b20 => if b20 = true then
    wret false
  else
    (wbind (wmap (fun r14 => ((wbind (wbind (wo (fIx a1 (eI r14.2.1))) fun v15 => wbind (wo (fIx a1 (eI r14.1))) fun v16 => wo (fI2 gSub' v15 v16)) fun v17 => wo (fGe v17 (eI r14.2.2))))) a0.2) fun v19 => wret (v19.all id))
theorem r_are_times (a0 : (Int × (List (Int × Int × Int)))) (a1 : PyData) : CA F_are_times [(eP2 eI (eT (eP3 eI eI eI))) a0, eD a1] eB (p_are_times a0 a1) := by
  refine ca_body (d := d_are_times) ?_
  unfold p_are_times d_are_times
  show RS _ _ (fun p => [.val ((eP2 eI (eT (eP3 eI eI eI))) a0), .val (eD a1), .no, .no, .no, .no]) _ _
  refine rs_ifP ?_ ?_ ?_
  · exact (rg_bt (rg_bt (rg_bt (rg_bt (rg_var (ea := eD) (x := a1) (fun _ => rfl)) (rg_ret (ea := eB) (x := (isT "tuple" a1)) rfl)) (rg_some (ea := id) (x := (isT "tuple" a1)) rfl)) (rg_ret (ea := id) (x := !(isT "tuple" a1)) rfl)) (rg_orP (t := (!(isT "tuple" a1))) (rg_bp (rg_bp (rg_bt (rg_var (ea := eD) (x := a1) (fun _ => rfl)) rg_dyn) fun v1 => (rg_bt (rg_castT (ea := eI) (x := a0.1) (ec := eD) (y := eI a0.1) rfl (rg_bt (rg_var (ea := (eP2 eI (eT (eP3 eI eI eI)))) (x := a0) (fun _ => rfl)) (rg_bt (rg_c (ea := eI) (x := (0 : Int))) (rg_some (ea := eI) (x := a0.1) rfl)))) rg_dyn)) fun v7 => (rg_orP (t := v7) (rg_bp (rg_bi (ea := eB) (rg_bp (rg_dcomp (rg_bp (rg_bt (rg_var (ea := eD) (x := a1) (fun _ => rfl)) (rg_wo (ea := List.map eD) (fun _ h => h.trans (congrArg some (List.map_id _).symm)))) fun v3 => (rg_comp1 (ea := eD) (eb := eB) (l := v3) (fun time2 p => [.val ((eP2 eI (eT (eP3 eI eI eI))) a0), .val (eD a1), .val (eD time2), .no, .no, .no]) (fun _ => (okw_c trivial okw_nil)) (fun _ _ => rfl) (fun _ _ => rfl) (fun _ _ => rfl) (fun _ _ => rfl) (fun _ _ => rfl) (fun time2 => (rg_call (rg_cv (rg_bt (rg_var (ea := eD) (x := time2) (fun _ => rfl)) (rg_cnil (rg_c0 (r_is_whole time2) rfl))))))))) fun v4 => r_all) fun v5 => (rg_some (ea := id) (x := v5) rfl)) fun v6 => (rg_ret (ea := id) (x := !v6) rfl))))))
  · refine rs_stRt ?_
    exact rs_retT (ea := eB) (t := false) (rg_c (ea := eB) (x := false)) (fun p hp => .inl rfl)
  · refine rs_skip ?_
    exact rs_retI (ea := eB) (rg_bp (rg_dcomp (rg_bt (rg_bt (rg_bt (rg_var (ea := (eP2 eI (eT (eP3 eI eI eI)))) (x := a0) (fun _ => rfl)) (rg_bt (rg_c (ea := eI) (x := (1 : Int))) (rg_some (ea := (eT (eP3 eI eI eI))) (x := a0.2) rfl))) (rg_some (ea := List.map (eP3 eI eI eI)) (x := a0.2) rfl)) (rg_comp1 (ea := (eP3 eI eI eI)) (eb := eB) (l := a0.2) (fun r14 p => [.val ((eP2 eI (eT (eP3 eI eI eI))) a0), .val (eD a1), .no, .val (eI r14.1), .val (eI r14.2.1), .val (eI r14.2.2)]) (fun _ => (okw_c trivial (okw_c trivial (okw_c trivial okw_nil)))) (fun _ _ => rfl) (fun _ _ => rfl) (fun _ _ => rfl) (fun _ _ => rfl) (fun _ _ => rfl) (fun r14 => (rg_bb (rg_bp (rg_bp (rg_bt (rg_var (ea := eD) (x := a1) (fun _ => rfl)) (rg_bt (rg_castT (ea := eI) (x := r14.2.1) (ec := eD) (y := eI r14.2.1) rfl (rg_var (ea := eI) (x := r14.2.1) (fun _ => rfl))) rg_dyn)) fun v15 => (rg_bp (rg_bt (rg_var (ea := eD) (x := a1) (fun _ => rfl)) (rg_bt (rg_castT (ea := eI) (x := r14.1) (ec := eD) (y := eI r14.1) rfl (rg_var (ea := eI) (x := r14.1) (fun _ => rfl))) rg_dyn)) fun v16 => rg_dyn)) fun v17 => (rg_bt (rg_castT (ea := eI) (x := r14.2.2) (ec := eD) (y := eI r14.2.2) rfl (rg_var (ea := eI) (x := r14.2.2) (fun _ => rfl))) rg_dyn)) fun v18 => (rg_ret (ea := eB) (x := v18) rfl)))))) fun v19 => r_all) (fun x p hp => .inl rfl)
/-- ring_at -/
def p_ring_at (a0 : (Int × (List (Int × Int × Int)))) (a1 : (List (Option Int))) (a2 : Int) : Wp (List (Option Int)) :=
  wbind (wg (okR 0 a0.1) (rngL 0 a0.1.toNat)) fun l8 => wbind (wfold (fun (s1 : Int) (x4 : Int) =>
    wbind (wbind (wbind (wbind (wo (atI a1 s1)) fun o => wo o) fun v5 => wo (atI a0.2 v5)) fun v6 => wret v6.1) fun (here7 : Int) =>
    wret here7) l8 a2) fun (s9 : Int) =>
  wbind (wbind (wo (atI a1 s9)) fun v11 => wret ([v11])) fun (found12 : (List (Option Int))) =>
    wbind (wwhile (fun (s13 : (List (Option Int))) => (wbind (wbind (wbind (wbind (wo (atI s13 (-(1 : Int)))) fun o => wo o) fun v14 => wo (atI a0.2 v14)) fun v15 => wret v15.1) fun v16 => wret (!decide (v16 = s9)))) (fun (s13 : (List (Option Int))) =>
      wbind (wbind (wbind (wbind (wbind (wo (atI s13 (-(1 : Int)))) fun o => wo o) fun v20 => wo (atI a0.2 v20)) fun v21 => wret v21.1) fun v22 => wo (atI a1 v22)) fun v24 => wbind (wg (s13.length < 16777216) (s13 ++ [v24])) fun (found23 : (List (Option Int))) =>
      wret found23) 100000 found12) fun (s25 : (List (Option Int))) =>
    wret s25.reverse
theorem r_ring_at (a0 : (Int × (List (Int × Int × Int)))) (a1 : (List (Option Int))) (a2 : Int) : CA F_ring_at [(eP2 eI (eT (eP3 eI eI eI))) a0, (eL (eO eI)) a1, eI a2] (eT (eO eI)) (p_ring_at a0 a1 a2) := by
  refine ca_body (d := d_ring_at) ?_
  unfold p_ring_at d_ring_at
  show RS _ _ (fun p => [.val ((eP2 eI (eT (eP3 eI eI eI))) a0), .val ((eL (eO eI)) a1), .val (eI a2), .no, .no]) _ _
  refine rs_for (ea := eI) (σ := Int) (fun (s : Int) e => ∃ p u3, Pok p ∧ VN u3 ∧ e = [.val ((eP2 eI (eT (eP3 eI eI eI))) a0), .val ((eL (eO eI)) a1), .val (eI s), u3, .no]) ?_ (fun p hp => ⟨p, .no, hp, trivial, rfl⟩) ?_ ?_
  · exact (rg_bt (rg_bt (rg_var (ea := (eP2 eI (eT (eP3 eI eI eI)))) (x := a0) (fun _ => rfl)) (rg_bt (rg_c (ea := eI) (x := (0 : Int))) (rg_some (ea := eI) (x := a0.1) rfl))) r_iR1)
  · rintro s1 x4 e ⟨p, u2, hp, nu2, rfl⟩
    refine ⟨(fun p => [.val ((eP2 eI (eT (eP3 eI eI eI))) a0), .val ((eL (eO eI)) a1), .val (eI s1), .val (eI x4), .no]), p, hp, (gn_nl (VN.nl nu2)), ?_⟩
    refine rs_last ?_
    refine rs_set (ea := eI) ?_ (fun _ => trivial) fun here7 => ?_
    · exact (rg_bp (rg_bt (rg_bt (rg_var (ea := (eP2 eI (eT (eP3 eI eI eI)))) (x := a0) (fun _ => rfl)) (rg_bt (rg_c (ea := eI) (x := (1 : Int))) (rg_some (ea := (eT (eP3 eI eI eI))) (x := a0.2) rfl))) (rg_bp (rg_unO (rg_bt (rg_var (ea := (eL (eO eI))) (x := a1) (fun _ => rfl)) (rg_bt (rg_var (ea := eI) (x := s1) (fun _ => rfl)) (r_ixL (ea := (eO eI)))))) fun v5 => (r_ixT (ea := (eP3 eI eI eI))))) fun v6 => (rg_bt (rg_c (ea := eI) (x := (0 : Int))) (rg_some (ea := eI) (x := v6.1) rfl)))
    show RS _ _ (fun p => [.val ((eP2 eI (eT (eP3 eI eI eI))) a0), .val ((eL (eO eI)) a1), .val (eI here7), .val (eI x4), .no]) _ _
    exact rs_nx (fun p hp => ⟨.inl rfl, ⟨p, .val (eI x4), hp, trivial, rfl⟩⟩)
  · rintro s9 e ⟨p, u10, hp, nu10, rfl⟩
    refine ⟨(fun p => [.val ((eP2 eI (eT (eP3 eI eI eI))) a0), .val ((eL (eO eI)) a1), .val (eI s9), u10, .no]), p, hp, rfl, ?_⟩
    refine rs_own (ea := (eL (eO eI))) ?_ (fun _ => trivial) fun found12 => ?_
    · exact (rg_acons (rg_bp (rg_bt (rg_var (ea := (eL (eO eI))) (x := a1) (fun _ => rfl)) (rg_bt (rg_var (ea := eI) (x := s9) (fun _ => rfl)) (r_ixL (ea := (eO eI))))) fun v11 => (rg_anil (rg_ret (ea := (eL (eO eI))) (x := [v11]) rfl))))
    show RS _ _ (fun p => [.val ((eP2 eI (eT (eP3 eI eI eI))) a0), .val ((eL (eO eI)) a1), .val (eI s9), u10, .own ((eL (eO eI)) found12)]) _ _
    refine rs_while (σ := (List (Option Int))) (fun (s : (List (Option Int))) e => ∃ p, Pok p ∧ e = [.val ((eP2 eI (eT (eP3 eI eI eI))) a0), .val ((eL (eO eI)) a1), .val (eI s9), u10, .own ((eL (eO eI)) s)]) (fun p hp => ⟨p, hp, rfl⟩) ?_ ?_
    · rintro s13 e ⟨p, hp, rfl⟩
      refine ⟨(fun p => [.val ((eP2 eI (eT (eP3 eI eI eI))) a0), .val ((eL (eO eI)) a1), .val (eI s9), u10, .own ((eL (eO eI)) s13)]), p, hp, rfl, (rg_bp (rg_bp (rg_bt (rg_bt (rg_var (ea := (eP2 eI (eT (eP3 eI eI eI)))) (x := a0) (fun _ => rfl)) (rg_bt (rg_c (ea := eI) (x := (1 : Int))) (rg_some (ea := (eT (eP3 eI eI eI))) (x := a0.2) rfl))) (rg_bp (rg_unO (rg_bt (rg_ow (ea := (eL (eO eI))) (x := s13) (fun _ => rfl)) (rg_bt (rg_bt (rg_c (ea := eI) (x := (1 : Int))) (rg_some (ea := eI) (x := (-(1 : Int))) r_neg)) (r_ixL (ea := (eO eI)))))) fun v14 => (r_ixT (ea := (eP3 eI eI eI))))) fun v15 => (rg_bt (rg_c (ea := eI) (x := (0 : Int))) (rg_some (ea := eI) (x := v15.1) rfl))) fun v16 => (rg_bt (rg_var (ea := eI) (x := s9) (fun _ => rfl)) (rg_some (ea := id) (x := (!decide (v16 = s9))) ne_i))), (fun p hp => ⟨p, hp, rfl⟩), ?_⟩
      refine rs_last ?_
      refine rs_app (ea := (eO eI)) ?_ (fun _ => rfl) fun found23 => ?_
      · exact (rg_bt (rg_var (ea := (eL (eO eI))) (x := a1) (fun _ => rfl)) (rg_bp (rg_bp (rg_bt (rg_bt (rg_var (ea := (eP2 eI (eT (eP3 eI eI eI)))) (x := a0) (fun _ => rfl)) (rg_bt (rg_c (ea := eI) (x := (1 : Int))) (rg_some (ea := (eT (eP3 eI eI eI))) (x := a0.2) rfl))) (rg_bp (rg_unO (rg_bt (rg_ow (ea := (eL (eO eI))) (x := s13) (fun _ => rfl)) (rg_bt (rg_bt (rg_c (ea := eI) (x := (1 : Int))) (rg_some (ea := eI) (x := (-(1 : Int))) r_neg)) (r_ixL (ea := (eO eI)))))) fun v20 => (r_ixT (ea := (eP3 eI eI eI))))) fun v21 => (rg_bt (rg_c (ea := eI) (x := (0 : Int))) (rg_some (ea := eI) (x := v21.1) rfl))) fun v22 => (r_ixL (ea := (eO eI)))))
      show RS _ _ (fun p => [.val ((eP2 eI (eT (eP3 eI eI eI))) a0), .val ((eL (eO eI)) a1), .val (eI s9), u10, .own ((eL (eO eI)) found23)]) _ _
      exact rs_nx (fun p hp => ⟨.inl rfl, ⟨p, hp, rfl⟩⟩)
    · rintro s25 e ⟨p, hp, rfl⟩
      refine ⟨(fun p => [.val ((eP2 eI (eT (eP3 eI eI eI))) a0), .val ((eL (eO eI)) a1), .val (eI s9), u10, .own ((eL (eO eI)) s25)]), p, hp, rfl, ?_⟩
      exact rs_retT (ea := (eT (eO eI))) (t := s25.reverse) (rg_bt (rg_bt (rg_ow (ea := (eL (eO eI))) (x := s25) (fun _ => rfl)) (r_rev (ea := (eO eI)))) (rg_some (ea := (eT (eO eI))) (x := s25.reverse) r_tupL)) (fun p hp => .inl rfl)
/-- longest -/
def p_longest (a0 : (Int × (List (Int × Int × Int)))) (a1 : (List (Option Int))) : Wp ((Option (List (Option Int))) × (Option (List (Option Int)))) :=
  lt' a1 fun (best1 : (List (Option Int))) =>
  wbind (wg (0 ≤ a0.1 ∧ a0.1 ≤ 1000 ∧ ([none] : (List (Option Int))).length ≤ 1000) ((List.replicate a0.1.toNat ([none] : (List (Option Int)))).flatten)) fun (last2 : (List (Option Int))) =>
  wbind (wg (okR 0 (a0.1 + (1 : Int))) (rngL 0 (a0.1 + (1 : Int)).toNat)) fun l49 => wbind (wfoldX (fun (s3 : ((List (Option Int)) × (List (Option Int)) × (Option (Option Int)))) (x14 : Int) =>
    lt' none fun (changed15 : (Option Int)) =>
    wbind (wg (okR 0 (a0.2.length : Int)) (rngL 0 (a0.2.length : Int).toNat)) fun l42 => wbind (wfold (fun (s16 : ((List (Option Int)) × (List (Option Int)) × (Option Int))) (k25 : Int) =>
      wbind (wo (atI a0.2 k25)) fun (u26 : (Int × Int × Int)) =>
      wbind (wbind (wbind (wo (atI s16.1 u26.1)) fun v27 => wret (!isNo v27)) fun v33 => (if v33 = true then (wbind (wbind (wo (atI s16.1 u26.2.1)) fun v28 => wret (isNo v28)) fun v32 => (if v32 = true then wret true else (wbind (wbind (wbind (wo (atI s16.1 u26.1)) fun o => wo o) fun v29 => wret (v29 + u26.2.2)) fun v30 => wbind (wbind (wo (atI s16.1 u26.2.1)) fun o => wo o) fun v31 => wret (decide (v31 < v30))))) else wret false)) fun b41 => if b41 = true then
        wbind (wbind (wbind (wbind (wo (atI s16.1 u26.1)) fun o => wo o) fun v35 => wret (v35 + u26.2.2)) fun v36 => wret (some v36)) fun v38 => wbind (wo (setL s16.1 u26.2.1 v38)) fun (best37 : (List (Option Int))) =>
        wbind (wo (setL s16.2.1 u26.2.1 (some k25))) fun (last39 : (List (Option Int))) =>
        lt' (some u26.2.1) fun (changed40 : (Option Int)) =>
        wret (best37, last39, changed40)
      else
        wret (s16.1, s16.2.1, s16.2.2)) l42 (s3.1, s3.2.1, changed15)) fun (s43 : ((List (Option Int)) × (List (Option Int)) × (Option Int))) =>
    if (isNo s43.2.2) = true then
        wret (.ret ((some s43.1), none))
      else
        wret (.go (s43.1, s43.2.1, (some s43.2.2)))) l49 (best1, last2, (none : Option (Option Int)))) (onR (fun (s50 : ((List (Option Int)) × (List (Option Int)) × (Option (Option Int)))) =>
    (wbind (wbind (wbind (wbind (wo s50.2.2) fun o => wo o) fun v58 => p_ring_at a0 s50.2.1 v58) fun v59 => wret (some v59)) fun v60 => wret (none, v60)))
  (fun r => wret r))
theorem r_longest (a0 : (Int × (List (Int × Int × Int)))) (a1 : (List (Option Int))) : CA F_longest [(eP2 eI (eT (eP3 eI eI eI))) a0, (eL (eO eI)) a1] (eP2 (eO (eL (eO eI))) (eO (eT (eO eI)))) (p_longest a0 a1) := by
  refine ca_body (d := d_longest) ?_
  unfold p_longest d_longest
  show RS _ _ (fun p => [.val ((eP2 eI (eT (eP3 eI eI eI))) a0), .val ((eL (eO eI)) a1), .no, .no, .no, .no, .no, .no, .no, .no]) _ _
  refine rs_ownT (ea := (eL (eO eI))) ?_ (fun _ => trivial) fun best1 => ?_
  · exact (rg_bt (rg_var (ea := (eL (eO eI))) (x := a1) (fun _ => rfl)) (rg_some (ea := (eL (eO eI))) (x := a1) r_listL))
  show RS _ _ (fun p => [.val ((eP2 eI (eT (eP3 eI eI eI))) a0), .val ((eL (eO eI)) a1), .own ((eL (eO eI)) best1), .no, .no, .no, .no, .no, .no, .no]) _ _
  refine rs_own (ea := (eL (eO eI))) ?_ (fun _ => trivial) fun last2 => ?_
  · exact (rg_bt (rg_acons (rg_bt (rg_c (ea := (eO eI)) (x := none)) (rg_anil (rg_ret (ea := (eL (eO eI))) (x := [none]) rfl)))) (rg_bt (rg_bt (rg_var (ea := (eP2 eI (eT (eP3 eI eI eI)))) (x := a0) (fun _ => rfl)) (rg_bt (rg_c (ea := eI) (x := (0 : Int))) (rg_some (ea := eI) (x := a0.1) rfl))) (r_repL (ea := (eO eI)))))
  show RS _ _ (fun p => [.val ((eP2 eI (eT (eP3 eI eI eI))) a0), .val ((eL (eO eI)) a1), .own ((eL (eO eI)) best1), .own ((eL (eO eI)) last2), .no, .no, .no, .no, .no, .no]) _ _
  refine rs_forX (ea := eI) (σ := ((List (Option Int)) × (List (Option Int)) × (Option (Option Int)))) (ρ := ((Option (List (Option Int))) × (Option (List (Option Int))))) (fun (s : ((List (Option Int)) × (List (Option Int)) × (Option (Option Int)))) e => ∃ p u9 u10 u11 u12 u13, Pok p ∧ VN u9 ∧ VN u10 ∧ VN u11 ∧ VN u12 ∧ VN u13 ∧ e = [.val ((eP2 eI (eT (eP3 eI eI eI))) a0), .val ((eL (eO eI)) a1), .own ((eL (eO eI)) s.1), .own ((eL (eO eI)) s.2.1), u9, (mayS (eO eI) s.2.2), u10, u11, u12, u13]) (fun (r : ((Option (List (Option Int))) × (Option (List (Option Int))))) v e => v = (eP2 (eO (eL (eO eI))) (eO (eT (eO eI)))) r) ?_ (fun p hp => ⟨p, .no, .no, .no, .no, .no, hp, trivial, trivial, trivial, trivial, trivial, rfl⟩) ?_ ?_ ?_
  · exact (rg_bt (rg_bt (rg_bt (rg_var (ea := (eP2 eI (eT (eP3 eI eI eI)))) (x := a0) (fun _ => rfl)) (rg_bt (rg_c (ea := eI) (x := (0 : Int))) (rg_some (ea := eI) (x := a0.1) rfl))) (rg_bt (rg_c (ea := eI) (x := (1 : Int))) (rg_some (ea := eI) (x := (a0.1 + (1 : Int))) add_i))) r_iR1)
  · rintro s3 x14 e ⟨p, u4, u5, u6, u7, u8, hp, nu4, nu5, nu6, nu7, nu8, rfl⟩
    refine ⟨(fun p => [.val ((eP2 eI (eT (eP3 eI eI eI))) a0), .val ((eL (eO eI)) a1), .own ((eL (eO eI)) s3.1), .own ((eL (eO eI)) s3.2.1), .val (eI x14), (mayS (eO eI) s3.2.2), u5, u6, u7, u8]), p, hp, (gn_nl (VN.nl nu4)), ?_⟩
    refine rs_setT (ea := (eO eI)) ?_ (fun _ => (mayS_nl _)) fun changed15 => ?_
    · exact (rg_c (ea := (eO eI)) (x := none))
    show RS _ _ (fun p => [.val ((eP2 eI (eT (eP3 eI eI eI))) a0), .val ((eL (eO eI)) a1), .own ((eL (eO eI)) s3.1), .own ((eL (eO eI)) s3.2.1), .val (eI x14), .val ((eO eI) changed15), u5, u6, u7, u8]) _ _
    refine rs_for (ea := eI) (σ := ((List (Option Int)) × (List (Option Int)) × (Option Int))) (fun (s : ((List (Option Int)) × (List (Option Int)) × (Option Int))) e => ∃ p u21 u22 u23 u24, Pok p ∧ VN u21 ∧ VN u22 ∧ VN u23 ∧ VN u24 ∧ e = [.val ((eP2 eI (eT (eP3 eI eI eI))) a0), .val ((eL (eO eI)) a1), .own ((eL (eO eI)) s.1), .own ((eL (eO eI)) s.2.1), .val (eI x14), .val ((eO eI) s.2.2), u21, u22, u23, u24]) ?_ (fun p hp => ⟨p, u5, u6, u7, u8, hp, nu5, nu6, nu7, nu8, rfl⟩) ?_ ?_
    · exact (rg_bt (rg_bt (rg_bt (rg_var (ea := (eP2 eI (eT (eP3 eI eI eI)))) (x := a0) (fun _ => rfl)) (rg_bt (rg_c (ea := eI) (x := (1 : Int))) (rg_some (ea := (eT (eP3 eI eI eI))) (x := a0.2) rfl))) (r_lenT (ea := (eP3 eI eI eI)))) r_iR1)
    · rintro s16 k25 e ⟨p, u17, u18, u19, u20, hp, nu17, nu18, nu19, nu20, rfl⟩
      refine ⟨(fun p => [.val ((eP2 eI (eT (eP3 eI eI eI))) a0), .val ((eL (eO eI)) a1), .own ((eL (eO eI)) s16.1), .own ((eL (eO eI)) s16.2.1), .val (eI x14), .val ((eO eI) s16.2.2), .val (eI k25), u18, u19, u20]), p, hp, (gn_nl (VN.nl nu17)), ?_⟩
      refine rs_asg (ea := (eP3 eI eI eI)) (fun u26 p => [.val ((eP2 eI (eT (eP3 eI eI eI))) a0), .val ((eL (eO eI)) a1), .own ((eL (eO eI)) s16.1), .own ((eL (eO eI)) s16.2.1), .val (eI x14), .val ((eO eI) s16.2.2), .val (eI k25), .val (eI u26.1), .val (eI u26.2.1), .val (eI u26.2.2)]) ?_ (fun _ _ => (gt_of rfl (gs_cons (gn_nl (VN.nl nu18)) (gs_cons (gn_nl (VN.nl nu19)) (gs_cons (gn_nl (VN.nl nu20)) gs_nil))))) fun u26 => ?_
      · exact (rg_bt (rg_bt (rg_var (ea := (eP2 eI (eT (eP3 eI eI eI)))) (x := a0) (fun _ => rfl)) (rg_bt (rg_c (ea := eI) (x := (1 : Int))) (rg_some (ea := (eT (eP3 eI eI eI))) (x := a0.2) rfl))) (rg_bt (rg_var (ea := eI) (x := k25) (fun _ => rfl)) (r_ixT (ea := (eP3 eI eI eI)))))
      show RS _ _ (fun p => [.val ((eP2 eI (eT (eP3 eI eI eI))) a0), .val ((eL (eO eI)) a1), .own ((eL (eO eI)) s16.1), .own ((eL (eO eI)) s16.2.1), .val (eI x14), .val ((eO eI) s16.2.2), .val (eI k25), .val (eI u26.1), .val (eI u26.2.1), .val (eI u26.2.2)]) _ _
      refine rs_last ?_
      refine rs_ifP ?_ ?_ ?_
      · exact (rg_bp (rg_bp (rg_bt (rg_ow (ea := (eL (eO eI))) (x := s16.1) (fun _ => rfl)) (rg_bt (rg_var (ea := eI) (x := u26.1) (fun _ => rfl)) (r_ixL (ea := (eO eI))))) fun v27 => (rg_ret (ea := id) (x := (!isNo v27)) (notnon_o _))) fun v33 => (rg_andP (t := v33) (rg_bp (rg_bp (rg_bt (rg_ow (ea := (eL (eO eI))) (x := s16.1) (fun _ => rfl)) (rg_bt (rg_var (ea := eI) (x := u26.2.1) (fun _ => rfl)) (r_ixL (ea := (eO eI))))) fun v28 => (rg_ret (ea := id) (x := (isNo v28)) (isnon_o _))) fun v32 => (rg_orP (t := v32) (rg_bp (rg_bp (rg_unO (rg_bt (rg_ow (ea := (eL (eO eI))) (x := s16.1) (fun _ => rfl)) (rg_bt (rg_var (ea := eI) (x := u26.1) (fun _ => rfl)) (r_ixL (ea := (eO eI)))))) fun v29 => (rg_bt (rg_var (ea := eI) (x := u26.2.2) (fun _ => rfl)) (rg_some (ea := eI) (x := (v29 + u26.2.2)) add_i))) fun v30 => (rg_bp (rg_unO (rg_bt (rg_ow (ea := (eL (eO eI))) (x := s16.1) (fun _ => rfl)) (rg_bt (rg_var (ea := eI) (x := u26.2.1) (fun _ => rfl)) (r_ixL (ea := (eO eI)))))) fun v31 => (rg_some (ea := id) (x := (decide (v31 < v30))) gt_i)))))))
      · refine rs_assoc ?_
        refine rs_putP (ea := (eO eI)) (rg_cast (ea := eI) (ec := (eO eI)) (fun v36 => (some v36)) (fun v36 => rfl) (rg_bp (rg_unO (rg_bt (rg_ow (ea := (eL (eO eI))) (x := s16.1) (fun _ => rfl)) (rg_bt (rg_var (ea := eI) (x := u26.1) (fun _ => rfl)) (r_ixL (ea := (eO eI)))))) fun v35 => (rg_bt (rg_var (ea := eI) (x := u26.2.2) (fun _ => rfl)) (rg_some (ea := eI) (x := (v35 + u26.2.2)) add_i)))) (rg_var (ea := eI) (x := u26.2.1) (fun _ => rfl)) (fun _ => rfl) fun best37 => ?_
        show RS _ _ (fun p => [.val ((eP2 eI (eT (eP3 eI eI eI))) a0), .val ((eL (eO eI)) a1), .own ((eL (eO eI)) best37), .own ((eL (eO eI)) s16.2.1), .val (eI x14), .val ((eO eI) s16.2.2), .val (eI k25), .val (eI u26.1), .val (eI u26.2.1), .val (eI u26.2.2)]) _ _
        refine rs_assoc ?_
        refine rs_put (ea := (eO eI)) ?_ ?_ (fun _ => rfl) fun last39 => ?_
        · exact (rg_castT (ea := eI) (x := k25) (ec := (eO eI)) (y := (some k25)) (rfl) (rg_var (ea := eI) (x := k25) (fun _ => rfl)))
        · exact (rg_var (ea := eI) (x := u26.2.1) (fun _ => rfl))
        show RS _ _ (fun p => [.val ((eP2 eI (eT (eP3 eI eI eI))) a0), .val ((eL (eO eI)) a1), .own ((eL (eO eI)) best37), .own ((eL (eO eI)) last39), .val (eI x14), .val ((eO eI) s16.2.2), .val (eI k25), .val (eI u26.1), .val (eI u26.2.1), .val (eI u26.2.2)]) _ _
        refine rs_setT (ea := (eO eI)) ?_ (fun _ => trivial) fun changed40 => ?_
        · exact (rg_castT (ea := eI) (x := u26.2.1) (ec := (eO eI)) (y := (some u26.2.1)) (rfl) (rg_var (ea := eI) (x := u26.2.1) (fun _ => rfl)))
        show RS _ _ (fun p => [.val ((eP2 eI (eT (eP3 eI eI eI))) a0), .val ((eL (eO eI)) a1), .own ((eL (eO eI)) best37), .own ((eL (eO eI)) last39), .val (eI x14), .val ((eO eI) changed40), .val (eI k25), .val (eI u26.1), .val (eI u26.2.1), .val (eI u26.2.2)]) _ _
        exact rs_nx (fun p hp => ⟨.inl rfl, ⟨p, .val (eI k25), .val (eI u26.1), .val (eI u26.2.1), .val (eI u26.2.2), hp, trivial, trivial, trivial, trivial, rfl⟩⟩)
      · refine rs_skip ?_
        exact rs_nx (fun p hp => ⟨.inl rfl, ⟨p, .val (eI k25), .val (eI u26.1), .val (eI u26.2.1), .val (eI u26.2.2), hp, trivial, trivial, trivial, trivial, rfl⟩⟩)
    · rintro s43 e ⟨p, u44, u45, u46, u47, hp, nu44, nu45, nu46, nu47, rfl⟩
      refine ⟨(fun p => [.val ((eP2 eI (eT (eP3 eI eI eI))) a0), .val ((eL (eO eI)) a1), .own ((eL (eO eI)) s43.1), .own ((eL (eO eI)) s43.2.1), .val (eI x14), .val ((eO eI) s43.2.2), u44, u45, u46, u47]), p, hp, rfl, ?_⟩
      refine rs_last ?_
      refine rs_if ?_ ?_ ?_
      · exact (rg_bt (rg_var (ea := (eO eI)) (x := s43.2.2) (fun _ => rfl)) (rg_ret (ea := id) (x := (isNo s43.2.2)) (isnon_o _)))
      · refine rs_fz (x := (eL (eO eI)) s43.1) (fun _ => rfl) ?_
        show RS _ _ (fun p => [.val ((eP2 eI (eT (eP3 eI eI eI))) a0), .val ((eL (eO eI)) a1), .val ((eL (eO eI)) s43.1), .own ((eL (eO eI)) s43.2.1), .val (eI x14), .val ((eO eI) s43.2.2), u44, u45, u46, u47]) _ _
        refine rs_stRt ?_
        exact rs_retT (ea := (eP2 (eO (eL (eO eI))) (eO (eT (eO eI))))) (t := ((some s43.1), none)) (rg_acons (rg_bt (rg_castT (ea := (eL (eO eI))) (x := s43.1) (ec := (eO (eL (eO eI)))) (y := (some s43.1)) (rfl) (rg_var (ea := (eL (eO eI))) (x := s43.1) (fun _ => rfl))) (rg_acons (rg_bt (rg_c (ea := (eO (eT (eO eI)))) (x := none)) (rg_anil (rg_ret (ea := (eP2 (eO (eL (eO eI))) (eO (eT (eO eI))))) (x := ((some s43.1), none)) rfl)))))) (fun p hp => ⟨_, rfl, rfl⟩)
      · refine rs_skip ?_
        exact rs_nx (fun p hp => ⟨.inl rfl, ⟨p, .val (eI x14), u44, u45, u46, u47, hp, trivial, nu44, nu45, nu46, nu47, rfl⟩⟩)
  · rintro s50 e ⟨p, u51, u52, u53, u54, u55, hp, nu51, nu52, nu53, nu54, nu55, rfl⟩
    refine ⟨(fun p => [.val ((eP2 eI (eT (eP3 eI eI eI))) a0), .val ((eL (eO eI)) a1), .own ((eL (eO eI)) s50.1), .own ((eL (eO eI)) s50.2.1), u51, (mayS (eO eI) s50.2.2), u52, u53, u54, u55]), p, hp, rfl, ?_⟩
    refine rs_fz1 (x := (eL (eO eI)) s50.2.1) (fun _ => rfl) ?_
    show RS _ _ (fun p => [.val ((eP2 eI (eT (eP3 eI eI eI))) a0), .val ((eL (eO eI)) a1), .own ((eL (eO eI)) s50.1), .val ((eL (eO eI)) s50.2.1), u51, (mayS (eO eI) s50.2.2), u52, u53, u54, u55]) _ _
    exact rs_retI (ea := (eP2 (eO (eL (eO eI))) (eO (eT (eO eI))))) (rg_acons (rg_bt (rg_c (ea := (eO (eL (eO eI)))) (x := none)) (rg_acons (rg_bp (rg_cast (ea := (eT (eO eI))) (ec := (eO (eT (eO eI)))) (fun v59 => (some v59)) (fun v59 => rfl) (rg_call (rg_cv (rg_bt (rg_var (ea := (eP2 eI (eT (eP3 eI eI eI)))) (x := a0) (fun _ => rfl)) (rg_cv (rg_bt (rg_var (ea := (eL (eO eI))) (x := s50.2.1) (fun _ => rfl)) (rg_cv (rg_bp (rg_unO (rg_may (ea := (eO eI)) (o := s50.2.2) (fun _ => rfl))) fun v58 => (rg_cnil (rg_c0 (r_ring_at a0 s50.2.1 v58) rfl)))))))))) fun v60 => (rg_anil (rg_ret (ea := (eP2 (eO (eL (eO eI))) (eO (eT (eO eI))))) (x := (none, v60)) rfl)))))) (fun x p hp => .inl rfl)
  · exact fun r v e Q h hk => ⟨r, hk, .inl (h ▸ rfl)⟩
/-- exit_paper -/
def p_exit_paper (a0 : (Int × (List (Int × Int × Int)))) : Wp (Str × (Option (List (Option Int)))) :=
  wbind (wbind (wg (0 ≤ a0.1 ∧ a0.1 ≤ 1000 ∧ ([(some (0 : Int))] : (List (Option Int))).length ≤ 1000) ((List.replicate a0.1.toNat ([(some (0 : Int))] : (List (Option Int)))).flatten)) fun v1 => p_longest a0 v1) fun (u2 : ((Option (List (Option Int))) × (Option (List (Option Int))))) =>
  (if (isNo u2.2) = true then (wbind (wbind (wo u2.1) fun v7 => wret (some v7)) fun v8 => wret (("times" : Str), v8)) else (wret (("ring" : Str), u2.2)))
theorem r_exit_paper (a0 : (Int × (List (Int × Int × Int)))) : CA F_exit_paper [(eP2 eI (eT (eP3 eI eI eI))) a0] (eP2 eS (eO (eT (eO eI)))) (p_exit_paper a0) := by
  refine ca_body (d := d_exit_paper) ?_
  unfold p_exit_paper d_exit_paper
  show RS _ _ (fun p => [.val ((eP2 eI (eT (eP3 eI eI eI))) a0), .no, .no]) _ _
  refine rs_asg (ea := (eP2 (eO (eL (eO eI))) (eO (eT (eO eI))))) (fun u2 p => [.val ((eP2 eI (eT (eP3 eI eI eI))) a0), .val ((eO (eL (eO eI))) u2.1), .val ((eO (eT (eO eI))) u2.2)]) ?_ (fun _ _ => (gt_of rfl (gs_cons (gn_nl trivial) (gs_cons (gn_nl trivial) gs_nil)))) fun u2 => ?_
  · exact (rg_call (rg_cv (rg_bt (rg_var (ea := (eP2 eI (eT (eP3 eI eI eI)))) (x := a0) (fun _ => rfl)) (rg_cv (rg_bp (rg_bt (rg_acons (rg_bt (rg_castT (ea := eI) (x := (0 : Int)) (ec := (eO eI)) (y := (some (0 : Int))) (rfl) (rg_c (ea := eI) (x := (0 : Int)))) (rg_anil (rg_ret (ea := (eL (eO eI))) (x := [(some (0 : Int))]) rfl)))) (rg_bt (rg_bt (rg_var (ea := (eP2 eI (eT (eP3 eI eI eI)))) (x := a0) (fun _ => rfl)) (rg_bt (rg_c (ea := eI) (x := (0 : Int))) (rg_some (ea := eI) (x := a0.1) rfl))) (r_repL (ea := (eO eI))))) fun v1 => (rg_cnil (rg_c0 (r_longest a0 v1) rfl)))))))
  show RS _ _ (fun p => [.val ((eP2 eI (eT (eP3 eI eI eI))) a0), .val ((eO (eL (eO eI))) u2.1), .val ((eO (eT (eO eI))) u2.2)]) _ _
  exact rs_retI (ea := (eP2 eS (eO (eT (eO eI))))) (rg_bt (rg_bt (rg_var (ea := (eO (eT (eO eI)))) (x := u2.2) (fun _ => rfl)) (rg_ret (ea := id) (x := (isNo u2.2)) (isnon_o _))) (rg_ite (t := (isNo u2.2)) (rg_acons (rg_bt (rg_c (ea := eS) (x := ("times" : Str))) (rg_acons (rg_bp (rg_cast (ea := (eT (eO eI))) (ec := (eO (eT (eO eI)))) (fun v7 => (some v7)) (fun v7 => rfl) (rg_bi (rg_unOt (rg_var (ea := (eO (eL (eO eI)))) (x := u2.1) (fun _ => rfl))) fun v6 => (rg_some (ea := (eT (eO eI))) (x := v6) r_tupL))) fun v8 => (rg_anil (rg_ret (ea := (eP2 eS (eO (eT (eO eI))))) (x := (("times" : Str), v8)) rfl)))))) (rg_acons (rg_bt (rg_c (ea := eS) (x := ("ring" : Str))) (rg_acons (rg_bt (rg_var (ea := (eO (eT (eO eI)))) (x := u2.2) (fun _ => rfl)) (rg_anil (rg_ret (ea := (eP2 eS (eO (eT (eO eI))))) (x := (("ring" : Str), u2.2)) rfl)))))))) (fun x p hp => .inl rfl)
/-- earliest -/
def p_earliest (a0 : (Int × (List (Int × Int × Int)))) : Wp (Option (List (Option Int))) :=
  wbind (p_exit_paper a0) fun (paper1 : (Str × (Option (List (Option Int))))) =>
  wret (if (decide (paper1.1 = ("times" : Str))) = true then paper1.2 else none)
theorem r_earliest (a0 : (Int × (List (Int × Int × Int)))) : CA F_earliest [(eP2 eI (eT (eP3 eI eI eI))) a0] (eO (eT (eO eI))) (p_earliest a0) := by
  refine ca_body (d := d_earliest) ?_
  unfold p_earliest d_earliest
  show RS _ _ (fun p => [.val ((eP2 eI (eT (eP3 eI eI eI))) a0), .no]) _ _
  refine rs_set (ea := (eP2 eS (eO (eT (eO eI))))) ?_ (fun _ => trivial) fun paper1 => ?_
  · exact (rg_call (rg_cv (rg_bt (rg_var (ea := (eP2 eI (eT (eP3 eI eI eI)))) (x := a0) (fun _ => rfl)) (rg_cnil (rg_c0 (r_exit_paper a0) rfl)))))
  show RS _ _ (fun p => [.val ((eP2 eI (eT (eP3 eI eI eI))) a0), .val ((eP2 eS (eO (eT (eO eI)))) paper1)]) _ _
  exact rs_retT (ea := (eO (eT (eO eI)))) (t := (if (decide (paper1.1 = ("times" : Str))) = true then paper1.2 else none)) (rg_bt (rg_bt (rg_bt (rg_var (ea := (eP2 eS (eO (eT (eO eI))))) (x := paper1) (fun _ => rfl)) (rg_bt (rg_c (ea := eI) (x := (0 : Int))) (rg_some (ea := eS) (x := paper1.1) rfl))) (rg_bt (rg_c (ea := eS) (x := ("times" : Str))) (rg_some (ea := id) (x := (decide (paper1.1 = ("times" : Str)))) (op_eqS _ _)))) (rg_iteT (t := (decide (paper1.1 = ("times" : Str)))) (rg_bt (rg_var (ea := (eP2 eS (eO (eT (eO eI))))) (x := paper1) (fun _ => rfl)) (rg_bt (rg_c (ea := eI) (x := (1 : Int))) (rg_some (ea := (eO (eT (eO eI)))) (x := paper1.2) rfl))) (rg_c (ea := (eO (eT (eO eI)))) (x := none)))) (fun p hp => .inl rfl)
/-- least_gap -/
def p_least_gap (a0 : (Int × (List (Int × Int × Int)))) (a1 : Int) (a2 : Int) : Wp (Option Int) :=
  wbind (wg (0 ≤ a0.1 ∧ a0.1 ≤ 1000 ∧ ([none] : (List (Option Int))).length ≤ 1000) ((List.replicate a0.1.toNat ([none] : (List (Option Int)))).flatten)) fun (first1 : (List (Option Int))) =>
  wbind (wo (setL first1 a1 (some (0 : Int)))) fun (first2 : (List (Option Int))) =>
  (wbind (wbind (wbind (p_longest a0 first2) fun v5 => wret v5.1) fun o => wo o) fun v6 => wo (atI v6 a2))
theorem r_least_gap (a0 : (Int × (List (Int × Int × Int)))) (a1 : Int) (a2 : Int) : CA F_least_gap [(eP2 eI (eT (eP3 eI eI eI))) a0, eI a1, eI a2] (eO eI) (p_least_gap a0 a1 a2) := by
  refine ca_body (d := d_least_gap) ?_
  unfold p_least_gap d_least_gap
  show RS _ _ (fun p => [.val ((eP2 eI (eT (eP3 eI eI eI))) a0), .val (eI a1), .val (eI a2), .no]) _ _
  refine rs_own (ea := (eL (eO eI))) ?_ (fun _ => trivial) fun first1 => ?_
  · exact (rg_bt (rg_acons (rg_bt (rg_c (ea := (eO eI)) (x := none)) (rg_anil (rg_ret (ea := (eL (eO eI))) (x := [none]) rfl)))) (rg_bt (rg_bt (rg_var (ea := (eP2 eI (eT (eP3 eI eI eI)))) (x := a0) (fun _ => rfl)) (rg_bt (rg_c (ea := eI) (x := (0 : Int))) (rg_some (ea := eI) (x := a0.1) rfl))) (r_repL (ea := (eO eI)))))
  show RS _ _ (fun p => [.val ((eP2 eI (eT (eP3 eI eI eI))) a0), .val (eI a1), .val (eI a2), .own ((eL (eO eI)) first1)]) _ _
  refine rs_put (ea := (eO eI)) ?_ ?_ (fun _ => rfl) fun first2 => ?_
  · exact (rg_castT (ea := eI) (x := (0 : Int)) (ec := (eO eI)) (y := (some (0 : Int))) (rfl) (rg_c (ea := eI) (x := (0 : Int))))
  · exact (rg_var (ea := eI) (x := a1) (fun _ => rfl))
  show RS _ _ (fun p => [.val ((eP2 eI (eT (eP3 eI eI eI))) a0), .val (eI a1), .val (eI a2), .own ((eL (eO eI)) first2)]) _ _
  refine rs_fz1 (x := (eL (eO eI)) first2) (fun _ => rfl) ?_
  show RS _ _ (fun p => [.val ((eP2 eI (eT (eP3 eI eI eI))) a0), .val (eI a1), .val (eI a2), .val ((eL (eO eI)) first2)]) _ _
  exact rs_retI (ea := (eO eI)) (rg_bp (rg_unO (rg_bp (rg_call (rg_cv (rg_bt (rg_var (ea := (eP2 eI (eT (eP3 eI eI eI)))) (x := a0) (fun _ => rfl)) (rg_cv (rg_bt (rg_var (ea := (eL (eO eI))) (x := first2) (fun _ => rfl)) (rg_cnil (rg_c0 (r_longest a0 first2) rfl))))))) fun v5 => (rg_bt (rg_c (ea := eI) (x := (0 : Int))) (rg_some (ea := (eO (eL (eO eI)))) (x := v5.1) rfl)))) fun v6 => (rg_bt (rg_var (ea := eI) (x := a2) (fun _ => rfl)) (r_ixL (ea := (eO eI))))) (fun x p hp => .inl rfl)
/-- _law_is_integer -/
def p_l_is_integer (a0 : PyData) : Wp Bool :=
  wret ((isT "int" a0) && (!(isT "bool" a0)))
theorem r_l_is_integer (a0 : PyData) : CA F_l_is_integer [eD a0] eB (p_l_is_integer a0) := by
  refine ca_body (d := d_l_is_integer) ?_
  unfold p_l_is_integer d_l_is_integer
  show RS _ _ (fun p => [.val (eD a0)]) _ _
  exact rs_retT (ea := eB) (t := ((isT "int" a0) && (!(isT "bool" a0)))) (rg_bt (rg_bt (rg_bt (rg_var (ea := eD) (x := a0) (fun _ => rfl)) (rg_ret (ea := eB) (x := (isT "int" a0)) rfl)) (rg_some (ea := id) (x := (isT "int" a0)) rfl)) (rg_dand (t := (isT "int" a0)) (rg_bt (rg_bt (rg_bt (rg_var (ea := eD) (x := a0) (fun _ => rfl)) (rg_ret (ea := eB) (x := (isT "bool" a0)) rfl)) (rg_some (ea := id) (x := (isT "bool" a0)) rfl)) (rg_ret (ea := eB) (x := !(isT "bool" a0)) rfl)))) (fun p hp => .inl rfl)
/-- _law_exits -/
def p_l_exits : Wp (Int × (List (Int × Int × Int))) :=
  wbind (wbind (wdraw (6 : Int)) fun v1 => wret ((1 : Int) + v1)) fun (many2 : Int) =>
  lt' ([] : (List (Int × Int × Int))) fun (rows3 : (List (Int × Int × Int))) =>
  wbind (wbind (wdraw (3 : Int)) fun v4 => wo (atI ([((3 : Int), (9 : Int), (99 : Int)).1, ((3 : Int), (9 : Int), (99 : Int)).2.1, ((3 : Int), (9 : Int), (99 : Int)).2.2]) v4)) fun (around5 : Int) =>
  wbind (wbind (if (decide ((1 : Int) < many2)) = true then (wdraw (13 : Int)) else (wret (0 : Int))) fun v6 => wg (okR 0 v6) (rngL 0 v6.toNat)) fun l35 => wbind (wfold (fun (s7 : (List (Int × Int × Int))) (k16 : Int) =>
    wbind (wdraw many2) fun (a17 : Int) =>
    wbind (wbind (wbind (wg (okR 0 many2) (rngL 0 many2.toNat)) fun v19 => wret ((v19.filter fun g18 => (!decide (g18 = a17))).map fun g18 => g18)) fun v20 => wpick v20) fun (b21 : Int) =>
    wbind (wdraw (around5 + (1 : Int))) fun (gap22 : Int) =>
    wbind (wbind (wbind (if (decide (a17 < b21)) = true then (wbind (wdraw (5 : Int)) fun v28 => wret (decide ((0 : Int) < v28))) else wret false) fun v31 => (if v31 = true then (wret gap22) else (wbind (wbind (wdraw (3 : Int)) fun v29 => wret (((0 : Int) - gap22) - v29)) fun v30 => wret (max (-(99 : Int)) v30)))) fun v32 => wret (a17, b21, v32)) fun v34 => wbind (wg (s7.length < 16777216) (s7 ++ [v34])) fun (rows33 : (List (Int × Int × Int))) =>
    wret rows33) l35 rows3) fun (s36 : (List (Int × Int × Int))) =>
  wret (many2, s36)
theorem r_l_exits : CP F_l_exits [] (eP2 eI (eT (eP3 eI eI eI))) (p_l_exits) := by
  refine cp_body (d := d_l_exits) ?_
  unfold p_l_exits d_l_exits
  show RS _ _ (fun p => [.lent p, .no, .no, .no, .no, .no, .no, .no, .no]) _ _
  refine rs_set (ea := eI) ?_ (fun _ => trivial) fun many2 => ?_
  · exact (rg_bt (rg_c (ea := eI) (x := (1 : Int))) (rg_bp (rg_call (rg_cp (fun _ => rfl) (rg_cv (rg_bt (rg_c (ea := eI) (x := (6 : Int))) (rg_cnil (rg_c1 c1_draw rfl (fun _ => rfl) (fun _ _ => rfl))))))) fun v1 => (rg_some (ea := eI) (x := ((1 : Int) + v1)) add_i)))
  show RS _ _ (fun p => [.lent p, .val (eI many2), .no, .no, .no, .no, .no, .no, .no]) _ _
  refine rs_ownT (ea := (eL (eP3 eI eI eI))) ?_ (fun _ => trivial) fun rows3 => ?_
  · exact (rg_anil (rg_ret (ea := (eL (eP3 eI eI eI))) (x := []) rfl))
  show RS _ _ (fun p => [.lent p, .val (eI many2), .own ((eL (eP3 eI eI eI)) rows3), .no, .no, .no, .no, .no, .no]) _ _
  refine rs_set (ea := eI) ?_ (fun _ => trivial) fun around5 => ?_
  · exact (rg_bt (rg_castT (ea := (eP3 eI eI eI)) (x := ((3 : Int), (9 : Int), (99 : Int))) (ec := (eT eI)) (y := [((3 : Int), (9 : Int), (99 : Int)).1, ((3 : Int), (9 : Int), (99 : Int)).2.1, ((3 : Int), (9 : Int), (99 : Int)).2.2]) (rfl) (rg_acons (rg_bt (rg_c (ea := eI) (x := (3 : Int))) (rg_acons (rg_bt (rg_c (ea := eI) (x := (9 : Int))) (rg_acons (rg_bt (rg_c (ea := eI) (x := (99 : Int))) (rg_anil (rg_ret (ea := (eP3 eI eI eI)) (x := ((3 : Int), (9 : Int), (99 : Int))) rfl))))))))) (rg_bp (rg_call (rg_cp (fun _ => rfl) (rg_cv (rg_bt (rg_c (ea := eI) (x := (3 : Int))) (rg_cnil (rg_c1 c1_draw rfl (fun _ => rfl) (fun _ _ => rfl))))))) fun v4 => (r_ixT (ea := eI))))
  show RS _ _ (fun p => [.lent p, .val (eI many2), .own ((eL (eP3 eI eI eI)) rows3), .val (eI around5), .no, .no, .no, .no, .no]) _ _
  refine rs_for (ea := eI) (σ := (List (Int × Int × Int))) (fun (s : (List (Int × Int × Int))) e => ∃ p u12 u13 u14 u15, Pok p ∧ VN u12 ∧ VN u13 ∧ VN u14 ∧ VN u15 ∧ e = [.lent p, .val (eI many2), .own ((eL (eP3 eI eI eI)) s), .val (eI around5), u12, u13, u14, .no, u15]) ?_ (fun p hp => ⟨p, .no, .no, .no, .no, hp, trivial, trivial, trivial, trivial, rfl⟩) ?_ ?_
  · exact (rg_bp (rg_bt (rg_bt (rg_var (ea := eI) (x := many2) (fun _ => rfl)) (rg_bt (rg_c (ea := eI) (x := (1 : Int))) (rg_some (ea := id) (x := (decide ((1 : Int) < many2))) gt_i))) (rg_ite (t := (decide ((1 : Int) < many2))) (rg_call (rg_cp (fun _ => rfl) (rg_cv (rg_bt (rg_c (ea := eI) (x := (13 : Int))) (rg_cnil (rg_c1 c1_draw rfl (fun _ => rfl) (fun _ _ => rfl))))))) (rg_c (ea := eI) (x := (0 : Int))))) fun v6 => r_iR1)
  · rintro s7 k16 e ⟨p, u8, u9, u10, u11, hp, nu8, nu9, nu10, nu11, rfl⟩
    refine ⟨(fun p => [.lent p, .val (eI many2), .own ((eL (eP3 eI eI eI)) s7), .val (eI around5), .val (eI k16), u9, u10, .no, u11]), p, hp, (gn_nl (VN.nl nu8)), ?_⟩
    refine rs_set (ea := eI) ?_ (fun _ => (VN.nl nu9)) fun a17 => ?_
    · exact (rg_call (rg_cp (fun _ => rfl) (rg_cv (rg_bt (rg_var (ea := eI) (x := many2) (fun _ => rfl)) (rg_cnil (rg_c1 c1_draw rfl (fun _ => rfl) (fun _ _ => rfl)))))))
    show RS _ _ (fun p => [.lent p, .val (eI many2), .own ((eL (eP3 eI eI eI)) s7), .val (eI around5), .val (eI k16), .val (eI a17), u10, .no, u11]) _ _
    refine rs_set (ea := eI) ?_ (fun _ => (VN.nl nu10)) fun b21 => ?_
    · exact (rg_call (rg_cp (fun _ => rfl) (rg_cv (rg_bp (rg_dcomp (rg_bp (rg_bt (rg_var (ea := eI) (x := many2) (fun _ => rfl)) r_iR1) fun v19 => (rg_compT (ea := eI) (eb := eI) (l := v19) (wc := fun g18 => (!decide (g18 = a17))) (we := fun g18 => g18) (fun g18 p => [.lent p, .val (eI many2), .own ((eL (eP3 eI eI eI)) s7), .val (eI around5), .val (eI k16), .val (eI a17), u10, .val (eI g18), u11]) (fun _ => (okw_c trivial okw_nil)) (fun _ _ => rfl) (fun _ _ => rfl) (fun _ _ => rfl) (fun _ _ => rfl) (fun _ _ => rfl) (fun g18 => (rg_bt (rg_var (ea := eI) (x := g18) (fun _ => rfl)) (rg_bt (rg_var (ea := eI) (x := a17) (fun _ => rfl)) (rg_some (ea := id) (x := (!decide (g18 = a17))) ne_i)))) (fun g18 => (rg_var (ea := eI) (x := g18) (fun _ => rfl)))))) fun v20 => (rg_cnil (rg_c1 (c1_pickL (ea := eI)) rfl (fun _ => rfl) (fun _ _ => rfl)))))))
    show RS _ _ (fun p => [.lent p, .val (eI many2), .own ((eL (eP3 eI eI eI)) s7), .val (eI around5), .val (eI k16), .val (eI a17), .val (eI b21), .no, u11]) _ _
    refine rs_set (ea := eI) ?_ (fun _ => (VN.nl nu11)) fun gap22 => ?_
    · exact (rg_call (rg_cp (fun _ => rfl) (rg_cv (rg_bt (rg_bt (rg_var (ea := eI) (x := around5) (fun _ => rfl)) (rg_bt (rg_c (ea := eI) (x := (1 : Int))) (rg_some (ea := eI) (x := (around5 + (1 : Int))) add_i))) (rg_cnil (rg_c1 c1_draw rfl (fun _ => rfl) (fun _ _ => rfl)))))))
    show RS _ _ (fun p => [.lent p, .val (eI many2), .own ((eL (eP3 eI eI eI)) s7), .val (eI around5), .val (eI k16), .val (eI a17), .val (eI b21), .no, .val (eI gap22)]) _ _
    refine rs_last ?_
    refine rs_app (ea := (eP3 eI eI eI)) ?_ (fun _ => rfl) fun rows33 => ?_
    · exact (rg_acons (rg_bt (rg_var (ea := eI) (x := a17) (fun _ => rfl)) (rg_acons (rg_bt (rg_var (ea := eI) (x := b21) (fun _ => rfl)) (rg_acons (rg_bp (rg_bp (rg_bt (rg_bt (rg_var (ea := eI) (x := a17) (fun _ => rfl)) (rg_bt (rg_var (ea := eI) (x := b21) (fun _ => rfl)) (rg_some (ea := id) (x := (decide (a17 < b21))) lt_i))) (rg_andP (t := (decide (a17 < b21))) (rg_bp (rg_call (rg_cp (fun _ => rfl) (rg_cv (rg_bt (rg_c (ea := eI) (x := (5 : Int))) (rg_cnil (rg_c1 c1_draw rfl (fun _ => rfl) (fun _ _ => rfl))))))) fun v28 => (rg_bt (rg_c (ea := eI) (x := (0 : Int))) (rg_some (ea := id) (x := (decide ((0 : Int) < v28))) gt_i))))) fun v31 => (rg_ite (t := v31) (rg_var (ea := eI) (x := gap22) (fun _ => rfl)) (rg_bt (rg_bt (rg_c (ea := eI) (x := (99 : Int))) (rg_some (ea := eI) (x := (-(99 : Int))) r_neg)) (rg_bp (rg_bt (rg_bt (rg_c (ea := eI) (x := (0 : Int))) (rg_bt (rg_var (ea := eI) (x := gap22) (fun _ => rfl)) (rg_some (ea := eI) (x := ((0 : Int) - gap22)) sub_i))) (rg_bp (rg_call (rg_cp (fun _ => rfl) (rg_cv (rg_bt (rg_c (ea := eI) (x := (3 : Int))) (rg_cnil (rg_c1 c1_draw rfl (fun _ => rfl) (fun _ _ => rfl))))))) fun v29 => (rg_some (ea := eI) (x := (((0 : Int) - gap22) - v29)) sub_i))) fun v30 => (rg_some (ea := eI) (x := (max (-(99 : Int)) v30)) r_max2))))) fun v32 => (rg_anil (rg_ret (ea := (eP3 eI eI eI)) (x := (a17, b21, v32)) rfl))))))))
    show RS _ _ (fun p => [.lent p, .val (eI many2), .own ((eL (eP3 eI eI eI)) rows33), .val (eI around5), .val (eI k16), .val (eI a17), .val (eI b21), .no, .val (eI gap22)]) _ _
    exact rs_nx (fun p hp => ⟨.inl rfl, ⟨p, .val (eI k16), .val (eI a17), .val (eI b21), .val (eI gap22), hp, trivial, trivial, trivial, trivial, rfl⟩⟩)
  · rintro s36 e ⟨p, u37, u38, u39, u40, hp, nu37, nu38, nu39, nu40, rfl⟩
    refine ⟨(fun p => [.lent p, .val (eI many2), .own ((eL (eP3 eI eI eI)) s36), .val (eI around5), u37, u38, u39, .no, u40]), p, hp, rfl, ?_⟩
    exact rs_retT (ea := (eP2 eI (eT (eP3 eI eI eI)))) (t := (many2, s36)) (rg_acons (rg_bt (rg_var (ea := eI) (x := many2) (fun _ => rfl)) (rg_acons (rg_bt (rg_bt (rg_ow (ea := (eL (eP3 eI eI eI))) (x := s36) (fun _ => rfl)) (rg_some (ea := (eT (eP3 eI eI eI))) (x := s36) r_tupL)) (rg_anil (rg_ret (ea := (eP2 eI (eT (eP3 eI eI eI)))) (x := (many2, s36)) rfl)))))) (fun p hp => ⟨.inl rfl, p, hp, rfl⟩)
/-- _law_are_times -/
def p_l_are_times (a0 : (Int × (List (Int × Int × Int)))) (a1 : PyData) : Wp Bool :=
  wbind (if (!(isT "tuple" a1)) = true then wret true else (wbind (wbind (wo (fLen a1)) fun v1 => wo (fNe v1 (eI a0.1))) fun v8 => (if v8 = true then wret true else (wbind (wbind (wbind (wo (tupOf a1)) fun v5 => wfm (fun one2 => (wbind (p_l_is_integer one2) fun v4 => wret (!v4))) (fun one2 => (wret one2)) v5) fun v6 => wret (v6.length : Int)) fun v7 => wret (decide ((0 : Int) < v7)))))) fun b23 => if b23 = true then
    wret false
  else
    ((wbind (wbind (wfm (fun rule16 => (wbind (wbind (wo (fIx a1 (eI rule16.2.1))) fun v17 => wbind (wo (fIx a1 (eI rule16.1))) fun v18 => wo (fI2 gSub' v17 v18)) fun v19 => wo (fLt v19 (eI rule16.2.2)))) (fun rule16 => (wret rule16)) a0.2) fun v20 => wret (v20.length : Int)) fun v21 => wret (decide (v21 = (0 : Int)))))
theorem r_l_are_times (a0 : (Int × (List (Int × Int × Int)))) (a1 : PyData) : CA F_l_are_times [(eP2 eI (eT (eP3 eI eI eI))) a0, eD a1] eB (p_l_are_times a0 a1) := by
  refine ca_body (d := d_l_are_times) ?_
  unfold p_l_are_times d_l_are_times
  show RS _ _ (fun p => [.val ((eP2 eI (eT (eP3 eI eI eI))) a0), .val (eD a1), .no, .no]) _ _
  refine rs_ifP ?_ ?_ ?_
  · exact (rg_bt (rg_bt (rg_bt (rg_bt (rg_var (ea := eD) (x := a1) (fun _ => rfl)) (rg_ret (ea := eB) (x := (isT "tuple" a1)) rfl)) (rg_some (ea := id) (x := (isT "tuple" a1)) rfl)) (rg_ret (ea := id) (x := !(isT "tuple" a1)) rfl)) (rg_orP (t := (!(isT "tuple" a1))) (rg_bp (rg_bp (rg_bt (rg_var (ea := eD) (x := a1) (fun _ => rfl)) rg_dyn) fun v1 => (rg_bt (rg_castT (ea := eI) (x := a0.1) (ec := eD) (y := eI a0.1) rfl (rg_bt (rg_var (ea := (eP2 eI (eT (eP3 eI eI eI)))) (x := a0) (fun _ => rfl)) (rg_bt (rg_c (ea := eI) (x := (0 : Int))) (rg_some (ea := eI) (x := a0.1) rfl)))) rg_dyn)) fun v8 => (rg_orP (t := v8) (rg_bp (rg_bp (rg_dcomp (rg_bp (rg_bt (rg_var (ea := eD) (x := a1) (fun _ => rfl)) (rg_wo (ea := List.map eD) (fun _ h => h.trans (congrArg some (List.map_id _).symm)))) fun v5 => (rg_comp (ea := eD) (eb := eD) (l := v5) (fun one2 p => [.val ((eP2 eI (eT (eP3 eI eI eI))) a0), .val (eD a1), .val (eD one2), .no]) (fun _ => (okw_c trivial okw_nil)) (fun _ _ => rfl) (fun _ _ => rfl) (fun _ _ => rfl) (fun _ _ => rfl) (fun _ _ => rfl) (fun one2 => (rg_bp (rg_bi (ea := eB) (rg_call (rg_cv (rg_bt (rg_var (ea := eD) (x := one2) (fun _ => rfl)) (rg_cnil (rg_c0 (r_l_is_integer one2) rfl))))) fun v3 => (rg_some (ea := id) (x := v3) rfl)) fun v4 => (rg_ret (ea := id) (x := !v4) rfl))) (fun one2 => (rg_var (ea := eD) (x := one2) (fun _ => rfl)))))) fun v6 => (r_lenL (ea := eD))) fun v7 => (rg_bt (rg_c (ea := eI) (x := (0 : Int))) (rg_some (ea := id) (x := (decide ((0 : Int) < v7))) gt_i)))))))
  · refine rs_stRt ?_
    exact rs_retT (ea := eB) (t := false) (rg_c (ea := eB) (x := false)) (fun p hp => .inl rfl)
  · refine rs_skip ?_
    exact rs_retI (ea := eB) (rg_bb (rg_bp (rg_bp (rg_dcomp (rg_bt (rg_bt (rg_bt (rg_var (ea := (eP2 eI (eT (eP3 eI eI eI)))) (x := a0) (fun _ => rfl)) (rg_bt (rg_c (ea := eI) (x := (1 : Int))) (rg_some (ea := (eT (eP3 eI eI eI))) (x := a0.2) rfl))) (rg_some (ea := List.map (eP3 eI eI eI)) (x := a0.2) rfl)) (rg_comp (ea := (eP3 eI eI eI)) (eb := (eP3 eI eI eI)) (l := a0.2) (fun rule16 p => [.val ((eP2 eI (eT (eP3 eI eI eI))) a0), .val (eD a1), .no, .val ((eP3 eI eI eI) rule16)]) (fun _ => (okw_c trivial okw_nil)) (fun _ _ => rfl) (fun _ _ => rfl) (fun _ _ => rfl) (fun _ _ => rfl) (fun _ _ => rfl) (fun rule16 => (rg_bp (rg_bp (rg_bt (rg_var (ea := eD) (x := a1) (fun _ => rfl)) (rg_bt (rg_castT (ea := eI) (x := rule16.2.1) (ec := eD) (y := eI rule16.2.1) rfl (rg_bt (rg_var (ea := (eP3 eI eI eI)) (x := rule16) (fun _ => rfl)) (rg_bt (rg_c (ea := eI) (x := (1 : Int))) (rg_some (ea := eI) (x := rule16.2.1) rfl)))) rg_dyn)) fun v17 => (rg_bp (rg_bt (rg_var (ea := eD) (x := a1) (fun _ => rfl)) (rg_bt (rg_castT (ea := eI) (x := rule16.1) (ec := eD) (y := eI rule16.1) rfl (rg_bt (rg_var (ea := (eP3 eI eI eI)) (x := rule16) (fun _ => rfl)) (rg_bt (rg_c (ea := eI) (x := (0 : Int))) (rg_some (ea := eI) (x := rule16.1) rfl)))) rg_dyn)) fun v18 => rg_dyn)) fun v19 => (rg_bt (rg_castT (ea := eI) (x := rule16.2.2) (ec := eD) (y := eI rule16.2.2) rfl (rg_bt (rg_var (ea := (eP3 eI eI eI)) (x := rule16) (fun _ => rfl)) (rg_bt (rg_c (ea := eI) (x := (2 : Int))) (rg_some (ea := eI) (x := rule16.2.2) rfl)))) rg_dyn))) (fun rule16 => (rg_var (ea := (eP3 eI eI eI)) (x := rule16) (fun _ => rfl)))))) fun v20 => (r_lenL (ea := (eP3 eI eI eI)))) fun v21 => (rg_bt (rg_c (ea := eI) (x := (0 : Int))) (rg_some (ea := id) (x := (decide (v21 = (0 : Int)))) eq_i))) fun v22 => (rg_ret (ea := eB) (x := v22) rfl)) (fun x p hp => .inl rfl)
/-- _law_far_gaps -/
def okFar (a : Int × List Ru) : Prop := 0 ≤ a.1 ∧ a.1 ≤ 100 ∧ ∀ r ∈ a.2, (0 ≤ r.1 ∧ r.1 < a.1) ∧ (0 ≤ r.2.1 ∧ r.2.1 < a.1)
def farL (a : Int × List Ru) : List (List (Option Int)) := (List.range a.1.toNat).map fun i => (List.range a.1.toNat).map fun j => far a.1.toNat a.2 i j
def p_l_far_gaps (a0 : Int × List Ru) : Wp (List (List (Option Int))) := wg (okFar a0) (farL a0)
theorem r_l_far_gaps (a0 : Int × List Ru) : CA F_l_far_gaps [eP2 eI (eT (eP3 eI eI eI)) a0] (eL (eL (eO eI))) (p_l_far_gaps a0) := fun Q ⟨h, hq⟩ => by
  obtain ⟨n, R⟩ := a0
  obtain ⟨h0, h1, h2⟩ := h
  refine ⟨_, ?_, hq⟩
  show (if 0 ≤ n ∧ n ≤ 100 ∧ (R.map (eP3 eI eI eI)).all (isRu n) = true then _ else none) = _
  have ha : (R.map (eP3 eI eI eI)).all (isRu n) = true := by
    rw [List.all_eq_true]
    intro d hd
    obtain ⟨r, hr, rfl⟩ := List.mem_map.mp hd
    obtain ⟨⟨c0, c1⟩, d0, d1⟩ := h2 r hr
    show ((decide (0 ≤ r.1) && decide (r.1 < n)) && (decide (0 ≤ r.2.1) && decide (r.2.1 < n))) = true
    rw [decide_eq_true c0, decide_eq_true c1, decide_eq_true d0, decide_eq_true d1]; rfl
  have hm : (R.map (eP3 eI eI eI)).map ruOf = R := by
    rw [List.map_map]
    exact (List.map_congr_left fun r _ => rfl).trans (List.map_id R)
  rw [if_pos ⟨h0, h1, ha⟩, hm]
  refine congrArg some (congrArg (·, _) ?_)
  show PyData.list _ = PyData.list ((farL (n, R)).map (eL (eO eI)))
  unfold farL
  rw [List.map_map]
  refine congrArg PyData.list (List.map_congr_left fun i _ => ?_)
  show PyData.list _ = PyData.list (((List.range n.toNat).map fun j => far n.toNat R i j).map (eO eI))
  rw [List.map_map]
  refine congrArg PyData.list (List.map_congr_left fun j _ => ?_)
  show dO _ = eO eI (far n.toNat R i j)
  cases far n.toNat R i j <;> rfl
/-- _law_has_times -/
def p_l_has_times (a0 : (Int × (List (Int × Int × Int)))) : Wp Bool :=
  wbind (p_l_far_gaps a0) fun (far1 : (List (List (Option Int)))) =>
  ((wbind (wbind (wbind (wg (okR 0 a0.1) (rngL 0 a0.1.toNat)) fun v12 => wfm (fun k9 => (wbind (wbind (wbind (wo (atI far1 k9)) fun v10 => wo (atI v10 k9)) fun o => wo o) fun v11 => wret (decide ((0 : Int) < v11)))) (fun k9 => (wret k9)) v12) fun v13 => wret (v13.length : Int)) fun v14 => wret (decide (v14 = (0 : Int)))))
theorem r_l_has_times (a0 : (Int × (List (Int × Int × Int)))) : CA F_l_has_times [(eP2 eI (eT (eP3 eI eI eI))) a0] eB (p_l_has_times a0) := by
  refine ca_body (d := d_l_has_times) ?_
  unfold p_l_has_times d_l_has_times
  show RS _ _ (fun p => [.val ((eP2 eI (eT (eP3 eI eI eI))) a0), .no, .no]) _ _
  refine rs_set (ea := (eL (eL (eO eI)))) ?_ (fun _ => trivial) fun far1 => ?_
  · exact (rg_call (rg_cv (rg_bt (rg_var (ea := (eP2 eI (eT (eP3 eI eI eI)))) (x := a0) (fun _ => rfl)) (rg_cnil (rg_c0 (r_l_far_gaps a0) rfl)))))
  show RS _ _ (fun p => [.val ((eP2 eI (eT (eP3 eI eI eI))) a0), .val ((eL (eL (eO eI))) far1), .no]) _ _
  exact rs_retI (ea := eB) (rg_bb (rg_bp (rg_bp (rg_dcomp (rg_bp (rg_bt (rg_bt (rg_var (ea := (eP2 eI (eT (eP3 eI eI eI)))) (x := a0) (fun _ => rfl)) (rg_bt (rg_c (ea := eI) (x := (0 : Int))) (rg_some (ea := eI) (x := a0.1) rfl))) r_iR1) fun v12 => (rg_comp (ea := eI) (eb := eI) (l := v12) (fun k9 p => [.val ((eP2 eI (eT (eP3 eI eI eI))) a0), .val ((eL (eL (eO eI))) far1), .val (eI k9)]) (fun _ => (okw_c trivial okw_nil)) (fun _ _ => rfl) (fun _ _ => rfl) (fun _ _ => rfl) (fun _ _ => rfl) (fun _ _ => rfl) (fun k9 => (rg_bp (rg_unO (rg_bp (rg_bt (rg_var (ea := (eL (eL (eO eI)))) (x := far1) (fun _ => rfl)) (rg_bt (rg_var (ea := eI) (x := k9) (fun _ => rfl)) (r_ixL (ea := (eL (eO eI)))))) fun v10 => (rg_bt (rg_var (ea := eI) (x := k9) (fun _ => rfl)) (r_ixL (ea := (eO eI)))))) fun v11 => (rg_bt (rg_c (ea := eI) (x := (0 : Int))) (rg_some (ea := id) (x := (decide ((0 : Int) < v11))) gt_i)))) (fun k9 => (rg_var (ea := eI) (x := k9) (fun _ => rfl)))))) fun v13 => (r_lenL (ea := eI))) fun v14 => (rg_bt (rg_c (ea := eI) (x := (0 : Int))) (rg_some (ea := id) (x := (decide (v14 = (0 : Int)))) eq_i))) fun v15 => (rg_ret (ea := eB) (x := v15) rfl)) (fun x p hp => .inl rfl)
/-- law -/
def p_law : Wp Bool :=
  wbind (wfoldX (fun (s1 : Unit) (turn24 : Int) =>
    wbind p_l_exits fun (exits25 : (Int × (List (Int × Int × Int)))) =>
    lt' exits25 fun (u26 : (Int × (List (Int × Int × Int)))) =>
    wbind (p_earliest exits25) fun (times27 : (Option (List (Option Int)))) =>
    wbind (wbind ((wbind (wbind (wbind (p_exit_paper exits25) fun v28 => wret v28.1) fun v29 => wret ((!isNo times27), v29)) fun v34 => wbind (wbind (p_l_has_times exits25) fun v32 => wbind (wbind (p_l_has_times exits25) fun v31 => wret (if v31 = true then ("times" : Str) else ("ring" : Str))) fun v33 => wret (v32, v33)) fun v35 => wg (SmE.sz (eQ2 eB eS) v35) (decide (v34 = v35)))) fun v37 => wret (!v37)) fun b150 => if b150 = true then
      wret (.ret false)
    else
      lt' (u26.1, (cutL u26.2 (some (1 : Int)) none)) fun (fewer38 : (Int × (List (Int × Int × Int)))) =>
      wbind (p_earliest fewer38) fun (before39 : (Option (List (Option Int)))) =>
      if (isNo times27) = true then
        wret (.go ())
      else
        wbind (wbind (wbind (p_l_are_times exits25 ((eO (eT (eO eI))) times27)) fun v41 => wret (!v41)) fun v51 => (if v51 = true then wret true else (wbind (wbind (wbind (wbind ((wbind (wo times27) fun v45 => wmap (fun one43 => (wbind (wo one43) fun v44 => wret (v44 + (9 : Int)))) v45)) fun v47 => wret ((eT eI) v47)) fun v48 => p_are_times exits25 v48) fun v49 => wret (!decide (v49 = true))) fun v50 => wret (v50 || (isNo before39))))) fun b148 => if b148 = true then
          wret (.ret false)
        else
          wbind (wbind (wbind (wbind (wbind (wg (okR 0 u26.1) (rngL 0 u26.1.toNat)) fun v57 => wfm (fun k52 => (wbind (wbind (wbind (wo before39) fun v53 => wo (atI v53 k52)) fun o => wo o) fun v55 => wbind (wbind (wbind (wo times27) fun v54 => wo (atI v54 k52)) fun o => wo o) fun v56 => wret (decide (v56 < v55)))) (fun k52 => (wret k52)) v57) fun v58 => wret (v58.length : Int)) fun v59 => wret (decide ((0 : Int) < v59))) fun v63 => (if v63 = true then wret true else (wbind (wbind (wbind (wo times27) fun v60 => wo (unOs v60)) fun v61 => wo (minE eI v61)) fun v62 => wret (!decide (v62 = (0 : Int)))))) fun b147 => if b147 = true then
            wret (.ret false)
          else
            wbind (wg (okR 0 u26.1) (rngL 0 u26.1.toNat)) fun l101 => wbind (wfoldX (fun (s64 : Unit) (k67 : Int) =>
              wbind (wbind (wbind (wbind (wbind (wo times27) fun v68 => wo (atI v68 k67)) fun o => wo o) fun v69 => wret (decide ((0 : Int) < v69))) fun v99 => (if v99 = true then ((wbind (wbind (wbind (wbind (wbind (wo times27) fun v86 => wret (cutL v86 none (some k67))) fun v91 => wbind (wbind (wbind (wbind (wbind (wbind (wo times27) fun v87 => wo (atI v87 k67)) fun o => wo o) fun v88 => wret (v88 - (1 : Int))) fun v89 => wret (some v89)) fun v90 => wret ([v90])) fun v92 => wg (v91.length + v92.length ≤ 16777216) (v91 ++ v92)) fun v94 => wbind (wbind (wo times27) fun v93 => wret (cutL v93 (some (k67 + (1 : Int))) none)) fun v95 => wg (v94.length + v95.length ≤ 16777216) (v94 ++ v95)) fun v96 => wret ((eT (eO eI)) v96)) fun v97 => p_l_are_times exits25 v97)) else wret false)) fun b100 => if b100 = true then
                wret (.ret false)
              else
                wret (.go ())) l101 ()) (onR (fun (s102 : Unit) =>
              wbind (wg (okR 0 u26.1) (rngL 0 u26.1.toNat)) fun l142 => wbind (wfoldX (fun (s104 : Unit) (a111 : Int) =>
                wbind (wg (okR 0 u26.1) (rngL 0 u26.1.toNat)) fun l138 => wbind (wfoldX (fun (s112 : Unit) (b117 : Int) =>
                  wbind (if (!decide (a111 = b117)) = true then (p_least_gap exits25 a111 b117) else (wret none)) fun (gap118 : (Option Int)) =>
                  wbind (if (!isNo gap118) = true then (wbind (wbind (wbind (wbind (wbind (wo times27) fun v119 => wo (atI v119 b117)) fun o => wo o) fun v121 => wbind (wbind (wbind (wo times27) fun v120 => wo (atI v120 a111)) fun o => wo o) fun v122 => wret (v121 - v122)) fun v123 => wbind (wo gap118) fun v124 => wret (decide (v123 < v124))) fun v136 => (if v136 = true then wret true else (wbind ((wbind (wbind (wbind (wbind (wbind (wbind (wo gap118) fun v128 => wret ((0 : Int) - v128)) fun v129 => wret (b117, a111, v129)) fun v130 => wret ([v130])) fun v131 => wg (u26.2.length + v131.length ≤ 16777216) (u26.2 ++ v131)) fun v132 => wret (u26.1, v132)) fun v133 => p_l_has_times v133)) fun v135 => wret (!v135)))) else wret false) fun b137 => if b137 = true then
                    wret (.ret false)
                  else
                    wret (.go ())) l138 ()) (onR (fun (s139 : Unit) =>
                  wret (.go ()))
                (fun r => wret (.ret r)))) l142 ()) (onR (fun (s143 : Unit) =>
                wret (.go ()))
              (fun r => wret (.ret r))))
            (fun r => wret (.ret r)))) (rngL 0 3) ()) (onR (fun (s152 : Unit) =>
    wret true)
  (fun r => wret r))
theorem r_law : RS Pok d_law (fun p => [.no, .own p] ++ List.replicate (nLaw - 2) .no) p_law fun r fl e => fl = .rt (eB r) ∨ (fl = .nx ∧ eB r = .none) := by
  unfold p_law d_law
  show RS _ _ (fun p => [.no, .own p, .no, .no, .no, .no, .no, .no, .no, .no, .no, .no, .no, .no]) _ _
  refine rs_forXT (ea := eI) (σ := Unit) (ρ := Bool) (fun (s : Unit) e => ∃ p u13 u14 u15 u16 u17 u18 u19 u20 u21 u22 u23, Pok p ∧ VN u13 ∧ VN u14 ∧ VN u15 ∧ VN u16 ∧ VN u17 ∧ VN u18 ∧ VN u19 ∧ VN u20 ∧ VN u21 ∧ VN u22 ∧ VN u23 ∧ e = [.no, .own p, u13, u14, u15, u16, u17, u18, u19, .no, u20, u21, u22, u23]) (fun (r : Bool) v e => v = eB r) ?_ (fun p hp => ⟨p, .no, .no, .no, .no, .no, .no, .no, .no, .no, .no, .no, hp, trivial, trivial, trivial, trivial, trivial, trivial, trivial, trivial, trivial, trivial, trivial, rfl⟩) ?_ ?_ ?_
  · exact (rg_bt (rg_c (ea := eI) (x := (3 : Int))) (rg_some (ea := List.map eI) (x := rngL 0 3) (rg1_is (j := (3 : Int)) (by unfold okR; decide))))
  · rintro s1 turn24 e ⟨p, u2, u3, u4, u5, u6, u7, u8, u9, u10, u11, u12, hp, nu2, nu3, nu4, nu5, nu6, nu7, nu8, nu9, nu10, nu11, nu12, rfl⟩
    refine ⟨(fun p => [.no, .own p, .val (eI turn24), u3, u4, u5, u6, u7, u8, .no, u9, u10, u11, u12]), p, hp, (gn_nl (VN.nl nu2)), ?_⟩
    refine rs_set (ea := (eP2 eI (eT (eP3 eI eI eI)))) ?_ (fun _ => (VN.nl nu3)) fun exits25 => ?_
    · exact (rg_call (rg_cp (fun _ => rfl) (rg_cnil (rg_c1 r_l_exits rfl (fun _ => rfl) (fun _ _ => rfl)))))
    show RS _ _ (fun p => [.no, .own p, .val (eI turn24), .val ((eP2 eI (eT (eP3 eI eI eI))) exits25), u4, u5, u6, u7, u8, .no, u9, u10, u11, u12]) _ _
    refine rs_asgT (ea := (eP2 eI (eT (eP3 eI eI eI)))) (fun u26 p => [.no, .own p, .val (eI turn24), .val ((eP2 eI (eT (eP3 eI eI eI))) exits25), .val (eI u26.1), .val ((eT (eP3 eI eI eI)) u26.2), u6, u7, u8, .no, u9, u10, u11, u12]) ?_ (fun _ _ => (gt_of rfl (gs_cons (gn_nl (VN.nl nu4)) (gs_cons (gn_nl (VN.nl nu5)) gs_nil)))) fun u26 => ?_
    · exact (rg_var (ea := (eP2 eI (eT (eP3 eI eI eI)))) (x := exits25) (fun _ => rfl))
    show RS _ _ (fun p => [.no, .own p, .val (eI turn24), .val ((eP2 eI (eT (eP3 eI eI eI))) exits25), .val (eI u26.1), .val ((eT (eP3 eI eI eI)) u26.2), u6, u7, u8, .no, u9, u10, u11, u12]) _ _
    refine rs_set (ea := (eO (eT (eO eI)))) ?_ (fun _ => (VN.nl nu6)) fun times27 => ?_
    · exact (rg_call (rg_cv (rg_bt (rg_var (ea := (eP2 eI (eT (eP3 eI eI eI)))) (x := exits25) (fun _ => rfl)) (rg_cnil (rg_c0 (r_earliest exits25) rfl)))))
    show RS _ _ (fun p => [.no, .own p, .val (eI turn24), .val ((eP2 eI (eT (eP3 eI eI eI))) exits25), .val (eI u26.1), .val ((eT (eP3 eI eI eI)) u26.2), .val ((eO (eT (eO eI))) times27), u7, u8, .no, u9, u10, u11, u12]) _ _
    refine rs_ifP ?_ ?_ ?_
    · exact (rg_bp (rg_bi (ea := eB) (rg_call (rg_cv (rg_bp (rg_acons (rg_bt (rg_bt (rg_bt (rg_var (ea := (eO (eT (eO eI)))) (x := times27) (fun _ => rfl)) (rg_ret (ea := id) (x := (!isNo times27)) (notnon_o _))) (rg_ret (ea := eB) (x := (!isNo times27)) rfl)) (rg_acons (rg_bp (rg_bp (rg_call (rg_cv (rg_bt (rg_var (ea := (eP2 eI (eT (eP3 eI eI eI)))) (x := exits25) (fun _ => rfl)) (rg_cnil (rg_c0 (r_exit_paper exits25) rfl))))) fun v28 => (rg_bt (rg_c (ea := eI) (x := (0 : Int))) (rg_some (ea := eS) (x := v28.1) rfl))) fun v29 => (rg_anil (rg_ret (ea := (eQ2 eB eS)) (x := ((!isNo times27), v29)) rfl)))))) fun v34 => (rg_cv (rg_bp (rg_acons (rg_bp (rg_call (rg_cv (rg_bt (rg_var (ea := (eP2 eI (eT (eP3 eI eI eI)))) (x := exits25) (fun _ => rfl)) (rg_cnil (rg_c0 (r_l_has_times exits25) rfl))))) fun v32 => (rg_acons (rg_bp (rg_bp (rg_bi (ea := eB) (rg_call (rg_cv (rg_bt (rg_var (ea := (eP2 eI (eT (eP3 eI eI eI)))) (x := exits25) (fun _ => rfl)) (rg_cnil (rg_c0 (r_l_has_times exits25) rfl))))) fun v30 => (rg_some (ea := id) (x := v30) rfl)) fun v31 => (rg_iteT (t := v31) (rg_c (ea := eS) (x := ("times" : Str))) (rg_c (ea := eS) (x := ("ring" : Str))))) fun v33 => (rg_anil (rg_ret (ea := (eQ2 eB eS)) (x := (v32, v33)) rfl)))))) fun v35 => (rg_cnil (rg_c0 (c0_sameE (ea := (eQ2 eB eS)) (by decide)) rfl))))))) fun v36 => (rg_some (ea := id) (x := v36) rfl)) fun v37 => (rg_ret (ea := id) (x := !v37) rfl))
    · refine rs_stRt ?_
      exact rs_retT (ea := eB) (t := false) (rg_c (ea := eB) (x := false)) (fun p hp => ⟨_, rfl, rfl⟩)
    · refine rs_skip ?_
      refine rs_setT (ea := (eP2 eI (eT (eP3 eI eI eI)))) ?_ (fun _ => (VN.nl nu7)) fun fewer38 => ?_
      · exact (rg_acons (rg_bt (rg_var (ea := eI) (x := u26.1) (fun _ => rfl)) (rg_acons (rg_bt (rg_bt (rg_var (ea := (eT (eP3 eI eI eI))) (x := u26.2) (fun _ => rfl)) (rg_bt (rg_bt (rg_c (ea := eI) (x := (1 : Int))) (rg_some (ea := id) (x := (some (1 : Int) : Option Int)) rfl)) (rg_bt (rg_ret (ea := id) (x := (none : Option Int)) rfl) (r_slT (ea := (eP3 eI eI eI)))))) (rg_anil (rg_ret (ea := (eP2 eI (eT (eP3 eI eI eI)))) (x := (u26.1, (cutL u26.2 (some (1 : Int)) none))) rfl))))))
      show RS _ _ (fun p => [.no, .own p, .val (eI turn24), .val ((eP2 eI (eT (eP3 eI eI eI))) exits25), .val (eI u26.1), .val ((eT (eP3 eI eI eI)) u26.2), .val ((eO (eT (eO eI))) times27), .val ((eP2 eI (eT (eP3 eI eI eI))) fewer38), u8, .no, u9, u10, u11, u12]) _ _
      refine rs_set (ea := (eO (eT (eO eI)))) ?_ (fun _ => (VN.nl nu8)) fun before39 => ?_
      · exact (rg_call (rg_cv (rg_bt (rg_var (ea := (eP2 eI (eT (eP3 eI eI eI)))) (x := fewer38) (fun _ => rfl)) (rg_cnil (rg_c0 (r_earliest fewer38) rfl)))))
      show RS _ _ (fun p => [.no, .own p, .val (eI turn24), .val ((eP2 eI (eT (eP3 eI eI eI))) exits25), .val (eI u26.1), .val ((eT (eP3 eI eI eI)) u26.2), .val ((eO (eT (eO eI))) times27), .val ((eP2 eI (eT (eP3 eI eI eI))) fewer38), .val ((eO (eT (eO eI))) before39), .no, u9, u10, u11, u12]) _ _
      refine rs_if ?_ ?_ ?_
      · exact (rg_bt (rg_var (ea := (eO (eT (eO eI)))) (x := times27) (fun _ => rfl)) (rg_ret (ea := id) (x := (isNo times27)) (isnon_o _)))
      · refine rs_stCt ?_
        exact rs_ct (fun p hp => ⟨.inr rfl, ⟨p, .val (eI turn24), .val ((eP2 eI (eT (eP3 eI eI eI))) exits25), .val (eI u26.1), .val ((eT (eP3 eI eI eI)) u26.2), .val ((eO (eT (eO eI))) times27), .val ((eP2 eI (eT (eP3 eI eI eI))) fewer38), .val ((eO (eT (eO eI))) before39), u9, u10, u11, u12, hp, trivial, trivial, trivial, trivial, trivial, trivial, trivial, nu9, nu10, nu11, nu12, rfl⟩⟩)
      · refine rs_skip ?_
        refine rs_ifP ?_ ?_ ?_
        · exact (rg_bp (rg_bp (rg_bi (ea := eB) (rg_call (rg_cv (rg_bt (rg_var (ea := (eP2 eI (eT (eP3 eI eI eI)))) (x := exits25) (fun _ => rfl)) (rg_cv (rg_bt (rg_castT (ea := (eO (eT (eO eI)))) (x := times27) (ec := eD) (y := (eO (eT (eO eI))) times27) rfl (rg_var (ea := (eO (eT (eO eI)))) (x := times27) (fun _ => rfl))) (rg_cnil (rg_c0 (r_l_are_times exits25 ((eO (eT (eO eI))) times27)) rfl))))))) fun v40 => (rg_some (ea := id) (x := v40) rfl)) fun v41 => (rg_ret (ea := id) (x := !v41) rfl)) fun v51 => (rg_orP (t := v51) (rg_bp (rg_bp (rg_call (rg_cv (rg_bt (rg_var (ea := (eP2 eI (eT (eP3 eI eI eI)))) (x := exits25) (fun _ => rfl)) (rg_cv (rg_bp (rg_cast (ea := (eT eI)) (ec := eD) (eT eI) (fun _ => rfl) (rg_bi (rg_dcomp (rg_bp (rg_bi (rg_unOt (rg_var (ea := (eO (eT (eO eI)))) (x := times27) (fun _ => rfl))) fun v42 => (rg_some (ea := List.map (eO eI)) (x := v42) rfl)) fun v45 => (rg_comp1 (ea := (eO eI)) (eb := eI) (l := v45) (fun one43 p => [.no, .own p, .val (eI turn24), .val ((eP2 eI (eT (eP3 eI eI eI))) exits25), .val (eI u26.1), .val ((eT (eP3 eI eI eI)) u26.2), .val ((eO (eT (eO eI))) times27), .val ((eP2 eI (eT (eP3 eI eI eI))) fewer38), .val ((eO (eT (eO eI))) before39), .val ((eO eI) one43), u9, u10, u11, u12]) (fun _ => (okw_c trivial okw_nil)) (fun _ _ => rfl) (fun _ _ => rfl) (fun _ _ => rfl) (fun _ _ => rfl) (fun _ _ => rfl) (fun one43 => (rg_bp (rg_unOt (rg_var (ea := (eO eI)) (x := one43) (fun _ => rfl))) fun v44 => (rg_bt (rg_c (ea := eI) (x := (9 : Int))) (rg_some (ea := eI) (x := (v44 + (9 : Int))) add_i))))))) fun v46 => (rg_some (ea := (eT eI)) (x := v46) r_tupL))) fun v48 => (rg_cnil (rg_c0 (r_are_times exits25 v48) rfl))))))) fun v49 => (rg_bt (rg_c (ea := eB) (x := true)) (rg_some (ea := id) (x := (!decide (v49 = true))) rfl))) fun v50 => (rg_or (t := v50) (rg_bt (rg_var (ea := (eO (eT (eO eI)))) (x := before39) (fun _ => rfl)) (rg_ret (ea := id) (x := (isNo before39)) (isnon_o _)))))))
        · refine rs_stRt ?_
          exact rs_retT (ea := eB) (t := false) (rg_c (ea := eB) (x := false)) (fun p hp => ⟨_, rfl, rfl⟩)
        · refine rs_skip ?_
          refine rs_ifP ?_ ?_ ?_
          · exact (rg_bp (rg_bp (rg_bp (rg_dcomp (rg_bp (rg_bt (rg_var (ea := eI) (x := u26.1) (fun _ => rfl)) r_iR1) fun v57 => (rg_comp (ea := eI) (eb := eI) (l := v57) (fun k52 p => [.no, .own p, .val (eI turn24), .val ((eP2 eI (eT (eP3 eI eI eI))) exits25), .val (eI u26.1), .val ((eT (eP3 eI eI eI)) u26.2), .val ((eO (eT (eO eI))) times27), .val ((eP2 eI (eT (eP3 eI eI eI))) fewer38), .val ((eO (eT (eO eI))) before39), .no, .val (eI k52), u10, u11, u12]) (fun _ => (okw_c nu9 okw_nil)) (fun _ _ => rfl) (fun _ _ => rfl) (fun _ _ => rfl) (fun _ _ => rfl) (fun _ _ => rfl) (fun k52 => (rg_bp (rg_unO (rg_bp (rg_unOt (rg_var (ea := (eO (eT (eO eI)))) (x := before39) (fun _ => rfl))) fun v53 => (rg_bt (rg_var (ea := eI) (x := k52) (fun _ => rfl)) (r_ixT (ea := (eO eI)))))) fun v55 => (rg_bp (rg_unO (rg_bp (rg_unOt (rg_var (ea := (eO (eT (eO eI)))) (x := times27) (fun _ => rfl))) fun v54 => (rg_bt (rg_var (ea := eI) (x := k52) (fun _ => rfl)) (r_ixT (ea := (eO eI)))))) fun v56 => (rg_some (ea := id) (x := (decide (v56 < v55))) gt_i)))) (fun k52 => (rg_var (ea := eI) (x := k52) (fun _ => rfl)))))) fun v58 => (r_lenL (ea := eI))) fun v59 => (rg_bt (rg_c (ea := eI) (x := (0 : Int))) (rg_some (ea := id) (x := (decide ((0 : Int) < v59))) gt_i))) fun v63 => (rg_orP (t := v63) (rg_bp (rg_bp (rg_unOs (rg_unOt (rg_var (ea := (eO (eT (eO eI)))) (x := times27) (fun _ => rfl)))) fun v61 => (r_minT (ea := eI) (by decide))) fun v62 => (rg_bt (rg_c (ea := eI) (x := (0 : Int))) (rg_some (ea := id) (x := (!decide (v62 = (0 : Int)))) ne_i)))))
          · refine rs_stRt ?_
            exact rs_retT (ea := eB) (t := false) (rg_c (ea := eB) (x := false)) (fun p hp => ⟨_, rfl, rfl⟩)
          · refine rs_skip ?_
            refine rs_forX (ea := eI) (σ := Unit) (ρ := Bool) (fun (s : Unit) e => ∃ p u66, Pok p ∧ VN u66 ∧ e = [.no, .own p, .val (eI turn24), .val ((eP2 eI (eT (eP3 eI eI eI))) exits25), .val (eI u26.1), .val ((eT (eP3 eI eI eI)) u26.2), .val ((eO (eT (eO eI))) times27), .val ((eP2 eI (eT (eP3 eI eI eI))) fewer38), .val ((eO (eT (eO eI))) before39), .no, u66, u10, u11, u12]) (fun (r : Bool) v e => v = eB r) ?_ (fun p hp => ⟨p, u9, hp, nu9, rfl⟩) ?_ ?_ ?_
            · exact (rg_bt (rg_var (ea := eI) (x := u26.1) (fun _ => rfl)) r_iR1)
            · rintro s64 k67 e ⟨p, u65, hp, nu65, rfl⟩
              refine ⟨(fun p => [.no, .own p, .val (eI turn24), .val ((eP2 eI (eT (eP3 eI eI eI))) exits25), .val (eI u26.1), .val ((eT (eP3 eI eI eI)) u26.2), .val ((eO (eT (eO eI))) times27), .val ((eP2 eI (eT (eP3 eI eI eI))) fewer38), .val ((eO (eT (eO eI))) before39), .no, .val (eI k67), u10, u11, u12]), p, hp, (gn_nl (VN.nl nu65)), ?_⟩
              refine rs_last ?_
              refine rs_ifP ?_ ?_ ?_
              · exact (rg_bp (rg_bp (rg_unO (rg_bp (rg_unOt (rg_var (ea := (eO (eT (eO eI)))) (x := times27) (fun _ => rfl))) fun v68 => (rg_bt (rg_var (ea := eI) (x := k67) (fun _ => rfl)) (r_ixT (ea := (eO eI)))))) fun v69 => (rg_bt (rg_c (ea := eI) (x := (0 : Int))) (rg_some (ea := id) (x := (decide ((0 : Int) < v69))) gt_i))) fun v99 => (rg_andP (t := v99) (rg_bi (ea := eB) (rg_call (rg_cv (rg_bt (rg_var (ea := (eP2 eI (eT (eP3 eI eI eI)))) (x := exits25) (fun _ => rfl)) (rg_cv (rg_bp (rg_cast (ea := (eT (eO eI))) (ec := eD) (eT (eO eI)) (fun _ => rfl) (rg_bp (rg_bp (rg_bp (rg_unOt (rg_var (ea := (eO (eT (eO eI)))) (x := times27) (fun _ => rfl))) fun v86 => (rg_bt (rg_ret (ea := id) (x := (none : Option Int)) rfl) (rg_bt (rg_bt (rg_var (ea := eI) (x := k67) (fun _ => rfl)) (rg_some (ea := id) (x := (some k67 : Option Int)) rfl)) (r_slT (ea := (eO eI)))))) fun v91 => (rg_bp (rg_acons (rg_bp (rg_cast (ea := eI) (ec := (eO eI)) (fun v89 => (some v89)) (fun v89 => rfl) (rg_bp (rg_unO (rg_bp (rg_unOt (rg_var (ea := (eO (eT (eO eI)))) (x := times27) (fun _ => rfl))) fun v87 => (rg_bt (rg_var (ea := eI) (x := k67) (fun _ => rfl)) (r_ixT (ea := (eO eI)))))) fun v88 => (rg_bt (rg_c (ea := eI) (x := (1 : Int))) (rg_some (ea := eI) (x := (v88 - (1 : Int))) sub_i)))) fun v90 => (rg_anil (rg_ret (ea := (eT (eO eI))) (x := [v90]) rfl)))) fun v92 => (r_addT (ea := (eO eI))))) fun v94 => (rg_bp (rg_bp (rg_unOt (rg_var (ea := (eO (eT (eO eI)))) (x := times27) (fun _ => rfl))) fun v93 => (rg_bt (rg_bt (rg_bt (rg_var (ea := eI) (x := k67) (fun _ => rfl)) (rg_bt (rg_c (ea := eI) (x := (1 : Int))) (rg_some (ea := eI) (x := (k67 + (1 : Int))) add_i))) (rg_some (ea := id) (x := (some (k67 + (1 : Int)) : Option Int)) rfl)) (rg_bt (rg_ret (ea := id) (x := (none : Option Int)) rfl) (r_slT (ea := (eO eI)))))) fun v95 => (r_addT (ea := (eO eI)))))) fun v97 => (rg_cnil (rg_c0 (r_l_are_times exits25 v97) rfl))))))) fun v98 => (rg_some (ea := id) (x := v98) rfl))))
              · refine rs_stRt ?_
                exact rs_retT (ea := eB) (t := false) (rg_c (ea := eB) (x := false)) (fun p hp => ⟨_, rfl, rfl⟩)
              · refine rs_skip ?_
                exact rs_nx (fun p hp => ⟨.inl rfl, ⟨p, .val (eI k67), hp, trivial, rfl⟩⟩)
            · rintro s102 e ⟨p, u103, hp, nu103, rfl⟩
              refine ⟨(fun p => [.no, .own p, .val (eI turn24), .val ((eP2 eI (eT (eP3 eI eI eI))) exits25), .val (eI u26.1), .val ((eT (eP3 eI eI eI)) u26.2), .val ((eO (eT (eO eI))) times27), .val ((eP2 eI (eT (eP3 eI eI eI))) fewer38), .val ((eO (eT (eO eI))) before39), .no, u103, u10, u11, u12]), p, hp, rfl, ?_⟩
              refine rs_last ?_
              refine rs_forX (ea := eI) (σ := Unit) (ρ := Bool) (fun (s : Unit) e => ∃ p u108 u109 u110, Pok p ∧ VN u108 ∧ VN u109 ∧ VN u110 ∧ e = [.no, .own p, .val (eI turn24), .val ((eP2 eI (eT (eP3 eI eI eI))) exits25), .val (eI u26.1), .val ((eT (eP3 eI eI eI)) u26.2), .val ((eO (eT (eO eI))) times27), .val ((eP2 eI (eT (eP3 eI eI eI))) fewer38), .val ((eO (eT (eO eI))) before39), .no, u103, u108, u109, u110]) (fun (r : Bool) v e => v = eB r) ?_ (fun p hp => ⟨p, u10, u11, u12, hp, nu10, nu11, nu12, rfl⟩) ?_ ?_ ?_
              · exact (rg_bt (rg_var (ea := eI) (x := u26.1) (fun _ => rfl)) r_iR1)
              · rintro s104 a111 e ⟨p, u105, u106, u107, hp, nu105, nu106, nu107, rfl⟩
                refine ⟨(fun p => [.no, .own p, .val (eI turn24), .val ((eP2 eI (eT (eP3 eI eI eI))) exits25), .val (eI u26.1), .val ((eT (eP3 eI eI eI)) u26.2), .val ((eO (eT (eO eI))) times27), .val ((eP2 eI (eT (eP3 eI eI eI))) fewer38), .val ((eO (eT (eO eI))) before39), .no, u103, .val (eI a111), u106, u107]), p, hp, (gn_nl (VN.nl nu105)), ?_⟩
                refine rs_last ?_
                refine rs_forX (ea := eI) (σ := Unit) (ρ := Bool) (fun (s : Unit) e => ∃ p u115 u116, Pok p ∧ VN u115 ∧ VN u116 ∧ e = [.no, .own p, .val (eI turn24), .val ((eP2 eI (eT (eP3 eI eI eI))) exits25), .val (eI u26.1), .val ((eT (eP3 eI eI eI)) u26.2), .val ((eO (eT (eO eI))) times27), .val ((eP2 eI (eT (eP3 eI eI eI))) fewer38), .val ((eO (eT (eO eI))) before39), .no, u103, .val (eI a111), u115, u116]) (fun (r : Bool) v e => v = eB r) ?_ (fun p hp => ⟨p, u106, u107, hp, nu106, nu107, rfl⟩) ?_ ?_ ?_
                · exact (rg_bt (rg_var (ea := eI) (x := u26.1) (fun _ => rfl)) r_iR1)
                · rintro s112 b117 e ⟨p, u113, u114, hp, nu113, nu114, rfl⟩
                  refine ⟨(fun p => [.no, .own p, .val (eI turn24), .val ((eP2 eI (eT (eP3 eI eI eI))) exits25), .val (eI u26.1), .val ((eT (eP3 eI eI eI)) u26.2), .val ((eO (eT (eO eI))) times27), .val ((eP2 eI (eT (eP3 eI eI eI))) fewer38), .val ((eO (eT (eO eI))) before39), .no, u103, .val (eI a111), .val (eI b117), u114]), p, hp, (gn_nl (VN.nl nu113)), ?_⟩
                  refine rs_set (ea := (eO eI)) ?_ (fun _ => (VN.nl nu114)) fun gap118 => ?_
                  · exact (rg_bt (rg_bt (rg_var (ea := eI) (x := a111) (fun _ => rfl)) (rg_bt (rg_var (ea := eI) (x := b117) (fun _ => rfl)) (rg_some (ea := id) (x := (!decide (a111 = b117))) ne_i))) (rg_ite (t := (!decide (a111 = b117))) (rg_call (rg_cv (rg_bt (rg_var (ea := (eP2 eI (eT (eP3 eI eI eI)))) (x := exits25) (fun _ => rfl)) (rg_cv (rg_bt (rg_var (ea := eI) (x := a111) (fun _ => rfl)) (rg_cv (rg_bt (rg_var (ea := eI) (x := b117) (fun _ => rfl)) (rg_cnil (rg_c0 (r_least_gap exits25 a111 b117) rfl))))))))) (rg_castT (ea := eN) (x := ()) (ec := (eO eI)) (y := none) (rfl) (rg_c (ea := eN) (x := ())))))
                  show RS _ _ (fun p => [.no, .own p, .val (eI turn24), .val ((eP2 eI (eT (eP3 eI eI eI))) exits25), .val (eI u26.1), .val ((eT (eP3 eI eI eI)) u26.2), .val ((eO (eT (eO eI))) times27), .val ((eP2 eI (eT (eP3 eI eI eI))) fewer38), .val ((eO (eT (eO eI))) before39), .no, u103, .val (eI a111), .val (eI b117), .val ((eO eI) gap118)]) _ _
                  refine rs_last ?_
                  refine rs_ifP ?_ ?_ ?_
                  · exact (rg_bt (rg_bt (rg_var (ea := (eO eI)) (x := gap118) (fun _ => rfl)) (rg_ret (ea := id) (x := (!isNo gap118)) (notnon_o _))) (rg_andP (t := (!isNo gap118)) (rg_bp (rg_bp (rg_bp (rg_unO (rg_bp (rg_unOt (rg_var (ea := (eO (eT (eO eI)))) (x := times27) (fun _ => rfl))) fun v119 => (rg_bt (rg_var (ea := eI) (x := b117) (fun _ => rfl)) (r_ixT (ea := (eO eI)))))) fun v121 => (rg_bp (rg_unO (rg_bp (rg_unOt (rg_var (ea := (eO (eT (eO eI)))) (x := times27) (fun _ => rfl))) fun v120 => (rg_bt (rg_var (ea := eI) (x := a111) (fun _ => rfl)) (r_ixT (ea := (eO eI)))))) fun v122 => (rg_some (ea := eI) (x := (v121 - v122)) sub_i))) fun v123 => (rg_bp (rg_unOt (rg_var (ea := (eO eI)) (x := gap118) (fun _ => rfl))) fun v124 => (rg_some (ea := id) (x := (decide (v123 < v124))) lt_i))) fun v136 => (rg_orP (t := v136) (rg_bp (rg_bi (ea := eB) (rg_call (rg_cv (rg_bp (rg_acons (rg_bt (rg_var (ea := eI) (x := u26.1) (fun _ => rfl)) (rg_acons (rg_bp (rg_bt (rg_var (ea := (eT (eP3 eI eI eI))) (x := u26.2) (fun _ => rfl)) (rg_bp (rg_acons (rg_bp (rg_acons (rg_bt (rg_var (ea := eI) (x := b117) (fun _ => rfl)) (rg_acons (rg_bt (rg_var (ea := eI) (x := a111) (fun _ => rfl)) (rg_acons (rg_bp (rg_bt (rg_c (ea := eI) (x := (0 : Int))) (rg_bp (rg_unOt (rg_var (ea := (eO eI)) (x := gap118) (fun _ => rfl))) fun v128 => (rg_some (ea := eI) (x := ((0 : Int) - v128)) sub_i))) fun v129 => (rg_anil (rg_ret (ea := (eP3 eI eI eI)) (x := (b117, a111, v129)) rfl)))))))) fun v130 => (rg_anil (rg_ret (ea := (eT (eP3 eI eI eI))) (x := [v130]) rfl)))) fun v131 => (r_addT (ea := (eP3 eI eI eI))))) fun v132 => (rg_anil (rg_ret (ea := (eP2 eI (eT (eP3 eI eI eI)))) (x := (u26.1, v132)) rfl)))))) fun v133 => (rg_cnil (rg_c0 (r_l_has_times v133) rfl))))) fun v134 => (rg_some (ea := id) (x := v134) rfl)) fun v135 => (rg_ret (ea := id) (x := !v135) rfl))))))
                  · refine rs_stRt ?_
                    exact rs_retT (ea := eB) (t := false) (rg_c (ea := eB) (x := false)) (fun p hp => ⟨_, rfl, rfl⟩)
                  · refine rs_skip ?_
                    exact rs_nx (fun p hp => ⟨.inl rfl, ⟨p, .val (eI b117), .val ((eO eI) gap118), hp, trivial, trivial, rfl⟩⟩)
                · rintro s139 e ⟨p, u140, u141, hp, nu140, nu141, rfl⟩
                  refine ⟨(fun p => [.no, .own p, .val (eI turn24), .val ((eP2 eI (eT (eP3 eI eI eI))) exits25), .val (eI u26.1), .val ((eT (eP3 eI eI eI)) u26.2), .val ((eO (eT (eO eI))) times27), .val ((eP2 eI (eT (eP3 eI eI eI))) fewer38), .val ((eO (eT (eO eI))) before39), .no, u103, .val (eI a111), u140, u141]), p, hp, rfl, ?_⟩
                  exact rs_nx (fun p hp => ⟨.inl rfl, ⟨p, .val (eI a111), u140, u141, hp, trivial, nu140, nu141, rfl⟩⟩)
                · exact fun r v e Q h hk => ⟨.ret r, hk, v, rfl, h⟩
              · rintro s143 e ⟨p, u144, u145, u146, hp, nu144, nu145, nu146, rfl⟩
                refine ⟨(fun p => [.no, .own p, .val (eI turn24), .val ((eP2 eI (eT (eP3 eI eI eI))) exits25), .val (eI u26.1), .val ((eT (eP3 eI eI eI)) u26.2), .val ((eO (eT (eO eI))) times27), .val ((eP2 eI (eT (eP3 eI eI eI))) fewer38), .val ((eO (eT (eO eI))) before39), .no, u103, u144, u145, u146]), p, hp, rfl, ?_⟩
                exact rs_nx (fun p hp => ⟨.inl rfl, ⟨p, .val (eI turn24), .val ((eP2 eI (eT (eP3 eI eI eI))) exits25), .val (eI u26.1), .val ((eT (eP3 eI eI eI)) u26.2), .val ((eO (eT (eO eI))) times27), .val ((eP2 eI (eT (eP3 eI eI eI))) fewer38), .val ((eO (eT (eO eI))) before39), u103, u144, u145, u146, hp, trivial, trivial, trivial, trivial, trivial, trivial, trivial, nu103, nu144, nu145, nu146, rfl⟩⟩)
              · exact fun r v e Q h hk => ⟨.ret r, hk, v, rfl, h⟩
            · exact fun r v e Q h hk => ⟨.ret r, hk, v, rfl, h⟩
  · rintro s152 e ⟨p, u153, u154, u155, u156, u157, u158, u159, u160, u161, u162, u163, hp, nu153, nu154, nu155, nu156, nu157, nu158, nu159, nu160, nu161, nu162, nu163, rfl⟩
    refine ⟨(fun p => [.no, .own p, u153, u154, u155, u156, u157, u158, u159, .no, u160, u161, u162, u163]), p, hp, rfl, ?_⟩
    exact rs_retT (ea := eB) (t := true) (rg_c (ea := eB) (x := true)) (fun p hp => .inl rfl)
  · exact fun r v e Q h hk => ⟨r, hk, .inl (h ▸ rfl)⟩
theorem law_of (h : p_law fun r => r = true) : ∀ ns : List Int, ns.length ≤ 63 → ∃ e, d_law ([.no, .own (poolOf ns)] ++ List.replicate (nLaw - 2) .no) = some (.rt (.bool true), e) := by
  intro ns _
  obtain ⟨fl, r, e, q, hr, hfl⟩ := r_law (poolOf ns) _ (pok_poolOf ns) h
  subst hr
  rcases hfl with rfl | ⟨_, z⟩
  · exact ⟨e, q⟩
  · cases z
end SL

set_option Elab.async false
set_option linter.all false
set_option maxRecDepth 100000
set_option maxHeartbeats 4000000
/-! QNa: numbers, rows: what needs only _law_is_integer. -/
namespace SL
open PySem PySem.Spec PyProof.Rows L2
def numB (lo hi : Int) : PyData → Bool | .int i => decide (lo ≤ i) && decide (i ≤ hi) | _ => false
theorem l_is_integer_eq (d : PyData) : p_l_is_integer d = wret (match d with | .int _ => true | _ => false) := by
  unfold p_l_is_integer; cases d <;> rfl
theorem canAll_mem : ∀ {xs : List PyData}, PyData.canLayAll0 xs = true → ∀ x ∈ xs, x.canLay0 = true
  | [], _, _, h => by cases h
  | x :: xs, h, y, hy => by
    rw [PyData.canLayAll0, Bool.and_eq_true] at h
    rcases List.mem_cons.mp hy with rfl | hy
    · exact h.1
    · exact canAll_mem h.2 y hy
theorem can_tup {xs : List PyData} (h : (PyData.tuple xs).canLay0 = true) : ∀ x ∈ xs, x.canLay0 = true := canAll_mem (by rwa [PyData.canLay0] at h)
theorem len_ne (ds : List PyData) (k : Int) : fNe (.int (ds.length : Int)) (eI k) = some (!decide ((ds.length : Int) = k)) := rfl
theorem all_map_id {f : PyData → Bool} (l : List PyData) : (l.map f).all id = l.all f := by rw [List.all_map]; rfl
theorem wfoldX_anyM {α ρ} {f : Unit → α → Wp (St Unit ρ)} {r : ρ} {c : α → Bool} : ∀ {l : List α}, (∀ x ∈ l, f () x = wret (if c x = true then .ret r else .go ())) → wfoldX f l () = wret (if l.any c = true then .ret r else .nx ())
  | [], _ => rfl
  | x :: xs, h => by
    unfold wfoldX
    rw [h x List.mem_cons_self, wret_bind, List.any_cons]
    cases c x with
    | true => rfl
    | false => exact wfoldX_anyM fun y hy => h y (List.mem_cons_of_mem _ hy)
theorem any_not {α} (l : List α) (f : α → Bool) : (l.any fun x => !f x) = !l.all f := by
  induction l with
  | nil => rfl
  | cons x xs ih => rw [List.any_cons, List.all_cons, ih]; cases f x <;> rfl
theorem none_left {α} (l : List α) (f : α → Bool) : decide (((l.filter fun x => !f x).length : Int) = 0) = l.all f := by
  rw [Bool.eq_iff_iff, decide_eq_true_iff, List.all_eq_true]
  rw [show (((l.filter fun x => !f x).length : Int) = 0) ↔ (l.filter fun x => !f x) = [] from by rw [← List.length_eq_zero_iff]; omega, List.filter_eq_nil_iff]
  exact ⟨fun h x hx => by simpa using h x hx, fun h x hx => by simpa using h x hx⟩
def rowB (many : Int) (lo hi : Int) : PyData → Bool | .tuple ds => decide ((ds.length : Int) = many) && ds.all (numB lo hi) | _ => false
theorem fEq_len (n : Nat) (k : Int) : fEq (.int (n : Int)) (eI k) = some (decide ((n : Int) = k)) := rfl
theorem nums_inv {lo hi : Int} : ∀ {ds : List PyData}, ds.all (numB lo hi) = true → ∃ is : List Int, ds = is.map .int ∧ ∀ i ∈ is, lo ≤ i ∧ i ≤ hi
  | [], _ => ⟨[], rfl, fun _ h => by cases h⟩
  | d :: ds, h => by
    rw [List.all_cons, Bool.and_eq_true] at h
    obtain ⟨is, rfl, q⟩ := nums_inv h.2
    cases d with
    | int i =>
      have h1 : (decide (lo ≤ i) && decide (i ≤ hi)) = true := h.1
      simp only [Bool.and_eq_true, decide_eq_true_eq] at h1
      exact ⟨i :: is, rfl, fun x hx => (List.mem_cons.mp hx).elim (fun e => e ▸ h1) (q x)⟩
    | _ => cases h.1
theorem row_inv {many lo hi : Int} {d : PyData} (h : rowB many lo hi d = true) : ∃ is : List Int, d = .tuple (is.map .int) ∧ (is.length : Int) = many ∧ ∀ i ∈ is, lo ≤ i ∧ i ≤ hi := by
  cases d with
  | tuple ds =>
    have h : (decide ((ds.length : Int) = many) && ds.all (numB lo hi)) = true := h
    simp only [Bool.and_eq_true, decide_eq_true_eq] at h
    obtain ⟨is, rfl, q⟩ := nums_inv h.2
    exact ⟨is, rfl, by have := h.1; rwa [List.length_map] at this, q⟩
  | _ => cases h
theorem row2_inv {lo hi : Int} {d : PyData} (h : rowB 2 lo hi d = true) : ∃ a b : Int, d = .tuple [.int a, .int b] ∧ (lo ≤ a ∧ a ≤ hi) ∧ lo ≤ b ∧ b ≤ hi := by
  obtain ⟨is, rfl, hl, q⟩ := row_inv h
  match is, hl, q with
  | [a, b], _, q => exact ⟨a, b, rfl, q a (by simp), q b (by simp)⟩
  | [], hl, _ => simp at hl
  | [_], hl, _ => simp at hl
  | _ :: _ :: _ :: _, hl, _ => simp at hl; omega
theorem row3_inv {lo hi : Int} {d : PyData} (h : rowB 3 lo hi d = true) : ∃ a b c : Int, d = .tuple [.int a, .int b, .int c] := by
  obtain ⟨is, rfl, hl, q⟩ := row_inv h
  match is, hl with
  | [a, b, c], _ => exact ⟨a, b, c, rfl⟩
  | [], hl => simp at hl
  | [_], hl => simp at hl
  | [_, _], hl => simp at hl
  | _ :: _ :: _ :: _ :: _, hl => simp at hl; omega
end SL

set_option Elab.async false
set_option linter.all false
set_option maxRecDepth 100000
set_option maxHeartbeats 4000000
/-! QEx: the exits' greatest ways: exit_paper ends, with times or with a ring. -/
namespace SL
open PySem PySem.Spec PyProof.Rows L2
structure RuOk (n : Nat) (R : List Ru) : Prop where
  len : R.length ≤ 12
  ok : ∀ r ∈ R, (0 ≤ r.1 ∧ r.1 < n) ∧ (0 ≤ r.2.1 ∧ r.2.1 < n) ∧ r.1 ≠ r.2.1 ∧ -99 ≤ r.2.2 ∧ r.2.2 ≤ 99
def tab {α} (n : Nat) (f : Nat → α) : List α := (List.range n).map f
theorem tab_len {α} (n : Nat) (f : Nat → α) : (tab n f).length = n := by unfold tab; simp
theorem tab_get {α} {n : Nat} {f : Nat → α} {k : Nat} (h : k < (tab n f).length) : (tab n f)[k] = f k := by
  refine (List.getElem_of_eq (show tab n f = (List.range n).map f from rfl) h).trans ?_
  rw [List.getElem_map, List.getElem_range]
def upf {α} (f : Nat → α) (v : Nat) (x : α) : Nat → α := fun w => if w = v then x else f w
theorem upf_same {α} (f : Nat → α) (v : Nat) (x : α) : upf f v x v = x := if_pos rfl
theorem upf_ne {α} (f : Nat → α) {v w : Nat} (x : α) (h : w ≠ v) : upf f v x w = f w := if_neg h
theorem tab_at {α} {n : Nat} {f : Nat → α} {i : Int} (h0 : 0 ≤ i) (h1 : i < n) : atI (tab n f) i = some (f i.toNat) := by
  obtain ⟨k, rfl⟩ := Int.eq_ofNat_of_zero_le h0
  have hk : k < (tab n f).length := by rw [tab_len]; omega
  rw [atI_ok hk, tab_get]; rfl
theorem tab_set {α} {n : Nat} {f : Nat → α} {i : Int} (h0 : 0 ≤ i) (h1 : i < n) (x : α) : setL (tab n f) i x = some (tab n (upf f i.toNat x)) := by
  obtain ⟨k, rfl⟩ := Int.eq_ofNat_of_zero_le h0
  have hk : k < n := by omega
  unfold setL L2.ixN
  rw [tab_len, if_pos (by omega), if_pos (by omega), Option.map_some, Int.toNat_natCast]
  refine congrArg some ?_
  apply List.ext_getElem
  · rw [List.length_set, tab_len, tab_len]
  · intro j h1 h2
    rw [List.getElem_set, tab_get, tab_get]
    unfold upf
    by_cases e : k = j
    · subst e; simp
    · rw [if_neg e, if_neg fun z => e z.symm]
theorem rep_tab {α} (n : Nat) (x : α) : (List.replicate n [x]).flatten = tab n fun _ => x := by
  unfold tab
  apply List.ext_getElem
  · rw [List.length_flatten, List.map_replicate, List.sum_replicate_nat]; simp
  · intro i h1 h2
    have hm : ((List.replicate n [x]).flatten)[i] ∈ (List.replicate n [x]).flatten := List.getElem_mem h1
    obtain ⟨l, hl, hy⟩ := List.mem_flatten.mp hm
    rw [(List.mem_replicate.mp hl).2] at hy
    rw [List.mem_singleton.mp hy]; simp
theorem rng_cons {k m : Nat} (h : k < m) : rngL (k : Int) (m - k) = (k : Int) :: rngL ((k + 1 : Nat) : Int) (m - (k + 1)) := by
  obtain ⟨d, rfl⟩ : ∃ d, m = k + (d + 1) := ⟨m - k - 1, by omega⟩
  rw [show k + (d + 1) - k = d + 1 by omega, show k + (d + 1) - (k + 1) = d by omega]
  unfold rngL
  rw [List.range_succ_eq_map, List.map_cons, List.map_map]
  refine List.cons_eq_cons.mpr ⟨by simp, List.map_congr_left fun i _ => ?_⟩
  simp only [Function.comp]
  omega
structure Inv (n : Nat) (R : List Ru) (r k : Nat) (B : Nat → Int) (La : Nat → Option Int) (ch : Option Int) (L : Nat → Nat) : Prop where
  lo : ∀ v, v < n → 0 ≤ B v ∧ B v ≤ 99 * ((12 * (r - 1) + k : Nat) : Int)
  la : ∀ v, v < n → (L v = 0 ∧ La v = none) ∨ (1 ≤ L v ∧ L v ≤ r ∧ ∃ j, ∃ h : j < R.length, La v = some (j : Int) ∧ R[j].2.1 = (v : Int) ∧ L v ≤ L R[j].1.toNat + 1)
  ru : ∀ j (h : j < R.length), B R[j].1.toNat + R[j].2.2 ≤ B R[j].2.1.toNat ∨ (if j < k then r else r - 1) ≤ L R[j].1.toNat
  hch : ch = none ∨ ∃ v, v < n ∧ ch = some (v : Int) ∧ L v = r
  nf : ch = none → ∀ j (h : j < R.length), j < k → B R[j].1.toNat + R[j].2.2 ≤ B R[j].2.1.toNat
section
variable {n : Nat} {R : List Ru} {r k : Nat} {B : Nat → Int} {La : Nat → Option Int} {ch : Option Int} {L : Nat → Nat}
theorem Inv.le (I : Inv n R r k B La ch L) {v : Nat} (h : v < n) : L v ≤ r := by
  rcases I.la v h with h | h <;> omega
theorem Inv.calm (I : Inv n R r k B La ch L) (h : k < R.length) (c : ¬ (B R[k].2.1.toNat < B R[k].1.toNat + R[k].2.2)) : Inv n R r (k + 1) B La ch L := by
  refine ⟨fun v hv => by have := I.lo v hv; omega, I.la, fun j hj => ?_, I.hch, fun e j hj hjk => ?_⟩
  rotate_left
  · by_cases z : j = k
    · subst z; omega
    · exact I.nf e j hj (by omega)
  by_cases e : j = k
  · subst e; exact .inl (by omega)
  · rcases I.ru j hj with q | q
    · exact .inl q
    · refine .inr ?_
      by_cases z : j < k
      · rw [if_pos z] at q; rw [if_pos (by omega)]; exact q
      · rw [if_neg z] at q; rw [if_neg (by omega)]; exact q
theorem Inv.fire (ok : RuOk n R) (hr : 1 ≤ r) (I : Inv n R r k B La ch L) (h : k < R.length) (c : B R[k].2.1.toNat < B R[k].1.toNat + R[k].2.2) :
    Inv n R r (k + 1) (upf B R[k].2.1.toNat (B R[k].1.toNat + R[k].2.2)) (upf La R[k].2.1.toNat (some (k : Int))) (some R[k].2.1) (upf L R[k].2.1.toNat r) := by
  obtain ⟨⟨a0, a1⟩, ⟨b0, b1⟩, ab, g0, g1⟩ := ok.ok _ (List.getElem_mem h)
  have hL : r - 1 ≤ L R[k].1.toNat := by
    rcases I.ru k h with q | q
    · omega
    · rw [if_neg (by omega)] at q; exact q
  have hne : R[k].1.toNat ≠ R[k].2.1.toNat := by omega
  have mono : ∀ v, v < n → L v ≤ upf L R[k].2.1.toNat r v := fun v hv => by
    unfold upf; split
    · exact I.le hv
    · exact Nat.le_refl _
  refine ⟨fun v hv => ?_, fun v hv => ?_, fun j hj => ?_, .inr ⟨R[k].2.1.toNat, by omega, by rw [Int.toNat_of_nonneg b0], upf_same _ _ _⟩, fun e => by cases e⟩
  · by_cases e : v = R[k].2.1.toNat
    · rw [e, upf_same]
      have h1 := I.lo R[k].1.toNat (by omega)
      have h2 := I.lo R[k].2.1.toNat (by omega)
      omega
    · rw [upf_ne _ _ e]
      have := I.lo v hv
      omega
  · by_cases e : v = R[k].2.1.toNat
    · subst e
      rw [upf_same, upf_same]
      refine .inr ⟨hr, Nat.le_refl _, k, h, rfl, by rw [Int.toNat_of_nonneg b0], ?_⟩
      rw [upf_ne _ _ hne]; omega
    · rw [upf_ne _ _ e, upf_ne _ _ e]
      rcases I.la v hv with q | ⟨q1, q2, j, hj, q3, q4, q5⟩
      · exact .inl q
      · refine .inr ⟨q1, q2, j, hj, q3, q4, ?_⟩
        obtain ⟨⟨c0, c1⟩, _⟩ := ok.ok _ (List.getElem_mem hj)
        have := mono R[j].1.toNat (by omega)
        omega
  · obtain ⟨⟨c0, c1⟩, ⟨d0, d1⟩, cd, _⟩ := ok.ok _ (List.getElem_mem hj)
    by_cases e : j = k
    · subst e
      refine .inl ?_
      rw [upf_ne _ _ hne, upf_same]; omega
    · by_cases z : R[j].1.toNat = R[k].2.1.toNat
      · refine .inr ?_
        rw [z, upf_same]; split <;> omega
      · rcases I.ru j hj with q | q
        · refine .inl ?_
          rw [upf_ne _ _ z]
          by_cases y : R[j].2.1.toNat = R[k].2.1.toNat
          · rw [y, upf_same]; rw [y] at q; omega
          · rw [upf_ne _ _ y]; exact q
        · refine .inr ?_
          rw [upf_ne _ _ z]
          by_cases y : j < k
          · rw [if_pos y] at q; rw [if_pos (by omega)]; exact q
          · rw [if_neg y] at q; rw [if_neg (by omega)]; exact q
theorem Inv.next (ok : RuOk n R) (hr : 1 ≤ r) (I : Inv n R r R.length B La ch L) : Inv n R (r + 1) 0 B La none L := by
  have hl := ok.len
  refine ⟨fun v hv => by have := I.lo v hv; omega, fun v hv => ?_, fun j hj => ?_, .inl rfl, fun _ j _ hj => absurd hj (Nat.not_lt_zero _)⟩
  · rcases I.la v hv with q | ⟨q1, q2, q3⟩
    · exact .inl q
    · exact .inr ⟨q1, by omega, q3⟩
  · rcases I.ru j hj with q | q
    · exact .inl q
    · rw [if_pos hj] at q
      refine .inr ?_
      rw [if_neg (by omega)]; omega
end
/-! a ring is found -/
theorem pigeon : ∀ (n : Nat) (f : Nat → Nat), (∀ i, i ≤ n → f i < n) → ∃ i j, i < j ∧ j ≤ n ∧ f i = f j
  | 0, f, h => absurd (h 0 (Nat.le_refl _)) (Nat.not_lt_zero _)
  | n + 1, f, h => by
    by_cases q : ∃ i, i ≤ n ∧ f i = f (n + 1)
    · obtain ⟨i, hi, e⟩ := q
      exact ⟨i, n + 1, by omega, Nat.le_refl _, e⟩
    · have hne : ∀ i, i ≤ n → f i ≠ f (n + 1) := fun i hi e => q ⟨i, hi, e⟩
      obtain ⟨i, j, h1, h2, h3⟩ := pigeon n (fun i => if f i < f (n + 1) then f i else f i - 1) fun i hi => by
        have h4 := hne i hi
        have h5 := h i (by omega)
        have h6 := h (n + 1) (Nat.le_refl _)
        split <;> omega
      refine ⟨i, j, h1, by omega, ?_⟩
      have h4 := hne i (by omega)
      have h5 := hne j h2
      split at h3 <;> split at h3 <;> omega
def it (f : Nat → Nat) (v : Nat) : Nat → Nat | 0 => v | k + 1 => f (it f v k)
theorem it_add (f : Nat → Nat) (v : Nat) {i j : Nat} (h : it f v i = it f v j) : ∀ t, it f v (i + t) = it f v (j + t)
  | 0 => h
  | t + 1 => by show f (it f v (i + t)) = f (it f v (j + t)); rw [it_add f v h t]
/-- the walk back falls into a circle -/
theorem circle {n : Nat} {f : Nat → Nat} {L : Nat → Nat} {v : Nat} (h0 : v < n) (hL : L v = n + 1) (hf : ∀ x, x < n → 1 ≤ L x → f x < n ∧ L x ≤ L (f x) + 1) :
    (∀ k, it f v k < n ∧ 1 ≤ L (it f v k)) ∧ ∃ p, 1 ≤ p ∧ p ≤ n ∧ it f v (n + p) = it f v n := by
  have a : ∀ k, k ≤ n → it f v k < n ∧ n + 1 ≤ L (it f v k) + k := by
    intro k
    induction k with
    | zero => intro _; exact ⟨h0, by show n + 1 ≤ L v + 0; omega⟩
    | succ k ih =>
      intro hk
      obtain ⟨h1, h2⟩ := ih (by omega)
      obtain ⟨h3, h4⟩ := hf _ h1 (by omega)
      refine ⟨h3, ?_⟩
      show n + 1 ≤ L (f (it f v k)) + (k + 1)
      omega
  obtain ⟨i, j, h1, h2, h3⟩ := pigeon n (it f v) fun i hi => (a i hi).1
  have per : ∀ k, n < k → it f v k = it f v (k - (j - i)) := fun k hk => by
    have := it_add f v h3 (k - j)
    rw [show j + (k - j) = k by omega, show i + (k - j) = k - (j - i) by omega] at this
    exact this.symm
  refine ⟨fun k => ?_, j - i, by omega, by omega, ?_⟩
  · induction k using Nat.strongRecOn with
    | _ k ih =>
      by_cases c : k ≤ n
      · have := a k c
        exact ⟨this.1, by omega⟩
      · rw [per k (by omega)]
        exact ih _ (by omega)
  · rw [per (n + (j - i)) (by omega)]
    congr 1; omega
end SL

set_option Elab.async false
set_option linter.all false
set_option maxRecDepth 100000
set_option maxHeartbeats 4000000
/-! QEx2: what exit_paper answers. -/
namespace SL
open PySem PySem.Spec PyProof.Rows L2
def LaOk (n : Nat) (R : List Ru) (La : Nat → Option Int) (L : Nat → Nat) : Prop := ∀ v, v < n → (L v = 0 ∧ La v = none) ∨ (1 ≤ L v ∧ ∃ j, ∃ h : j < R.length, La v = some (j : Int) ∧ R[j].2.1 = (v : Int) ∧ L v ≤ L R[j].1.toNat + 1)
def prv (R : List Ru) (La : Nat → Option Int) (v : Nat) : Nat := match La v with | some j => (R.getD j.toNat (0, 0, 0)).1.toNat | none => 0
theorem pr_step {n : Nat} {R : List Ru} {La : Nat → Option Int} {L : Nat → Nat} (ok : RuOk n R) (h : LaOk n R La L) {x : Nat} (hx : x < n) (h1 : 1 ≤ L x) :
    ∃ (j : Int) (u : Ru), La x = some j ∧ atI R j = some u ∧ u.1 = ((prv R La x : Nat) : Int) ∧ prv R La x < n ∧ L x ≤ L (prv R La x) + 1 ∧ u.2.1 = (x : Int) ∧ (0 ≤ j ∧ j < R.length) := by
  rcases h x hx with q | ⟨_, j, hj, q1, q2, q3⟩
  · omega
  · obtain ⟨⟨c0, c1⟩, _⟩ := ok.ok _ (List.getElem_mem hj)
    have e : prv R La x = R[j].1.toNat := by
      unfold prv; rw [q1]
      simp only [Int.toNat_natCast]
      rw [List.getD_eq_getElem?_getD, List.getElem?_eq_getElem hj]; rfl
    rw [e]
    exact ⟨j, R[j], q1, atI_ok hj, by omega, by omega, q3, q2, by omega, by omega⟩
theorem all_while {σ : Type} {c : σ → Wp Bool} {b : σ → Wp σ} {P : σ → Prop} (I : Nat → σ → Prop) (h : ∀ m s, I m s → All (c s) fun t => (t = false → P s) ∧ (t = true → ∃ m', m = m' + 1 ∧ All (b s) (I m'))) : ∀ (m n : Nat) (s : σ), I m s → m < n → All (wwhile c b n s) P
  | m, 0, s, _, hn => absurd hn (Nat.not_lt_zero _)
  | m, n + 1, s, hi, hn => by
    unfold wwhile
    refine all_bind _ (h m s hi) fun t ht => ?_
    cases t with
    | false => rw [if_neg (by simp)]; exact all_ret (ht.1 rfl)
    | true =>
      rw [if_pos rfl]
      obtain ⟨m', e, hb⟩ := ht.2 rfl
      exact all_bind _ hb fun s' hs' => all_while I h m' n s' hs' (by omega)
def Fd (La : Nat → Option Int) (f : Nat → Nat) (v n t : Nat) : List (Option Int) := (List.range (t + 1)).map fun i => La (it f v (n + i))
theorem Fd_succ (La : Nat → Option Int) (f : Nat → Nat) (v n t : Nat) : Fd La f v n (t + 1) = Fd La f v n t ++ [La (it f v (n + (t + 1)))] := by
  unfold Fd; rw [List.range_succ, List.map_append]; rfl
theorem atI_lastX {α} (as : List α) (p : α) : atI (as ++ [p]) (-(1 : Int)) = some p := by
  unfold L2.atI L2.ixN
  have hl : (as ++ [p]).length = as.length + 1 := by simp
  rw [hl, if_neg (by decide), if_pos (by omega), Option.bind_some, show (-(1 : Int) + ((as.length + 1 : Nat) : Int)).toNat = as.length by omega, List.getElem?_append_right (by simp)]
  simp
theorem Fd_last (La : Nat → Option Int) (f : Nat → Nat) (v n t : Nat) : atI (Fd La f v n t) (-(1 : Int)) = some (La (it f v (n + t))) := by
  cases t with
  | zero => exact atI_lastX [] _
  | succ t => rw [Fd_succ]; exact atI_lastX _ _
theorem all_ring {n : Nat} {R : List Ru} {La : Nat → Option Int} {L : Nat → Nat} {v : Nat} (ok : RuOk n R) (hn : n ≤ 6) (h : LaOk n R La L) (hv : v < n) (hL : L v = n + 1) :
    All (p_ring_at ((n : Int), R) (tab n La) (v : Int)) fun r => ∃ t, t < n ∧ r = (Fd La (prv R La) v n t).reverse ∧ it (prv R La) v (n + t + 1) = it (prv R La) v n := by
  obtain ⟨ha, p, p1, p2, p3⟩ := circle (f := prv R La) hv hL fun x hx h1 => by
    obtain ⟨j, u, _, _, _, q1, q2, _⟩ := pr_step ok h hx h1
    exact ⟨q1, q2⟩
  have at_it : ∀ k, atI (tab n La) ((it (prv R La) v k : Nat) : Int) = some (La (it (prv R La) v k)) := fun k => by
    rw [tab_at (by omega) (by have := (ha k).1; omega), Int.toNat_natCast]
  have st : ∀ k, ∃ (j : Int) (u : Ru), La (it (prv R La) v k) = some j ∧ atI R j = some u ∧ u.1 = ((it (prv R La) v (k + 1) : Nat) : Int) := fun k => by
    obtain ⟨j, u, q1, q2, q3, _⟩ := pr_step ok h (ha k).1 (ha k).2
    exact ⟨j, u, q1, q2, q3⟩
  unfold p_ring_at
  refine all_wgB (okR_of (by omega) (by omega) (by omega) (by omega) (by omega)) ?_
  rw [show (((n : Int), R) : Int × List Ru).1.toNat = n from Int.toNat_natCast n]
  rw [wfold_rngE (s0 := (v : Int)) (fun k => ((it (prv R La) v k : Nat) : Int)) n rfl fun k hk => ?_]
  · rw [wret_bind]
    simp only [wbind_assoc]
    refine all_woB (at_it n) ?_
    simp only [wret_bind]
    refine all_bind _ (all_while (P := fun s => ∃ t, t < n ∧ s = Fd La (prv R La) v n t ∧ it (prv R La) v (n + t + 1) = it (prv R La) v n) (fun m s => ∃ t, s = Fd La (prv R La) v n t ∧ t + 1 ≤ p ∧ m = p - (t + 1)) (fun m s hs => ?_) (p - 1) 100000 _ ⟨0, rfl, by omega, rfl⟩ (by omega)) fun s hs => ?_
    · obtain ⟨t, rfl, ht, hm⟩ := hs
      obtain ⟨j, u, q1, q2, q3⟩ := st (n + t)
      rw [Fd_last, q1]
      refine all_woB rfl (all_woB rfl (all_woB q2 ?_))
      refine all_ret ⟨fun e => ?_, fun e => ?_⟩
      · refine ⟨t, by omega, rfl, ?_⟩
        have e2 : u.1 = ((it (prv R La) v n : Nat) : Int) := by
          by_cases z : u.1 = ((it (prv R La) v n : Nat) : Int)
          · exact z
          · rw [decide_eq_false z] at e; cases e
        rw [q3] at e2; omega
      · have hne : t + 1 ≠ p := fun z => by
          rw [q3, show n + t + 1 = n + p by omega, p3, decide_eq_true rfl] at e
          cases e
        refine ⟨m - 1, by omega, ?_⟩
        refine all_woB rfl (all_woB rfl (all_woB q2 ?_))
        try simp only [wret_bind]
        rw [q3]
        refine all_woB (at_it _) (all_wgB (by unfold Fd; simp; omega) (all_ret ⟨t + 1, ?_, by omega, by omega⟩))
        rw [Fd_succ]; rfl
    · obtain ⟨t, h1, rfl, h3⟩ := hs
      exact all_ret ⟨t, h1, rfl, h3⟩
  · obtain ⟨j, u, q1, q2, q3⟩ := st k
    rw [at_it k, q1]
    simp only [wo_some, wret_bind, wbind_assoc]
    rw [q2, wo_some, wret_bind, q3]
def Lres (n : Nat) (R : List Ru) (res : Option (List (Option Int)) × Option (List (Option Int))) : Prop :=
  (∃ B : Nat → Int, res = (some (tab n fun v => some (B v)), none) ∧ (∀ v, v < n → 0 ≤ B v ∧ B v ≤ 10000) ∧ ∀ r ∈ R, B r.1.toNat + r.2.2 ≤ B r.2.1.toNat) ∨
  ∃ (La : Nat → Option Int) (L : Nat → Nat) (v t : Nat), LaOk n R La L ∧ v < n ∧ L v = n + 1 ∧ t < n ∧ res = (none, some (Fd La (prv R La) v n t).reverse) ∧ it (prv R La) v (n + t + 1) = it (prv R La) v n
theorem all_longest {n : Nat} {R : List Ru} (ok : RuOk n R) (h1 : 1 ≤ n) (hn : n ≤ 6) : All (p_longest ((n : Int), R) (tab n fun _ => some 0)) (Lres n R) := by
  have hl := ok.len
  unfold p_longest
  simp only [lt']
  refine all_wgB ⟨by omega, by omega, by simp⟩ ?_
  rw [show (((n : Int), R) : Int × List Ru).1.toNat = n from Int.toNat_natCast n, rep_tab]
  refine all_wgB (okR_of (by omega) (by omega) (by omega) (by omega) (by omega)) ?_
  rw [show ((((n : Int), R) : Int × List Ru).1 + 1).toNat = n + 1 by omega]
  have hstart : Inv n R 1 0 (fun _ => 0) (fun _ => none) none (fun _ => 0) := ⟨fun v _ => by simp, fun v _ => .inl ⟨rfl, rfl⟩, fun j hj => .inr (by simp), .inl rfl, fun _ j _ hj => absurd hj (Nat.not_lt_zero _)⟩
  refine all_bind _ (all_wfoldX (R := fun (rt : Rt (List (Option Int) × List (Option Int) × Option (Option Int)) (Option (List (Option Int)) × Option (List (Option Int)))) => match rt with
      | .ret res => Lres n R res
      | .nx s => ∃ La L v, s.2.1 = tab n La ∧ LaOk n R La L ∧ v < n ∧ s.2.2 = some (some (v : Int)) ∧ L v = n + 1)
    (fun xs s => ∃ (i : Nat) (B : Nat → Int) (La : Nat → Option Int) (L : Nat → Nat), i ≤ n + 1 ∧ xs = rngL (i : Int) (n + 1 - i) ∧ s.1 = tab n (fun v => some (B v)) ∧ s.2.1 = tab n La ∧ Inv n R (i + 1) 0 B La none L ∧ (1 ≤ i → ∃ v, v < n ∧ s.2.2 = some (some (v : Int)) ∧ L v = i)) _ _ ⟨0, fun _ => 0, fun _ => none, fun _ => 0, by omega, rfl, rfl, rfl, hstart, fun z => absurd z (by omega)⟩ ?_ ?_) ?_
  · rintro x xs s ⟨i, B, La, L, hi, hx, hB, hLa, I, _⟩
    have hi' : i < n + 1 := by
      by_cases z : i < n + 1
      · exact z
      · rw [show n + 1 - i = 0 by omega] at hx; cases hx
    rw [rng_cons hi'] at hx
    obtain ⟨rfl, rfl⟩ := List.cons.inj hx
    refine all_wgB (okR_of (by omega) (by omega) (by omega) (by omega) (by omega)) ?_
    rw [show ((((n : Int), R) : Int × List Ru).2.length : Int).toNat = R.length from Int.toNat_natCast _]
    refine all_bind _ (all_fold (fun ys (q : List (Option Int) × List (Option Int) × Option Int) => ∃ (k : Nat) (B : Nat → Int) (La : Nat → Option Int) (L : Nat → Nat), k ≤ R.length ∧ ys = rngL (k : Int) (R.length - k) ∧ q.1 = tab n (fun v => some (B v)) ∧ q.2.1 = tab n La ∧ Inv n R (i + 1) k B La q.2.2 L) _ _ ⟨0, B, La, L, by omega, rfl, hB, hLa, I⟩ ?_) ?_
    · rintro y ys q ⟨k, B, La, L, hk, hy, qB, qLa, I⟩
      have hk' : k < R.length := by
        by_cases z : k < R.length
        · exact z
        · rw [show R.length - k = 0 by omega] at hy; cases hy
      rw [rng_cons hk'] at hy
      obtain ⟨rfl, rfl⟩ := List.cons.inj hy
      obtain ⟨⟨a0, a1⟩, ⟨b0, b1⟩, _⟩ := ok.ok _ (List.getElem_mem hk')
      refine all_woB (atI_ok hk') ?_
      rw [qB, qLa, tab_at a0 a1, tab_at b0 b1]
      simp only [wo_some, wret_bind, wbind_assoc, isNo, Bool.not_false, if_true, Bool.false_eq_true, if_false]
      by_cases c : B R[k].2.1.toNat < B R[k].1.toNat + R[k].2.2
      · rw [decide_eq_true c, if_pos rfl, tab_set b0 b1, tab_set b0 b1]
        refine all_woB rfl (all_woB rfl (all_ret ?_))
        have I2 := I.fire ok (by omega) hk' c
        refine ⟨k + 1, _, _, _, hk', rfl, ?_, rfl, I2⟩
        simp only
        unfold tab
        refine List.map_congr_left fun w _ => ?_
        unfold upf; split <;> rfl
      · rw [decide_eq_false c, if_neg (by simp)]
        exact all_ret ⟨k + 1, B, La, L, hk', rfl, rfl, rfl, I.calm hk' c⟩
    · rintro ⟨q1, q2, q3⟩ ⟨k, B, La, L, hk, hy, qB, qLa, I⟩
      have hk' : k = R.length := by
        by_cases z : k < R.length
        · rw [rng_cons z] at hy; cases hy
        · omega
      subst hk'
      simp only at qB qLa I ⊢
      cases q3 with
      | none =>
        refine all_ret ?_
        refine .inl ⟨B, by rw [qB], fun v hv => ?_, fun r hr => ?_⟩
        · have := I.lo v hv
          have : 12 * (i + 1 - 1) + R.length ≤ 12 * 6 + 12 := by omega
          omega
        · obtain ⟨j, hj, rfl⟩ := List.getElem_of_mem hr
          exact I.nf rfl j hj hj
      | some c =>
        refine all_ret ?_
        refine ⟨i + 1, B, La, L, by omega, rfl, qB, qLa, I.next ok (by omega), fun _ => ?_⟩
        rcases I.hch with e | ⟨v, hv, e, hLv⟩
        · cases e
        · exact ⟨v, hv, by rw [e], hLv⟩
  · rintro s ⟨i, B, La, L, hi, hx, hB, hLa, I, hc⟩
    have hi' : i = n + 1 := by
      by_cases z : i < n + 1
      · rw [rng_cons z] at hx; cases hx
      · omega
    subst hi'
    obtain ⟨v, hv, e, hLv⟩ := hc (by omega)
    refine ⟨La, L, v, hLa, fun w hw => ?_, hv, e, hLv⟩
    rcases I.la w hw with q | ⟨q1, _, q3⟩
    · exact .inl q
    · exact .inr ⟨q1, q3⟩
  · intro rt hrt
    cases rt with
    | ret res => exact all_ret hrt
    | nx s =>
      obtain ⟨La, L, v, e1, hLa, hv, e2, hLv⟩ := hrt
      show All (wbind _ _) _
      rw [e1, e2]
      simp only [wo_some, wret_bind, wbind_assoc]
      refine all_bind _ (all_ring ok hn hLa hv hLv) fun ring ⟨t, ht, er, hc⟩ => all_ret ?_
      subst er
      exact .inr ⟨La, L, v, t, hLa, hv, hLv, ht, rfl, hc⟩
end SL

set_option Elab.async false
set_option linter.all false
set_option maxRecDepth 100000
set_option maxHeartbeats 4000000
/-! QFw: the greatest gaps on all ways, by trying each group as a way station. -/
namespace SL
def Sat (P : Nat → Option Int) (r : Ru) : Prop := ∀ x, P r.1.toNat = some x → ∃ y, P r.2.1.toNat = some y ∧ x + r.2.2 ≤ y
def Feas (R : List Ru) (P : Nat → Option Int) : Prop := ∀ r ∈ R, Sat P r
theorem mset_same (M : Mx) (a b : Nat) (x : Option Int) : mset M a b x a b = x := if_pos ⟨rfl, rfl⟩
theorem mset_ne (M : Mx) {a b i j : Nat} (x : Option Int) (h : ¬ (i = a ∧ j = b)) : mset M a b x i j = M i j := if_neg h
def Snd (R : List Ru) (M : Mx) : Prop := ∀ P, Feas R P → ∀ i j d, M i j = some d → ∀ x, P i = some x → ∃ y, P j = some y ∧ x + d ≤ y
theorem snd0 (R : List Ru) : Snd R M0 := fun P _ i j d h x hx => by
  unfold M0 at h
  split at h
  · rename_i e; subst e; cases h; exact ⟨x, hx, by omega⟩
  · cases h
theorem mxo_ge (o : Option Int) (g : Int) : g ≤ mxo o g := by cases o with | none => exact Int.le_refl _ | some x => unfold mxo; split <;> omega
theorem Snd.set {R : List Ru} {M : Mx} (s : Snd R M) (a b : Nat) (v : Int) (h : ∀ P, Feas R P → ∀ x, P a = some x → ∃ y, P b = some y ∧ x + v ≤ y) : Snd R (mset M a b (some v)) := fun P f i j d e x hx => by
  by_cases c : i = a ∧ j = b
  · obtain ⟨rfl, rfl⟩ := c
    rw [mset_same] at e; cases e
    exact h P f x hx
  · rw [mset_ne M _ c] at e
    exact s P f i j d e x hx
theorem snd_rstep {R : List Ru} {M : Mx} (s : Snd R M) {r : Ru} (hr : r ∈ R) : Snd R (rstep M r) := by
  refine s.set _ _ _ fun P f x hx => ?_
  obtain ⟨y, hy, h1⟩ := f r hr x hx
  cases e : M r.1.toNat r.2.1.toNat with
  | none => exact ⟨y, hy, h1⟩
  | some z =>
    obtain ⟨y', hy', h2⟩ := s P f _ _ z e x hx
    rw [hy] at hy'; cases hy'
    refine ⟨y, hy, ?_⟩
    simp only [mxo]; split <;> omega
theorem snd_fstep {R : List Ru} {M : Mx} (s : Snd R M) (m a b : Nat) : Snd R (fstep M m a b) := by
  unfold fstep
  split
  · rename_i x y e1 e2
    split
    · refine s.set _ _ _ fun P f p hp => ?_
      obtain ⟨q, hq, h1⟩ := s P f _ _ x e1 p hp
      obtain ⟨t, ht, h2⟩ := s P f _ _ y e2 q hq
      exact ⟨t, ht, by omega⟩
    · exact s
  · exact s
theorem fold_inv {α β : Type} {f : β → α → β} (I : β → Prop) (h : ∀ s x, I s → I (f s x)) : ∀ (l : List α) (s : β), I s → I (l.foldl f s)
  | [], _, hs => hs
  | x :: l, s, hs => fold_inv I h l _ (h s x hs)
theorem fold_invm {α β : Type} {f : β → α → β} (I : β → Prop) : ∀ (l : List α) (s : β), (∀ s, ∀ x ∈ l, I s → I (f s x)) → I s → I (l.foldl f s)
  | [], _, _, hs => hs
  | x :: l, s, h, hs => fold_invm I l _ (fun s y hy => h s y (List.mem_cons_of_mem _ hy)) (h s x List.mem_cons_self hs)
theorem snd_far (n : Nat) (R : List Ru) : Snd R (far n R) := by
  unfold far fwm
  refine fold_inv (Snd R) (fun M m s => ?_) _ _ (fold_invm (Snd R) _ _ (fun M r hr s => snd_rstep s hr) (snd0 R))
  unfold fph
  refine fold_inv (Snd R) (fun M a s => ?_) _ _ s
  unfold frow
  exact fold_inv (Snd R) (fun M b s => snd_fstep s m a b) _ _ s
/-! entries only grow -/
def Leo (o o' : Option Int) : Prop := ∀ x, o = some x → ∃ y, o' = some y ∧ x ≤ y
theorem Leo.refl (o : Option Int) : Leo o o := fun x h => ⟨x, h, Int.le_refl _⟩
theorem Leo.trans {a b c : Option Int} (h : Leo a b) (k : Leo b c) : Leo a c := fun x e => by
  obtain ⟨y, e1, h1⟩ := h x e
  obtain ⟨z, e2, h2⟩ := k y e1
  exact ⟨z, e2, by omega⟩
def Lem (M M' : Mx) : Prop := ∀ i j, Leo (M i j) (M' i j)
theorem Lem.refl (M : Mx) : Lem M M := fun _ _ => Leo.refl _
theorem Lem.trans {a b c : Mx} (h : Lem a b) (k : Lem b c) : Lem a c := fun i j => (h i j).trans (k i j)
theorem lem_set {M : Mx} {a b : Nat} {v : Int} (h : Leo (M a b) (some v)) : Lem M (mset M a b (some v)) := fun i j => by
  by_cases c : i = a ∧ j = b
  · obtain ⟨rfl, rfl⟩ := c; rw [mset_same]; exact h
  · rw [mset_ne M _ c]; exact Leo.refl _
theorem lem_rstep (M : Mx) (r : Ru) : Lem M (rstep M r) := lem_set fun x h => ⟨_, rfl, by rw [h]; unfold mxo; simp only; split <;> omega⟩
theorem lem_fstep (M : Mx) (m a b : Nat) : Lem M (fstep M m a b) := by
  unfold fstep
  split
  · split
    · rename_i c
      refine lem_set fun x h => ⟨_, rfl, ?_⟩
      rw [h] at c
      have := of_decide_eq_true (show decide (x < _) = true from c)
      omega
    · exact Lem.refl _
  · exact Lem.refl _
theorem lem_fold {α : Type} {f : Mx → α → Mx} (h : ∀ M x, Lem M (f M x)) (l : List α) (M : Mx) : Lem M (l.foldl f M) := fold_inv (Lem M) (fun s x hs => hs.trans (h s x)) l M (Lem.refl M)
theorem lem_fph (n m : Nat) (M : Mx) : Lem M (fph n m M) := lem_fold (fun M a => lem_fold (fun M b => lem_fstep M m a b) _ M) _ M
theorem lem_fwm (n : Nat) (M : Mx) : Lem M (fwm n M) := lem_fold (fun M m => lem_fph n m M) _ M
/-! a turn of one way station, if it stands at 0 -/
def addO : Option Int → Option Int → Option Int | some x, some y => some (x + y) | _, _ => none
def bst (o s : Option Int) : Option Int := match s with | none => o | some s => if bto o s = true then some s else o
theorem bst_self (o : Option Int) : bst o o = o := by
  cases o with
  | none => rfl
  | some x => show (if decide (x < x) = true then _ else _) = _; rw [if_neg (by simp)]
theorem add0 (o : Option Int) : addO (some 0) o = o := by cases o with | none => rfl | some x => show some (0 + x) = _; rw [Int.zero_add]
theorem add0' (o : Option Int) : addO o (some 0) = o := by cases o with | none => rfl | some x => show some (x + 0) = _; rw [Int.add_zero]
theorem fstep_eq (M : Mx) (m a b : Nat) : fstep M m a b = mset M a b (bst (M a b) (addO (M a m) (M m b))) := by
  funext i j
  unfold fstep mset
  cases M a m with
  | none => simp only [addO, bst]; split
            · rename_i c; rw [c.1, c.2]
            · rfl
  | some x =>
    cases M m b with
    | none => simp only [addO, bst]; split
              · rename_i c; rw [c.1, c.2]
              · rfl
    | some y =>
      simp only [addO, bst]
      by_cases c : bto (M a b) (x + y) = true
      · rw [if_pos c, if_pos c]
      · rw [if_neg c, if_neg c]; split
        · rename_i c; rw [c.1, c.2]
        · rfl
theorem foldl_range {β : Type} (f : β → Nat → β) (S : Nat → β) : ∀ n, (∀ k, k < n → f (S k) k = S (k + 1)) → (List.range n).foldl f (S 0) = S n
  | 0, _ => rfl
  | n + 1, h => by
    rw [List.range_succ, List.foldl_append, foldl_range f S n fun k hk => h k (by omega)]
    exact h n (by omega)
theorem frow_eq {n m a : Nat} {C : Mx} (h : C m m = some 0) : frow n m a C = fun i j => if i = a ∧ j < n then bst (C a j) (addO (C a m) (C m j)) else C i j := by
  unfold frow
  have := foldl_range (fun M b => fstep M m a b) (fun b => fun i j => if i = a ∧ j < b then bst (C a j) (addO (C a m) (C m j)) else C i j) n fun b _ => ?_
  · refine Eq.trans (congrArg (fun s => (List.range n).foldl (fun M b => fstep M m a b) s) ?_) this
    funext i j
    rw [if_neg (by omega)]
  · rw [fstep_eq]
    have e1 : (if a = a ∧ m < b then bst (C a m) (addO (C a m) (C m m)) else C a m) = C a m := by rw [h, add0', bst_self]; split <;> rfl
    have e2 : (if m = a ∧ b < b then bst (C a b) (addO (C a m) (C m b)) else C m b) = C m b := if_neg (by omega)
    have e3 : (if a = a ∧ b < b then bst (C a b) (addO (C a m) (C m b)) else C a b) = C a b := if_neg (by omega)
    show mset _ a b (bst (if a = a ∧ b < b then _ else _) (addO (if a = a ∧ m < b then _ else _) (if m = a ∧ b < b then _ else _))) = _
    rw [e1, e2, e3]
    funext i j
    unfold mset
    by_cases c : i = a ∧ j = b
    · rw [if_pos c, if_pos (by omega), c.2]
    · rw [if_neg c]
      show (if i = a ∧ j < b then _ else _) = _
      by_cases d : i = a ∧ j < b
      · rw [if_pos d, if_pos (by omega)]
      · rw [if_neg d, if_neg (by omega)]
def phn (n m : Nat) (M : Mx) : Mx := fun i j => if i < n ∧ j < n then bst (M i j) (addO (M i m) (M m j)) else M i j
theorem fph_eq {n m : Nat} {M : Mx} (h : M m m = some 0) : fph n m M = phn n m M := by
  unfold fph
  have := foldl_range (fun M a => frow n m a M) (fun a => fun i j => if i < a ∧ j < n then bst (M i j) (addO (M i m) (M m j)) else M i j) n fun a _ => ?_
  · refine Eq.trans (congrArg (fun s => (List.range n).foldl (fun M a => frow n m a M) s) ?_) this
    funext i j
    rw [if_neg (by omega)]
  · have row : ∀ j, (if m < a ∧ j < n then bst (M m j) (addO (M m m) (M m j)) else M m j) = M m j := fun j => by rw [h, add0, bst_self]; split <;> rfl
    have e0 : ∀ j, (if a < a ∧ j < n then bst (M a j) (addO (M a m) (M m j)) else M a j) = M a j := fun j => if_neg (by omega)
    refine (frow_eq (C := fun i j => if i < a ∧ j < n then bst (M i j) (addO (M i m) (M m j)) else M i j) ((row m).trans h)).trans ?_
    funext i j
    simp only [row, e0]
    by_cases c : i = a ∧ j < n
    · rw [if_pos c, if_pos (by omega), c.1]
    · rw [if_neg c]
      by_cases d : i < a ∧ j < n
      · rw [if_pos d, if_pos (by omega)]
      · rw [if_neg d, if_neg (by omega)]
theorem leo_bst (o s : Option Int) : Leo o (bst o s) := fun x h => by
  subst h
  unfold bst
  cases s with
  | none => exact ⟨x, rfl, Int.le_refl _⟩
  | some s =>
    show ∃ y, (if decide (x < s) = true then _ else _) = _ ∧ _
    by_cases c : x < s
    · rw [decide_eq_true c, if_pos rfl]; exact ⟨s, rfl, by omega⟩
    · rw [decide_eq_false c, if_neg (by simp)]; exact ⟨x, rfl, Int.le_refl _⟩
theorem leo_bst' (o s : Option Int) : Leo s (bst o s) := fun x h => by
  subst h
  unfold bst
  cases o with
  | none => exact ⟨x, rfl, Int.le_refl _⟩
  | some z =>
    show ∃ y, (if decide (z < x) = true then _ else _) = _ ∧ _
    by_cases c : z < x
    · rw [decide_eq_true c, if_pos rfl]; exact ⟨x, rfl, Int.le_refl _⟩
    · rw [decide_eq_false c, if_neg (by simp)]; exact ⟨z, rfl, by omega⟩
theorem bst_or (o s : Option Int) {x : Int} (h : bst o s = some x) : o = some x ∨ s = some x := by
  unfold bst at h
  cases s with
  | none => exact .inl h
  | some s =>
    simp only at h
    split at h
    · exact .inr h
    · exact .inl h
theorem addO_inv {a b : Option Int} {x : Int} (h : addO a b = some x) : ∃ u v, a = some u ∧ b = some v ∧ x = u + v := by
  cases a with
  | none => cases h
  | some u => cases b with
    | none => cases h
    | some v => cases h; exact ⟨u, v, rfl, rfl, rfl⟩
def Cl (n : Nat) (M : Mx) (k : Nat) : Prop := ∀ i j, i < n → j < n → ∀ x y, M i k = some x → M k j = some y → ∃ z, M i j = some z ∧ x + y ≤ z
theorem cl_step {n m : Nat} {M : Mx} (hm : m < n) (h0 : M m m = some 0) (hc : ∀ k, k < m → Cl n M k) : ∀ k, k < m + 1 → Cl n (phn n m M) k := fun k hk i j hi hj x y e1 e2 => by
  have hkn : k < n := by omega
  unfold phn at e1 e2 ⊢
  rw [if_pos ⟨hi, hkn⟩] at e1
  rw [if_pos ⟨hkn, hj⟩] at e2
  rw [if_pos ⟨hi, hj⟩]
  have ups : ∀ u v, M i m = some u → M m j = some v → x + y ≤ u + v → ∃ z, bst (M i j) (addO (M i m) (M m j)) = some z ∧ x + y ≤ z := fun u v a b c => by
    obtain ⟨z, h1, h2⟩ := leo_bst' (M i j) (addO (M i m) (M m j)) (u + v) (by rw [a, b]; rfl)
    exact ⟨z, h1, by omega⟩
  have up0 : ∀ u, M i j = some u → x + y ≤ u → ∃ z, bst (M i j) (addO (M i m) (M m j)) = some z ∧ x + y ≤ z := fun u a c => by
    obtain ⟨z, h1, h2⟩ := leo_bst (M i j) (addO (M i m) (M m j)) u a
    exact ⟨z, h1, by omega⟩
  by_cases hkm : k = m
  · subst hkm
    rw [h0, add0', bst_self] at e1
    rw [h0, add0, bst_self] at e2
    exact ups x y e1 e2 (Int.le_refl _)
  · have hk' : k < m := by omega
    have cl := hc k hk'
    rcases bst_or _ _ e1 with a1 | a1 <;> rcases bst_or _ _ e2 with a2 | a2
    · obtain ⟨z, h1, h2⟩ := cl i j hi hj x y a1 a2
      exact up0 z h1 h2
    · obtain ⟨u, v, b1, b2, rfl⟩ := addO_inv a2
      obtain ⟨z, h1, h2⟩ := cl i m hi hm x u a1 b1
      exact ups z v h1 b2 (by omega)
    · obtain ⟨u, v, b1, b2, rfl⟩ := addO_inv a1
      obtain ⟨z, h1, h2⟩ := cl m j hm hj v y b2 a2
      exact ups u z b1 h1 (by omega)
    · obtain ⟨u, v, b1, b2, rfl⟩ := addO_inv a1
      obtain ⟨u', v', b1', b2', rfl⟩ := addO_inv a2
      obtain ⟨z, h1, h2⟩ := cl m m hm hm v u' b2 b1'
      rw [h0] at h1; cases h1
      exact ups u v' b1 b2' (by omega)
theorem far_cl {n : Nat} {R : List Ru} (hd : ∀ k, k < n → ∀ x, far n R k k = some x → x ≤ 0) : (∀ k, k < n → Cl n (far n R) k) ∧ ∀ k, k < n → far n R k k = some 0 := by
  have hM0 : Lem M0 (R.foldl rstep M0) := lem_fold lem_rstep R M0
  generalize hM : R.foldl rstep M0 = M at hM0
  have hf : far n R = fwm n M := by unfold far; rw [hM]
  rw [hf] at hd ⊢
  have key : ∀ m, m ≤ n → (∀ k, k < n → ((List.range m).foldl (fun M m => fph n m M) M) k k = some 0) ∧ ∀ k, k < m → Cl n ((List.range m).foldl (fun M m => fph n m M) M) k := by
    have tail : ∀ m, m ≤ n → Lem ((List.range m).foldl (fun M m => fph n m M) M) (fwm n M) := fun m hm => by
      unfold fwm
      obtain ⟨d, rfl⟩ : ∃ d, n = m + d := ⟨n - m, by omega⟩
      rw [List.range_add, List.foldl_append]
      exact lem_fold (fun M k => lem_fph (m + d) k M) _ _
    have zero : ∀ m, m ≤ n → ∀ k, k < n → ((List.range m).foldl (fun M m => fph n m M) M) k k = some 0 := fun m hm k hk => by
      obtain ⟨x, e1, h1⟩ := (hM0.trans (lem_fold (fun M k => lem_fph n k M) (List.range m) M)) k k 0 (by unfold M0; rw [if_pos rfl])
      obtain ⟨y, e2, h2⟩ := tail m hm k k x e1
      have := hd k hk y e2
      rw [e1]; congr 1; omega
    intro m
    induction m with
    | zero => intro h; exact ⟨zero 0 h, fun k hk => absurd hk (Nat.not_lt_zero _)⟩
    | succ m ih =>
      intro h
      obtain ⟨h1, h2⟩ := ih (by omega)
      refine ⟨zero (m + 1) h, ?_⟩
      rw [List.range_succ, List.foldl_append]
      show ∀ k, k < m + 1 → Cl n (fph n m _) k
      rw [fph_eq (h1 m (by omega))]
      exact cl_step (by omega) (h1 m (by omega)) h2
  obtain ⟨h1, h2⟩ := key n (Nat.le_refl _)
  exact ⟨h2, h1⟩
theorem far_rule {n : Nat} {R : List Ru} {r : Ru} (hr : r ∈ R) : ∃ z, far n R r.1.toNat r.2.1.toNat = some z ∧ r.2.2 ≤ z := by
  have : Leo (some r.2.2) ((R.foldl rstep M0) r.1.toNat r.2.1.toNat) := by
    obtain ⟨a, b, rfl⟩ := List.append_of_mem hr
    rw [List.foldl_append, List.foldl_cons]
    refine Leo.trans ?_ (lem_fold lem_rstep b _ _ _)
    intro x e; cases e
    exact ⟨_, mset_same _ _ _ _, mxo_ge _ _⟩
  obtain ⟨z, h1, h2⟩ := this.trans (lem_fwm n _ _ _) _ rfl
  exact ⟨z, h1, h2⟩
/-- the gaps from one group on are times of their own -/
theorem far_feas {n : Nat} {R : List Ru} (ok : RuOk n R) (hd : ∀ k, k < n → ∀ x, far n R k k = some x → x ≤ 0) {a : Nat} (ha : a < n) : Feas R fun b => far n R a b := fun r hr x hx => by
  obtain ⟨⟨c0, c1⟩, ⟨d0, d1⟩, _⟩ := ok.ok r hr
  obtain ⟨z, h1, h2⟩ := far_rule (n := n) hr
  obtain ⟨w, h3, h4⟩ := (far_cl hd).1 r.1.toNat (by omega) a r.2.1.toNat ha (by omega) x z hx h1
  exact ⟨w, h3, by omega⟩
end SL

set_option Elab.async false
set_option linter.all false
set_option maxRecDepth 100000
set_option maxHeartbeats 4000000
/-! QBf: what longest answers from any first numbers on: the least times of their kind, or a ring of a sum above 0. -/
namespace SL
open PySem PySem.Spec PyProof.Rows L2
/-- the last rule is tight, or was put before its group grew -/
def Tight (R : List Ru) (B La : Nat → Option Int) (T : Nat → Nat) (v : Nat) : Prop := ∀ j, La v = some j → ∃ u, atI R j = some u ∧ u.2.1 = (v : Int) ∧ ∃ x y, B u.1.toNat = some x ∧ B v = some y ∧ y ≤ x + u.2.2 ∧ (y = x + u.2.2 → T u.1.toNat < T v)
structure BInv (n : Nat) (R : List Ru) (F : Nat → Option Int) (r k : Nat) (B : Nat → Option Int) (La : Nat → Option Int) (ch : Option Int) (L T : Nat → Nat) (t : Nat) : Prop where
  la : ∀ v, v < n → (L v = 0 ∧ La v = none) ∨ (1 ≤ L v ∧ L v ≤ r ∧ ∃ j, ∃ h : j < R.length, La v = some (j : Int) ∧ R[j].2.1 = (v : Int) ∧ L v ≤ L R[j].1.toNat + 1)
  ti : ∀ v, v < n → Tight R B La T v
  ru : ∀ j (h : j < R.length), Sat B R[j] ∨ (if j < k then r else r - 1) ≤ L R[j].1.toNat
  hch : ch = none ∨ ∃ v, v < n ∧ ch = some (v : Int) ∧ L v = r
  nf : ch = none → ∀ j (h : j < R.length), j < k → Sat B R[j]
  tt : ∀ v, T v < t
  ge : ∀ v, Leo (F v) (B v)
  le : ∀ D, Feas R D → (∀ v, Leo (F v) (D v)) → ∀ v, Leo (B v) (D v)
section
variable {n : Nat} {R : List Ru} {F : Nat → Option Int} {r k : Nat} {B : Nat → Option Int} {La : Nat → Option Int} {ch : Option Int} {L T : Nat → Nat} {t : Nat}
theorem BInv.lle (I : BInv n R F r k B La ch L T t) {v : Nat} (h : v < n) : L v ≤ r := by
  rcases I.la v h with h | h <;> omega
theorem BInv.calm (I : BInv n R F r k B La ch L T t) (h : k < R.length) (c : Sat B R[k]) : BInv n R F r (k + 1) B La ch L T t := by
  refine ⟨I.la, I.ti, fun j hj => ?_, I.hch, fun e j hj hjk => ?_, I.tt, I.ge, I.le⟩
  rotate_left
  · by_cases z : j = k
    · subst z; exact c
    · exact I.nf e j hj (by omega)
  by_cases e : j = k
  · subst e; exact .inl c
  · rcases I.ru j hj with q | q
    · exact .inl q
    · refine .inr ?_
      by_cases z : j < k
      · rw [if_pos z] at q; rw [if_pos (by omega)]; exact q
      · rw [if_neg z] at q; rw [if_neg (by omega)]; exact q
theorem BInv.fire (ok : RuOk n R) (hr : 1 ≤ r) (I : BInv n R F r k B La ch L T t) (h : k < R.length) {x : Int} (hx : B R[k].1.toNat = some x) (c : ∀ y, B R[k].2.1.toNat = some y → y < x + R[k].2.2) :
    BInv n R F r (k + 1) (upf B R[k].2.1.toNat (some (x + R[k].2.2))) (upf La R[k].2.1.toNat (some (k : Int))) (some R[k].2.1) (upf L R[k].2.1.toNat r) (upf T R[k].2.1.toNat t) (t + 1) := by
  obtain ⟨⟨a0, a1⟩, ⟨b0, b1⟩, ab, g0, g1⟩ := ok.ok _ (List.getElem_mem h)
  have hns : ¬ Sat B R[k] := fun s => by
    obtain ⟨y, h1, h2⟩ := s x hx
    have := c y h1; omega
  have hL : r - 1 ≤ L R[k].1.toNat := by
    rcases I.ru k h with q | q
    · exact absurd q hns
    · rw [if_neg (by omega)] at q; exact q
  have hne : R[k].1.toNat ≠ R[k].2.1.toNat := by omega
  have mono : ∀ v, v < n → L v ≤ upf L R[k].2.1.toNat r v := fun v hv => by
    unfold upf; split
    · exact I.lle hv
    · exact Nat.le_refl _
  have up : ∀ v, Leo (B v) (upf B R[k].2.1.toNat (some (x + R[k].2.2)) v) := fun v y hy => by
    by_cases e : v = R[k].2.1.toNat
    · subst e; rw [upf_same]; exact ⟨_, rfl, by have := c y hy; omega⟩
    · rw [upf_ne _ _ e]; exact ⟨y, hy, Int.le_refl _⟩
  refine ⟨fun v hv => ?_, fun v hv => ?_, fun j hj => ?_, .inr ⟨R[k].2.1.toNat, by omega, by rw [Int.toNat_of_nonneg b0], upf_same _ _ _⟩, fun e => (by cases e), fun v => ?_, fun v => (I.ge v).trans (up v), fun D f hD v y hy => ?_⟩
  · by_cases e : v = R[k].2.1.toNat
    · subst e
      rw [upf_same, upf_same]
      refine .inr ⟨hr, Nat.le_refl _, k, h, rfl, by rw [Int.toNat_of_nonneg b0], ?_⟩
      rw [upf_ne _ _ hne]; omega
    · rw [upf_ne _ _ e, upf_ne _ _ e]
      rcases I.la v hv with q | ⟨q1, q2, j, hj, q3, q4, q5⟩
      · exact .inl q
      · refine .inr ⟨q1, q2, j, hj, q3, q4, ?_⟩
        obtain ⟨⟨c0, c1⟩, _⟩ := ok.ok _ (List.getElem_mem hj)
        have := mono R[j].1.toNat (by omega)
        omega
  · by_cases e : v = R[k].2.1.toNat
    · subst e
      intro j hj
      rw [upf_same] at hj
      cases hj
      refine ⟨R[k], atI_ok h, by rw [Int.toNat_of_nonneg b0], x, _, by rw [upf_ne _ _ hne]; exact hx, upf_same _ _ _, Int.le_refl _, fun _ => ?_⟩
      rw [upf_ne _ _ hne, upf_same]; exact I.tt _
    · intro j hj
      rw [upf_ne _ _ e] at hj
      obtain ⟨u, q1, q2, p, q, q3, q4, q5, q6⟩ := I.ti v hv j hj
      by_cases z : u.1.toNat = R[k].2.1.toNat
      · have hp := c p (by rw [← z]; exact q3)
        refine ⟨u, q1, q2, x + R[k].2.2, q, by rw [z, upf_same], by rw [upf_ne _ _ e]; exact q4, by omega, fun w => by omega⟩
      · exact ⟨u, q1, q2, p, q, by rw [upf_ne _ _ z]; exact q3, by rw [upf_ne _ _ e]; exact q4, q5, fun w => by rw [upf_ne _ _ z, upf_ne _ _ e]; exact q6 w⟩
  · obtain ⟨⟨c0, c1⟩, ⟨d0, d1⟩, cd, _⟩ := ok.ok _ (List.getElem_mem hj)
    by_cases e : j = k
    · subst e
      refine .inl fun p hp => ?_
      rw [upf_ne _ _ hne, hx] at hp; cases hp
      exact ⟨_, upf_same _ _ _, Int.le_refl _⟩
    · by_cases z : R[j].1.toNat = R[k].2.1.toNat
      · refine .inr ?_
        rw [z, upf_same]; split <;> omega
      · rcases I.ru j hj with q | q
        · refine .inl fun p hp => ?_
          rw [upf_ne _ _ z] at hp
          obtain ⟨y, h1, h2⟩ := q p hp
          obtain ⟨y', h3, h4⟩ := up _ y h1
          exact ⟨y', h3, by omega⟩
        · refine .inr ?_
          rw [upf_ne _ _ z]
          by_cases y : j < k
          · rw [if_pos y] at q; rw [if_pos (by omega)]; exact q
          · rw [if_neg y] at q; rw [if_neg (by omega)]; exact q
  · by_cases e : v = R[k].2.1.toNat
    · subst e; rw [upf_same]; omega
    · rw [upf_ne _ _ e]; have := I.tt v; omega
  · by_cases e : v = R[k].2.1.toNat
    · subst e
      rw [upf_same] at hy; cases hy
      obtain ⟨p, h1, h2⟩ := I.le D f hD _ x hx
      obtain ⟨q, h3, h4⟩ := f _ (List.getElem_mem h) p h1
      exact ⟨q, h3, by omega⟩
    · rw [upf_ne _ _ e] at hy
      exact I.le D f hD v y hy
theorem BInv.next (ok : RuOk n R) (hr : 1 ≤ r) (I : BInv n R F r R.length B La ch L T t) : BInv n R F (r + 1) 0 B La none L T t := by
  refine ⟨fun v hv => ?_, I.ti, fun j hj => ?_, .inl rfl, fun _ j _ hj => absurd hj (Nat.not_lt_zero _), I.tt, I.ge, I.le⟩
  · rcases I.la v hv with q | ⟨q1, q2, q3⟩
    · exact .inl q
    · exact .inr ⟨q1, by omega, q3⟩
  · rcases I.ru j hj with q | q
    · exact .inl q
    · rw [if_pos hj] at q
      refine .inr ?_
      rw [if_neg (by omega)]; omega
end
def LresG (n : Nat) (R : List Ru) (F : Nat → Option Int) (res : Option (List (Option Int)) × Option (List (Option Int))) : Prop :=
  (∃ B : Nat → Option Int, res = (some (tab n B), none) ∧ (∀ v, Leo (F v) (B v)) ∧ Feas R B ∧ ∀ D, Feas R D → (∀ v, Leo (F v) (D v)) → ∀ v, Leo (B v) (D v)) ∨
  ∃ (B La : Nat → Option Int) (L T : Nat → Nat) (v t : Nat), LaOk n R La L ∧ (∀ w, w < n → Tight R B La T w) ∧ v < n ∧ L v = n + 1 ∧ t < n ∧ res = (none, some (Fd La (prv R La) v n t).reverse) ∧ it (prv R La) v (n + t + 1) = it (prv R La) v n
theorem all_longestG {n : Nat} {R : List Ru} (ok : RuOk n R) (h1 : 1 ≤ n) (hn : n ≤ 6) (F : Nat → Option Int) : All (p_longest ((n : Int), R) (tab n F)) (LresG n R F) := by
  have hl := ok.len
  unfold p_longest
  simp only [lt']
  refine all_wgB ⟨by omega, by omega, by simp⟩ ?_
  rw [show (((n : Int), R) : Int × List Ru).1.toNat = n from Int.toNat_natCast n, rep_tab]
  refine all_wgB (okR_of (by omega) (by omega) (by omega) (by omega) (by omega)) ?_
  rw [show ((((n : Int), R) : Int × List Ru).1 + 1).toNat = n + 1 by omega]
  have hstart : BInv n R F 1 0 F (fun _ => none) none (fun _ => 0) (fun _ => 0) 1 := ⟨fun v _ => .inl ⟨rfl, rfl⟩, fun v _ j e => (by cases e), fun j hj => .inr (by simp), .inl rfl, fun _ j _ hj => absurd hj (Nat.not_lt_zero _), fun _ => Nat.one_pos, fun _ => Leo.refl _, fun D _ h => h⟩
  refine all_bind _ (all_wfoldX (R := fun (rt : Rt (List (Option Int) × List (Option Int) × Option (Option Int)) (Option (List (Option Int)) × Option (List (Option Int)))) => match rt with
      | .ret res => LresG n R F res
      | .nx s => ∃ B La L T v, s.2.1 = tab n La ∧ LaOk n R La L ∧ (∀ w, w < n → Tight R B La T w) ∧ v < n ∧ s.2.2 = some (some (v : Int)) ∧ L v = n + 1)
    (fun xs s => ∃ (i : Nat) (B : Nat → Option Int) (La : Nat → Option Int) (L T : Nat → Nat) (t : Nat), i ≤ n + 1 ∧ xs = rngL (i : Int) (n + 1 - i) ∧ s.1 = tab n B ∧ s.2.1 = tab n La ∧ BInv n R F (i + 1) 0 B La none L T t ∧ (1 ≤ i → ∃ v, v < n ∧ s.2.2 = some (some (v : Int)) ∧ L v = i)) _ _ ⟨0, F, fun _ => none, fun _ => 0, fun _ => 0, 1, by omega, rfl, rfl, rfl, hstart, fun z => absurd z (by omega)⟩ ?_ ?_) ?_
  · rintro x xs s ⟨i, B, La, L, T, t, hi, hx, hB, hLa, I, _⟩
    have hi' : i < n + 1 := by
      by_cases z : i < n + 1
      · exact z
      · rw [show n + 1 - i = 0 by omega] at hx; cases hx
    rw [rng_cons hi'] at hx
    obtain ⟨rfl, rfl⟩ := List.cons.inj hx
    refine all_wgB (okR_of (by omega) (by omega) (by omega) (by omega) (by omega)) ?_
    rw [show ((((n : Int), R) : Int × List Ru).2.length : Int).toNat = R.length from Int.toNat_natCast _]
    refine all_bind _ (all_fold (fun ys (q : List (Option Int) × List (Option Int) × Option Int) => ∃ (k : Nat) (B : Nat → Option Int) (La : Nat → Option Int) (L T : Nat → Nat) (t : Nat), k ≤ R.length ∧ ys = rngL (k : Int) (R.length - k) ∧ q.1 = tab n B ∧ q.2.1 = tab n La ∧ BInv n R F (i + 1) k B La q.2.2 L T t) _ _ ⟨0, B, La, L, T, t, by omega, rfl, hB, hLa, I⟩ ?_) ?_
    · rintro y ys q ⟨k, B, La, L, T, t, hk, hy, qB, qLa, I⟩
      have hk' : k < R.length := by
        by_cases z : k < R.length
        · exact z
        · rw [show R.length - k = 0 by omega] at hy; cases hy
      rw [rng_cons hk'] at hy
      obtain ⟨rfl, rfl⟩ := List.cons.inj hy
      obtain ⟨⟨a0, a1⟩, ⟨b0, b1⟩, _⟩ := ok.ok _ (List.getElem_mem hk')
      refine all_woB (atI_ok hk') ?_
      rw [qB, qLa, tab_at a0 a1, tab_at b0 b1]
      cases hx : B R[k].1.toNat with
      | none =>
        simp only [wo_some, wret_bind, wbind_assoc, isNo, Bool.not_true, Bool.false_eq_true, if_false]
        exact all_ret ⟨k + 1, B, La, L, T, t, hk', rfl, rfl, rfl, I.calm hk' fun x e => by rw [hx] at e; cases e⟩
      | some x =>
        simp only [wo_some, wret_bind, wbind_assoc, isNo, Bool.not_false, if_true, Bool.false_eq_true, if_false]
        have fin : (∀ y, B R[k].2.1.toNat = some y → y < x + R[k].2.2) → All (wbind (wo (setL (tab n B) R[k].2.1 (some (x + R[k].2.2)))) fun (best37 : (List (Option Int))) =>
            wbind (wo (setL (tab n La) R[k].2.1 (some (k : Int)))) fun (last39 : (List (Option Int))) => wret (best37, last39, some R[k].2.1)) (fun (q : List (Option Int) × List (Option Int) × Option Int) => ∃ (k' : Nat) (B : Nat → Option Int) (La : Nat → Option Int) (L T : Nat → Nat) (t : Nat), k' ≤ R.length ∧ rngL ((k + 1 : Nat) : Int) (R.length - (k + 1)) = rngL (k' : Int) (R.length - k') ∧ q.1 = tab n B ∧ q.2.1 = tab n La ∧ BInv n R F (i + 1) k' B La q.2.2 L T t) := fun c => by
          rw [tab_set b0 b1, tab_set b0 b1]
          exact all_woB rfl (all_woB rfl (all_ret ⟨k + 1, _, _, _, _, _, hk', rfl, rfl, rfl, I.fire ok (by omega) hk' hx c⟩))
        cases hy : B R[k].2.1.toNat with
        | none =>
          simp only [isNo, if_true]
          exact fin fun y e => by rw [hy] at e; cases e
        | some y =>
          simp only [isNo, wo_some, wret_bind, Bool.false_eq_true, if_false]
          by_cases c : y < x + R[k].2.2
          · rw [decide_eq_true c, if_pos rfl]
            exact fin fun y' e => by rw [hy] at e; cases e; exact c
          · rw [decide_eq_false c, if_neg (by simp)]
            exact all_ret ⟨k + 1, B, La, L, T, t, hk', rfl, rfl, rfl, I.calm hk' fun x' e => by rw [hx] at e; cases e; exact ⟨y, hy, by omega⟩⟩
    · rintro ⟨q1, q2, q3⟩ ⟨k, B, La, L, T, t, hk, hy, qB, qLa, I⟩
      have hk' : k = R.length := by
        by_cases z : k < R.length
        · rw [rng_cons z] at hy; cases hy
        · omega
      subst hk'
      simp only at qB qLa I ⊢
      cases q3 with
      | none =>
        refine all_ret ?_
        refine .inl ⟨B, by rw [qB], I.ge, fun r hr => ?_, I.le⟩
        obtain ⟨j, hj, rfl⟩ := List.getElem_of_mem hr
        exact I.nf rfl j hj hj
      | some c =>
        refine all_ret ?_
        refine ⟨i + 1, B, La, L, T, t, by omega, rfl, qB, qLa, I.next ok (by omega), fun _ => ?_⟩
        rcases I.hch with e | ⟨v, hv, e, hLv⟩
        · cases e
        · exact ⟨v, hv, by rw [e], hLv⟩
  · rintro s ⟨i, B, La, L, T, t, hi, hx, hB, hLa, I, hc⟩
    have hi' : i = n + 1 := by
      by_cases z : i < n + 1
      · rw [rng_cons z] at hx; cases hx
      · omega
    subst hi'
    obtain ⟨v, hv, e, hLv⟩ := hc (by omega)
    refine ⟨B, La, L, T, v, hLa, fun w hw => ?_, I.ti, hv, e, hLv⟩
    rcases I.la w hw with q | ⟨q1, _, q3⟩
    · exact .inl q
    · exact .inr ⟨q1, q3⟩
  · intro rt hrt
    cases rt with
    | ret res => exact all_ret hrt
    | nx s =>
      obtain ⟨B, La, L, T, v, e1, hLa, hT, hv, e2, hLv⟩ := hrt
      show All (wbind _ _) _
      rw [e1, e2]
      simp only [wo_some, wret_bind, wbind_assoc]
      refine all_bind _ (all_ring ok hn hLa hv hLv) fun ring ⟨t, ht, er, hc⟩ => all_ret ?_
      subst er
      exact .inr ⟨B, La, L, T, v, t, hLa, hT, hv, hLv, ht, rfl, hc⟩
/-! the ring's sum -/
def gpo (R : List Ru) (o : Option Int) : Int := match o with | some j => (R.getD j.toNat (0, 0, 0)).2.2 | none => 0
def gsum (R : List Ru) (La : Nat → Option Int) (x : Nat → Nat) : Nat → Int | 0 => 0 | m + 1 => gsum R La x m + gpo R (La (x m))
/-- one step of the ring back -/
structure RStep (R : List Ru) (La : Nat → Option Int) (a b : Nat) : Prop where
  st : ∃ j, ∃ h : j < R.length, La a = some (j : Int) ∧ R[j].2.1 = (a : Int) ∧ R[j].1 = (b : Int)
theorem RStep.gp {R : List Ru} {La : Nat → Option Int} {a b : Nat} (s : RStep R La a b) : ∃ r ∈ R, gpo R (La a) = r.2.2 ∧ r.2.1.toNat = a ∧ r.1.toNat = b := by
  obtain ⟨j, h, e1, e2, e3⟩ := s.st
  refine ⟨R[j], List.getElem_mem h, ?_, by rw [e2]; rfl, by rw [e3]; rfl⟩
  rw [e1]; unfold gpo
  simp only [Int.toNat_natCast]
  rw [List.getD_eq_getElem?_getD, List.getElem?_eq_getElem h]; rfl
theorem ring_sum {R : List Ru} {B La : Nat → Option Int} {T : Nat → Nat} {x : Nat → Nat} (hs : ∀ i, RStep R La (x i) (x (i + 1))) (hT : ∀ i, Tight R B La T (x i)) : ∀ m, ∃ p q, B (x 0) = some p ∧ B (x m) = some q ∧ p ≤ q + gsum R La x m ∧ (p = q + gsum R La x m → m = 0 ∨ T (x m) < T (x 0))
  | 0 => by
    obtain ⟨j, h, e1, e2, e3⟩ := (hs 0).st
    obtain ⟨u, _, _, p, q, _, q4, _⟩ := hT 0 _ e1
    exact ⟨q, q, q4, q4, by unfold gsum; omega, fun _ => .inl rfl⟩
  | m + 1 => by
    obtain ⟨p, q, h1, h2, h3, h4⟩ := ring_sum hs hT m
    obtain ⟨j, h, e1, e2, e3⟩ := (hs m).st
    obtain ⟨u, u1, u2, x', y', u3, u4, u5, u6⟩ := hT m _ e1
    rw [atI_ok h] at u1; cases u1
    rw [h2] at u4; cases u4
    have eb : R[j].1.toNat = x (m + 1) := by rw [e3]; rfl
    rw [eb] at u3 u6
    have eg : gpo R (La (x m)) = R[j].2.2 := by
      rw [e1]; unfold gpo; simp only [Int.toNat_natCast]
      rw [List.getD_eq_getElem?_getD, List.getElem?_eq_getElem h]; rfl
    refine ⟨p, x', h1, u3, ?_, fun w => .inr ?_⟩
    · unfold gsum; rw [eg]; omega
    · unfold gsum at w; rw [eg] at w
      have t1 := u6 (by omega)
      rcases h4 (by omega) with z | z
      · subst z; exact t1
      · omega
theorem ring_pos {R : List Ru} {B La : Nat → Option Int} {T : Nat → Nat} {x : Nat → Nat} (hs : ∀ i, RStep R La (x i) (x (i + 1))) (hT : ∀ i, Tight R B La T (x i)) {m : Nat} (hm : 1 ≤ m) (hc : x m = x 0) : 0 < gsum R La x m := by
  obtain ⟨p, q, h1, h2, h3, h4⟩ := ring_sum hs hT m
  rw [hc, h1] at h2; cases h2
  by_cases z : 0 < gsum R La x m
  · exact z
  · rcases h4 (by omega) with z | z
    · omega
    · rw [hc] at z; omega
theorem ring_feas {R : List Ru} {P La : Nat → Option Int} {x : Nat → Nat} (hs : ∀ i, RStep R La (x i) (x (i + 1))) (f : Feas R P) : ∀ m p, P (x m) = some p → ∃ q, P (x 0) = some q ∧ p + gsum R La x m ≤ q
  | 0, p, h => ⟨p, h, by unfold gsum; omega⟩
  | m + 1, p, h => by
    obtain ⟨r, hr, e1, e2, e3⟩ := (hs m).gp
    obtain ⟨y, h1, h2⟩ := f r hr p (by rw [e3]; exact h)
    rw [e2] at h1
    obtain ⟨q, h3, h4⟩ := ring_feas hs f m y h1
    refine ⟨q, h3, ?_⟩
    unfold gsum; rw [e1]; omega
end SL

set_option Elab.async false
set_option linter.all false
set_option maxRecDepth 100000
set_option maxHeartbeats 4000000
/-! QTm0: the law's are_times on any value. -/
namespace SL
open PySem PySem.Spec PyProof.Rows L2
/-! times -/
def isI : PyData → Bool | .int _ => true | _ => false
theorem ints_inv : ∀ {ds : List PyData}, ds.all isI = true → ∃ is : List Int, ds = is.map .int
  | [], _ => ⟨[], rfl⟩
  | d :: ds, h => by
    rw [List.all_cons, Bool.and_eq_true] at h
    obtain ⟨is, rfl⟩ := ints_inv h.2
    cases d with
    | int i => exact ⟨i :: is, rfl⟩
    | _ => cases h.1
def atX (o : List Int) (i : Int) : Int := o.getD i.toNat 0
theorem atX_ok {o : List Int} {i : Int} (h0 : 0 ≤ i) (h1 : i < o.length) : fIx (.tuple (o.map .int)) (eI i) = some (.int (atX o i)) := by
  obtain ⟨n, rfl⟩ := Int.eq_ofNat_of_zero_le h0
  have hn : n < o.length := by omega
  show atI (o.map PyData.int) (n : Int) = _
  rw [atI_ok (by rw [List.length_map]; exact hn), List.getElem_map]
  unfold atX
  rw [Int.toNat_natCast, List.getD_eq_getElem?_getD, List.getElem?_eq_getElem hn]; rfl
def intX : PyData → Int | .int i => i | _ => 0
theorem intX_map (is : List Int) : (is.map PyData.int).map intX = is := by
  rw [List.map_map]; exact List.map_id is
def timB (n : Int) (R : List Ru) : PyData → Bool
  | .tuple ds => decide ((ds.length : Int) = n) && (ds.all isI && R.all fun r => decide (r.2.2 ≤ atX (ds.map intX) r.2.1 - atX (ds.map intX) r.1))
  | _ => false
theorem l_int_eqX (d : PyData) : p_l_is_integer d = wret (isI d) := by unfold p_l_is_integer; cases d <;> rfl
theorem left_posX {α} (l : List α) (f : α → Bool) : decide ((0 : Int) < ((l.filter fun x => !f x).length : Int)) = !l.all f := by
  rw [← none_left]
  by_cases h : ((l.filter fun x => !f x).length : Int) = 0
  · rw [decide_eq_true h, h]; rfl
  · rw [decide_eq_false h, decide_eq_true (by omega)]; rfl
theorem l_are_times_eq {n : Nat} {R : List Ru} (ok : RuOk n R) (d : PyData) : p_l_are_times ((n : Int), R) d = wret (timB n R d) := by
  unfold p_l_are_times
  cases d with
  | tuple ds =>
    rw [if_neg (by simp [isT]), show fLen (.tuple ds) = some (.int (ds.length : Int)) from rfl, wo_some]
    simp only [wbind_assoc, wret_bind, len_ne, wo_some]
    show _ = wret (decide ((ds.length : Int) = n) && (ds.all isI && R.all fun r => decide (r.2.2 ≤ atX (ds.map intX) r.2.1 - atX (ds.map intX) r.1)))
    by_cases c : (ds.length : Int) = n
    · rw [decide_eq_true c, if_neg (by simp), show tupOf (.tuple ds) = some ds from rfl, wo_some, wret_bind]
      rw [wfm_eq (c' := fun x => !isI x) (g := fun x => x) (fun x _ => by rw [l_int_eqX, wret_bind]) fun _ _ => rfl]
      simp only [wret_bind, List.map_id', left_posX]
      cases h : ds.all isI with
      | false => rfl
      | true =>
        rw [if_neg (by simp)]
        obtain ⟨is, rfl⟩ := ints_inv h
        rw [List.length_map] at c
        rw [intX_map]
        rw [wfm_eq (c' := fun r : Ru => !decide (r.2.2 ≤ atX is r.2.1 - atX is r.1)) (g := fun r => r) (fun r hr => ?_) fun _ _ => rfl]
        · simp only [wret_bind]
          rw [List.map_id', none_left]; rfl
        · obtain ⟨⟨a0, a1⟩, ⟨b0, b1⟩, _⟩ := ok.ok r hr
          rw [atX_ok a0 (by omega), atX_ok b0 (by omega)]
          simp only [wo_some, wret_bind]
          rw [show fI2 gSub' (.int (atX is r.2.1)) (.int (atX is r.1)) = some (.int (atX is r.2.1 - atX is r.1)) from rfl]
          simp only [wo_some, wret_bind]
          rw [show fLt (.int (atX is r.2.1 - atX is r.1)) (eI r.2.2) = some (decide (atX is r.2.1 - atX is r.1 < r.2.2)) from rfl, wo_some]
          refine congrArg wret ?_
          by_cases q : r.2.2 ≤ atX is r.2.1 - atX is r.1
          · rw [decide_eq_true q, decide_eq_false (by omega)]; rfl
          · rw [decide_eq_false q, decide_eq_true (by omega)]; rfl
    · rw [decide_eq_false c]; rfl
  | _ => rfl
end SL

set_option Elab.async false
set_option linter.all false
set_option maxRecDepth 100000
set_option maxHeartbeats 4000000
/-! QXd0: the exits drawn, and what the laws on exits share. -/
namespace SL
open PySem PySem.Spec PyProof.Rows L2
theorem wassoc {α β γ} (w : Wp α) (f : α → Wp β) (g : β → Wp γ) : wbind (wbind w f) g = wbind w fun x => wbind (f x) g := (wbind_assoc w f g).trans (Eq.refl _)
theorem wretb {α β} (x : α) (f : α → Wp β) : wbind (wret x) f = f x := (wret_bind x f).trans (Eq.refl _)
theorem ltb {α β} (x : α) (f : α → Wp β) : lt' x f = f x := (show lt' x f = f x from rfl).trans (Eq.refl _)
/-! the exits drawn -/
def ExOk (E : Int × List Ru) : Prop := ∃ n : Nat, E.1 = (n : Int) ∧ 1 ≤ n ∧ n ≤ 6 ∧ RuOk n E.2
theorem all_pickX {α β} {l : List α} {f : α → Wp β} {R : β → Prop} (h0 : l ≠ []) (h1 : l.length < 1000000) (k : ∀ x ∈ l, All (f x) R) : All (wbind (wpick l) f) R := by
  have hp : 0 < l.length := List.length_pos_iff.mpr h0
  unfold wpick
  simp only [wbind_assoc]
  refine all_drawB (by omega) (by omega) fun i i0 i1 => ?_
  obtain ⟨n, rfl⟩ := Int.eq_ofNat_of_zero_le i0
  have hn : n < l.length := by omega
  exact all_woB (atI_ok hn) (k _ (List.getElem_mem hn))
theorem all_exits : All p_l_exits ExOk := by
  unfold p_l_exits
  simp only [lt', wbind_assoc, wret_bind]
  refine all_drawB (by decide) (by decide) fun m m0 m1 => ?_
  obtain ⟨n, hn⟩ : ∃ n : Nat, 1 + m = (n : Int) := ⟨(1 + m).toNat, by omega⟩
  rw [hn]
  have n1 : 1 ≤ n := by omega
  have n6 : n ≤ 6 := by omega
  refine all_drawB (by decide) (by decide) fun v v0 v1 => ?_
  have hv : ∃ y, atI ([((3 : Int), (9 : Int), (99 : Int)).1, ((3 : Int), (9 : Int), (99 : Int)).2.1, ((3 : Int), (9 : Int), (99 : Int)).2.2]) v = some y ∧ 0 ≤ y ∧ y ≤ 99 := by
    rcases (show v = 0 ∨ v = 1 ∨ v = 2 by omega) with rfl | rfl | rfl
    · exact ⟨3, rfl, by decide, by decide⟩
    · exact ⟨9, rfl, by decide, by decide⟩
    · exact ⟨99, rfl, by decide, by decide⟩
  obtain ⟨around, hy, y0, y1⟩ := hv
  refine all_woB hy ?_
  refine all_bind (fun c : Int => 0 ≤ c ∧ c ≤ 12 ∧ (0 < c → 1 < n)) (all_if (fun h => ?_) fun h => all_ret ⟨by decide, by decide, fun z => absurd z (by decide)⟩) fun c hc => ?_
  · have h := of_decide_eq_true h
    exact all_mono (all_draw (by decide) (by decide)) fun r hr => ⟨by omega, by omega, fun _ => by omega⟩
  refine all_wgB (okR_of (by omega) (by omega) (by omega) (by omega) (by omega)) ?_
  refine all_bind _ (all_fold (fun xs s => s.length + xs.length ≤ 12 ∧ (xs ≠ [] → 1 < n) ∧ ∀ r ∈ s, (0 ≤ r.1 ∧ r.1 < (n : Int)) ∧ (0 ≤ r.2.1 ∧ r.2.1 < (n : Int)) ∧ r.1 ≠ r.2.1 ∧ -99 ≤ r.2.2 ∧ r.2.2 ≤ 99) _ _ ⟨by rw [rngL_length]; simp; omega, fun z => hc.2.2 (by
    by_cases q : 0 < c
    · exact q
    · exact absurd (show rngL 0 c.toNat = [] by rw [show c.toNat = 0 by omega]; rfl) z), fun _ h => by cases h⟩ ?_) fun s hs => ?_
  · rintro x xs s ⟨h1, h2, h3⟩
    simp only [List.length_cons] at h1
    have hn2 := h2 (List.cons_ne_nil _ _)
    refine all_drawB (by omega) (by omega) fun a a0 a1 => ?_
    refine all_wgB (okR_of (by omega) (by omega) (by omega) (by omega) (by omega)) ?_
    have hne : ((rngL 0 ((n : Int)).toNat).filter fun g18 => (!decide (g18 = a))).map (fun g18 => g18) ≠ [] := by
      rw [List.map_id']
      intro e
      have hb : (if a = 0 then (1 : Int) else 0) ∈ (rngL 0 ((n : Int)).toNat).filter fun g18 => (!decide (g18 = a)) := by
        refine List.mem_filter.mpr ⟨mem_rngL.mpr (by split <;> omega), ?_⟩
        by_cases q : a = 0
        · rw [if_pos q, q]; rfl
        · rw [if_neg q, decide_eq_false (fun z => q z.symm)]; rfl
      rw [e] at hb; cases hb
    have hln : (((rngL 0 ((n : Int)).toNat).filter fun g18 => (!decide (g18 = a))).map fun g18 => g18).length ≤ n := by
      rw [List.length_map]
      exact Nat.le_trans (List.length_filter_le _ _) (by rw [rngL_length, Int.toNat_natCast]; exact Nat.le_refl _)
    refine all_pickX hne (by omega) fun b hb => ?_
    rw [List.map_id'] at hb
    have hb1 := mem_rngL.mp (List.mem_filter.mp hb).1
    have hb2 : b ≠ a := by
      have := (List.mem_filter.mp hb).2
      intro e
      rw [decide_eq_true e] at this; cases this
    refine all_drawB (by omega) (by omega) fun gap g0 g1 => ?_
    refine all_bind (fun _ : Bool => True) (all_if (fun _ => all_drawB (by decide) (by decide) fun z _ _ => all_ret trivial) fun _ => all_ret trivial) fun t _ => ?_
    refine all_bind (fun g : Int => -99 ≤ g ∧ g ≤ 99) (all_if (fun _ => all_ret (by omega)) fun _ => all_drawB (by decide) (by decide) fun z z0 z1 => all_ret (by omega)) fun g hg => ?_
    refine all_wgB (by omega) (all_ret ⟨by rw [List.length_append]; simp; omega, fun _ => hn2, fun r hr => ?_⟩)
    rcases List.mem_append.mp hr with hr | hr
    · exact h3 r hr
    · rw [List.mem_singleton.mp hr]; exact ⟨by simp only; omega, by simp only; omega, fun z => hb2 z.symm, hg.1, hg.2⟩
  · obtain ⟨s1, _, s3⟩ := hs
    exact all_ret ⟨n, rfl, n1, n6, by simpa using s1, s3⟩
/-! the times -/
def TmOk (n : Nat) (ts : List Int) : Prop := ts.length = n ∧ ∀ t ∈ ts, t.natAbs ≤ 10000
theorem unOs_tab (n : Nat) (B : Nat → Int) : unOs (tab n fun v => some (B v)) = some (tab n B) := by
  have e : (tab n fun v => some (B v)) = (tab n B).map some := by unfold tab; rw [List.map_map]; rfl
  rw [e, unOs_some]
theorem times_ring : ("times" : Str) ≠ ("ring" : Str) := by decide +kernel
theorem cutL_mem {α} {l : List α} {lo hi : Option Int} {x : α} (h : x ∈ cutL l lo hi) : x ∈ l := by
  unfold cutL at h
  exact (List.drop_sublist _ _).mem ((List.take_sublist _ _).mem h)
theorem cutL_len {α} (l : List α) (lo hi : Option Int) : (cutL l lo hi).length ≤ l.length := by
  unfold cutL
  rw [List.length_take, List.length_drop]; omega
end SL

set_option Elab.async false
set_option linter.all false
set_option maxRecDepth 100000
set_option maxHeartbeats 4000000
/-! QRgA: right exit papers, on any value. -/
namespace SL
open PySem PySem.Spec PyProof.Rows L2
theorem atI_any {α} {l : List α} {k : Int} (h0 : -(l.length : Int) ≤ k) (h1 : k < l.length) : ∃ a, atI l k = some a ∧ a ∈ l := by
  by_cases c : 0 ≤ k
  · obtain ⟨n, rfl⟩ := Int.eq_ofNat_of_zero_le c
    have hn : n < l.length := by omega
    exact ⟨_, atI_ok hn, List.getElem_mem hn⟩
  · unfold L2.atI L2.ixN
    rw [if_neg c, if_pos (by omega), Option.bind_some]
    have hn : (k + (l.length : Int)).toNat < l.length := by omega
    exact ⟨_, List.getElem?_eq_getElem hn, List.getElem_mem hn⟩
theorem atI_mapX {α β} (f : α → β) (l : List α) (k : Int) : atI (l.map f) k = (atI l k).map f := by
  unfold L2.atI L2.ixN
  rw [List.length_map]
  generalize (if 0 ≤ k then if k < (l.length : Int) then some k.toNat else none else if -(l.length : Int) ≤ k then some (k + (l.length : Int)).toNat else none) = o
  cases o with
  | none => rfl
  | some j => rw [Option.bind_some, Option.bind_some, List.getElem?_map]
theorem wg_rng {n : Nat} (h : n ≤ 16000000) : wg (okR 0 (n : Int)) (rngL 0 ((n : Int)).toNat) = wret (rngL 0 n) := by
  rw [wg_true (okR_of (by omega) (by omega) (by omega) (by omega) (by omega)), Int.toNat_natCast]
def gR (R : List Ru) (i : Int) : Ru := (atI R i).getD (0, 0, 0)
def gA (is : List Int) (k : Int) : Int := (atI is k).getD 0
def chB (R : List Ru) (is : List Int) (k : Int) : Bool := decide ((gR R (gA is (k - 1))).2.1 = (gR R (gA is k)).1)
def ring1B (R : List Ru) : PyData → Bool
  | .tuple ds => (!decide ((ds.length : Int) = 0) && ds.all (numB 0 ((R.length : Int) - 1))) && (rngL 0 ds.length).all (chB R (ds.map intX))
  | _ => false
def sumB (R : List Ru) : PyData → Bool
  | .tuple ds => decide (0 < ((ds.map intX).map fun i => (gR R i).2.2).sum)
  | _ => false
def ringB (R : List Ru) (d : PyData) : Bool := ring1B R d && sumB R d
theorem ring1_inv {R : List Ru} {d : PyData} (h : ring1B R d = true) : ∃ is : List Int, d = .tuple (is.map .int) ∧ ∀ i ∈ is, 0 ≤ i ∧ i ≤ (R.length : Int) - 1 := by
  unfold ring1B at h
  cases d with
  | tuple ds =>
    simp only [Bool.and_eq_true] at h
    obtain ⟨is, rfl, hb⟩ := nums_inv h.1.2
    exact ⟨is, rfl, hb⟩
  | _ => cases h
def papB (n : Int) (R : List Ru) : PyData → Bool
  | .tuple [a, f] => match a with
    | .str s => if s = ("times" : Str) then timB n R f else decide (s = ("ring" : Str)) && ringB R f
    | _ => false
  | _ => false
theorem fIx_R {R : List Ru} {i : Int} (h0 : 0 ≤ i) (h1 : i < R.length) : fIx (eT (eP3 eI eI eI) R) (.int i) = some (eP3 eI eI eI (gR R i)) := by
  show atI (R.map (eP3 eI eI eI)) i = _
  rw [atI_mapX]
  obtain ⟨a, h, _⟩ := atI_any (l := R) (by omega) h1
  unfold gR
  rw [h]; rfl
theorem fIx_21 (r : Ru) : fIx (eP3 eI eI eI r) (eI 1) = some (.int r.2.1) := rfl
theorem fIx_20 (r : Ru) : fIx (eP3 eI eI eI r) (eI 0) = some (.int r.1) := rfl
theorem fIx_A {is : List Int} {k : Int} (h0 : -(is.length : Int) ≤ k) (h1 : k < is.length) : fIx (.tuple (is.map .int)) (eI k) = some (.int (gA is k)) ∧ gA is k ∈ is := by
  obtain ⟨a, h, m⟩ := atI_any h0 h1
  unfold gA
  refine ⟨?_, by rw [h]; exact m⟩
  show atI (is.map PyData.int) k = _
  rw [atI_mapX, h]; rfl
theorem sum_ints (l : List Int) : fSum (.list (l.map .int)) = some (.int l.sum) := by
  show (intsOf (l.map .int)).map _ = _
  rw [ints_map]; rfl
theorem chain_p {R : List Ru} {is : List Int} (hb : ∀ i ∈ is, 0 ≤ i ∧ i ≤ (R.length : Int) - 1) {k : Int} (h : k ∈ rngL 0 is.length) :
    fIx (.tuple (is.map .int)) (eI (k - 1)) = some (.int (gA is (k - 1))) ∧ fIx (.tuple (is.map .int)) (eI k) = some (.int (gA is k)) ∧ fIx (eT (eP3 eI eI eI) R) (.int (gA is (k - 1))) = some (eP3 eI eI eI (gR R (gA is (k - 1)))) ∧ fIx (eT (eP3 eI eI eI) R) (.int (gA is k)) = some (eP3 eI eI eI (gR R (gA is k))) := by
  obtain ⟨h0, h1⟩ := mem_rngL.mp h
  obtain ⟨a, ma⟩ := fIx_A (is := is) (k := k - 1) (by omega) (by omega)
  obtain ⟨b, mb⟩ := fIx_A (is := is) (k := k) (by omega) (by omega)
  have p := hb _ ma
  have q := hb _ mb
  exact ⟨a, b, fIx_R p.1 (by omega), fIx_R q.1 (by omega)⟩
theorem sum_p {R : List Ru} {is : List Int} (hb : ∀ i ∈ is, 0 ≤ i ∧ i ≤ (R.length : Int) - 1) :
    (wmap (fun k34 => (wbind (wo (fIx ((eT (eP3 eI eI eI)) R) k34)) fun v35 => wo (fIx v35 (eI (2 : Int))))) (is.map PyData.int)) = wret ((is.map fun i => (gR R i).2.2).map PyData.int) := by
  rw [wmap_eq (g := fun d => PyData.int (gR R (intX d)).2.2) fun d hd => ?_]
  · rw [List.map_map, List.map_map]; rfl
  · obtain ⟨i, hi, rfl⟩ := List.mem_map.mp hd
    have := hb i hi
    rw [fIx_R this.1 (by omega), wo_some, wret_bind, show fIx (eP3 eI eI eI (gR R i)) (eI 2) = some (.int (gR R i).2.2) from rfl, wo_some]
    rfl
def namB (w : Str) : PyData → Bool
  | .tuple [a, _] => match a with
    | .str s => decide (s = w)
    | _ => false
  | _ => false
theorem eq_s (s w : Str) : fEq (.str s) (.str w) = some (decide (s = w)) := by
  unfold fEq
  by_cases c : s = w
  · subst c; simp
  · simp [c]
end SL

set_option Elab.async false
set_option linter.all false
set_option maxRecDepth 100000
set_option maxHeartbeats 4000000
/-! QGp: whether there are times, by the greatest gaps; what exit_paper answers. -/
namespace SL
open PySem PySem.Spec PyProof.Rows L2
def NoPos (n : Nat) (R : List Ru) : Prop := ∀ k, k < n → ∀ x, far n R k k = some x → x ≤ 0
def hasT (n : Nat) (R : List Ru) : Bool := (List.range n).all fun k => decide ((far n R k k).getD 0 ≤ 0)
theorem far_some {n : Nat} (R : List Ru) (k : Nat) : ∃ x, far n R k k = some x ∧ 0 ≤ x := by
  obtain ⟨x, h1, h2⟩ := ((lem_fold lem_rstep R M0).trans (lem_fwm n _)) k k 0 (by unfold M0; rw [if_pos rfl])
  exact ⟨x, h1, h2⟩
theorem hasT_iff {n : Nat} {R : List Ru} : hasT n R = true ↔ NoPos n R := by
  unfold hasT NoPos
  rw [List.all_eq_true]
  constructor
  · intro h k hk x e
    have := of_decide_eq_true (h k (List.mem_range.mpr hk))
    rw [e] at this; exact this
  · intro h k hk
    obtain ⟨x, e, _⟩ := far_some (n := n) R k
    rw [e]
    exact decide_eq_true (h k (List.mem_range.mp hk) x e)
theorem far_eqR {n : Nat} {R : List Ru} (ok : ∀ r ∈ R, (0 ≤ r.1 ∧ r.1 < (n : Int)) ∧ 0 ≤ r.2.1 ∧ r.2.1 < (n : Int)) (hn : n ≤ 6) : p_l_far_gaps ((n : Int), R) = wret (tab n fun i => tab n fun j => far n R i j) := by
  unfold p_l_far_gaps
  rw [wg_true]
  · unfold farL; rw [show (((n : Int), R) : Int × List Ru).1.toNat = n from Int.toNat_natCast n]; rfl
  · exact ⟨by show (0 : Int) ≤ n; omega, by show (n : Int) ≤ 100; omega, fun r hr => ok r hr⟩
theorem RuOk.rg {n : Nat} {R : List Ru} (ok : RuOk n R) : ∀ r ∈ R, (0 ≤ r.1 ∧ r.1 < (n : Int)) ∧ 0 ≤ r.2.1 ∧ r.2.1 < (n : Int) := fun r hr => ⟨(ok.ok r hr).1, (ok.ok r hr).2.1⟩
theorem far_eq {n : Nat} {R : List Ru} (ok : RuOk n R) (hn : n ≤ 6) : p_l_far_gaps ((n : Int), R) = wret (tab n fun i => tab n fun j => far n R i j) := far_eqR ok.rg hn
theorem rngL_map (n : Nat) : rngL 0 n = (List.range n).map fun (k : Nat) => (k : Int) := by
  unfold rngL; refine List.map_congr_left fun k _ => ?_; omega
theorem has_times_eqR {n : Nat} {R : List Ru} (ok : ∀ r ∈ R, (0 ≤ r.1 ∧ r.1 < (n : Int)) ∧ 0 ≤ r.2.1 ∧ r.2.1 < (n : Int)) (hn : n ≤ 6) : p_l_has_times ((n : Int), R) = wret (hasT n R) := by
  unfold p_l_has_times
  rw [far_eqR ok hn, wret_bind, wg_rng (by omega), wret_bind]
  rw [wfm_eq (c' := fun k : Int => !decide ((far n R k.toNat k.toNat).getD 0 ≤ 0)) (g := fun k => k) (fun k hk => ?_) fun _ _ => rfl]
  · simp only [wret_bind]
    rw [List.map_id', none_left]
    unfold hasT
    rw [rngL_map, List.all_map]; rfl
  · have hk := mem_rngL.mp hk
    rw [tab_at hk.1 (by omega), wo_some, wret_bind, tab_at hk.1 (by omega)]
    obtain ⟨x, e, _⟩ := far_some (n := n) R k.toNat
    rw [e]
    simp only [wo_some, wret_bind, Option.getD_some]
    refine congrArg wret ?_
    by_cases c : x ≤ 0
    · rw [decide_eq_true c, decide_eq_false (by omega)]; rfl
    · rw [decide_eq_false c, decide_eq_true (by omega)]; rfl
theorem has_times_eq {n : Nat} {R : List Ru} (ok : RuOk n R) (hn : n ≤ 6) : p_l_has_times ((n : Int), R) = wret (hasT n R) := has_times_eqR ok.rg hn
theorem sum_rev : ∀ l : List Int, l.reverse.sum = l.sum
  | [] => rfl
  | x :: l => by rw [List.reverse_cons, List.sum_append, sum_rev l, List.sum_cons, List.sum_cons, List.sum_nil]; omega
def TimesOk (n : Nat) (R : List Ru) (B : Nat → Int) : Prop := (∀ v, 0 ≤ B v) ∧ Feas R (fun v => some (B v)) ∧ ∀ D, Feas R D → (∀ v, Leo (some 0) (D v)) → ∀ v, Leo (some (B v)) (D v)
theorem times_noPos {n : Nat} {R : List Ru} {B : Nat → Int} (f : Feas R fun v => some (B v)) : NoPos n R := fun k _ x e => by
  obtain ⟨y, h1, h2⟩ := snd_far n R _ f k k x e (B k) rfl
  cases h1; omega
theorem gR_at {R : List Ru} {j : Nat} (h : j < R.length) : gR R (j : Int) = R[j] := by unfold gR; rw [atI_ok h]; rfl
theorem ring_right {n : Nat} {R : List Ru} (ok : RuOk n R) {B La : Nat → Option Int} {L T : Nat → Nat} {v t : Nat} (hLa : LaOk n R La L) (hT : ∀ w, w < n → Tight R B La T w) (hv : v < n) (hL : L v = n + 1) (ht : t < n) (hc : it (prv R La) v (n + t + 1) = it (prv R La) v n) :
    (∃ js : Nat → Int, Fd La (prv R La) v n t = (List.range (t + 1)).map (fun i => some (js i)) ∧ ringB R (.tuple (((List.range (t + 1)).map js).reverse.map .int)) = true) ∧ hasT n R = false := by
  obtain ⟨ha, _⟩ := circle (f := prv R La) hv hL fun x hx h1 => by
    obtain ⟨j, u, _, _, _, q1, q2, _⟩ := pr_step ok hLa hx h1
    exact ⟨q1, q2⟩
  have hs : ∀ i, RStep R La (it (prv R La) v (n + i)) (it (prv R La) v (n + (i + 1))) := fun i => by
    obtain ⟨j, u, q1, q2, q3, _, _, q4, q5, q6⟩ := pr_step ok hLa (ha (n + i)).1 (ha (n + i)).2
    obtain ⟨j', rfl⟩ := Int.eq_ofNat_of_zero_le q5
    have hj : j' < R.length := by omega
    rw [atI_ok hj] at q2; cases q2
    exact ⟨⟨j', hj, q1, q4, q3⟩⟩
  have hTi : ∀ i, Tight R B La T (it (prv R La) v (n + i)) := fun i => hT _ (ha (n + i)).1
  have pos := ring_pos hs hTi (m := t + 1) (by omega) hc
  refine ⟨⟨fun i => (La (it (prv R La) v (n + i))).getD 0, ?_, ?_⟩, ?_⟩
  · unfold Fd
    refine List.map_congr_left fun i _ => ?_
    obtain ⟨j, h, e, _⟩ := (hs i).st
    show La (it (prv R La) v (n + i)) = some ((La (it (prv R La) v (n + i))).getD 0)
    rw [e]; rfl
  · -- the ring
    generalize hx : (fun i => it (prv R La) v (n + i)) = x at *
    have xi : ∀ i, it (prv R La) v (n + i) = x i := fun i => by rw [← hx]
    have hs' : ∀ i, RStep R La (x i) (x (i + 1)) := fun i => by rw [← hx]; exact hs i
    have js : ∀ i, ∃ j, ∃ h : j < R.length, (La (it (prv R La) v (n + i))).getD 0 = (j : Int) ∧ R[j].2.1 = (x i : Int) ∧ R[j].1 = (x (i + 1) : Int) ∧ gpo R (La (x i)) = R[j].2.2 := fun i => by
      obtain ⟨j, h, e1, e2, e3⟩ := (hs' i).st
      refine ⟨j, h, by rw [xi, e1]; rfl, e2, e3, ?_⟩
      rw [e1]; unfold gpo
      simp only [Int.toNat_natCast]
      rw [List.getD_eq_getElem?_getD, List.getElem?_eq_getElem h]; rfl
    generalize hg : (fun i => (La (it (prv R La) v (n + i))).getD 0) = g
    have gi : ∀ i, (La (it (prv R La) v (n + i))).getD 0 = g i := fun i => by rw [← hg]
    have hgi : ∀ i, ∃ j, ∃ h : j < R.length, g i = (j : Int) ∧ R[j].2.1 = (x i : Int) ∧ R[j].1 = (x (i + 1) : Int) ∧ gpo R (La (x i)) = R[j].2.2 := fun i => by rw [← gi]; exact js i
    have hcx : x (t + 1) = x 0 := by rw [← hx]; exact hc
    have hlen : (((List.range (t + 1)).map g).reverse).length = t + 1 := by simp
    have hget : ∀ k, k < t + 1 → atI (((List.range (t + 1)).map g).reverse) (k : Int) = some (g (t - k)) := fun k hk => by
      refine L2.atI_nat ?_
      rw [List.getElem?_reverse (by simp; omega)]
      simp only [List.length_map, List.length_range, List.getElem?_map]
      rw [show t + 1 - 1 - k = t - k by omega, List.getElem?_range (by omega)]; rfl
    have hlast : atI (((List.range (t + 1)).map g).reverse) (-1 : Int) = some (g 0) := by
      rw [List.range_succ_eq_map, List.map_cons, List.reverse_cons]
      exact atI_lastX _ _
    show (ring1B R _ && sumB R _) = true
    rw [Bool.and_eq_true]
    constructor
    · show ((!decide ((((((List.range (t + 1)).map g).reverse.map PyData.int).length : Nat) : Int) = 0) && _) && _) = true
      rw [intX_map, List.length_map, hlen, decide_eq_false (by omega)]
      simp only [Bool.not_false, Bool.true_and, Bool.and_eq_true]
      constructor
      · rw [List.all_map, List.all_eq_true]
        intro z hz
        obtain ⟨i, _, rfl⟩ := List.mem_map.mp (List.mem_reverse.mp hz)
        obtain ⟨j, hj, e, _⟩ := hgi i
        show (decide (0 ≤ g i) && decide (g i ≤ (R.length : Int) - 1)) = true
        rw [e, decide_eq_true (by omega), decide_eq_true (by omega)]; rfl
      · rw [List.all_eq_true]
        intro k hk
        have hk := mem_rngL.mp hk
        obtain ⟨k, rfl⟩ := Int.eq_ofNat_of_zero_le hk.1
        have hkt : k < t + 1 := by omega
        unfold chB gA
        rw [hget k hkt, Option.getD_some]
        obtain ⟨j, hj, e1, e2, e3, _⟩ := hgi (t - k)
        rw [e1, gR_at hj, e3]
        cases k with
        | zero =>
          rw [show ((0 : Nat) : Int) - 1 = -1 by omega, hlast, Option.getD_some]
          obtain ⟨i, hi, f1, f2, _⟩ := hgi 0
          rw [f1, gR_at hi, f2, show t - 0 + 1 = t + 1 by omega, hcx]
          exact decide_eq_true rfl
        | succ k =>
          rw [show ((k + 1 : Nat) : Int) - 1 = (k : Int) by omega, hget k (by omega), Option.getD_some]
          obtain ⟨i, hi, f1, f2, _⟩ := hgi (t - k)
          rw [f1, gR_at hi, f2, show t - (k + 1) + 1 = t - k by omega]
          exact decide_eq_true rfl
    · show decide (0 < ((((((List.range (t + 1)).map g).reverse.map PyData.int).map intX).map fun i => (gR R i).2.2).sum)) = true
      rw [intX_map, List.map_reverse, sum_rev, List.map_map]
      have : ∀ m, ((List.range m).map ((fun i => (gR R i).2.2) ∘ g)).sum = gsum R La x m := by
        intro m
        induction m with
        | zero => rfl
        | succ m ih =>
          rw [List.range_succ, List.map_append, List.sum_append, ih]
          obtain ⟨j, hj, e1, _, _, e4⟩ := hgi m
          show _ + ([(gR R (g m)).2.2] : List Int).sum = gsum R La x m + gpo R (La (x m))
          rw [e1, gR_at hj, e4, List.sum_cons, List.sum_nil]; omega
      rw [this]
      exact decide_eq_true pos
  · cases h : hasT n R with
    | false => rfl
    | true =>
      have np := hasT_iff.mp h
      have hx0 := (ha (n + 0)).1
      obtain ⟨q, h1, h2⟩ := ring_feas hs (far_feas ok np hx0) (t + 1) 0 (by
        rw [show it (prv R La) v (n + (t + 1)) = it (prv R La) v (n + 0) from hc]
        exact (far_cl np).2 _ hx0)
      rw [(far_cl np).2 _ hx0] at h1; cases h1
      omega
theorem leo0 {o : Option Int} (h : Leo (some 0) o) : ∃ b : Int, o = some b ∧ 0 ≤ b := h 0 rfl
/-- what exit_paper answers -/
theorem all_paperG {n : Nat} {R : List Ru} (ok : RuOk n R) (h1 : 1 ≤ n) (hn : n ≤ 6) : All (p_exit_paper ((n : Int), R)) fun P =>
    (hasT n R = true ∧ ∃ B : Nat → Int, P = (("times" : Str), some (tab n fun v => some (B v))) ∧ TimesOk n R B) ∨
    (hasT n R = false ∧ ∃ js : List Int, P = (("ring" : Str), some (js.map some)) ∧ ringB R (.tuple (js.map .int)) = true ∧ js.length ≤ 20) := by
  unfold p_exit_paper
  simp only [wbind_assoc]
  refine all_wgB ⟨by omega, by omega, by simp⟩ ?_
  rw [show (((n : Int), R) : Int × List Ru).1.toNat = n from Int.toNat_natCast n, rep_tab]
  refine all_bind _ (all_longestG ok h1 hn _) fun res hres => ?_
  rcases hres with ⟨B, rfl, hge, hf, hle⟩ | ⟨B, La, L, T, v, t, hLa, hT, hv, hL, ht, rfl, hc⟩
  · rw [if_pos (by rfl)]
    have hb : ∀ v, ∃ b : Int, B v = some b ∧ 0 ≤ b := fun v => leo0 (hge v)
    have hB : B = fun v => some ((B v).getD 0) := funext fun v => by obtain ⟨b, e, _⟩ := hb v; rw [e]; rfl
    refine all_woB rfl (all_ret (.inl ?_))
    have hf' : Feas R fun v => some ((B v).getD 0) := by rw [← hB]; exact hf
    refine ⟨hasT_iff.mpr (times_noPos hf'), fun v => (B v).getD 0, ?_, fun v => by obtain ⟨b, e, h⟩ := hb v; show 0 ≤ (B v).getD 0; rw [e]; exact h, hf', fun D h1 h2 v => ?_⟩
    · rw [← hB]
    · have e := congrFun hB v
      rw [← e]; exact hle D h1 h2 v
  · rw [if_neg (by simp [isNo])]
    obtain ⟨⟨js, e, hr⟩, hf⟩ := ring_right ok hLa hT hv hL ht hc
    refine all_ret (.inr ⟨hf, ((List.range (t + 1)).map js).reverse, ?_, hr, by simp; omega⟩)
    rw [e, List.map_reverse, List.map_map]; rfl
end SL

set_option Elab.async false
set_option linter.all false
set_option maxRecDepth 100000
set_option maxHeartbeats 4000000
/-! QGt: times as data. -/
namespace SL
open PySem PySem.Spec PyProof.Rows L2
theorem enc_times (n : Nat) (B : Nat → Int) : (tab n fun v => some (B v)).map (eO eI) = (tab n B).map PyData.int := by
  unfold tab; rw [List.map_map, List.map_map]; rfl
theorem isI_ints (is : List Int) : (is.map PyData.int).all isI = true := by
  rw [List.all_map]; exact List.all_eq_true.mpr fun _ _ => rfl
theorem atX_tab {n : Nat} {B : Nat → Int} {i : Int} (h0 : 0 ≤ i) (h1 : i < n) : atX (tab n B) i = B i.toNat := by
  unfold atX
  obtain ⟨k, rfl⟩ := Int.eq_ofNat_of_zero_le h0
  have hk : k < (tab n B).length := by rw [tab_len]; omega
  rw [Int.toNat_natCast, List.getD_eq_getElem?_getD, List.getElem?_eq_getElem hk, tab_get]; rfl
theorem timB_tab {n : Nat} {R : List Ru} (ok : RuOk n R) {B : Nat → Int} (f : Feas R fun v => some (B v)) : timB n R (.tuple ((tab n B).map PyData.int)) = true := by
  show (decide ((((tab n B).map PyData.int).length : Int) = n) && (_ && _)) = true
  rw [List.length_map, tab_len, decide_eq_true rfl, isI_ints, intX_map, Bool.true_and, Bool.true_and, List.all_eq_true]
  intro r hr
  obtain ⟨⟨a0, a1⟩, ⟨b0, b1⟩, _⟩ := ok.ok r hr
  rw [atX_tab a0 a1, atX_tab b0 b1]
  obtain ⟨y, h1, h2⟩ := f r hr _ rfl
  cases h1
  exact decide_eq_true (by omega)
theorem papB_times {n : Int} {R : List Ru} {f : PyData} (h : timB n R f = true) : papB n R (.tuple [.str ("times" : Str), f]) = true := by
  show (if ("times" : Str) = ("times" : Str) then timB n R f else (decide (("times" : Str) = ("ring" : Str)) && ringB R f)) = true
  rw [if_pos rfl]; exact h
theorem papB_ring {n : Int} {R : List Ru} {f : PyData} (h : ringB R f = true) : papB n R (.tuple [.str ("ring" : Str), f]) = true := by
  show (if ("ring" : Str) = ("times" : Str) then timB n R f else (decide (("ring" : Str) = ("ring" : Str)) && ringB R f)) = true
  rw [if_neg (fun z => times_ring z.symm), h, decide_eq_true rfl]; rfl
end SL

set_option Elab.async false
set_option linter.all false
set_option maxRecDepth 100000
set_option maxHeartbeats 4000000
/-! QLg: the least gaps. -/
namespace SL
open PySem PySem.Spec PyProof.Rows L2
theorem leo_anti {a b : Option Int} (h : Leo a b) (k : Leo b a) : a = b := by
  cases a with
  | none => cases b with
    | none => rfl
    | some y => obtain ⟨z, e, _⟩ := k y rfl; cases e
  | some x =>
    obtain ⟨y, e1, h1⟩ := h x rfl
    subst e1
    obtain ⟨z, e2, h2⟩ := k y rfl
    cases e2
    congr 1; omega
theorem all_least {n : Nat} {R : List Ru} (ok : RuOk n R) (h1 : 1 ≤ n) (hn : n ≤ 6) (ht : hasT n R = true) {a b : Int} (a0 : 0 ≤ a) (a1 : a < n) (b0 : 0 ≤ b) (b1 : b < n) : All (p_least_gap ((n : Int), R) a b) fun o => o = far n R a.toNat b.toNat := by
  have np := hasT_iff.mp ht
  unfold p_least_gap
  refine all_wgB ⟨by omega, by omega, by simp⟩ ?_
  rw [show (((n : Int), R) : Int × List Ru).1.toNat = n from Int.toNat_natCast n, rep_tab, tab_set a0 a1]
  refine all_woB rfl ?_
  simp only [wbind_assoc]
  refine all_bind _ (all_longestG ok h1 hn _) fun res hres => ?_
  rcases hres with ⟨B, rfl, hge, hf, hle⟩ | ⟨B, La, L, T, v, t, hLa, hT, hv, hL, t2, rfl, hc⟩
  · simp only [wret_bind]
    refine all_woB rfl ?_
    rw [tab_at b0 b1]
    refine all_wo rfl (leo_anti ?_ ?_)
    · refine hle (fun v => far n R a.toNat v) (far_feas ok np (by omega)) (fun v => ?_) _
      by_cases e : v = a.toNat
      · subst e; rw [upf_same, (far_cl np).2 _ (by omega)]; exact Leo.refl _
      · rw [upf_ne _ _ e]; intro x h; cases h
    · intro x hx
      obtain ⟨y, e, hy⟩ := hge a.toNat 0 (upf_same _ _ _)
      obtain ⟨z, e2, hz⟩ := snd_far n R B hf a.toNat b.toNat x hx y e
      exact ⟨z, e2, by omega⟩
  · obtain ⟨_, hF⟩ := ring_right ok hLa hT hv hL t2 hc
    rw [ht] at hF; cases hF
end SL

set_option Elab.async false
set_option linter.all false
set_option maxRecDepth 100000
set_option maxHeartbeats 4000000
/-! QTm: are_times and the law's on any value. -/
namespace SL
open PySem PySem.Spec PyProof.Rows L2
theorem is_whole_eqX (d : PyData) : p_is_whole d = wret (isI d) := by unfold p_is_whole; cases d <;> rfl
theorem are_times_eq {n : Nat} {R : List Ru} (ok : RuOk n R) (d : PyData) : p_are_times ((n : Int), R) d = wret (timB n R d) := by
  unfold p_are_times
  cases d with
  | tuple ds =>
    rw [if_neg (by simp [isT]), show fLen (.tuple ds) = some (.int (ds.length : Int)) from rfl, wo_some]
    simp only [wbind_assoc, wret_bind, len_ne, wo_some]
    show _ = wret (decide ((ds.length : Int) = n) && (ds.all isI && R.all fun r => decide (r.2.2 ≤ atX (ds.map intX) r.2.1 - atX (ds.map intX) r.1)))
    by_cases c : (ds.length : Int) = n
    · rw [decide_eq_true c, if_neg (by simp), show tupOf (.tuple ds) = some ds from rfl, wo_some, wret_bind, wmap_eq (g := isI) fun x _ => is_whole_eqX x]
      simp only [wret_bind, all_map_id]
      cases h : ds.all isI with
      | false => rfl
      | true =>
        rw [if_neg (by simp)]
        obtain ⟨is, rfl⟩ := ints_inv h
        rw [List.length_map] at c
        rw [intX_map]
        rw [wmap_eq (g := fun r : Ru => decide (r.2.2 ≤ atX is r.2.1 - atX is r.1)) fun r hr => ?_]
        · rw [wret_bind, List.all_map]; rfl
        · obtain ⟨⟨a0, a1⟩, ⟨b0, b1⟩, _⟩ := ok.ok r hr
          rw [atX_ok a0 (by omega), atX_ok b0 (by omega)]
          simp only [wo_some, wret_bind]
          rw [show fI2 gSub' (.int (atX is r.2.1)) (.int (atX is r.1)) = some (.int (atX is r.2.1 - atX is r.1)) from rfl]
          simp only [wo_some, wret_bind]
          rw [show fGe (.int (atX is r.2.1 - atX is r.1)) (eI r.2.2) = some (decide (r.2.2 ≤ atX is r.2.1 - atX is r.1)) from rfl, wo_some]
    · rw [decide_eq_false c]; rfl
  | _ => rfl
end SL

set_option Elab.async false
set_option linter.all false
set_option maxRecDepth 100000
set_option maxHeartbeats 4000000
/-! QCt: slices by one end. -/
namespace SL
open PySem PySem.Spec PyProof.Rows L2
theorem cut_to {α} (l : List α) (k : Nat) : cutL l none (some (k : Int)) = l.take k := by
  unfold cutL
  rw [HT.sIx_nat, show HT.sIx l.length 0 none = 0 from rfl, List.drop_zero, Nat.sub_zero]
  by_cases h : k ≤ l.length
  · rw [Nat.min_eq_left h]
  · rw [Nat.min_eq_right (by omega), List.take_of_length_le (Nat.le_refl _), List.take_of_length_le (by omega)]
theorem cut_from {α} (l : List α) {k : Nat} (h : k ≤ l.length) : cutL l (some (k : Int)) none = l.drop k := by
  unfold cutL
  rw [HT.sIx_nat, show HT.sIx l.length l.length none = l.length from rfl, Nat.min_eq_left h]
  exact List.take_of_length_le (by rw [List.length_drop]; exact Nat.le_refl _)
theorem cut_one {α} (l : List α) {k : Nat} (h : k < l.length) : cutL l (some (k : Int)) (some ((k : Int) + 1)) = [l[k]] := by
  unfold cutL
  rw [HT.sIx_nat, show (k : Int) + 1 = ((k + 1 : Nat) : Int) by omega, HT.sIx_nat, Nat.min_eq_left (by omega : k ≤ l.length), Nat.min_eq_left (by omega : k + 1 ≤ l.length), show k + 1 - k = 1 by omega, List.drop_eq_getElem_cons h]; rfl
end SL

set_option Elab.async false
set_option linter.all false
set_option maxRecDepth 100000
set_option maxHeartbeats 4000000
/-! Q48: the law k48. -/
namespace SL
open PySem PySem.Spec PyProof.Rows L2
theorem tab_cut {n : Nat} {α : Type} (f : Nat → α) {k : Nat} (hk : k < n) (x : α) : cutL (tab n f) none (some (k : Int)) ++ [x] ++ cutL (tab n f) (some ((k : Int) + 1)) none = tab n (upf f k x) := by
  rw [cut_to, show ((k : Int) + 1) = ((k + 1 : Nat) : Int) by omega, cut_from _ (by rw [tab_len]; omega)]
  apply List.ext_getElem?
  intro j
  have g : ∀ (h : Nat → α) (i : Nat), (tab n h)[i]? = if i < n then some (h i) else none := fun h i => by
    unfold tab
    rw [List.getElem?_map]
    by_cases c : i < n
    · rw [List.getElem?_range c, if_pos c]; rfl
    · rw [List.getElem?_eq_none (by simp; omega), if_neg c]; rfl
  have hl : ((tab n f).take k).length = k := by rw [List.length_take, tab_len]; omega
  rw [g, List.append_assoc]
  by_cases c : j < k
  · rw [List.getElem?_append_left (by omega), List.getElem?_take_of_lt c, g, if_pos (by omega), if_pos (by omega), upf_ne _ _ (by omega)]
  · rw [List.getElem?_append_right (by omega), hl]
    by_cases d : j = k
    · subst d; rw [Nat.sub_self, if_pos hk, upf_same]; rfl
    · obtain ⟨m, rfl⟩ : ∃ m, j = k + 1 + m := ⟨j - k - 1, by omega⟩
      rw [show k + 1 + m - k = m + 1 by omega]
      show (List.drop (k + 1) (tab n f))[m]? = _
      rw [List.getElem?_drop, g]
      by_cases e : k + 1 + m < n
      · rw [if_pos e, if_pos e, upf_ne _ _ (by omega)]
      · rw [if_neg e, if_neg e]
theorem timB_iff {n : Nat} {R : List Ru} (ok : RuOk n R) {B : Nat → Int} : timB n R (.tuple ((tab n B).map PyData.int)) = true ↔ Feas R fun v => some (B v) := by
  constructor
  · intro h r hr x hx
    cases hx
    have h : (decide ((((tab n B).map PyData.int).length : Int) = n) && ((((tab n B).map PyData.int).all isI) && R.all fun r => decide (r.2.2 ≤ atX (((tab n B).map PyData.int).map intX) r.2.1 - atX (((tab n B).map PyData.int).map intX) r.1))) = true := h
    simp only [Bool.and_eq_true] at h
    have h3 := of_decide_eq_true (List.all_eq_true.mp h.2.2 r hr)
    obtain ⟨⟨a0, a1⟩, ⟨b0, b1⟩, _⟩ := ok.ok r hr
    rw [intX_map, atX_tab a0 a1, atX_tab b0 b1] at h3
    exact ⟨_, rfl, by omega⟩
  · exact timB_tab ok
theorem enc_ints (n : Nat) (f : Nat → Int) : eT (eO eI) (tab n fun v => some (f v)) = .tuple ((tab n f).map PyData.int) := by
  show PyData.tuple _ = _
  rw [enc_times]
theorem upf_some (f : Nat → Int) (k : Nat) (x : Int) : upf (fun v => some (f v)) k (some x) = fun v => some (upf f k x v) := by
  funext v; unfold upf; split <;> rfl
/-- a rule back that is as great as the greatest gap leaves times -/
theorem back_times {n : Nat} {R : List Ru} (ok : RuOk n R) (ht : hasT n R = true) {B : Nat → Int} (f : Feas R fun v => some (B v)) {a b : Nat} (ha : a < n) (hb : b < n) {g : Int} (hg : far n R a b = some g) :
    hasT n (R ++ [((b : Int), (a : Int), 0 - g)]) = true := by
  have np := hasT_iff.mp ht
  have ff := far_feas ok np ha
  refine hasT_iff.mpr (times_noPos (B := fun v => match far n R a v with | some d => max (B v) (B b - g + d) | none => B v) fun r hr x hx => ?_)
  cases hx
  refine ⟨_, rfl, ?_⟩
  rcases List.mem_append.mp hr with hr | hr
  · obtain ⟨y, h1, h2⟩ := f r hr _ rfl
    cases h1
    cases e : far n R a r.1.toNat with
    | none =>
      simp only [e]
      split <;> omega
    | some d =>
      obtain ⟨z, h3, h4⟩ := ff r hr d e
      simp only [e, h3]; omega
  · rw [List.mem_singleton.mp hr]
    simp only [Int.toNat_natCast]
    rw [hg, (far_cl np).2 a ha]
    simp only
    omega
theorem feas_sub {R : List Ru} {P : Nat → Option Int} (f : Feas R P) (k : Option Int) : Feas (cutL R k none) P := fun r hr => f r (cutL_mem hr)
theorem all_earl {n : Nat} {R : List Ru} (ok : RuOk n R) (h1 : 1 ≤ n) (hn : n ≤ 6) : All (p_earliest ((n : Int), R)) fun o =>
    (hasT n R = true ∧ ∃ B : Nat → Int, o = some (tab n fun v => some (B v)) ∧ TimesOk n R B) ∨ (hasT n R = false ∧ o = none) := by
  unfold p_earliest
  refine all_bind _ (all_paperG ok h1 hn) fun P hP => ?_
  rcases hP with ⟨h, B, rfl, hB⟩ | ⟨h, js, rfl, _⟩
  · refine all_ret (.inl ⟨h, B, ?_, hB⟩)
    exact if_pos (decide_eq_true rfl)
  · refine all_ret (.inr ⟨h, ?_⟩)
    exact if_neg fun z => times_ring (of_decide_eq_true z).symm
theorem law48 : All p_law fun r => r = true := by
  unfold p_law
  simp only [ltb, wassoc, wretb]
  refine all_turns (fun x _ => ?_) (all_ret rfl)
  refine all_bind _ all_exits fun E hE => ?_
  obtain ⟨En, R⟩ := E
  obtain ⟨n, rfl, n1, n6, ok⟩ := hE
  simp only at ok ⊢
  refine all_bind _ (all_earl ok n1 n6) fun o ho => ?_
  refine all_bind _ (all_paperG ok n1 n6) fun P hP => ?_
  rw [has_times_eq ok n6]
  simp only [wretb]
  have okF : RuOk n (cutL R (some (1 : Int)) none) := ⟨Nat.le_trans (cutL_len _ _ _) ok.len, fun r hr => ok.ok r (cutL_mem hr)⟩
  rcases ho with ⟨ht, B, rfl, hB⟩ | ⟨ht, rfl⟩
  rotate_left
  · rcases hP with ⟨h, _⟩ | ⟨_, js, rfl, _⟩
    · rw [ht] at h; cases h
    rw [ht]
    refine all_wgB ⟨trivial, trivial⟩ ?_
    rw [show decide (((!isNo (none : Option (List (Option Int)))), (("ring" : Str), some (js.map some)).1) = ((false : Bool), (if false = true then ("times" : Str) else ("ring" : Str)))) = true from decide_eq_true rfl]
    simp only [Bool.not_true, Bool.false_eq_true, if_false]
    refine all_bind _ (all_earl okF n1 n6) fun o' _ => ?_
    rw [if_pos (by rfl)]
    exact all_ret rfl
  rcases hP with ⟨_, B', rfl, hB'⟩ | ⟨h, _⟩
  rotate_left
  · rw [ht] at h; cases h
  rw [ht]
  refine all_wgB ⟨trivial, trivial⟩ ?_
  rw [show decide (((!isNo (some (tab n fun v => some (B v)))), (("times" : Str), some (tab n fun v => some (B' v))).1) = ((true : Bool), (if true = true then ("times" : Str) else ("ring" : Str)))) = true from decide_eq_true rfl]
  simp only [Bool.not_true, Bool.false_eq_true, if_false]
  refine all_bind _ (all_earl okF n1 n6) fun o' ho' => ?_
  obtain ⟨h0, hf, hl⟩ := hB
  rcases ho' with ⟨_, B2, rfl, hB2⟩ | ⟨h, _⟩
  rotate_left
  · rw [hasT_iff.mpr (times_noPos (feas_sub hf _))] at h; cases h
  rw [if_neg (by simp [isNo])]
  rw [show eO (eT (eO eI)) (some (tab n fun v => some (B v))) = .tuple ((tab n B).map PyData.int) from enc_ints n B]
  refine all_eqB (l_are_times_eq ok _) ?_
  rw [timB_tab ok hf]
  simp only [Bool.not_true, Bool.false_eq_true, if_false, wassoc, wo_some, wretb]
  rw [wmap_eq (g := fun o : Option Int => o.getD 0 + 9) fun x hx => ?_]
  rotate_left
  · obtain ⟨v, _, rfl⟩ := List.mem_map.mp hx
    rw [wo_some, wretb]; rfl
  rw [wretb]
  have e9 : eT eI ((tab n fun v => some (B v)).map fun o : Option Int => o.getD 0 + 9) = .tuple ((tab n fun v => B v + 9).map PyData.int) := by
    show PyData.tuple (((tab n fun v => some (B v)).map fun o : Option Int => o.getD 0 + 9).map eI) = .tuple ((tab n fun v => B v + 9).map PyData.int)
    unfold tab; rw [List.map_map, List.map_map, List.map_map]; rfl
  rw [e9]
  refine all_eqB (are_times_eq ok _) ?_
  rw [timB_tab ok (B := fun v => B v + 9) fun r hr x hx => by
    cases hx
    obtain ⟨y, h1, h2⟩ := hf r hr _ rfl
    cases h1
    exact ⟨_, rfl, by omega⟩]
  rw [show ((!decide (true = true)) || isNo (some (tab n fun v => some (B2 v)))) = false from rfl]
  simp only [Bool.false_eq_true, if_false]
  refine all_eqB (wg_rng (by omega)) ?_
  rw [wfm_eq (c' := fun k : Int => decide (B k.toNat < B2 k.toNat)) (g := fun k => k) (fun k hk => ?_) fun _ _ => rfl]
  rotate_left
  · have hk := mem_rngL.mp hk
    rw [tab_at hk.1 (by omega), tab_at hk.1 (by omega)]
    simp only [wo_some, wretb]
  have hle : ∀ v, B2 v ≤ B v := fun v => by
    obtain ⟨y, h1, h2⟩ := hB2.2.2 _ (feas_sub hf _) (fun v x e => ⟨B v, rfl, by cases e; exact h0 v⟩) v _ rfl
    cases h1; exact h2
  have enil : (rngL 0 n).filter (fun k : Int => decide (B k.toNat < B2 k.toNat)) = [] := List.filter_eq_nil_iff.mpr fun k _ => by
    have := hle k.toNat
    simp; omega
  rw [enil]
  simp only [wretb]
  rw [show decide ((0 : Int) < ((([] : List Int).map fun k => k).length : Int)) = false from rfl]
  simp only [Bool.false_eq_true, if_false]
  have emap : (tab n fun v => some (B v)) = (tab n B).map some := by unfold tab; rw [List.map_map]; rfl
  rw [show unOs (tab n fun v => some (B v)) = some (tab n B) from by rw [emap, unOs_some]]
  simp only [wo_some, wretb]
  have hmin : minE eI (tab n B) = some 0 := by
    cases hT : tab n B with
    | nil => have := tab_len n B; rw [hT] at this; simp at this; omega
    | cons y ys =>
      obtain ⟨m, m1, m2, m3⟩ := minE_int y ys
      rw [m1, ← hT] at *
      obtain ⟨v, hv, rfl⟩ := List.mem_map.mp m2
      have hv := List.mem_range.mp hv
      by_cases z : B v = 0
      · rw [z]
      · exfalso
        have hge : ∀ w, w < n → 1 ≤ B w := fun w hw => by
          have := m3 (B w) (List.mem_map.mpr ⟨w, List.mem_range.mpr hw, rfl⟩)
          have := h0 v; omega
        have fe : Feas R fun w => some (if w < n then B w - 1 else B w) := fun r hr x hx => by
          obtain ⟨⟨a0, a1⟩, ⟨b0, b1⟩, _⟩ := ok.ok r hr
          replace hx : some (if r.1.toNat < n then B r.1.toNat - 1 else B r.1.toNat) = some x := hx
          rw [if_pos (by omega)] at hx; cases hx
          obtain ⟨y, h1, h2⟩ := hf r hr _ rfl
          cases h1
          refine ⟨B r.2.1.toNat - 1, ?_, by omega⟩
          show some (if r.2.1.toNat < n then B r.2.1.toNat - 1 else B r.2.1.toNat) = _
          rw [if_pos (by omega)]
        obtain ⟨y, h1, h2⟩ := hl _ fe (fun w x e => ⟨_, rfl, by
          cases e
          split
          · rename_i c; have := hge w c; omega
          · exact h0 w⟩) v _ rfl
        replace h1 : some (if v < n then B v - 1 else B v) = some y := h1
        rw [if_pos hv] at h1; cases h1; omega
  rw [hmin]
  simp only [wo_some, wretb]
  rw [if_neg (by simp)]
  refine all_eqB (wg_rng (by omega)) ?_
  refine all_turns (fun k hk => ?_) ?_
  · have hk := mem_rngL.mp hk
    obtain ⟨k, rfl⟩ := Int.eq_ofNat_of_zero_le hk.1
    have hkn : k < n := by omega
    rw [tab_at hk.1 (by omega)]
    simp only [wo_some, wretb, Int.toNat_natCast]
    by_cases c : 0 < B k
    · rw [decide_eq_true c]
      simp only [if_true]
      have l1 := cutL_len (tab n fun v => some (B v)) none (some (k : Int))
      have l2 := cutL_len (tab n fun v => some (B v)) (some ((k : Int) + 1)) none
      rw [tab_len] at l1 l2
      refine all_wgB (by simp only [List.length_cons, List.length_nil]; omega) ?_
      refine all_wgB (by simp only [List.length_append, List.length_cons, List.length_nil]; omega) ?_
      rw [tab_cut _ hkn, upf_some]
      show All (wbind (p_l_are_times ((n : Int), R) (eT (eO eI) (tab n fun v => some (upf B k (B k - 1) v)))) fun b100 => if b100 = true then wret (St.ret false) else wret (St.go ())) fun r => r = St.go ()
      rw [enc_ints]
      refine all_eqB (l_are_times_eq ok _) ?_
      cases e : timB n R (.tuple ((tab n (upf B k (B k - 1))).map PyData.int)) with
      | false => exact all_ret rfl
      | true =>
        exfalso
        have fe := (timB_iff ok).mp e
        obtain ⟨y, h1, h2⟩ := hl _ fe (fun w x e => ⟨_, rfl, by
          cases e
          unfold upf
          split
          · omega
          · exact h0 w⟩) k _ rfl
        rw [upf_same] at h1; cases h1; omega
    · rw [decide_eq_false c]
      exact all_ret rfl
  · refine all_eqB (wg_rng (by omega)) ?_
    refine all_turns (fun a ha => ?_) (all_ret rfl)
    refine all_eqB (wg_rng (by omega)) ?_
    refine all_turns (fun b hb => ?_) (all_ret rfl)
    have ha := mem_rngL.mp ha
    have hb := mem_rngL.mp hb
    by_cases c : a = b
    · rw [decide_eq_true c]
      exact all_ret rfl
    · rw [decide_eq_false c]
      simp only [Bool.not_false, if_true]
      refine all_bind _ (all_least ok n1 n6 ht ha.1 (by omega) hb.1 (by omega)) fun o ho => ?_
      subst ho
      cases e : far n R a.toNat b.toNat with
      | none => exact all_ret rfl
      | some g =>
        rw [show (!isNo (some g)) = true from rfl]
        simp only [if_true, wo_some, wretb]
        rw [tab_at hb.1 (by omega), tab_at ha.1 (by omega)]
        simp only [wo_some, wretb]
        obtain ⟨y, h1, h2⟩ := snd_far n R _ hf a.toNat b.toNat g e _ rfl
        cases h1
        rw [decide_eq_false (by omega)]
        simp only [Bool.false_eq_true, if_false]
        refine all_wgB (by have := ok.len; simp only [List.length_cons, List.length_nil]; omega) ?_
        obtain ⟨a', rfl⟩ := Int.eq_ofNat_of_zero_le ha.1
        obtain ⟨b', rfl⟩ := Int.eq_ofNat_of_zero_le hb.1
        rw [Int.toNat_natCast, Int.toNat_natCast] at e
        refine all_eqB (has_times_eqR (fun r hr => ?_) n6) ?_
        · rcases List.mem_append.mp hr with hr | hr
          · exact ok.rg r hr
          · rw [List.mem_singleton.mp hr]; exact ⟨⟨hb.1, by show (b' : Int) < n; omega⟩, ha.1, by show (a' : Int) < n; omega⟩
        rw [back_times (a := a') (b := b') ok ht hf (by omega) (by omega) e]
        exact all_ret rfl
theorem law_holds : ∀ ns : List Int, ns.length ≤ 63 → ∃ e, d_law ([.no, .own (poolOf ns)] ++ List.replicate (nLaw - 2) .no) = some (.rt (.bool true), e) := law_of (law48 _ fun _ h => h)
end SL

set_option Elab.async false
set_option linter.all false
set_option maxRecDepth 100000
set_option maxHeartbeats 8000000
/-! The walk of law_k48; printed by gen.py. -/
namespace SL
open PySem PySem.Spec PyProof.Rows L2
def topS (i : Nat) : Stmt := PySem.Challenge.pw_sureland_k48_whole_times_and_gaps.main.body.getD i (.Pass ⟨0, 0, 0, 0⟩)
abbrev s_is_whole : Stmt := topS 1
theorem sc_is_whole : FnScope ["value"] ["value"] (defScope s_is_whole) := ⟨rfl, rfl, rfl, by decide +kernel, rfl, by decide +kernel, by decide +kernel⟩
abbrev s_are_times : Stmt := topS 3
theorem sc_are_times : FnScope ["exits", "value", "time", "a", "b", "gap"] ["exits", "value"] (defScope s_are_times) := ⟨rfl, rfl, rfl, by decide +kernel, rfl, by decide +kernel, by decide +kernel⟩
abbrev s_ring_at : Stmt := topS 5
theorem sc_ring_at : FnScope ["exits", "last", "here", "_", "found"] ["exits", "last", "here"] (defScope s_ring_at) := ⟨rfl, rfl, rfl, by decide +kernel, rfl, by decide +kernel, by decide +kernel⟩
abbrev s_longest : Stmt := topS 4
theorem sc_longest : FnScope ["exits", "first", "best", "last", "_", "changed", "k", "a", "b", "gap"] ["exits", "first"] (defScope s_longest) := ⟨rfl, rfl, rfl, by decide +kernel, rfl, by decide +kernel, by decide +kernel⟩
abbrev s_exit_paper : Stmt := topS 6
theorem sc_exit_paper : FnScope ["exits", "times", "ring"] ["exits"] (defScope s_exit_paper) := ⟨rfl, rfl, rfl, by decide +kernel, rfl, by decide +kernel, by decide +kernel⟩
abbrev s_earliest : Stmt := topS 7
theorem sc_earliest : FnScope ["exits", "paper"] ["exits"] (defScope s_earliest) := ⟨rfl, rfl, rfl, by decide +kernel, rfl, by decide +kernel, by decide +kernel⟩
abbrev s_least_gap : Stmt := topS 8
theorem sc_least_gap : FnScope ["exits", "a", "b", "first"] ["exits", "a", "b"] (defScope s_least_gap) := ⟨rfl, rfl, rfl, by decide +kernel, rfl, by decide +kernel, by decide +kernel⟩
abbrev s_l_is_integer : Stmt := topS 10
theorem sc_l_is_integer : FnScope ["actual"] ["actual"] (defScope s_l_is_integer) := ⟨rfl, rfl, rfl, by decide +kernel, rfl, by decide +kernel, by decide +kernel⟩
abbrev s_l_same : Stmt := topS 11
theorem sc_l_same : FnScope ["actual", "due", "k"] ["actual", "due"] (defScope s_l_same) := ⟨rfl, rfl, rfl, by decide +kernel, rfl, by decide +kernel, by decide +kernel⟩
abbrev s_pool : Stmt := topS 12
theorem sc_pool : FnScope ["script", "salt", "cell"] ["script"] (defScope s_pool) := ⟨rfl, rfl, rfl, by decide +kernel, rfl, by decide +kernel, by decide +kernel⟩
abbrev s_l_spread : Stmt := topS 13
theorem sc_l_spread : FnScope ["cell", "mixed", "total", "k"] ["cell"] (defScope s_l_spread) := ⟨rfl, rfl, rfl, by decide +kernel, rfl, by decide +kernel, by decide +kernel⟩
abbrev s_l_draw : Stmt := topS 14
theorem sc_l_draw : FnScope ["pool", "many", "cell", "mixed", "value"] ["pool", "many"] (defScope s_l_draw) := ⟨rfl, rfl, rfl, by decide +kernel, rfl, by decide +kernel, by decide +kernel⟩
abbrev s_l_pick : Stmt := topS 15
theorem sc_l_pick : FnScope ["pool", "items"] ["pool", "items"] (defScope s_l_pick) := ⟨rfl, rfl, rfl, by decide +kernel, rfl, by decide +kernel, by decide +kernel⟩
abbrev s_l_exits : Stmt := topS 16
theorem sc_l_exits : FnScope ["pool", "many", "rows", "around", "k", "a", "b", "g", "gap"] ["pool"] (defScope s_l_exits) := ⟨rfl, rfl, rfl, by decide +kernel, rfl, by decide +kernel, by decide +kernel⟩
abbrev s_l_are_times : Stmt := topS 17
theorem sc_l_are_times : FnScope ["exits", "value", "one", "rule"] ["exits", "value"] (defScope s_l_are_times) := ⟨rfl, rfl, rfl, by decide +kernel, rfl, by decide +kernel, by decide +kernel⟩
abbrev s_l_far_gaps : Stmt := topS 18
theorem sc_l_far_gaps : FnScope ["exits", "many", "far", "k", "a", "b", "gap", "m"] ["exits"] (defScope s_l_far_gaps) := ⟨rfl, rfl, rfl, by decide +kernel, rfl, by decide +kernel, by decide +kernel⟩
abbrev s_l_has_times : Stmt := topS 19
theorem sc_l_has_times : FnScope ["exits", "far", "k"] ["exits"] (defScope s_l_has_times) := ⟨rfl, rfl, rfl, by decide +kernel, rfl, by decide +kernel, by decide +kernel⟩
abbrev s_law : Stmt := topS 20
theorem sc_law : FnScope ["script", "pool", "turn", "exits", "many", "rules", "times", "fewer", "before", "one", "k", "a", "b", "gap"] ["script"] (defScope s_law) := ⟨rfl, rfl, rfl, by decide +kernel, rfl, by decide +kernel, by decide +kernel⟩
section
variable {P : Program} {w : World} {K : PySem.W.Frag} {mg : Str → Option Value} {base : Heap}
theorem ok_is_whole (B : Blt mg)  {f : Addr} {fd : FuncData} (F : L2.Fun K "is_whole" "is_whole" s_is_whole f fd) : FnOk P w K mg base CX0 1 f fd ["value"] (spOf K 1 F_is_whole) :=
  fn_okN ["value"] ["value"] 0 1 1 d_is_whole rfl rfl F sc_is_whole fun cdv A outer s H E hr =>
    (sb_one (ss_ret (se_and (se_isInt B (sw_of (se_var 0))) (se_one (se_not (se_isBool B (sw_of (se_var 0))))))))
theorem ok_are_times (B : Blt mg) (c_is_whole : Cal P w K mg base "is_whole" 1 ["value"] (spOf K 1 F_is_whole)) {f : Addr} {fd : FuncData} (F : L2.Fun K "are_times" "are_times" s_are_times f fd) : FnOk P w K mg base CX0 2 f fd ["exits", "value"] (spOf K 2 F_are_times) :=
  fn_okN ["exits", "value", "time", "a", "b", "gap"] ["exits", "value"] 1 6 2 d_are_times rfl rfl F sc_are_times fun cdv A outer s H E hr =>
    (sb_cons (ss_if (st_bo (sw_or (st_not (st_val (se_isTuple B (sw_of (se_var 1))))) (sw_or (st_cmp (op_neA (SL.hu64 hr)) ob_ne (se_len B (sw_of (se_var 1))) (sw_of (se_ix (se_var 0) (sw_of se_int) (.inl rfl))) (.inl rfl) (nomark _)) (sw_or1 (st_not (st_val (se_all B rfl (sw_of (se_ofF (sf_comp (own := [("time", 2)]) rfl sc_are_times.nd (si_tup (se_var 1)) (blkOk_by (N := ["exits", "value", "time", "a", "b", "gap"]) (sc := defScope s_are_times) (by decide +kernel)) (fun _ _ _ _ _ => (sg_name 2 sc_are_times.nd)) (fun _ _ _ _ _ => spts_nil) (fun _ _ _ _ _ => (se_cal c_is_whole hr (lc_v lc_nil) (sc_v (se_var 2) sc_nil))))))))))))) (sb_one (ss_ret se_bl)) sb_nil)
    (sb_one (ss_ret (se_all B rfl (sw_of (se_ofF (sf_comp (own := [("a", 3), ("b", 4), ("gap", 5)]) rfl sc_are_times.nd (si_tup (se_ix (se_var 0) (sw_of se_int) (.inl rfl))) (blkOk_by (N := ["exits", "value", "time", "a", "b", "gap"]) (sc := defScope s_are_times) (by decide +kernel)) (fun _ _ _ _ _ => (sg_tup rfl (sgs_cons (sg_name 3 sc_are_times.nd) (sgs_cons (sg_name 4 sc_are_times.nd) (sgs_cons (sg_name 5 sc_are_times.nd) sgs_nil))))) (fun _ _ _ _ _ => spts_nil) (fun _ _ _ _ _ => (se_cmp (op_geA (SL.hu64 hr)) ob_ge (se_op op_sub os_sub (se_ix (se_var 1) (sw_of (se_var 4)) (.inl rfl)) (sw_of (se_ix (se_var 1) (sw_of (se_var 3)) (.inl rfl))) (.inl rfl)) (sw_of (se_var 5)) (.inl rfl) (nomark _))))))))))
theorem ok_ring_at (B : Blt mg)  {f : Addr} {fd : FuncData} (F : L2.Fun K "ring_at" "ring_at" s_ring_at f fd) : FnOk P w K mg base CX0 1 f fd ["exits", "last", "here"] (spOf K 3 F_ring_at) :=
  fn_okN ["exits", "last", "here", "_", "found"] ["exits", "last", "here"] 0 5 3 d_ring_at rfl rfl F sc_ring_at fun cdv A outer s H E hr =>
    (sb_cons (ss_for PassesOwn.never rfl (si_rng1 (by rfl) B.range (se_ix (se_var 0) (sw_of se_int) (.inl rfl))) (sg_name 3 sc_ring_at.nd) (sb_one (ss_set 2 sc_ring_at.nd (se_ix (se_ix (se_ix (se_var 0) (sw_of se_int) (.inl rfl)) (sw_of (se_ix (se_var 1) (sw_of (se_var 2)) (.inl rfl))) (.inl rfl)) (sw_of se_int) (.inl rfl)))))
    (sb_cons (ss_own 4 sc_ring_at.nd (sf_lst (sa_cons (se_ix (se_var 1) (sw_of (se_var 2)) (.inl rfl)) sa_nil) (len_cons len_nil)))
    (sb_cons (ss_while 100000 PassesOwn.never (st_cmp (op_neA (SL.hu64 hr)) ob_ne (se_ix (se_ix (se_ix (se_var 0) (sw_of se_int) (.inl rfl)) (sw_of (se_ix (sw_ow 4) (sw_of (se_neg se_int)) (.inr (pur_1 pur_c)))) (.inl rfl)) (sw_of se_int) (.inl rfl)) (sw_of (se_var 2)) (.inl rfl) (nomark _)) (sb_one (ss_app 4 (se_ix (se_var 1) (sw_of (se_ix (se_ix (se_ix (se_var 0) (sw_of se_int) (.inl rfl)) (sw_of (se_ix (sw_ow 4) (sw_of (se_neg se_int)) (.inr (pur_1 pur_c)))) (.inl rfl)) (sw_of se_int) (.inl rfl))) (.inl rfl)))))
    (sb_one (ss_ret (se_tuple B (sw_of (se_rev (sw_ow 4)))))))))
theorem ok_longest (B : Blt mg) (c_ring_at : Cal P w K mg base "ring_at" 1 ["exits", "last", "here"] (spOf K 3 F_ring_at)) {f : Addr} {fd : FuncData} (F : L2.Fun K "longest" "longest" s_longest f fd) : FnOk P w K mg base CX0 2 f fd ["exits", "first"] (spOf K 2 F_longest) :=
  fn_okN ["exits", "first", "best", "last", "_", "changed", "k", "a", "b", "gap"] ["exits", "first"] 1 10 2 d_longest rfl rfl F sc_longest fun cdv A outer s H E hr =>
    (sb_cons (ss_own 2 sc_longest.nd (sf_list B (sw_of (se_var 1))))
    (sb_cons (ss_own 3 sc_longest.nd (sf_op op_rep of_repL (se_ofF (sf_lst (sa_cons se_non sa_nil) (len_cons len_nil))) (sw_of (se_ix (se_var 0) (sw_of se_int) (.inl rfl))) (.inl rfl)))
    (sb_cons (ss_for PassesOwn.never rfl (si_rng1 (by rfl) B.range (se_op op_addA os_add (se_ix (se_var 0) (sw_of se_int) (.inl rfl)) (sw_of se_int) (.inl rfl))) (sg_name 4 sc_longest.nd) (sb_cons (ss_set 5 sc_longest.nd se_non)
    (sb_cons (ss_for PassesOwn.never rfl (si_rng1 (by rfl) B.range (se_len B (sw_of (se_ix (se_var 0) (sw_of se_int) (.inl rfl))))) (sg_name 6 sc_longest.nd) (sb_cons (ss_asg (se_ix (se_ix (se_var 0) (sw_of se_int) (.inl rfl)) (sw_of (se_var 6)) (.inl rfl)) (sg_tup rfl (sgs_cons (sg_name 7 sc_longest.nd) (sgs_cons (sg_name 8 sc_longest.nd) (sgs_cons (sg_name 9 sc_longest.nd) sgs_nil)))))
    (sb_one (ss_if (st_bo (sw_and (st_notN (sw_of (se_ix (sw_ow 2) (sw_of (se_var 7)) (.inr pur_var)))) (sw_and1 (st_bo (sw_or (st_isN (sw_of (se_ix (sw_ow 2) (sw_of (se_var 8)) (.inr pur_var)))) (sw_or1 (st_cmp (op_gtA (SL.hu64 hr)) ob_gt (se_op op_addA os_add (se_ix (sw_ow 2) (sw_of (se_var 7)) (.inr pur_var)) (sw_of (se_var 9)) (.inl rfl)) (sw_of (se_ix (sw_ow 2) (sw_of (se_var 8)) (.inr pur_var))) (.inl rfl) (nomark _)))))))) (sb_cons (ss_put 2 (se_var 8) (se_op op_addA os_add (se_ix (sw_ow 2) (sw_of (se_var 7)) (.inr pur_var)) (sw_of (se_var 9)) (.inl rfl)))
    (sb_cons (ss_put 3 (se_var 8) (se_var 6))
    (sb_one (ss_set 5 sc_longest.nd (se_var 8))))) sb_nil))))
    (sb_one (ss_if (st_isN (sw_of (se_var 5))) (sb_one (ss_fz 2 (ss_ret (se_tup (sa_cons (se_var 2) (sa_cons se_non sa_nil)) (len_cons (len_cons len_nil)))))) sb_nil)))))
    (sb_one (ss_fz 3 (ss_ret (se_tup (sa_cons se_non (sa_cons (se_cal c_ring_at hr (lc_v (lc_v (lc_v lc_nil))) (sc_v (se_var 0) (sc_v (se_var 3) (sc_v (se_var 5) sc_nil)))) sa_nil)) (len_cons (len_cons len_nil)))))))))
theorem ok_exit_paper (B : Blt mg) (c_longest : Cal P w K mg base "longest" 2 ["exits", "first"] (spOf K 2 F_longest)) {f : Addr} {fd : FuncData} (F : L2.Fun K "exit_paper" "exit_paper" s_exit_paper f fd) : FnOk P w K mg base CX0 3 f fd ["exits"] (spOf K 1 F_exit_paper) :=
  fn_okN ["exits", "times", "ring"] ["exits"] 2 3 1 d_exit_paper rfl rfl F sc_exit_paper fun cdv A outer s H E hr =>
    (sb_cons (ss_asg (se_cal c_longest hr (lc_v (lc_v lc_nil)) (sc_v (se_var 0) (sc_v (se_op op_rep os_repL (se_ofF (sf_lst (sa_cons se_int sa_nil) (len_cons len_nil))) (sw_of (se_ix (se_var 0) (sw_of se_int) (.inl rfl))) (.inl rfl)) sc_nil))) (sg_tup rfl (sgs_cons (sg_name 1 sc_exit_paper.nd) (sgs_cons (sg_name 2 sc_exit_paper.nd) sgs_nil))))
    (sb_one (ss_ret (se_if (st_isN (sw_of (se_var 2))) (se_tup (sa_cons se_str (sa_cons (se_tuple B (sw_of (se_var 1))) sa_nil)) (len_cons (len_cons len_nil))) (se_tup (sa_cons se_str (sa_cons (se_var 2) sa_nil)) (len_cons (len_cons len_nil)))))))
theorem ok_earliest (B : Blt mg) (c_exit_paper : Cal P w K mg base "exit_paper" 3 ["exits"] (spOf K 1 F_exit_paper)) {f : Addr} {fd : FuncData} (F : L2.Fun K "earliest" "earliest" s_earliest f fd) : FnOk P w K mg base CX0 4 f fd ["exits"] (spOf K 1 F_earliest) :=
  fn_okN ["exits", "paper"] ["exits"] 3 2 1 d_earliest rfl rfl F sc_earliest fun cdv A outer s H E hr =>
    (sb_cons (ss_set 1 sc_earliest.nd (se_cal c_exit_paper hr (lc_v lc_nil) (sc_v (se_var 0) sc_nil)))
    (sb_one (ss_ret (se_if (st_cmp (op_eqA (SL.hu64 hr)) ob_eq (se_ix (se_var 1) (sw_of se_int) (.inl rfl)) (sw_of se_str) (.inl rfl) (nomark _)) (se_ix (se_var 1) (sw_of se_int) (.inl rfl)) se_non))))
theorem ok_least_gap (B : Blt mg) (c_longest : Cal P w K mg base "longest" 2 ["exits", "first"] (spOf K 2 F_longest)) {f : Addr} {fd : FuncData} (F : L2.Fun K "least_gap" "least_gap" s_least_gap f fd) : FnOk P w K mg base CX0 3 f fd ["exits", "a", "b"] (spOf K 3 F_least_gap) :=
  fn_okN ["exits", "a", "b", "first"] ["exits", "a", "b"] 2 4 3 d_least_gap rfl rfl F sc_least_gap fun cdv A outer s H E hr =>
    (sb_cons (ss_own 3 sc_least_gap.nd (sf_op op_rep of_repL (se_ofF (sf_lst (sa_cons se_non sa_nil) (len_cons len_nil))) (sw_of (se_ix (se_var 0) (sw_of se_int) (.inl rfl))) (.inl rfl)))
    (sb_cons (ss_put 3 (se_var 1) se_int)
    (sb_one (ss_fz 3 (ss_ret (se_ix (se_ix (se_cal c_longest hr (lc_v (lc_v lc_nil)) (sc_v (se_var 0) (sc_v (se_var 3) sc_nil))) (sw_of se_int) (.inl rfl)) (sw_of (se_var 2)) (.inl rfl)))))))
theorem ok_l_is_integer (B : Blt mg)  {f : Addr} {fd : FuncData} (F : L2.Fun K "_law_is_integer" "_law_is_integer" s_l_is_integer f fd) : FnOk P w K mg base CX0 1 f fd ["actual"] (spOf K 1 F_l_is_integer) :=
  fn_okN ["actual"] ["actual"] 0 1 1 d_l_is_integer rfl rfl F sc_l_is_integer fun cdv A outer s H E hr =>
    (sb_one (ss_ret (se_and (se_isInt B (sw_of (se_var 0))) (se_one (se_not (se_isBool B (sw_of (se_var 0))))))))
theorem stp_l_same (B : Blt mg)  {R : FS} {k : Nat} (c_l_same : Cal P w K mg base "_law_same" k ["actual", "due"] (spOf K 2 R)) (hk : 0 ≤ k) {f : Addr} {fd : FuncData} (F : L2.Fun K "_law_same" "_law_same" s_l_same f fd) : FnOk P w K mg base CX0 (k + 1) f fd ["actual", "due"] (spOf K 2 (bodyF 3 (d_l_same R))) :=
  fn_okN ["actual", "due", "k"] ["actual", "due"] k 3 2 (d_l_same R) rfl rfl F sc_l_same fun cdv A outer s H E hr =>
    (sb_cons (ss_if (st_bo (sw_or (st_val (se_isTuple B (sw_of (se_var 1)))) (sw_or1 (st_val (se_isList B (sw_of (se_var 1))))))) (sb_cons (ss_if (st_bo (sw_or (st_cmp (op_neA (SL.hu64 hr)) ob_ne (se_isTuple B (sw_of (se_var 1))) (sw_of (se_isTuple B (sw_of (se_var 0)))) (.inl rfl) (nomark _)) (sw_or (st_cmp (op_neA (SL.hu64 hr)) ob_ne (se_isList B (sw_of (se_var 1))) (sw_of (se_isList B (sw_of (se_var 0)))) (.inl rfl) (nomark _)) (sw_or1 (st_cmp (op_neA (SL.hu64 hr)) ob_ne (se_len B (sw_of (se_var 0))) (sw_of (se_len B (sw_of (se_var 1)))) (.inl rfl) (nomark _)))))) (sb_one (ss_ret se_bl)) sb_nil)
    (sb_one (ss_ret (se_cmp (op_eqA (SL.hu64 hr)) ob_eq (se_len B (sw_of (se_ofF (sf_comp (own := [("k", 2)]) rfl sc_l_same.nd (si_rng1 (by rfl) B.range (se_len B (sw_of (se_var 1)))) (blkOk_by (N := ["actual", "due", "k"]) (sc := defScope s_l_same) (by decide +kernel)) (fun _ _ _ _ _ => (sg_name 2 sc_l_same.nd)) (fun _ _ _ _ _ => (spts_one (st_not (st_val (se_cal c_l_same hr (lc_v (lc_v lc_nil)) (sc_v (se_ix (se_var 0) (sw_of (se_var 2)) (.inl rfl)) (sc_v (se_ix (se_var 1) (sw_of (se_var 2)) (.inl rfl)) sc_nil)) (Nat.le_refl _)))))) (fun _ _ _ _ _ => (se_var 2)))))) (sw_of se_int) (.inl rfl) (nomark _))))) sb_nil)
    (sb_cons (ss_if (st_isN (sw_of (se_var 1))) (sb_one (ss_ret (se_isN (sw_of (se_var 0))))) sb_nil)
    (sb_cons (ss_if (st_bo (sw_or (st_val (se_isBool B (sw_of (se_var 1)))) (sw_or1 (st_val (se_isBool B (sw_of (se_var 0))))))) (sb_one (ss_ret (se_and (se_isBool B (sw_of (se_var 1))) (se_and (se_isBool B (sw_of (se_var 0))) (se_one (se_cmp (op_eqA (SL.hu64 hr)) ob_eq (se_var 0) (sw_of (se_var 1)) (.inl rfl) (nomark _))))))) sb_nil)
    (sb_cons (ss_if (st_val (se_isInt B (sw_of (se_var 1)))) (sb_one (ss_ret (se_and (se_isInt B (sw_of (se_var 0))) (se_one (se_cmp (op_eqA (SL.hu64 hr)) ob_eq (se_var 0) (sw_of (se_var 1)) (.inl rfl) (nomark _)))))) sb_nil)
    (sb_one (ss_ret (se_and (se_isStr B (sw_of (se_var 0))) (se_and (se_isStr B (sw_of (se_var 1))) (se_one (se_cmp (op_eqA (SL.hu64 hr)) ob_eq (se_var 0) (sw_of (se_var 1)) (.inl rfl) (nomark _)))))))))))
theorem ok_pool (B : Blt mg) {f : Addr} {fd : FuncData} (F : L2.Fun K "_law_pool" "_law_pool" s_pool f fd) : FnOk P w K mg base CX0 1 f fd ["script"] (spPool K) :=
  fn_pool F sc_pool fun cdv A outer s H E hr =>
    pss_cons (ps_set (i := 1) sc_pool.nd rfl (.inl rfl) pe_int) (pss_cons (ps_for PassesOwn.never rfl (pi_list (pe_slice sl_list (pv 0) po_none (po_some pe_int))) (pg_name (i := 2) sc_pool.nd rfl (.inl rfl))
    (pss_one (ps_set (i := 1) sc_pool.nd rfl (.inl rfl) (pe_op op_mod (pe_callTy call_int1 (by rfl) B.int (by decide +kernel) (pa_cons (pe_op op_add (pe_op op_mul (pv 1) pe_int) (pv 2)) pa_nil)) pe_int))))
    (pss_one (ps_ret (pe_lst (pa_cons (pe_callTy call_list_of (by rfl) B.list boot_list (pa_cons (pv 0) pa_nil)) (pa_cons pe_int (pa_cons pe_int (pa_cons pe_int (pa_cons (pv 1) pa_nil)))))))))
theorem ok_l_spread (B : Blt mg)  {f : Addr} {fd : FuncData} (F : L2.Fun K "_law_spread" "_law_spread" s_l_spread f fd) : FnOk P w K mg base CX0 1 f fd ["cell"] (spOf K 1 F_l_spread) :=
  fn_okN ["cell", "mixed", "total", "k"] ["cell"] 0 4 1 d_l_spread rfl rfl F sc_l_spread fun cdv A outer s H E hr =>
    (sb_cons (ss_set 1 sc_l_spread.nd (se_op op_mod os_mod (se_intc B (sw_of (se_var 0))) (sw_of se_int) (.inl rfl)))
    (sb_cons (ss_set 2 sc_l_spread.nd se_int)
    (sb_cons (ss_for PassesOwn.never rfl (si_rng1 (by rfl) B.range se_int) (sg_name 3 sc_l_spread.nd) (sb_cons (ss_set 1 sc_l_spread.nd (se_op op_mod os_mod (se_intc B (sw_of (se_op op_addA os_add (se_op op_addA os_add (se_op op_mul os_mul (se_var 1) (sw_of se_int) (.inl rfl)) (sw_of se_int) (.inl rfl)) (sw_of (se_var 3)) (.inl rfl)))) (sw_of se_int) (.inl rfl)))
    (sb_one (ss_set 2 sc_l_spread.nd (se_op op_addA os_add (se_op op_mul os_mul (se_var 2) (sw_of se_int) (.inl rfl)) (sw_of (se_var 1)) (.inl rfl))))))
    (sb_one (ss_ret (se_var 2))))))
theorem ok_l_draw (B : Blt mg) (c_l_spread : Cal P w K mg base "_law_spread" 1 ["cell"] (spOf K 1 F_l_spread)) {f : Addr} {fd : FuncData} (F : L2.Fun K "_law_draw" "_law_draw" s_l_draw f fd) : FnOk P w K mg base CX0 2 f fd ["pool", "many"] (spOf K 2 F_l_draw) :=
  fn_okN ["pool", "many", "cell", "mixed", "value"] ["pool", "many"] 1 5 2 d_l_draw rfl rfl F sc_l_draw fun cdv A outer s H E hr =>
    (sb_cons (ss_if (st_bo (sw_and (st_cmp (op_leA (SL.hu64 hr)) ob_le (se_ix (sw_own 0) (sw_of se_int) (.inr pur_c)) (sw_of se_int) (.inl rfl) (nomark _)) (sw_and1 (st_cmp (op_ltA (SL.hu64 hr)) ob_lt (se_ix (sw_own 0) (sw_of se_int) (.inr pur_c)) (sw_of (se_len B (sw_of (se_ix (sw_own 0) (sw_of se_int) (.inr pur_c))))) (.inl rfl) (nomark _))))) (sb_cons (ss_set 2 sc_l_draw.nd (se_ix (se_ix (sw_own 0) (sw_of se_int) (.inr pur_c)) (sw_of (se_ix (sw_own 0) (sw_of se_int) (.inr pur_c))) (.inl rfl)))
    (sb_cons (ss_put 0 se_int (se_op op_addA os_add (se_ix (sw_own 0) (sw_of se_int) (.inr pur_c)) (sw_of se_int) (.inl rfl)))
    (sb_cons (ss_put 0 se_int (se_var 2))
    (sb_one (ss_if (st_cmp (op_ltA (SL.hu64 hr)) ob_lt (se_var 2) (sw_of se_int) (.inl rfl) (nomark _)) (sb_one (ss_put 0 se_int (se_cal c_l_spread hr (lc_v lc_nil) (sc_v (se_var 2) sc_nil)))) sb_nil))))) sb_nil)
    (sb_cons (ss_put 0 se_int (se_op op_addA os_add (se_ix (sw_own 0) (sw_of se_int) (.inr pur_c)) (sw_of se_int) (.inl rfl)))
    (sb_cons (ss_if (st_cmp (op_leA (SL.hu64 hr)) ob_le (se_ix (sw_own 0) (sw_of se_int) (.inr pur_c)) (sw_of se_int) (.inl rfl) (nomark _)) (sb_cons (ss_set 3 sc_l_draw.nd (se_op op_mod os_mod (se_intc B (sw_of (se_op op_addA os_add (se_op op_addA os_add (se_op op_mul os_mul (se_ix (sw_own 0) (sw_of se_int) (.inr pur_c)) (sw_of se_int) (.inl rfl)) (sw_of (se_op op_mul os_mul (se_ix (sw_own 0) (sw_of se_int) (.inr pur_c)) (sw_of se_int) (.inl rfl))) (.inl rfl)) (sw_of se_int) (.inl rfl)))) (sw_of se_int) (.inl rfl)))
    (sb_cons (ss_set 3 sc_l_draw.nd (se_op op_mod os_mod (se_intc B (sw_of (se_op op_addA os_add (se_op op_mul os_mul (se_var 3) (sw_of se_int) (.inl rfl)) (sw_of (se_ix (sw_own 0) (sw_of se_int) (.inr pur_c))) (.inl rfl)))) (sw_of se_int) (.inl rfl)))
    (sb_one (ss_ret (se_op op_mod os_mod (se_op op_fdiv os_div (se_var 3) (sw_of se_int) (.inl rfl)) (sw_of (se_var 1)) (.inl rfl)))))) sb_nil)
    (sb_cons (ss_set 4 sc_l_draw.nd (se_op op_mod os_mod (se_intc B (sw_of (se_ix (sw_own 0) (sw_of se_int) (.inr pur_c)))) (sw_of (se_var 1)) (.inl rfl)))
    (sb_cons (ss_put 0 se_int (se_op op_fdiv os_div (se_ix (sw_own 0) (sw_of se_int) (.inr pur_c)) (sw_of (se_var 1)) (.inl rfl)))
    (sb_one (ss_ret (se_var 4))))))))
theorem ok_l_pick (B : Blt mg) (c_l_draw : Cal P w K mg base "_law_draw" 2 ["pool", "many"] (spOf K 2 F_l_draw)) {f : Addr} {fd : FuncData} (F : L2.Fun K "_law_pick" "_law_pick" s_l_pick f fd) : FnOk P w K mg base CX0 3 f fd ["pool", "items"] (spOf K 2 F_l_pick) :=
  fn_okN ["pool", "items"] ["pool", "items"] 2 2 2 d_l_pick rfl rfl F sc_l_pick fun cdv A outer s H E hr =>
    (sb_one (ss_ret (se_ix (se_var 1) (sw_of (se_cal c_l_draw hr (lc_p (lc_v lc_nil)) (sc_p 0 (sc_v (se_len B (sw_of (se_var 1))) sc_nil)))) (.inl rfl))))
theorem ok_l_exits (B : Blt mg) (c_l_draw : Cal P w K mg base "_law_draw" 2 ["pool", "many"] (spOf K 2 F_l_draw)) (c_l_pick : Cal P w K mg base "_law_pick" 3 ["pool", "items"] (spOf K 2 F_l_pick)) {f : Addr} {fd : FuncData} (F : L2.Fun K "_law_exits" "_law_exits" s_l_exits f fd) : FnOk P w K mg base CX0 4 f fd ["pool"] (spOf K 1 F_l_exits) :=
  fn_okN ["pool", "many", "rows", "around", "k", "a", "b", "g", "gap"] ["pool"] 3 9 1 d_l_exits rfl rfl F sc_l_exits fun cdv A outer s H E hr =>
    (sb_cons (ss_set 1 sc_l_exits.nd (se_op op_addA os_add se_int (sw_of (se_cal c_l_draw hr (lc_p (lc_v lc_nil)) (sc_p 0 (sc_v se_int sc_nil)))) (.inl rfl)))
    (sb_cons (ss_own 2 sc_l_exits.nd (sf_lst sa_nil len_nil))
    (sb_cons (ss_set 3 sc_l_exits.nd (se_ix (se_tup (sa_cons se_int (sa_cons se_int (sa_cons se_int sa_nil))) (len_cons (len_cons (len_cons len_nil)))) (sw_of (se_cal c_l_draw hr (lc_p (lc_v lc_nil)) (sc_p 0 (sc_v se_int sc_nil)))) (.inl rfl)))
    (sb_cons (ss_for PassesOwn.never rfl (si_rng1 (by rfl) B.range (se_if (st_cmp (op_gtA (SL.hu64 hr)) ob_gt (se_var 1) (sw_of se_int) (.inl rfl) (nomark _)) (se_cal c_l_draw hr (lc_p (lc_v lc_nil)) (sc_p 0 (sc_v se_int sc_nil))) se_int)) (sg_name 4 sc_l_exits.nd) (sb_cons (ss_set 5 sc_l_exits.nd (se_cal c_l_draw hr (lc_p (lc_v lc_nil)) (sc_p 0 (sc_v (se_var 1) sc_nil))))
    (sb_cons (ss_set 6 sc_l_exits.nd (se_cal c_l_pick hr (lc_p (lc_v lc_nil)) (sc_p 0 (sc_v (se_ofF (sf_comp (own := [("g", 7)]) rfl sc_l_exits.nd (si_rng1 (by rfl) B.range (se_var 1)) (blkOk_by (N := ["pool", "many", "rows", "around", "k", "a", "b", "g", "gap"]) (sc := defScope s_l_exits) (by decide +kernel)) (fun _ _ _ _ _ => (sg_name 7 sc_l_exits.nd)) (fun _ _ _ _ _ => (spts_one (st_cmp (op_neA (SL.hu64 hr)) ob_ne (se_var 7) (sw_of (se_var 5)) (.inl rfl) (nomark _)))) (fun _ _ _ _ _ => (se_var 7)))) sc_nil))))
    (sb_cons (ss_set 8 sc_l_exits.nd (se_cal c_l_draw hr (lc_p (lc_v lc_nil)) (sc_p 0 (sc_v (se_op op_addA os_add (se_var 3) (sw_of se_int) (.inl rfl)) sc_nil))))
    (sb_one (ss_app 2 (se_tup (sa_cons (se_var 5) (sa_cons (se_var 6) (sa_cons (se_if (st_bo (sw_and (st_cmp (op_ltA (SL.hu64 hr)) ob_lt (se_var 5) (sw_of (se_var 6)) (.inl rfl) (nomark _)) (sw_and1 (st_cmp (op_gtA (SL.hu64 hr)) ob_gt (se_cal c_l_draw hr (lc_p (lc_v lc_nil)) (sc_p 0 (sc_v se_int sc_nil))) (sw_of se_int) (.inl rfl) (nomark _))))) (se_var 8) (se_max2 B rfl (se_neg se_int) (se_op op_sub os_sub (se_op op_sub os_sub se_int (sw_of (se_var 8)) (.inl rfl)) (sw_of (se_cal c_l_draw hr (lc_p (lc_v lc_nil)) (sc_p 0 (sc_v se_int sc_nil)))) (.inl rfl)))) sa_nil))) (len_cons (len_cons (len_cons len_nil))))))))))
    (sb_one (ss_ret (se_tup (sa_cons (se_var 1) (sa_cons (se_tuple B (sw_ow 2)) sa_nil)) (len_cons (len_cons len_nil)))))))))
theorem ok_l_are_times (B : Blt mg) (c_l_is_integer : Cal P w K mg base "_law_is_integer" 1 ["actual"] (spOf K 1 F_l_is_integer)) {f : Addr} {fd : FuncData} (F : L2.Fun K "_law_are_times" "_law_are_times" s_l_are_times f fd) : FnOk P w K mg base CX0 2 f fd ["exits", "value"] (spOf K 2 F_l_are_times) :=
  fn_okN ["exits", "value", "one", "rule"] ["exits", "value"] 1 4 2 d_l_are_times rfl rfl F sc_l_are_times fun cdv A outer s H E hr =>
    (sb_cons (ss_if (st_bo (sw_or (st_not (st_val (se_isTuple B (sw_of (se_var 1))))) (sw_or (st_cmp (op_neA (SL.hu64 hr)) ob_ne (se_len B (sw_of (se_var 1))) (sw_of (se_ix (se_var 0) (sw_of se_int) (.inl rfl))) (.inl rfl) (nomark _)) (sw_or1 (st_cmp (op_gtA (SL.hu64 hr)) ob_gt (se_len B (sw_of (se_ofF (sf_comp (own := [("one", 2)]) rfl sc_l_are_times.nd (si_tup (se_var 1)) (blkOk_by (N := ["exits", "value", "one", "rule"]) (sc := defScope s_l_are_times) (by decide +kernel)) (fun _ _ _ _ _ => (sg_name 2 sc_l_are_times.nd)) (fun _ _ _ _ _ => (spts_one (st_not (st_val (se_cal c_l_is_integer hr (lc_v lc_nil) (sc_v (se_var 2) sc_nil)))))) (fun _ _ _ _ _ => (se_var 2)))))) (sw_of se_int) (.inl rfl) (nomark _)))))) (sb_one (ss_ret se_bl)) sb_nil)
    (sb_one (ss_ret (se_cmp (op_eqA (SL.hu64 hr)) ob_eq (se_len B (sw_of (se_ofF (sf_comp (own := [("rule", 3)]) rfl sc_l_are_times.nd (si_tup (se_ix (se_var 0) (sw_of se_int) (.inl rfl))) (blkOk_by (N := ["exits", "value", "one", "rule"]) (sc := defScope s_l_are_times) (by decide +kernel)) (fun _ _ _ _ _ => (sg_name 3 sc_l_are_times.nd)) (fun _ _ _ _ _ => (spts_one (st_cmp (op_ltA (SL.hu64 hr)) ob_lt (se_op op_sub os_sub (se_ix (se_var 1) (sw_of (se_ix (se_var 3) (sw_of se_int) (.inl rfl))) (.inl rfl)) (sw_of (se_ix (se_var 1) (sw_of (se_ix (se_var 3) (sw_of se_int) (.inl rfl))) (.inl rfl))) (.inl rfl)) (sw_of (se_ix (se_var 3) (sw_of se_int) (.inl rfl))) (.inl rfl) (nomark _)))) (fun _ _ _ _ _ => (se_var 3)))))) (sw_of se_int) (.inl rfl) (nomark _)))))
theorem ok_l_far_gaps (B : Blt mg)  {f : Addr} {fd : FuncData} (F : L2.Fun K "_law_far_gaps" "_law_far_gaps" s_l_far_gaps f fd) : FnOk P w K mg base CX0 1 f fd ["exits"] (spOf K 1 F_l_far_gaps) :=
  F.ok sc_l_far_gaps spOf_len fun cdv A outer s H vs Q E hr h => ⟨_,
    pss_cons (ps_set (i := 1) sc_l_far_gaps.nd rfl (by first | exact Or.inl rfl | exact Or.inr rfl) (pe_ix ix_tup (pv 0) pe_int (fun _ _ => rfl)))
    (pss_cons (ps_setLc (i := 2) (own := [("k", 3)]) (g := gName 3) (by rfl) sc_l_far_gaps.nd rfl rfl (sw_true rfl rfl rfl (by decide +kernel)) (pi_range1 (by rfl) B.range (pa_cons (pv 1) pa_nil)) (blkOk_by (N := ["exits", "many", "far", "k", "a", "b", "gap", "m"]) (sc := defScope s_l_far_gaps) (by decide +kernel)) (fun _ _ _ _ _ => pg_name (i := 3) sc_l_far_gaps.nd rfl (Or.inl rfl)) (fun _ _ _ _ _ => pts_nil) (fun _ _ _ _ _ => pe_op op_rep (pe_lst (pa_cons pe_non pa_nil)) (pv 1)))
    (pss_cons (ps_for PassesOwn.never rfl (pi_range1 (by rfl) B.range (pa_cons (pv 1) pa_nil)) (pg_name (i := 3) sc_l_far_gaps.nd rfl (.inl rfl)) (pss_one (ps_asg pe_int (pg_sub (pe_ix ix_list (pv 2) (pv 3) (fun _ _ => rfl)) (pv 3) set_list))))
    (pss_cons (ps_for PassesOwn.never rfl (pi_tup (pe_ix ix_tup (pv 0) pe_int (fun _ _ => rfl))) (pg_tup rfl (pgs_cons (pg_name (i := 4) sc_l_far_gaps.nd rfl (.inl rfl)) (pgs_cons (pg_name (i := 5) sc_l_far_gaps.nd rfl (.inl rfl)) (pgs_cons (pg_name (i := 6) sc_l_far_gaps.nd rfl (.inl rfl)) pgs_nil))))
      (pss_one (ps_asg (pe_ifExp (pt_cmp (pc_isN (pe_ix ix_list (pe_ix ix_list (pv 2) (pv 4) (fun _ _ => rfl)) (pv 5) (fun _ _ => rfl)))) (pv 6) (pe_callB (call_max2 rfl) (by rfl) B.max (by decide +kernel) (pa_cons (pv 6) (pa_cons (pe_ix ix_list (pe_ix ix_list (pv 2) (pv 4) (fun _ _ => rfl)) (pv 5) (fun _ _ => rfl)) pa_nil)))) (pg_sub (pe_ix ix_list (pv 2) (pv 4) (fun _ _ => rfl)) (pv 5) set_list))))
    (pss_cons (ps_for PassesOwn.never rfl (pi_range1 (by rfl) B.range (pa_cons (pv 1) pa_nil)) (pg_name (i := 7) sc_l_far_gaps.nd rfl (.inl rfl)) (pss_one (ps_for PassesOwn.never rfl (pi_range1 (by rfl) B.range (pa_cons (pv 1) pa_nil)) (pg_name (i := 4) sc_l_far_gaps.nd rfl (.inl rfl)) (pss_one (ps_for PassesOwn.never rfl (pi_range1 (by rfl) B.range (pa_cons (pv 1) pa_nil)) (pg_name (i := 5) sc_l_far_gaps.nd rfl (.inl rfl))
      (pss_one (ps_if (PW.pt (pw_and (pt_cmp (pc_notN (pe_ix ix_list (pe_ix ix_list (pv 2) (pv 4) (fun _ _ => rfl)) (pv 7) (fun _ _ => rfl)))) (pw_and (pt_cmp (pc_notN (pe_ix ix_list (pe_ix ix_list (pv 2) (pv 7) (fun _ _ => rfl)) (pv 5) (fun _ _ => rfl))))
          (pw_and1 (PW.pt (pw_or (pt_cmp (pc_isN (pe_ix ix_list (pe_ix ix_list (pv 2) (pv 4) (fun _ _ => rfl)) (pv 5) (fun _ _ => rfl)))) (pw_or1 (pt_cmpR op_gt (pe_op op_add (pe_ix ix_list (pe_ix ix_list (pv 2) (pv 4) (fun _ _ => rfl)) (pv 7) (fun _ _ => rfl)) (pe_ix ix_list (pe_ix ix_list (pv 2) (pv 7) (fun _ _ => rfl)) (pv 5) (fun _ _ => rfl))) (pe_ix ix_list (pe_ix ix_list (pv 2) (pv 4) (fun _ _ => rfl)) (pv 5) (fun _ _ => rfl)) (nomark _)))))))))
        (pss_one (ps_asg (pe_op op_add (pe_ix ix_list (pe_ix ix_list (pv 2) (pv 4) (fun _ _ => rfl)) (pv 7) (fun _ _ => rfl)) (pe_ix ix_list (pe_ix ix_list (pv 2) (pv 7) (fun _ _ => rfl)) (pv 5) (fun _ _ => rfl))) (pg_sub (pe_ix ix_list (pv 2) (pv 4) (fun _ _ => rfl)) (pv 5) set_list))) pss_nil)))))))
    (pss_one (ps_ret (pv 2))))))), by
    obtain ⟨as, os, G, r, as', R, hl, hL, q, k⟩ := h
    obtain ⟨n, rs, rfl, hn, hrs, rfl, rfl⟩ := F_far_inv q
    obtain ⟨v, rfl⟩ : ∃ v, vs = [v] := by
      have := R.len
      rw [List.length_map] at this
      match vs, this with
      | [v], _ => exact ⟨v, rfl⟩
    obtain ⟨ho, v', hv', pv'⟩ := R.sl 0
    cases hv'
    obtain ⟨a, us, rfl, st, ra⟩ := Rw.tup (.inl pv')
    obtain ⟨x1, x2, rfl, r1, r2⟩ := rpAll_2 ra
    obtain rfl := rp_int r1
    obtain ⟨b, ws, rfl, st2, rw2⟩ := Rw.tup (.inl r2)
    have fA : ∀ H', Same H H' → SqT K H' a [.int (n : Int), .ref b] := fun H' s => sqT_same s st.sq
    have fB : ∀ H', Same H H' → SqT K H' b ws := fun H' s => sqT_same s st2.sq
    refine ⟨_, rfl, _, _, _, _, rfl, rfl, fA H (Same.refl H), rfl, ?_⟩
    refine ⟨_, rfl, (n : Int), rfl, by omega, by omega, fun D hD => ?_⟩
    refine L2.lc_range (lo := 0) (n := (n : Int).toNat) (fun i H' => ∃ rows, FI H H' D rows i n (fun _ _ => none)) ⟨[], fun c u e => (upd_ne (ne_of_none e hD)).trans e, hD, fun r hr => absurd hr (by simp), upd_same, by simp, rfl, fun i hi => absurd hi (Nat.not_lt_zero _)⟩ (fun i H' hi ⟨rows, I⟩ => ?_) fun H' ⟨rows, I⟩ => ?_
    · refine ⟨rfl, tYes_if ?_⟩
      refine ⟨by decide, fun l hl => ⟨_, rfl, l, (n : Int), [.non], rfl, rfl, upd_same, by omega, by omega, ?_, fun p hp => ?_⟩⟩
      · rw [Int.toNat_natCast, sizeLine_eq]; show 1 * n ≤ _; omega
      · have I1 := I.aside (o := .lst [.non]) hl
        refine ⟨rows.map V.ref, (upd_ne (ne_of_none I1.hL hp)).trans I1.hL, by rw [List.length_map, I.len, sizeLine_eq]; omega, rows ++ [p], I1.more hp ?_⟩
        rw [Int.toNat_natCast, rep_rowV]
    rw [Int.toNat_natCast] at I
    have hS : FS0 (((L2.start ["exits", "many", "far", "k", "a", "b", "gap", "m"] [V.ref a]).set 1 (some (.int (n : Int)))).set 2 (some (.ref D))) a n D := ⟨rfl, rfl, rfl, rfl⟩
    show _
    refine ⟨_, hS.s1, (n : Int), rfl, by omega, by omega, L2.for_range (lo := 0) (n := (n : Int).toNat) (fun i σ H' => FS0 σ a n D ∧ FI H H' D rows n n (fun p q => if p = q ∧ p < i then some 0 else none)) ⟨hS, I.congr fun i j _ _ => by rw [if_neg (by omega)]⟩ (fun i σ H' hi ⟨hS, I⟩ => ?_) fun σ H' ⟨hS, I⟩ => ?_⟩
    · rw [Int.toNat_natCast] at hi
      rw [Int.zero_add]
      have h3 := hS.get (i := 3) (x := some (.int (i : Int))) (by decide)
      have hS' := hS.set (i := 3) (x := some (.int (i : Int))) (by decide)
      refine wr_far I hS'.s2 h3 h3 hi hi (some 0) fun H'' I' => ⟨hS', I'.congr fun p q _ _ => ?_⟩
      unfold mset
      by_cases c : p = i ∧ q = i
      · rw [if_pos c, if_pos (by omega)]
      · rw [if_neg c]
        show (if p = q ∧ p < i then _ else _) = _
        by_cases d : p = q ∧ p < i
        · rw [if_pos d, if_pos (by omega)]
        · rw [if_neg d, if_neg (by omega)]
    rw [Int.toNat_natCast] at I
    replace I := I.congr (M' := M0) fun i j hi _ => by
      unfold M0
      by_cases c : i = j
      · rw [if_pos ⟨c, hi⟩, if_pos c]
      · rw [if_neg (fun z => c z.1), if_neg c]
    have hrl := rw2.length
    refine ⟨_, hS.s0, _, _, _, _, rfl, rfl, fA _ I.same, rfl, b, rfl, ⟨ws, fB _ I.same⟩, L2.for_tup (xs := ws) (fun i σ H' => FS0 σ a n D ∧ FI H H' D rows n n (((rs.map ruOf).take i).foldl rstep M0)) ⟨hS, I⟩ (fun i σ H' _ ⟨_, I⟩ => fB _ I.same) (fun i x σ H' hx ⟨hS, I⟩ => ?_) fun σ H' ⟨hS, I⟩ => ?_⟩
    · obtain ⟨d, hd, rd⟩ := rw2.getV hx
      obtain ⟨ra, rb, rg, rfl, hru, ⟨a0, a1⟩, ⟨b0, b1⟩⟩ := isRu_inv (List.all_eq_true.mp hrs d (List.mem_of_getElem? hd))
      obtain ⟨c, cs, rfl, st3, rc⟩ := Rw.tup (.inl rd)
      obtain ⟨x1, x2, x3, rfl, q1, q2, q3⟩ := rpAll_3 rc
      obtain rfl := rp_int q1
      obtain rfl := rp_int q2
      obtain rfl := rp_int q3
      obtain ⟨i1, rfl⟩ := Int.eq_ofNat_of_zero_le a0
      obtain ⟨j1, rfl⟩ := Int.eq_ofNat_of_zero_le b0
      refine ⟨c, _, rfl, sqT_same I.same st3.sq, rfl, _, _, rfl, _, _, rfl, _, _, rfl, rfl, ?_⟩
      have hS' := ((hS.set (i := 4) (x := some (.int (i1 : Int))) (by decide)).set (i := 5) (x := some (.int (j1 : Int))) (by decide)).set (i := 6) (x := some (.int rg)) (by decide)
      generalize hσ : ((σ.set 4 (some (.int (i1 : Int)))).set 5 (some (.int (j1 : Int)))).set 6 (some (.int rg)) = σ' at hS' ⊢
      have h4 : σ'[4]? = some (some (.int (i1 : Int))) := by rw [← hσ, List.getElem?_set_ne (by decide), List.getElem?_set_ne (by decide)]; exact hS.get (by decide)
      have h5 : σ'[5]? = some (some (.int (j1 : Int))) := by rw [← hσ, List.getElem?_set_ne (by decide)]; exact (hS.set (i := 4) (by decide)).get (by decide)
      have h6 : σ'[6]? = some (some (.int rg)) := by rw [← hσ]; exact ((hS.set (i := 4) (by decide)).set (i := 5) (by decide)).get (by decide)
      have hi1 : i1 < n := by omega
      have hj1 : j1 < n := by omega
      have hgetr : (rs.map ruOf)[i]? = some ((i1 : Int), (j1 : Int), rg) := by rw [List.getElem?_map, hd, Option.map_some, hru]
      have fin : ∀ {v : Int}, v = mxo ((((rs.map ruOf).take i).foldl rstep M0) i1 j1) rg → gSub (tOp (rIxL K) (tVar 2) (tVar 4)) (tVar 5) rSetL (.int v) σ' H' fun σ2 H2 => FS0 σ2 a n D ∧ FI H H2 D rows n n (((rs.map ruOf).take (i + 1)).foldl rstep M0) := fun {v} ev =>
        wr_far I hS'.s2 h4 h5 hi1 hj1 (some v) fun H'' I' => ⟨hS', by rw [foldl_take_succ _ _ _ hgetr, ev] at *; exact I'⟩
      refine rd_far I hS'.s2 h4 h5 hi1 hj1 ⟨_, rfl, ?_⟩
      cases e : (((rs.map ruOf).take i).foldl rstep M0) i1 j1 with
      | none => exact iteT ⟨_, h6, fin (by rw [e]; rfl)⟩
      | some z =>
        refine iteF ⟨_, h6, rd_far I hS'.s2 h4 h5 hi1 hj1 ?_⟩
        rw [e]
        exact ⟨_, _, rfl, fin (by rw [e]; rfl)⟩
    have hlen : (rs.map ruOf).length = ws.length := by rw [List.length_map, hrl]
    rw [← hlen, List.take_length] at I
    refine ⟨_, hS.s1, (n : Int), rfl, by omega, by omega, L2.for_range (lo := 0) (n := (n : Int).toNat) (fun i σ H' => FS0 σ a n D ∧ FI H H' D rows n n ((List.range i).foldl (fun M m => fph n m M) ((rs.map ruOf).foldl rstep M0))) ⟨hS, I⟩ (fun m σ H' hm ⟨hS, I⟩ => ?_) fun σ H' ⟨hS, I⟩ => ?_⟩
    · rw [Int.toNat_natCast] at hm
      rw [Int.zero_add]
      have h7 := hS.get (i := 7) (x := some (.int (m : Int))) (by decide)
      replace hS := hS.set (i := 7) (x := some (.int (m : Int))) (by decide)
      generalize hM : (List.range m).foldl (fun M m => fph n m M) ((rs.map ruOf).foldl rstep M0) = M at I
      have hM' : (List.range (m + 1)).foldl (fun M m => fph n m M) ((rs.map ruOf).foldl rstep M0) = fph n m M := by rw [List.range_succ, List.foldl_append, hM]; rfl
      rw [hM']
      refine ⟨_, hS.s1, (n : Int), rfl, by omega, by omega, L2.for_range (lo := 0) (n := (n : Int).toNat) (fun i σ H' => (FS0 σ a n D ∧ σ[7]? = some (some (.int (m : Int)))) ∧ FI H H' D rows n n ((List.range i).foldl (fun M a => frow n m a M) M)) ⟨⟨hS, h7⟩, I⟩ (fun p σ H' hp ⟨⟨hS, h7⟩, I⟩ => ?_) fun σ H' ⟨⟨hS, h7⟩, I⟩ => ⟨hS, by rw [Int.toNat_natCast] at I; exact I⟩⟩
      rw [Int.toNat_natCast] at hp
      rw [Int.zero_add]
      have h4 := hS.get (i := 4) (x := some (.int (p : Int))) (by decide)
      replace hS := hS.set (i := 4) (x := some (.int (p : Int))) (by decide)
      replace h7 : (σ.set 4 (some (.int (p : Int))))[7]? = some (some (.int (m : Int))) := by rw [List.getElem?_set_ne (by decide)]; exact h7
      generalize hM2 : (List.range p).foldl (fun M a => frow n m a M) M = M2 at I
      have hM2' : (List.range (p + 1)).foldl (fun M a => frow n m a M) M = frow n m p M2 := by rw [List.range_succ, List.foldl_append, hM2]; rfl
      rw [hM2']
      refine ⟨_, hS.s1, (n : Int), rfl, by omega, by omega, L2.for_range (lo := 0) (n := (n : Int).toNat) (fun i σ H' => (FS0 σ a n D ∧ σ[7]? = some (some (.int (m : Int))) ∧ σ[4]? = some (some (.int (p : Int)))) ∧ FI H H' D rows n n ((List.range i).foldl (fun M b => fstep M m p b) M2)) ⟨⟨hS, h7, h4⟩, I⟩ (fun q σ H' hq ⟨⟨hS, h7, h4⟩, I⟩ => ?_) fun σ H' ⟨⟨hS, h7, h4⟩, I⟩ => ⟨⟨hS, h7⟩, by rw [Int.toNat_natCast] at I; exact I⟩⟩
      rw [Int.toNat_natCast] at hq
      rw [Int.zero_add]
      have h5 := hS.get (i := 5) (x := some (.int (q : Int))) (by decide)
      replace hS := hS.set (i := 5) (x := some (.int (q : Int))) (by decide)
      replace h7 : (σ.set 5 (some (.int (q : Int))))[7]? = some (some (.int (m : Int))) := by rw [List.getElem?_set_ne (by decide)]; exact h7
      replace h4 : (σ.set 5 (some (.int (q : Int))))[4]? = some (some (.int (p : Int))) := by rw [List.getElem?_set_ne (by decide)]; exact h4
      generalize hM3 : (List.range q).foldl (fun M b => fstep M m p b) M2 = M3 at I
      have hM3' : (List.range (q + 1)).foldl (fun M b => fstep M m p b) M2 = fstep M3 m p q := by rw [List.range_succ, List.foldl_append, hM3]; rfl
      rw [hM3']
      have calm : (∀ x y, M3 p m = some x → M3 m q = some y → bto (M3 p q) (x + y) = false) → (FS0 (σ.set 5 (some (.int (q : Int)))) a n D ∧ (σ.set 5 (some (.int (q : Int))))[7]? = some (some (.int (m : Int))) ∧ (σ.set 5 (some (.int (q : Int))))[4]? = some (some (.int (p : Int)))) ∧ FI H H' D rows n n (fstep M3 m p q) := fun c => ⟨⟨hS, h7, h4⟩, by rw [fr_calm c]; exact I⟩
      have fire : ∀ x y, M3 p m = some x → M3 m q = some y → bto (M3 p q) (x + y) = true → tOp (rI0 fun i j => .int (i + j)) (tOp (rIxL K) (tOp (rIxL K) (tVar 2) (tVar 4)) (tVar 7)) (tOp (rIxL K) (tOp (rIxL K) (tVar 2) (tVar 7)) (tVar 5)) (σ.set 5 (some (.int (q : Int)))) H' fun v H1 => gSub (tOp (rIxL K) (tVar 2) (tVar 4)) (tVar 5) rSetL v (σ.set 5 (some (.int (q : Int)))) H1 fun σ2 H2 => (FS0 σ2 a n D ∧ σ2[7]? = some (some (.int (m : Int))) ∧ σ2[4]? = some (some (.int (p : Int)))) ∧ FI H H2 D rows n n (fstep M3 m p q) := fun x y ex ey c => by
        refine rd_far I hS.s2 h4 h7 hp hm (rd_far I hS.s2 h7 h5 hm hq ?_)
        rw [ex, ey]
        refine ⟨x, y, rfl, rfl, wr_far I hS.s2 h4 h5 hp hq (some (x + y)) fun H'' I' => ⟨⟨hS, h7, h4⟩, ?_⟩⟩
        rw [fr_step ex ey c]; exact I'
      refine rd_far I hS.s2 h4 h7 hp hm ⟨_, rfl, ?_⟩
      cases ex : M3 p m with
      | none => exact iteF (iteF (calm fun x y e1 _ => by rw [ex] at e1; cases e1))
      | some x =>
        refine iteT (rd_far I hS.s2 h7 h5 hm hq ⟨_, rfl, ?_⟩)
        cases ey : M3 m q with
        | none => exact iteF (iteF (calm fun x y _ e1 => by rw [ey] at e1; cases e1))
        | some y =>
          refine iteT (rd_far I hS.s2 h4 h5 hp hq ⟨_, rfl, ?_⟩)
          cases ez : M3 p q with
          | none => exact iteT (iteT (fire x y ex ey (by rw [ez]; rfl)))
          | some z =>
            refine iteF (rd_far I hS.s2 h4 h7 hp hm (rd_far I hS.s2 h7 h5 hm hq ?_))
            rw [ex, ey]
            refine ⟨x, y, rfl, rfl, rd_far I hS.s2 h4 h5 hp hq ?_⟩
            rw [ez]
            refine ⟨x + y, z, rfl, rfl, _, rfl, ?_⟩
            by_cases c : z < x + y
            · rw [decide_eq_true c]
              exact iteT (fire x y ex ey (by rw [ez]; exact decide_eq_true c))
            · rw [decide_eq_false c]
              exact iteF (calm fun x' y' e1 e2 => by rw [ex] at e1; rw [ey] at e2; cases e1; cases e2; rw [ez]; exact decide_eq_false c)
    rw [Int.toNat_natCast] at I
    refine ⟨_, hS.s2, k _ _ (Ext.same _ I.same) (R.ofSame I.same) (rp_far I (R.new I.nL) fun r hr => R.new (I.nR r hr))⟩⟩

theorem ok_l_has_times (B : Blt mg) (c_l_far_gaps : Cal P w K mg base "_law_far_gaps" 1 ["exits"] (spOf K 1 F_l_far_gaps)) {f : Addr} {fd : FuncData} (F : L2.Fun K "_law_has_times" "_law_has_times" s_l_has_times f fd) : FnOk P w K mg base CX0 2 f fd ["exits"] (spOf K 1 F_l_has_times) :=
  fn_okN ["exits", "far", "k"] ["exits"] 1 3 1 d_l_has_times rfl rfl F sc_l_has_times fun cdv A outer s H E hr =>
    (sb_cons (ss_set 1 sc_l_has_times.nd (se_cal c_l_far_gaps hr (lc_v lc_nil) (sc_v (se_var 0) sc_nil)))
    (sb_one (ss_ret (se_cmp (op_eqA (SL.hu64 hr)) ob_eq (se_len B (sw_of (se_ofF (sf_comp (own := [("k", 2)]) rfl sc_l_has_times.nd (si_rng1 (by rfl) B.range (se_ix (se_var 0) (sw_of se_int) (.inl rfl))) (blkOk_by (N := ["exits", "far", "k"]) (sc := defScope s_l_has_times) (by decide +kernel)) (fun _ _ _ _ _ => (sg_name 2 sc_l_has_times.nd)) (fun _ _ _ _ _ => (spts_one (st_cmp (op_gtA (SL.hu64 hr)) ob_gt (se_ix (se_ix (se_var 1) (sw_of (se_var 2)) (.inl rfl)) (sw_of (se_var 2)) (.inl rfl)) (sw_of se_int) (.inl rfl) (nomark _)))) (fun _ _ _ _ _ => (se_var 2)))))) (sw_of se_int) (.inl rfl) (nomark _)))))
theorem ok_law (hd : ∀ ns : List Int, ns.length ≤ 63 → ∃ e, d_law ([.no, .own (poolOf ns)] ++ List.replicate (14 - 2) .no) = some (.rt (.bool true), e)) (B : Blt mg) (c_pool : Cal P w K mg base "_law_pool" 1 ["script"] (spPool K)) (c_l_exits : Cal P w K mg base "_law_exits" 4 ["pool"] (spOf K 1 F_l_exits)) (c_earliest : Cal P w K mg base "earliest" 4 ["exits"] (spOf K 1 F_earliest)) (c_l_same : Cal P w K mg base "_law_same" 41 ["actual", "due"] (spOf K 2 F_l_same)) (c_l_are_times : Cal P w K mg base "_law_are_times" 2 ["exits", "value"] (spOf K 2 F_l_are_times)) (c_are_times : Cal P w K mg base "are_times" 2 ["exits", "value"] (spOf K 2 F_are_times)) (c_l_has_times : Cal P w K mg base "_law_has_times" 2 ["exits"] (spOf K 1 F_l_has_times)) (c_least_gap : Cal P w K mg base "least_gap" 3 ["exits", "a", "b"] (spOf K 3 F_least_gap)) (c_exit_paper : Cal P w K mg base "exit_paper" 3 ["exits"] (spOf K 1 F_exit_paper)) {f : Addr} {fd : FuncData} (F : L2.Fun K "law" "law" s_law f fd) : FnOk P w K mg base CX0 42 f fd ["script"] (spLaw K) :=
  fn_law (N := ["script", "pool", "turn", "exits", "many", "rules", "times", "fewer", "before", "one", "k", "a", "b", "gap"]) (k := 41) (d := d_law) F sc_law (by decide) hd fun cdv A outer s H E hr =>
    pss_cons (ps_set (i := 1) sc_law.nd rfl (by first | exact Or.inl rfl | exact Or.inr rfl) (pe_cal c_pool hr (pa_cons (pv 0) pa_nil)))
    (sb_cons (ss_for PassesOwn.never rfl (si_rng1 (by rfl) B.range se_int) (sg_name 2 sc_law.nd) (sb_cons (ss_set 3 sc_law.nd (se_cal c_l_exits hr (lc_p lc_nil) (sc_p 1 sc_nil)))
    (sb_cons (ss_asg (se_var 3) (sg_tup rfl (sgs_cons (sg_name 4 sc_law.nd) (sgs_cons (sg_name 5 sc_law.nd) sgs_nil))))
    (sb_cons (ss_set 6 sc_law.nd (se_cal c_earliest hr (lc_v lc_nil) (sc_v (se_var 3) sc_nil)))
    (sb_cons (ss_if (st_not (st_val (se_cal c_l_same hr (lc_v (lc_v lc_nil)) (sc_v (se_ofF (sf_lst (sa_cons (se_notN (sw_of (se_var 6))) (sa_cons (se_ix (se_cal c_exit_paper hr (lc_v lc_nil) (sc_v (se_var 3) sc_nil)) (sw_of se_int) (.inl rfl)) sa_nil)) (len_cons (len_cons len_nil)))) (sc_v (se_ofF (sf_lst (sa_cons (se_cal c_l_has_times hr (lc_v lc_nil) (sc_v (se_var 3) sc_nil)) (sa_cons (se_if (st_val (se_cal c_l_has_times hr (lc_v lc_nil) (sc_v (se_var 3) sc_nil))) se_str se_str) sa_nil)) (len_cons (len_cons len_nil)))) sc_nil))))) (sb_one (ss_ret se_bl)) sb_nil)
    (sb_cons (ss_set 7 sc_law.nd (se_tup (sa_cons (se_var 4) (sa_cons (se_sl (se_var 5) (so_some se_int) so_none (.inl rfl)) sa_nil)) (len_cons (len_cons len_nil))))
    (sb_cons (ss_set 8 sc_law.nd (se_cal c_earliest hr (lc_v lc_nil) (sc_v (se_var 7) sc_nil)))
    (sb_cons (ss_if (st_isN (sw_of (se_var 6))) (sb_one ss_cont) sb_nil)
    (sb_cons (ss_if (st_bo (sw_or (st_not (st_val (se_cal c_l_are_times hr (lc_v (lc_v lc_nil)) (sc_v (se_var 3) (sc_v (se_var 6) sc_nil))))) (sw_or (st_cmp op_notBA ob_notB (se_cal c_are_times hr (lc_v (lc_v lc_nil)) (sc_v (se_var 3) (sc_v (se_tuple B (sw_of (se_ofF (sf_comp (own := [("one", 9)]) rfl sc_law.nd (si_tup (se_var 6)) (blkOk_by (N := ["script", "pool", "turn", "exits", "many", "rules", "times", "fewer", "before", "one", "k", "a", "b", "gap"]) (sc := defScope s_law) (by decide +kernel)) (fun _ _ _ _ _ => (sg_name 9 sc_law.nd)) (fun _ _ _ _ _ => spts_nil) (fun _ _ _ _ _ => (se_op op_addA os_add (se_var 9) (sw_of se_int) (.inl rfl))))))) sc_nil))) (sw_of se_bl) (.inl rfl) (by rfl)) (sw_or1 (st_isN (sw_of (se_var 8))))))) (sb_one (ss_ret se_bl)) sb_nil)
    (sb_cons (ss_if (st_bo (sw_or (st_cmp (op_gtA (SL.hu64 hr)) ob_gt (se_len B (sw_of (se_ofF (sf_comp (own := [("k", 10)]) rfl sc_law.nd (si_rng1 (by rfl) B.range (se_var 4)) (blkOk_by (N := ["script", "pool", "turn", "exits", "many", "rules", "times", "fewer", "before", "one", "k", "a", "b", "gap"]) (sc := defScope s_law) (by decide +kernel)) (fun _ _ _ _ _ => (sg_name 10 sc_law.nd)) (fun _ _ _ _ _ => (spts_one (st_cmp (op_gtA (SL.hu64 hr)) ob_gt (se_ix (se_var 8) (sw_of (se_var 10)) (.inl rfl)) (sw_of (se_ix (se_var 6) (sw_of (se_var 10)) (.inl rfl))) (.inl rfl) (nomark _)))) (fun _ _ _ _ _ => (se_var 10)))))) (sw_of se_int) (.inl rfl) (nomark _)) (sw_or1 (st_cmp (op_neA (SL.hu64 hr)) ob_ne (se_minL B rfl (SL.hu70 hr) (sw_of (se_var 6))) (sw_of se_int) (.inl rfl) (nomark _))))) (sb_one (ss_ret se_bl)) sb_nil)
    (sb_cons (ss_for PassesOwn.never rfl (si_rng1 (by rfl) B.range (se_var 4)) (sg_name 10 sc_law.nd) (sb_one (ss_if (st_bo (sw_and (st_cmp (op_gtA (SL.hu64 hr)) ob_gt (se_ix (se_var 6) (sw_of (se_var 10)) (.inl rfl)) (sw_of se_int) (.inl rfl) (nomark _)) (sw_and1 (st_val (se_cal c_l_are_times hr (lc_v (lc_v lc_nil)) (sc_v (se_var 3) (sc_v (se_op op_addA os_add (se_op op_addA os_add (se_sl (se_var 6) so_none (so_some (se_var 10)) (.inl rfl)) (sw_of (se_tup (sa_cons (se_op op_sub os_sub (se_ix (se_var 6) (sw_of (se_var 10)) (.inl rfl)) (sw_of se_int) (.inl rfl)) sa_nil) (len_cons len_nil))) (.inl rfl)) (sw_of (se_sl (se_var 6) (so_some (se_op op_addA os_add (se_var 10) (sw_of se_int) (.inl rfl))) so_none (.inl rfl))) (.inl rfl)) sc_nil))))))) (sb_one (ss_ret se_bl)) sb_nil)))
    (sb_one (ss_for PassesOwn.never rfl (si_rng1 (by rfl) B.range (se_var 4)) (sg_name 11 sc_law.nd) (sb_one (ss_for PassesOwn.never rfl (si_rng1 (by rfl) B.range (se_var 4)) (sg_name 12 sc_law.nd) (sb_cons (ss_set 13 sc_law.nd (se_if (st_cmp (op_neA (SL.hu64 hr)) ob_ne (se_var 11) (sw_of (se_var 12)) (.inl rfl) (nomark _)) (se_cal c_least_gap hr (lc_v (lc_v (lc_v lc_nil))) (sc_v (se_var 3) (sc_v (se_var 11) (sc_v (se_var 12) sc_nil)))) se_non))
    (sb_one (ss_if (st_bo (sw_and (st_notN (sw_of (se_var 13))) (sw_and1 (st_bo (sw_or (st_cmp (op_ltA (SL.hu64 hr)) ob_lt (se_op op_sub os_sub (se_ix (se_var 6) (sw_of (se_var 12)) (.inl rfl)) (sw_of (se_ix (se_var 6) (sw_of (se_var 11)) (.inl rfl))) (.inl rfl)) (sw_of (se_var 13)) (.inl rfl) (nomark _)) (sw_or1 (st_not (st_val (se_cal c_l_has_times hr (lc_v lc_nil) (sc_v (se_tup (sa_cons (se_var 4) (sa_cons (se_op op_addA os_add (se_var 5) (sw_of (se_tup (sa_cons (se_tup (sa_cons (se_var 12) (sa_cons (se_var 11) (sa_cons (se_op op_sub os_sub se_int (sw_of (se_var 13)) (.inl rfl)) sa_nil))) (len_cons (len_cons (len_cons len_nil)))) sa_nil) (len_cons len_nil))) (.inl rfl)) sa_nil)) (len_cons (len_cons len_nil))) sc_nil)))))))))) (sb_one (ss_ret se_bl)) sb_nil))))))))))))))))))
    (sb_one (ss_ret se_bl)))
end
theorem all_mk {l : PySem.W.OpenLaw} {w : World} {K : PySem.W.Frag} {h : Heap} {mg : Str → Option Value} {fa : Addr} (X : K.In h) (G : h.Ns mainGlobals mg) (hfa : mg "law" = some (.ref fa)) (hd : ∀ ns : List Int, ns.length ≤ 63 → ∃ e, d_law ([.no, .own (poolOf ns)] ++ List.replicate (nLaw - 2) .no) = some (.rt (.bool true), e))
    (D_is_whole : DefAt K "is_whole" s_is_whole) (D_are_times : DefAt K "are_times" s_are_times) (D_ring_at : DefAt K "ring_at" s_ring_at) (D_longest : DefAt K "longest" s_longest) (D_exit_paper : DefAt K "exit_paper" s_exit_paper) (D_earliest : DefAt K "earliest" s_earliest) (D_least_gap : DefAt K "least_gap" s_least_gap) (D_l_is_integer : DefAt K "_law_is_integer" s_l_is_integer) (D_l_same : DefAt K "_law_same" s_l_same) (D_pool : DefAt K "_law_pool" s_pool) (D_l_spread : DefAt K "_law_spread" s_l_spread) (D_l_draw : DefAt K "_law_draw" s_l_draw) (D_l_pick : DefAt K "_law_pick" s_l_pick) (D_l_exits : DefAt K "_law_exits" s_l_exits) (D_l_are_times : DefAt K "_law_are_times" s_l_are_times) (D_l_far_gaps : DefAt K "_law_far_gaps" s_l_far_gaps) (D_l_has_times : DefAt K "_law_has_times" s_l_has_times)
    {f2 : Addr} {od2 an2 : Option Addr} {sl2 : Array (Option Value)} {oc2 kV2 dc2 pm2 cd2 ct2 : Value} (a2 : PySem.W.nsIn K mainGlobals "law" = some (some (.ref f2))) (l2 : K.lookup f2 = some ⟨oc2, od2, .func (PySem.W.fnOf "law" "law" (defArgs s_law) (defBody s_law) (defScope s_law) .none kV2 dc2 pm2 an2 cd2 ct2), sl2⟩) (c2 : PySem.W.codeIn K cd2 "law" = true) (k2 : PySem.W.keepIn K (.ref f2) = true)
    (z_len : PySem.W.nsIn K mainGlobals "len" = some none) (z_range : PySem.W.nsIn K mainGlobals "range" = some none) (z_isinstance : PySem.W.nsIn K mainGlobals "isinstance" = some none) (z_tuple : PySem.W.nsIn K mainGlobals "tuple" = some none) (z_list : PySem.W.nsIn K mainGlobals "list" = some none) (z_int : PySem.W.nsIn K mainGlobals "int" = some none) (z_bool : PySem.W.nsIn K mainGlobals "bool" = some none) (z_str : PySem.W.nsIn K mainGlobals "str" = some none) (z_sorted : PySem.W.nsIn K mainGlobals "sorted" = some none) (z_min : PySem.W.nsIn K mainGlobals "min" = some none) (z_max : PySem.W.nsIn K mainGlobals "max" = some none) (z_sum : PySem.W.nsIn K mainGlobals "sum" = some none) (z_all : PySem.W.nsIn K mainGlobals "all" = some none) (z_any : PySem.W.nsIn K mainGlobals "any" = some none) (z_abs : PySem.W.nsIn K mainGlobals "abs" = some none) (z_set : PySem.W.nsIn K mainGlobals "set" = some none) (z_zip : PySem.W.nsIn K mainGlobals "zip" = some none) (z_reversed : PySem.W.nsIn K mainGlobals "reversed" = some none) (z_repr : PySem.W.nsIn K mainGlobals "repr" = some none)
    : ∃ fd : FuncData, (∀ (s : Shared) (v : Value), BindsTo s fd ⟨[v], []⟩ [("script", v)]) ∧ ∀ base : Heap, K.In base → base.Ns mainGlobals mg → FnOk l.prog w K mg base CX0 42 fa fd ["script"] (spLaw K) := by
  have e := hfa.symm.trans (PySem.W.mg_of X G a2)
  cases e
  have FL := fun_mk (st := s_law) l2 c2 k2
  have B : Blt mg := ⟨PySem.W.mg_none_of X G z_len, PySem.W.mg_none_of X G z_range, PySem.W.mg_none_of X G z_isinstance, PySem.W.mg_none_of X G z_tuple, PySem.W.mg_none_of X G z_list, PySem.W.mg_none_of X G z_int, PySem.W.mg_none_of X G z_bool, PySem.W.mg_none_of X G z_str, PySem.W.mg_none_of X G z_sorted, PySem.W.mg_none_of X G z_min, PySem.W.mg_none_of X G z_max, PySem.W.mg_none_of X G z_sum, PySem.W.mg_none_of X G z_all, PySem.W.mg_none_of X G z_any, PySem.W.mg_none_of X G z_abs, PySem.W.mg_none_of X G z_set, PySem.W.mg_none_of X G z_zip, PySem.W.mg_none_of X G z_reversed, PySem.W.mg_none_of X G z_repr⟩
  refine ⟨PySem.W.fnOf "law" "law" (defArgs s_law) (defBody s_law) (defScope s_law) .none kV2 dc2 pm2 an2 cd2 ct2, fun s v => .of_eq rfl, fun base Z Y => ?_⟩
  have c_is_whole : Cal l.prog w K mg base "is_whole" 1 ["value"] (spOf K 1 F_is_whole) := cal_mk X G D_is_whole (fun _ _ _ _ _ _ us hl => match us, hl with | [_], _ => rfl) fun F => ok_is_whole B  F
  have c_are_times : Cal l.prog w K mg base "are_times" 2 ["exits", "value"] (spOf K 2 F_are_times) := cal_mk X G D_are_times (fun _ _ _ _ _ _ us hl => match us, hl with | [_, _], _ => rfl) fun F => ok_are_times B c_is_whole F
  have c_ring_at : Cal l.prog w K mg base "ring_at" 1 ["exits", "last", "here"] (spOf K 3 F_ring_at) := cal_mk X G D_ring_at (fun _ _ _ _ _ _ us hl => match us, hl with | [_, _, _], _ => rfl) fun F => ok_ring_at B  F
  have c_longest : Cal l.prog w K mg base "longest" 2 ["exits", "first"] (spOf K 2 F_longest) := cal_mk X G D_longest (fun _ _ _ _ _ _ us hl => match us, hl with | [_, _], _ => rfl) fun F => ok_longest B c_ring_at F
  have c_exit_paper : Cal l.prog w K mg base "exit_paper" 3 ["exits"] (spOf K 1 F_exit_paper) := cal_mk X G D_exit_paper (fun _ _ _ _ _ _ us hl => match us, hl with | [_], _ => rfl) fun F => ok_exit_paper B c_longest F
  have c_earliest : Cal l.prog w K mg base "earliest" 4 ["exits"] (spOf K 1 F_earliest) := cal_mk X G D_earliest (fun _ _ _ _ _ _ us hl => match us, hl with | [_], _ => rfl) fun F => ok_earliest B c_exit_paper F
  have c_least_gap : Cal l.prog w K mg base "least_gap" 3 ["exits", "a", "b"] (spOf K 3 F_least_gap) := cal_mk X G D_least_gap (fun _ _ _ _ _ _ us hl => match us, hl with | [_, _, _], _ => rfl) fun F => ok_least_gap B c_longest F
  have c_l_is_integer : Cal l.prog w K mg base "_law_is_integer" 1 ["actual"] (spOf K 1 F_l_is_integer) := cal_mk X G D_l_is_integer (fun _ _ _ _ _ _ us hl => match us, hl with | [_], _ => rfl) fun F => ok_l_is_integer B  F
  have c_l_same : Cal l.prog w K mg base "_law_same" 41 ["actual", "due"] (spOf K 2 F_l_same) := rec_l_same B  X G D_l_same (fun _ _ _ _ _ _ us hl => match us, hl with | [_, _], _ => rfl) (fun c => stp_l_same B  c)
  have c_pool : Cal l.prog w K mg base "_law_pool" 1 ["script"] (spPool K) := cal_mk X G D_pool (fun _ _ _ _ _ _ us hl => match us, hl with | [_], _ => rfl) fun F => ok_pool B  F
  have c_l_spread : Cal l.prog w K mg base "_law_spread" 1 ["cell"] (spOf K 1 F_l_spread) := cal_mk X G D_l_spread (fun _ _ _ _ _ _ us hl => match us, hl with | [_], _ => rfl) fun F => ok_l_spread B  F
  have c_l_draw : Cal l.prog w K mg base "_law_draw" 2 ["pool", "many"] (spOf K 2 F_l_draw) := cal_mk X G D_l_draw (fun _ _ _ _ _ _ us hl => match us, hl with | [_, _], _ => rfl) fun F => ok_l_draw B c_l_spread F
  have c_l_pick : Cal l.prog w K mg base "_law_pick" 3 ["pool", "items"] (spOf K 2 F_l_pick) := cal_mk X G D_l_pick (fun _ _ _ _ _ _ us hl => match us, hl with | [_, _], _ => rfl) fun F => ok_l_pick B c_l_draw F
  have c_l_exits : Cal l.prog w K mg base "_law_exits" 4 ["pool"] (spOf K 1 F_l_exits) := cal_mk X G D_l_exits (fun _ _ _ _ _ _ us hl => match us, hl with | [_], _ => rfl) fun F => ok_l_exits B c_l_draw c_l_pick F
  have c_l_are_times : Cal l.prog w K mg base "_law_are_times" 2 ["exits", "value"] (spOf K 2 F_l_are_times) := cal_mk X G D_l_are_times (fun _ _ _ _ _ _ us hl => match us, hl with | [_, _], _ => rfl) fun F => ok_l_are_times B c_l_is_integer F
  have c_l_far_gaps : Cal l.prog w K mg base "_law_far_gaps" 1 ["exits"] (spOf K 1 F_l_far_gaps) := cal_mk X G D_l_far_gaps (fun _ _ _ _ _ _ us hl => match us, hl with | [_], _ => rfl) fun F => ok_l_far_gaps B  F
  have c_l_has_times : Cal l.prog w K mg base "_law_has_times" 2 ["exits"] (spOf K 1 F_l_has_times) := cal_mk X G D_l_has_times (fun _ _ _ _ _ _ us hl => match us, hl with | [_], _ => rfl) fun F => ok_l_has_times B c_l_far_gaps F
  exact ok_law hd B c_pool c_l_exits c_earliest c_l_same c_l_are_times c_are_times c_l_has_times c_least_gap c_exit_paper FL
end SL
open PySem PySem.W PyProof.Rows
set_option maxHeartbeats 0 in
theorem PySem.Challenge.cw_sureland_k48_whole_times_and_gaps_holds : PySem.Challenge.rw_sureland_k48_whole_times_and_gaps.Holds := by
  w_on; o_law; k_head; (case hw => w_witness2)
  k_fill
  refine L2.walk_of (l := PySem.Challenge.rw_sureland_k48_whole_times_and_gaps) (n := 63) (k := 42) (x := "script") (CX := fun _ => L2.CX0) (sp := fun w => SL.spLaw _) rfl (by decide) rfl ⟨rfl, by decide, by decide⟩ (fun w h Y => PySem.W.kIn_of Y) ?F (fun _ _ a ns hl _ hS => ⟨a, ns, rfl, hS, hl, fun _ => rfl⟩) (fun _ _ _ _ _ h => h)
  case F =>
    intro w mg fa h KX G hmg
    refine' SL.all_mk KX G hmg SL.law_holds (SL.defAt ?a_is_whole ?l_is_whole ?c_is_whole ?k_is_whole) (SL.defAt ?a_are_times ?l_are_times ?c_are_times ?k_are_times) (SL.defAt ?a_ring_at ?l_ring_at ?c_ring_at ?k_ring_at) (SL.defAt ?a_longest ?l_longest ?c_longest ?k_longest) (SL.defAt ?a_exit_paper ?l_exit_paper ?c_exit_paper ?k_exit_paper) (SL.defAt ?a_earliest ?l_earliest ?c_earliest ?k_earliest) (SL.defAt ?a_least_gap ?l_least_gap ?c_least_gap ?k_least_gap) (SL.defAt ?a_l_is_integer ?l_l_is_integer ?c_l_is_integer ?k_l_is_integer) (SL.defAt ?a_l_same ?l_l_same ?c_l_same ?k_l_same) (SL.defAt ?a_pool ?l_pool ?c_pool ?k_pool) (SL.defAt ?a_l_spread ?l_l_spread ?c_l_spread ?k_l_spread) (SL.defAt ?a_l_draw ?l_l_draw ?c_l_draw ?k_l_draw) (SL.defAt ?a_l_pick ?l_l_pick ?c_l_pick ?k_l_pick) (SL.defAt ?a_l_exits ?l_l_exits ?c_l_exits ?k_l_exits) (SL.defAt ?a_l_are_times ?l_l_are_times ?c_l_are_times ?k_l_are_times) (SL.defAt ?a_l_far_gaps ?l_l_far_gaps ?c_l_far_gaps ?k_l_far_gaps) (SL.defAt ?a_l_has_times ?l_l_has_times ?c_l_has_times ?k_l_has_times) ?a2 ?l2 ?c2 ?k2 ?z_len ?z_range ?z_isinstance ?z_tuple ?z_list ?z_int ?z_bool ?z_str ?z_sorted ?z_min ?z_max ?z_sum ?z_all ?z_any ?z_abs ?z_set ?z_zip ?z_reversed ?z_repr
    (case a_is_whole => k_is); (case l_is_whole => k_is); (case c_is_whole => k_is); (case k_is_whole => k_is)
    (case a_are_times => k_is); (case l_are_times => k_is); (case c_are_times => k_is); (case k_are_times => k_is)
    (case a_ring_at => k_is); (case l_ring_at => k_is); (case c_ring_at => k_is); (case k_ring_at => k_is)
    (case a_longest => k_is); (case l_longest => k_is); (case c_longest => k_is); (case k_longest => k_is)
    (case a_exit_paper => k_is); (case l_exit_paper => k_is); (case c_exit_paper => k_is); (case k_exit_paper => k_is)
    (case a_earliest => k_is); (case l_earliest => k_is); (case c_earliest => k_is); (case k_earliest => k_is)
    (case a_least_gap => k_is); (case l_least_gap => k_is); (case c_least_gap => k_is); (case k_least_gap => k_is)
    (case a_l_is_integer => k_is); (case l_l_is_integer => k_is); (case c_l_is_integer => k_is); (case k_l_is_integer => k_is)
    (case a_l_same => k_is); (case l_l_same => k_is); (case c_l_same => k_is); (case k_l_same => k_is)
    (case a_pool => k_is); (case l_pool => k_is); (case c_pool => k_is); (case k_pool => k_is)
    (case a_l_spread => k_is); (case l_l_spread => k_is); (case c_l_spread => k_is); (case k_l_spread => k_is)
    (case a_l_draw => k_is); (case l_l_draw => k_is); (case c_l_draw => k_is); (case k_l_draw => k_is)
    (case a_l_pick => k_is); (case l_l_pick => k_is); (case c_l_pick => k_is); (case k_l_pick => k_is)
    (case a_l_exits => k_is); (case l_l_exits => k_is); (case c_l_exits => k_is); (case k_l_exits => k_is)
    (case a_l_are_times => k_is); (case l_l_are_times => k_is); (case c_l_are_times => k_is); (case k_l_are_times => k_is)
    (case a_l_far_gaps => k_is); (case l_l_far_gaps => k_is); (case c_l_far_gaps => k_is); (case k_l_far_gaps => k_is)
    (case a_l_has_times => k_is); (case l_l_has_times => k_is); (case c_l_has_times => k_is); (case k_l_has_times => k_is)
    (case a2 => k_is); (case l2 => k_is); (case c2 => k_is); (case k2 => k_is)
    (case z_len => k_is)
    (case z_range => k_is)
    (case z_isinstance => k_is)
    (case z_tuple => k_is)
    (case z_list => k_is)
    (case z_int => k_is)
    (case z_bool => k_is)
    (case z_str => k_is)
    (case z_sorted => k_is)
    (case z_min => k_is)
    (case z_max => k_is)
    (case z_sum => k_is)
    (case z_all => k_is)
    (case z_any => k_is)
    (case z_abs => k_is)
    (case z_set => k_is)
    (case z_zip => k_is)
    (case z_reversed => k_is)
    (case z_repr => k_is)
