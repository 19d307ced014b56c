import PyProof.Rows.All
import Wide.All
import OpenK.AllK
import Wide.FinOn
import PySem.Challenge.RW_keptpages_k77_whole_told_apart
import HandS.ForMost
import HandS.Deep
import HandS.Walk
import HandS.Zip
import HandS.Lambda
import KE.KDictKeyed
import KE.SortCalls
import HandS.TupAny
import HandS.Style
import HandS.IsInst
import HandS.TupMul
import KE.GoesEnum
import KE.KDictWalk
import KE.SortData
import KE.KDictCopyH
import HandS.TupLen
import HandS.Iter
import HandS.SetTxt0
import HandS.SetFor
import KE.KIntText
import KE.DataMinKey
import HandS.SortKw
import KE.SortKeyHeap
import HandS.EndTab
set_option Elab.async false
set_option maxRecDepth 100000
set_option linter.all false
/-! DL0: data of the def's slots, what stands frozen (Z), what a def owns; the relation of slots and heap. -/
namespace DL
open PySem L2

/-- the module's fixed things -/
structure Me where
  P : Program
  w : World
  K : PySem.W.Frag
  mg : Str → Option Value
  base : Heap
  LC : Addr
  T : List (Addr × PySem.Str)

mutual
/-- plain data over the frozen heap: its lists and tuples stand there -/
inductive Pd (Z : Hp) : V → PyData → Prop
  | non : Pd Z .non .none
  | bl (b : Bool) : Pd Z (.bl b) (.bool b)
  | int (i : Int) : Pd Z (.int i) (.int i)
  | str (x : Str) : Pd Z (.str x) (.str x)
  | lst {a : Addr} {xs : List V} {ds : List PyData} : Z a = some (.lst xs) → PdAll Z xs ds → Pd Z (.ref a) (.list ds)
  | tup {a : Addr} {xs : List V} {ds : List PyData} : Z a = some (.tup xs) → PdAll Z xs ds → Pd Z (.ref a) (.tuple ds)
inductive PdAll (Z : Hp) : List V → List PyData → Prop
  | nil : PdAll Z [] []
  | cons {v : V} {vs : List V} {d : PyData} {ds : List PyData} : Pd Z v d → PdAll Z vs ds → PdAll Z (v :: vs) (d :: ds)
end
def Pl (M : Me) (Z : Hp) (v : V) (d : PyData) : Prop := Pd Z v d ∧ d.canLay0 = true
def PlA (M : Me) (Z : Hp) (vs : List V) (ds : List PyData) : Prop := PdAll Z vs ds ∧ PyData.canLayAll0 ds = true

/-- Z grows -/
def Le (Z Z' : Hp) : Prop := ∀ a o, Z a = some o → Z' a = some o
theorem Le.refl (Z : Hp) : Le Z Z := fun _ _ h => h
theorem Le.trans {A B C : Hp} (h : Le A B) (k : Le B C) : Le A C := fun a o e => k a o (h a o e)
theorem Le.rd {Z Z' : Hp} (h : Le Z Z') {a : Addr} {u : HO} (r : Rd Z a u) : Rd Z' a u := by
  rcases r with r | ⟨o, r⟩
  · exact .inl (h _ _ r)
  · exact .inr ⟨o, h _ _ r⟩
theorem Le.sql {K : PySem.W.Frag} {Z Z' : Hp} (h : Le Z Z') {a : Addr} {xs : List V} (r : SqL K Z a xs) : SqL K Z' a xs := by
  rcases r with r | r
  · exact .inl (h.rd r)
  · exact .inr r
theorem Le.sqt {K : PySem.W.Frag} {Z Z' : Hp} (h : Le Z Z') {a : Addr} {xs : List V} (r : SqT K Z a xs) : SqT K Z' a xs := by
  rcases r with r | r
  · exact .inl (h.rd r)
  · exact .inr r
mutual
theorem dp_mono {Z Z' : Hp} (h : Le Z Z') : ∀ (d : PyData) (v : V), Pd Z v d → Pd Z' v d
  | .none, _, q => by cases q; exact .non
  | .bool b, _, q => by cases q; exact .bl b
  | .int i, _, q => by cases q; exact .int i
  | .str x, _, q => by cases q; exact .str x
  | .list ds, _, q => by
    cases q with
    | lst s a => exact .lst (h _ _ s) (dpAll_mono h ds _ a)
  | .tuple ds, _, q => by
    cases q with
    | tup s a => exact .tup (h _ _ s) (dpAll_mono h ds _ a)
  | .dict _, _, q => by cases q
theorem dpAll_mono {Z Z' : Hp} (h : Le Z Z') : ∀ (ds : List PyData) (vs : List V), PdAll Z vs ds → PdAll Z' vs ds
  | [], _, q => by cases q; exact .nil
  | d :: ds, _, q => by
    cases q with
    | cons q1 q2 => exact .cons (dp_mono h d _ q1) (dpAll_mono h ds _ q2)
end
mutual
/-- as the library's data -/
theorem pd_dp {K : PySem.W.Frag} {Z H : Hp} (h : Le Z H) : ∀ (d : PyData) (v : V), Pd Z v d → Dp K H v d
  | .none, _, q => by cases q; exact .non
  | .bool b, _, q => by cases q; exact .bl b
  | .int i, _, q => by cases q; exact .int i
  | .str x, _, q => by cases q; exact .str x
  | .list ds, _, q => by
    cases q with
    | lst s a => exact .lst (SqL.of (h _ _ s)) (pdAll_dp h ds _ a)
  | .tuple ds, _, q => by
    cases q with
    | tup s a => exact .tup (SqT.of (h _ _ s)) (pdAll_dp h ds _ a)
  | .dict _, _, q => by cases q
theorem pdAll_dp {K : PySem.W.Frag} {Z H : Hp} (h : Le Z H) : ∀ (ds : List PyData) (vs : List V), PdAll Z vs ds → DpAll K H vs ds
  | [], _, q => by cases q; exact .nil
  | d :: ds, _, q => by
    cases q with
    | cons q1 q2 => exact .cons (pd_dp h d _ q1) (pdAll_dp h ds _ q2)
end
theorem Pl.dp {M : Me} {Z H : Hp} {v : V} {d : PyData} (q : Pl M Z v d) (h : Le Z H) : Dp M.K H v d := pd_dp h d v q.1
theorem PlA.dp {M : Me} {Z H : Hp} {v : List V} {d : List PyData} (q : PlA M Z v d) (h : Le Z H) : DpAll M.K H v d := pdAll_dp h d v q.1
theorem Pl.mono {M : Me} {Z Z' : Hp} {v : V} {d : PyData} (q : Pl M Z v d) (h : Le Z Z') : Pl M Z' v d := ⟨dp_mono h d v q.1, q.2⟩
theorem PlA.mono {M : Me} {Z Z' : Hp} {v : List V} {d : List PyData} (q : PlA M Z v d) (h : Le Z Z') : PlA M Z' v d := ⟨dpAll_mono h d v q.1, q.2⟩
theorem PlA.nil {M : Me} {Z : Hp} : PlA M Z [] [] := ⟨.nil, rfl⟩
theorem canLay_cons {d : PyData} {ds : List PyData} : PyData.canLayAll0 (d :: ds) = true ↔ d.canLay0 = true ∧ PyData.canLayAll0 ds = true := by
  simp [PyData.canLayAll0]
theorem PlA.cons {M : Me} {Z : Hp} {v : V} {d : PyData} {vs : List V} {ds : List PyData} (q : Pl M Z v d) (r : PlA M Z vs ds) : PlA M Z (v :: vs) (d :: ds) := ⟨.cons q.1 r.1, canLay_cons.mpr ⟨q.2, r.2⟩⟩
theorem PlA.cons_inv {M : Me} {Z : Hp} {vs : List V} {d : PyData} {ds : List PyData} (q : PlA M Z vs (d :: ds)) : ∃ v r, vs = v :: r ∧ Pl M Z v d ∧ PlA M Z r ds := by
  obtain ⟨q1, q2⟩ := q
  cases q1 with
  | cons a b => exact ⟨_, _, rfl, ⟨a, (canLay_cons.mp q2).1⟩, ⟨b, (canLay_cons.mp q2).2⟩⟩
theorem PlA.nil_inv {M : Me} {Z : Hp} {vs : List V} (q : PlA M Z vs []) : vs = [] := by
  obtain ⟨q1, _⟩ := q
  cases q1; rfl
theorem PlA.length {M : Me} {Z : Hp} : ∀ {vs : List V} {ds : List PyData}, PlA M Z vs ds → vs.length = ds.length
  | _, [], q => by rw [q.nil_inv]; rfl
  | _, d :: ds, q => by
    obtain ⟨v, r, rfl, _, h⟩ := q.cons_inv
    simp [h.length]
theorem PlA.get {M : Me} {Z : Hp} : ∀ {vs : List V} {ds : List PyData} {i : Nat} {d : PyData}, PlA M Z vs ds → ds[i]? = some d → ∃ v, vs[i]? = some v ∧ Pl M Z v d
  | _, [], _, _, _, h => by simp at h
  | _, e :: ds, i, d, q, h => by
    obtain ⟨v, r, rfl, a, b⟩ := q.cons_inv
    cases i with
    | zero => simp only [List.getElem?_cons_zero, Option.some.injEq] at h; subst h; exact ⟨v, rfl, a⟩
    | succ i => simp only [List.getElem?_cons_succ] at h ⊢; exact b.get h
theorem PlA.getV {M : Me} {Z : Hp} : ∀ {vs : List V} {ds : List PyData} {i : Nat} {v : V}, PlA M Z vs ds → vs[i]? = some v → ∃ d, ds[i]? = some d ∧ Pl M Z v d
  | _, [], _, _, q, h => by rw [q.nil_inv] at h; simp at h
  | _, e :: ds, i, d, q, h => by
    obtain ⟨v, r, rfl, a, b⟩ := q.cons_inv
    cases i with
    | zero => simp only [List.getElem?_cons_zero, Option.some.injEq] at h; subst h; exact ⟨e, rfl, a⟩
    | succ i => simp only [List.getElem?_cons_succ] at h ⊢; exact b.getV h
theorem PlA.append {M : Me} {Z : Hp} : ∀ {vs ws : List V} {ds es : List PyData}, PlA M Z vs ds → PlA M Z ws es → PlA M Z (vs ++ ws) (ds ++ es)
  | _, _, [], _, q, r => by rw [q.nil_inv]; exact r
  | _, _, d :: ds, _, q, r => by
    obtain ⟨v, t, rfl, a, b⟩ := q.cons_inv
    exact .cons a (b.append r)
theorem PlA.drop {M : Me} {Z : Hp} : ∀ {vs : List V} {ds : List PyData} (n : Nat), PlA M Z vs ds → PlA M Z (vs.drop n) (ds.drop n)
  | _, [], n, q => by rw [q.nil_inv]; simp; exact .nil
  | _, d :: ds, n, q => by
    obtain ⟨v, t, rfl, a, b⟩ := q.cons_inv
    cases n with
    | zero => exact .cons a b
    | succ n => simpa using b.drop n
theorem PlA.take {M : Me} {Z : Hp} : ∀ {vs : List V} {ds : List PyData} (n : Nat), PlA M Z vs ds → PlA M Z (vs.take n) (ds.take n)
  | _, [], n, q => by rw [q.nil_inv]; simp; exact .nil
  | _, d :: ds, n, q => by
    obtain ⟨v, t, rfl, a, b⟩ := q.cons_inv
    cases n with
    | zero => exact .nil
    | succ n => simpa using PlA.cons a (b.take n)
theorem Pl.str {M : Me} {Z : Hp} {x : Str} (h : PyData.strOk x = true) : Pl M Z (.str x) (.str x) := ⟨.str x, by simpa [PyData.canLay0] using h⟩
theorem Pl.str_inv {M : Me} {Z : Hp} {v : V} {x : Str} (h : Pl M Z v (.str x)) : v = .str x ∧ PyData.strOk x = true := by
  obtain ⟨a, b⟩ := h
  cases a
  exact ⟨rfl, by simpa [PyData.canLay0] using b⟩
theorem Pl.int {M : Me} {Z : Hp} {i : Int} : Pl M Z (.int i) (.int i) := ⟨.int i, rfl⟩
theorem Pl.bl {M : Me} {Z : Hp} {i : Bool} : Pl M Z (.bl i) (.bool i) := ⟨.bl i, rfl⟩
theorem Pl.non {M : Me} {Z : Hp} : Pl M Z .non .none := ⟨.non, rfl⟩
theorem Pl.int_inv {M : Me} {Z : Hp} {v : V} {x : Int} (h : Pl M Z v (.int x)) : v = .int x := by
  obtain ⟨a, b⟩ := h; cases a; rfl
theorem Pl.bl_inv {M : Me} {Z : Hp} {v : V} {x : Bool} (h : Pl M Z v (.bool x)) : v = .bl x := by
  obtain ⟨a, b⟩ := h; cases a; rfl
theorem Pl.non_inv {M : Me} {Z : Hp} {v : V} (h : Pl M Z v .none) : v = .non := by
  obtain ⟨a, b⟩ := h; cases a; rfl
theorem Pl.lst {M : Me} {Z : Hp} {a : Addr} {xs : List V} {ds : List PyData} (h : Z a = some (.lst xs)) (q : PlA M Z xs ds) : Pl M Z (.ref a) (.list ds) := ⟨.lst h q.1, by simpa [PyData.canLay0] using q.2⟩
theorem Pl.tup {M : Me} {Z : Hp} {a : Addr} {xs : List V} {ds : List PyData} (h : Z a = some (.tup xs)) (q : PlA M Z xs ds) : Pl M Z (.ref a) (.tuple ds) := ⟨.tup h q.1, by simpa [PyData.canLay0] using q.2⟩
theorem Pl.lst_inv {M : Me} {Z : Hp} {v : V} {ds : List PyData} (h : Pl M Z v (.list ds)) : ∃ a xs, v = .ref a ∧ Z a = some (.lst xs) ∧ PlA M Z xs ds := by
  obtain ⟨a, b⟩ := h
  cases a with
  | lst s q => exact ⟨_, _, rfl, s, q, by simpa [PyData.canLay0] using b⟩
theorem Pl.tup_inv {M : Me} {Z : Hp} {v : V} {ds : List PyData} (h : Pl M Z v (.tuple ds)) : ∃ a xs, v = .ref a ∧ Z a = some (.tup xs) ∧ PlA M Z xs ds := by
  obtain ⟨a, b⟩ := h
  cases a with
  | tup s q => exact ⟨_, _, rfl, s, q, by simpa [PyData.canLay0] using b⟩

/-! ### dicts -/
/-- the object at a is o -/
def exD (a : Addr) (o : Obj) : HO := .ext fun h => h.get? a = some o ∧ (a == sysModules) = false
/-- a text dict's pairs -/
def SKV (M : Me) (Z : Hp) : List (Key × V) → List (PyData × PyData) → Prop :=
  Paired fun p q => ∃ x, p.1 = Sum.inr x ∧ q.1 = .str x ∧ PyData.strOk x = true ∧ Pl M Z p.2 q.2
/-- a text dict over the frozen heap -/
def SDc (M : Me) (Z : Hp) (v : V) (d : PyData) : Prop := ∃ a ks kvs, v = .ref a ∧ d = .dict kvs ∧ Z a = some (.dK ks) ∧ SKV M Z ks kvs
mutual
/-- a key as the library's nested keys have it -/
def nk : PyData → NestedKey
  | .str x => .text x
  | .tuple ds => .tup (nks ds)
  | .none => .none
  | .int i => .num i
  | .bool _ => .none
  | .list _ => .none
  | .dict _ => .none
def nks : List PyData → List NestedKey
  | [] => []
  | d :: ds => nk d :: nks ds
end
mutual
/-- texts and tuples of such -/
def isKey : PyData → Bool
  | .str _ => true
  | .tuple ds => areKeys ds
  | .none => false
  | .int _ => false
  | .bool _ => false
  | .list _ => false
  | .dict _ => false
def areKeys : List PyData → Bool
  | [] => true
  | d :: ds => isKey d && areKeys ds
end
/-- a tuple that may be a key -/
def tupKey (d : PyData) : Bool := match d with
  | .tuple ds => areKeys ds && decide (PyData.depthAll ds ≤ 7)
  | _ => false
def TEnt (M : Me) (Z : Hp) (e : DictEntry) (kv : PyData × PyData) : Prop :=
  ∃ b v, e.key = .ref b ∧ e.hash = (nk kv.1).hash M.w ∧ Pl M Z (.ref b) kv.1 ∧ tupKey kv.1 = true ∧ RelV v e.val ∧ (Pl M Z v kv.2 ∨ SDc M Z v kv.2)
/-- a dict's object whose keys are tuples -/
def TObj (M : Me) (Z : Hp) (o : Obj) (kvs : List (PyData × PyData)) : Prop :=
  o.ExactDict ∧ ∃ es ep, o.data = .dict es ep ∧ Paired (TEnt M Z) es.toList kvs ∧ (kvs.map fun kv => nk kv.1).Nodup ∧ kvs.length ≤ sizeLine
def tdic (kvs : List (PyData × PyData)) : PyData := .dict ((.int 0, .none) :: kvs)
def lis (f p q : PyData) : PyData := .dict [(.int 1, f), (.int 2, p), (.int 3, q)]
/-- the script -/
def scr (ns : List Int) : PyData := .dict [(.int 4, .list (ns.map .int))]
def lisF (f p q : V) : List (Str × V) := [("folders", f), ("pages", p), ("pairs", q)]
/-- frozen data of any kind -/
inductive FD (M : Me) (Z : Hp) : V → PyData → Prop
  | pl {v d} : Pl M Z v d → FD M Z v d
  | ds {v d} : SDc M Z v d → FD M Z v d
  | dt {a o kvs} : Z a = some (exD a o) → TObj M Z o kvs → FD M Z (.ref a) (tdic kvs)
  | li {a dx f p q f' p' q'} : Z a = some (.ins M.LC dx (lisF f p q)) → Pl M Z f f' → Pl M Z p p' → Pl M Z q q' → FD M Z (.ref a) (lis f' p' q')
  | sc {a ns} : SqL M.K Z a (ns.map V.int) → FD M Z (.ref a) (scr ns)
theorem paired_mono {α β : Type} {F G : α → β → Prop} {l : List α} {m : List β} (q : Paired F l m) (h : ∀ a b, F a b → G a b) : Paired G l m := L2.Paired.mapP q h
theorem SKV.mono {M : Me} {Z Z' : Hp} {a : List (Key × V)} {b : List (PyData × PyData)} (q : SKV M Z a b) (h : Le Z Z') : SKV M Z' a b :=
  paired_mono q fun _ _ ⟨x, e1, e2, e3, e4⟩ => ⟨x, e1, e2, e3, e4.mono h⟩
theorem SDc.mono {M : Me} {Z Z' : Hp} {v : V} {d : PyData} (q : SDc M Z v d) (h : Le Z Z') : SDc M Z' v d := by
  obtain ⟨a, ks, kvs, e1, e2, e3, e4⟩ := q
  exact ⟨a, ks, kvs, e1, e2, h _ _ e3, e4.mono h⟩
theorem TObj.mono {M : Me} {Z Z' : Hp} {o : Obj} {kvs : List (PyData × PyData)} (q : TObj M Z o kvs) (h : Le Z Z') : TObj M Z' o kvs := by
  obtain ⟨e1, es, ep, e2, e3, e4⟩ := q
  refine ⟨e1, es, ep, e2, paired_mono e3 ?_, e4⟩
  rintro e kv ⟨b, v, h1, h2, h3, h4, h5, h6⟩
  exact ⟨b, v, h1, h2, h3.mono h, h4, h5, h6.imp (fun z => z.mono h) fun z => z.mono h⟩
theorem FD.mono {M : Me} {Z Z' : Hp} {v : V} {d : PyData} (q : FD M Z v d) (h : Le Z Z') : FD M Z' v d := by
  cases q with
  | pl q => exact .pl (q.mono h)
  | ds q => exact .ds (q.mono h)
  | dt e q => exact .dt (h _ _ e) (q.mono h)
  | li e a b c => exact .li (h _ _ e) (a.mono h) (b.mono h) (c.mono h)
  | sc e => exact .sc (h.sql e)

/-! ### slots -/
abbrev Sg := L2.St
inductive SV where
  | fr (d : PyData)
  | own (d : PyData)
abbrev SD := List (Option SV)
/-- what a def owns at a -/
inductive OwnAt (M : Me) (Z H : Hp) (a : Addr) : PyData → Prop
  | lst {xs ds} : H a = some (.lst xs) → PlA M Z xs ds → OwnAt M Z H a (.list ds)
  | ds {ks kvs} : H a = some (.dK ks) → SKV M Z ks kvs → OwnAt M Z H a (.dict kvs)
  | dt {o kvs} : H a = some (exD a o) → TObj M Z o kvs → OwnAt M Z H a (tdic kvs)
theorem OwnAt.mono {M : Me} {Z Z' H H' : Hp} {a : Addr} {d : PyData} (q : OwnAt M Z H a d) (h : Le Z Z') (e : ∀ o, H a = some o → (∀ ps, o ≠ .tbl ps) → H' a = some o) : OwnAt M Z' H' a d := by
  cases q with
  | lst h1 h2 => exact .lst (e _ h1 fun _ z => by cases z) (h2.mono h)
  | ds h1 h2 => exact .ds (e _ h1 fun _ z => by cases z) (h2.mono h)
  | dt h1 h2 => exact .dt (e _ h1 fun _ z => by cases z) (h2.mono h)
theorem OwnAt.ex {M : Me} {Z H : Hp} {a : Addr} {d : PyData} (q : OwnAt M Z H a d) : ∃ o, H a = some o := by
  cases q with
  | lst h1 h2 => exact ⟨_, h1⟩
  | ds h1 h2 => exact ⟨_, h1⟩
  | dt h1 h2 => exact ⟨_, h1⟩
theorem code_free (c : Addr) (q : PySem.Str) : ∃ h : Heap, h.get? c = some { cls := .none, data := .fields #[.none, .str q 0] } := by
  refine ⟨{ objs := Array.replicate (c + 1) { cls := .none, data := .fields #[.none, .str q 0] } }, ?_⟩
  have e : (Array.replicate (c + 1) ({ cls := .none, data := .fields #[.none, .str q 0] } : Obj))[c]? = some { cls := .none, data := .fields #[.none, .str q 0] } := by
    rw [Array.getElem?_replicate, if_pos (Nat.lt_succ_self c)]
  unfold Heap.get?
  dsimp only
  rw [e]
theorem OwnAt.nt {M : Me} {Z H : Hp} {a : Addr} {d : PyData} (q : OwnAt M Z H a d) {o : HO} (e : H a = some o) : (∀ ps, o ≠ .tbl ps) ∧ ∀ c, o ≠ LamX.CodeO a c := by
  cases q with
  | lst h1 h2 => rw [h1] at e; cases e; exact ⟨(fun _ z => by cases z), fun _ z => by unfold LamX.CodeO at z; cases z⟩
  | ds h1 h2 => rw [h1] at e; cases e; exact ⟨(fun _ z => by cases z), fun _ z => by unfold LamX.CodeO at z; cases z⟩
  | @dt o' kvs h1 h2 =>
    rw [h1] at e; cases e
    refine ⟨(fun _ z => by unfold exD at z; cases z), fun c z => ?_⟩
    obtain ⟨_, es, ep, hd, _⟩ := h2
    unfold LamX.CodeO exD at z
    have z' := HO.ext.inj z
    obtain ⟨h, hh⟩ := code_free a c
    have q1 := congrFun z' h
    have q2 : (∃ (oc : Obj) (vs : Array Value) (t : Tok), h.get? a = some oc ∧ oc.data = .fields vs ∧ vs[1]? = some (.str c t)) := ⟨_, _, 0, hh, rfl, rfl⟩
    rw [← q1] at q2
    obtain ⟨q3, _⟩ := q2
    rw [hh] at q3
    cases q3
    cases hd
/-- no table is frozen -/
def NT (Z : Hp) : Prop := ∀ a ps, Z a ≠ some (.tbl ps)
/-- the tables of code objects -/
def Tbs (M : Me) (H : Hp) : Prop := LamX.Tabs M.T H
theorem tabs_upd {H : Hp} {p : Addr} {o : HO} (h : ∀ u, H p = some u → (∀ ps, u ≠ .tbl ps) ∧ ∀ c, u ≠ LamX.CodeO p c) : ∀ P q, LamX.TabS H P q → LamX.TabS (upd H p o) P q := by
  rintro P q ⟨ps, h1, h2, h3⟩
  have n : P ≠ p := fun z => by rw [z] at h1; exact (h _ h1).1 ps rfl
  refine ⟨ps, by rw [upd_ne n]; exact h1, h2, fun pos cv hc => ?_⟩
  obtain ⟨c, e1, e2⟩ := h3 pos cv hc
  have n2 : c ≠ p := fun z => by rw [z] at e2; exact (h _ e2).2 q rfl
  exact ⟨c, e1, by rw [upd_ne n2]; exact e2⟩
theorem tabs_new {H : Hp} {p : Addr} {o : HO} (h : H p = none) : ∀ P q, LamX.TabS H P q → LamX.TabS (upd H p o) P q := tabs_upd fun u e => by rw [h] at e; cases e
/-- slots, frozen heap, heap -/
structure Sl (M : Me) (Z H : Hp) (s : Sg) (d : SD) : Prop where
  fz : Le Z H
  nt : NT Z
  tb : Tbs M H
  len : s.length = d.length
  fr : ∀ (i : Nat) x, d[i]? = some (some (SV.fr x)) → ∃ v, s[i]? = some (some v) ∧ FD M Z v x
  own : ∀ (i : Nat) x, d[i]? = some (some (SV.own x)) → ∃ a, s[i]? = some (some (V.ref a)) ∧ Z a = none ∧ OwnAt M Z H a x
  dis : ∀ (i j : Nat) x y a, d[i]? = some (some (SV.own x)) → d[j]? = some (some (SV.own y)) → s[i]? = some (some (V.ref a)) → s[j]? = some (some (V.ref a)) → i = j
/-- the addresses that the slots own -/
def Ows (s : Sg) (d : SD) (a : Addr) : Prop := ∃ (i : Nat) (x : PyData), d[i]? = some (some (SV.own x)) ∧ s[i]? = some (some (V.ref a))
/-- what an expression's run may do to the heaps, P the objects that may change -/
structure Step (T : List (Addr × PySem.Str)) (Z H Z' H' : Hp) (P : Addr → Prop) : Prop where
  zz : Le Z Z'
  zn : ∀ a o, H a = some o → Z' a = Z a
  h0 : ∀ a o, H a = some o → ¬ P a → (∀ ps, o ≠ .tbl ps) → H' a = some o
  he : ∀ a o, H a = some o → ∃ o', H' a = some o'
  nt : NT Z → NT Z'
  tb : LamX.Tabs T H → LamX.Tabs T H'
theorem Step.hh {T : List (Addr × PySem.Str)} {Z H Z' H' : Hp} {P : Addr → Prop} (t : Step T Z H Z' H' P) (a : Addr) (o : HO) (e : H a = some o) (n : ¬ P a) (nt : ∀ ps, o ≠ .tbl ps := by intro _ z; cases z) : H' a = some o := t.h0 a o e n nt
theorem Step.refl {T : List (Addr × PySem.Str)} {Z H : Hp} {P : Addr → Prop} : Step T Z H Z H P := ⟨Le.refl Z, fun _ _ _ => rfl, fun _ _ h _ _ => h, fun _ o h => ⟨o, h⟩, id, id⟩
theorem Step.trans {T : List (Addr × PySem.Str)} {Z H Z1 H1 Z2 H2 : Hp} {P : Addr → Prop} (a : Step T Z H Z1 H1 P) (b : Step T Z1 H1 Z2 H2 P) : Step T Z H Z2 H2 P where
  zz := a.zz.trans b.zz
  zn := fun x o e => by
    obtain ⟨o', e'⟩ := a.he x o e
    rw [b.zn x o' e', a.zn x o e]
  h0 := fun x o e n m => b.h0 x o (a.h0 x o e n m) n m
  nt := fun h => b.nt (a.nt h)
  tb := fun h => b.tb (a.tb h)
  he := fun x o e => by
    obtain ⟨o', e'⟩ := a.he x o e
    exact b.he x o' e'
theorem Step.mono {T : List (Addr × PySem.Str)} {Z H Z1 H1 : Hp} {P Q : Addr → Prop} (a : Step T Z H Z1 H1 P) (h : ∀ x, P x → Q x) : Step T Z H Z1 H1 Q :=
  ⟨a.zz, a.zn, fun x o e n m => a.h0 x o e (fun z => n (h x z)) m, a.he, a.nt, a.tb⟩
/-- a new object, frozen at once -/
theorem Step.new {T : List (Addr × PySem.Str)} {Z H : Hp} {P : Addr → Prop} {p : Addr} {o : HO} (f : Le Z H) (h : H p = none) (no : ∀ ps, o ≠ .tbl ps := by intro _ z; cases z) : Step T Z H (upd Z p o) (upd H p o) P where
  zz := fun a u e => by rw [upd_ne (ne_of_none (f _ _ e) h)]; exact e
  zn := fun a u e => by rw [upd_ne (ne_of_none e h)]
  h0 := fun a u e _ _ => by rw [upd_ne (ne_of_none e h)]; exact e
  he := fun a u e => ⟨u, by rw [upd_ne (ne_of_none e h)]; exact e⟩
  nt := fun n a ps => by
    by_cases c : a = p
    · subst c; rw [upd_same]; exact fun z => no ps (Option.some.inj z)
    · rw [upd_ne c]; exact n a ps
  tb := fun w p hp => tabs_new h p.1 p.2 (w p hp)
/-- a new object, not frozen -/
theorem Step.newOwn {T : List (Addr × PySem.Str)} {Z H : Hp} {P : Addr → Prop} {p : Addr} {o : HO} (h : H p = none) : Step T Z H Z (upd H p o) P where
  zz := Le.refl Z
  zn := fun _ _ _ => rfl
  h0 := fun a u e _ _ => by rw [upd_ne (ne_of_none e h)]; exact e
  he := fun a u e => ⟨u, by rw [upd_ne (ne_of_none e h)]; exact e⟩
  nt := id
  tb := fun w p hp => tabs_new h p.1 p.2 (w p hp)
/-- an object of P written -/
theorem Step.write {T : List (Addr × PySem.Str)} {Z H : Hp} {P : Addr → Prop} {p : Addr} {o : HO} (h : P p) (hp : ∀ u, H p = some u → (∀ ps, u ≠ .tbl ps) ∧ ∀ c, u ≠ LamX.CodeO p c) : Step T Z H Z (upd H p o) P where
  zz := Le.refl Z
  zn := fun _ _ _ => rfl
  h0 := fun a u e n _ => by rw [upd_ne fun z => n (by rw [z]; exact h)]; exact e
  he := fun a u e => by
    by_cases z : a = p
    · subst z; exact ⟨o, upd_same⟩
    · exact ⟨u, by rw [upd_ne z]; exact e⟩
  nt := id
  tb := fun w p h => tabs_upd hp p.1 p.2 (w p h)
theorem le_upd {Z H : Hp} {p : Addr} {o : HO} (f : Le Z H) : Le (upd Z p o) (upd H p o) := fun a u e => by
  by_cases z : a = p
  · subst z; rw [upd_same] at e ⊢; exact e
  · rw [upd_ne z] at e ⊢; exact f _ _ e
theorem le_updH {Z H : Hp} {p : Addr} {o : HO} (f : Le Z H) (h : Z p = none) : Le Z (upd H p o) := fun a u e => by
  rw [upd_ne (ne_of_none e h)]; exact f _ _ e
/-- the slots behind a step that kept what they own -/
theorem Sl.step {M : Me} {Z H Z' H' : Hp} {s : Sg} {d : SD} {P : Addr → Prop} (h : Sl M Z H s d) (t : Step M.T Z H Z' H' P) (f : Le Z' H') (k : ∀ a, Ows s d a → ¬ P a) : Sl M Z' H' s d where
  fz := f
  nt := t.nt h.nt
  tb := t.tb h.tb
  len := h.len
  fr := fun i x e => by
    obtain ⟨v, e1, e2⟩ := h.fr i x e
    exact ⟨v, e1, e2.mono t.zz⟩
  own := fun i x e => by
    obtain ⟨a, e1, e2, e3⟩ := h.own i x e
    obtain ⟨o, e4⟩ := e3.ex
    exact ⟨a, e1, by rw [t.zn a o e4]; exact e2, e3.mono t.zz fun o z m => t.h0 a o z (k a ⟨i, x, e, e1⟩) m⟩
  dis := h.dis
end DL

set_option maxRecDepth 100000
set_option linter.all false
/-! DL1: the judgements over slots of data, and the rules for names, constants, operators, tests, displays, statements. -/
namespace DL
open PySem L2

abbrev F (α : Type) := SD → Option (α × SD)
inductive OV where
  | val (d : PyData)
  | slot (j : Nat)
inductive Fl where
  | nx | bk | ct
  | rt (d : PyData)
  | ro (d : PyData)
/-- the data of a result -/
def rdO (o : OV) (d : SD) : Option PyData := match o with
  | .val x => some x
  | .slot j => match d[j]? with
    | some (some (.own x)) => some x
    | _ => none
/-- a result that is frozen -/
def fzO (o : OV) : Option PyData := match o with
  | .val x => some x
  | .slot _ => none
structure Good (M : Me) (k : Nat) (X : Cx) : Prop where
  prog : X.prog = M.P
  w : X.w = M.w
  K : X.K = M.K
  mg : X.mg = M.mg
  base : X.base = M.base
  calm : X.calm = true
  nd : X.N.Nodup
  room : Room k X.A
inductive RO (M : Me) (Z : Hp) (s : Sg) : V → OV → Prop
  | val {v d} : FD M Z v d → RO M Z s v (.val d)
  | slot {v : V} {j : Nat} : s[j]? = some (some v) → RO M Z s v (.slot j)
/-- the data that a value is, frozen or owned -/
def RD (M : Me) (Z H : Hp) (v : V) (d : PyData) : Prop := FD M Z v d ∨ ∃ a, v = .ref a ∧ Z a = none ∧ OwnAt M Z H a d
def SameO (d d' : SD) : Prop := ∀ i : Nat, (∃ x, d[i]? = some (some (SV.own x))) ↔ ∃ x, d'[i]? = some (some (SV.own x))
theorem SameO.refl (d : SD) : SameO d d := fun _ => Iff.rfl
theorem SameO.trans {a b c : SD} (h : SameO a b) (k : SameO b c) : SameO a c := fun i => (h i).trans (k i)
theorem SameO.ows {s : Sg} {d d' : SD} (h : SameO d d') (a : Addr) : Ows s d' a ↔ Ows s d a := by
  constructor
  · rintro ⟨i, x, e, r⟩
    obtain ⟨y, e'⟩ := (h i).mpr ⟨x, e⟩
    exact ⟨i, y, e', r⟩
  · rintro ⟨i, x, e, r⟩
    obtain ⟨y, e'⟩ := (h i).mp ⟨x, e⟩
    exact ⟨i, y, e', r⟩
theorem RO.mono {M : Me} {Z Z' : Hp} {s : Sg} {v : V} {o : OV} (q : RO M Z s v o) (h : Le Z Z') : RO M Z' s v o := by
  cases q with
  | val q => exact .val (q.mono h)
  | slot q => exact .slot q
theorem RO.rd {M : Me} {Z H : Hp} {s : Sg} {d : SD} {v : V} {o : OV} {x : PyData} (q : RO M Z s v o) (S : Sl M Z H s d) (e : rdO o d = some x) : RD M Z H v x := by
  cases q with
  | val q => cases e; exact .inl q
  | slot q =>
    rename_i j
    have e' : (match d[j]? with
      | some (some (.own x)) => some x
      | _ => none) = some x := e
    split at e'
    · rename_i y h
      cases e'
      obtain ⟨a, e1, e2, e3⟩ := S.own j _ h
      rw [q] at e1
      cases e1
      exact .inr ⟨a, rfl, e2, e3⟩
    · cases e'
theorem RO.fz {M : Me} {Z : Hp} {s : Sg} {v : V} {o : OV} {x : PyData} (q : RO M Z s v o) (e : fzO o = some x) : FD M Z v x := by
  cases q with
  | val q => cases e; exact q
  | slot q => cases e
/-! ### judgements -/
def Ret (M : Me) (Z H : Hp) (s : Sg) (d : SD) (ov : OV) (d' : SD) (Q : VK) : Prop :=
  ∀ v Z' H', Step M.T Z H Z' H' (Ows s d) → Sl M Z' H' s d' → SameO d d' → RO M Z' s v ov → Q v H'
def EOk (M : Me) (t : TE) (f : F OV) : Prop := ∀ Z H s d ov d' Q, Sl M Z H s d → f d = some (ov, d') → Ret M Z H s d ov d' Q → t s H Q
def TOk (M : Me) (t : TT) (f : F Bool) : Prop := ∀ Z H s d b d' (Q : Bool → Hp → Prop), Sl M Z H s d → f d = some (b, d') →
  (∀ Z' H', Step M.T Z H Z' H' (Ows s d) → Sl M Z' H' s d' → SameO d d' → Q b H') → t s H Q
inductive ROs (M : Me) (Z : Hp) (s : Sg) : List V → List OV → Prop
  | nil : ROs M Z s [] []
  | cons {v o vs os} : RO M Z s v o → ROs M Z s vs os → ROs M Z s (v :: vs) (o :: os)
theorem ROs.mono {M : Me} {Z Z' : Hp} {s : Sg} {v : List V} {o : List OV} (q : ROs M Z s v o) (h : Le Z Z') : ROs M Z' s v o := by
  induction q with
  | nil => exact .nil
  | cons a _ ih => exact .cons (a.mono h) ih
def AOk (M : Me) (t : TA) (f : F (List OV)) : Prop := ∀ Z H s d os d' (Q : List V → Hp → Prop), Sl M Z H s d → f d = some (os, d') →
  (∀ vs Z' H', Step M.T Z H Z' H' (Ows s d) → Sl M Z' H' s d' → SameO d d' → ROs M Z' s vs os → Q vs H') → t s H Q
structure DE (M : Me) (k : Nat) (X : Cx) (e : Expr) (t : TE) (f : F OV) : Prop where
  pe : Good M k X → PE X e t
  ok : EOk M t f
structure DT (M : Me) (k : Nat) (X : Cx) (e : Expr) (t : TT) (f : F Bool) : Prop where
  pt : Good M k X → PT X e t
  ok : TOk M t f
structure DW (M : Me) (k : Nat) (X : Cx) (e : Expr) (t : TT) (f : F Bool) : Prop where
  pw : Good M k X → PW X e t
  ok : TOk M t f
structure DA (M : Me) (k : Nat) (X : Cx) (es : List Expr) (t : TA) (f : F (List OV)) : Prop where
  pa : Good M k X → PA X es t
  ok : AOk M t f
  len : ∀ d os d', f d = some (os, d') → os.length = es.length
/-- two results one behind another -/
theorem two {T : List (Addr × PySem.Str)} {Z H Z1 H1 Z2 H2 : Hp} {s : Sg} {d d1 : SD} (a : Step T Z H Z1 H1 (Ows s d)) (oa : SameO d d1) (b : Step T Z1 H1 Z2 H2 (Ows s d1)) : Step T Z H Z2 H2 (Ows s d) :=
  a.trans (b.mono fun x h => (oa.ows x).mp h)
theorem Step.no {T : List (Addr × PySem.Str)} {Z H Z' H' : Hp} {P : Addr → Prop} (a : Step T Z H Z' H' fun _ => False) : Step T Z H Z' H' P := a.mono fun _ h => h.elim
/-! ### names, constants -/
def fVar (i : Nat) : F OV := fun d => match d[i]? with
  | some (some (.fr x)) => some (.val x, d)
  | some (some (.own _)) => some (.slot i, d)
  | _ => none
def fC (x : PyData) : F OV := fun d => some (.val x, d)
section
variable {M : Me} {k : Nat} {X : Cx}
theorem ok_var (i : Nat) : EOk M (tVar i) (fVar i) := by
  intro Z H s d ov d' Q S e h
  have e' : (match d[i]? with
    | some (some (.fr x)) => some (OV.val x, d)
    | some (some (.own _)) => some (OV.slot i, d)
    | _ => none) = some (ov, d') := e
  split at e'
  · rename_i x hx
    cases e'
    obtain ⟨v, e1, e2⟩ := S.fr i x hx
    exact ⟨v, e1, h v Z H Step.refl S (SameO.refl _) (.val e2)⟩
  · rename_i x hx
    cases e'
    obtain ⟨a, e1, e2⟩ := S.own i x hx
    exact ⟨_, e1, h _ Z H Step.refl S (SameO.refl _) (.slot e1)⟩
  · cases e'
theorem ok_c {v : V} {x : PyData} (h : ∀ Z, FD M Z v x) : EOk M (tC v) (fC x) := by
  intro Z H s d ov d' Q S e q
  cases e
  exact q v Z H Step.refl S (SameO.refl _) (.val (h Z))
theorem de_var (i : Nat) {x : Str} {pos : Pos} (hN : X.N[i]? = some x := by rfl) (hv : Vis X.env.scope x := by first | exact Or.inl rfl | exact Or.inr (Or.inl rfl) | exact Or.inr (Or.inr rfl)) (hd : (x == ("__debug__" : Str)) = false := by decide)
    (hcd : (x == ("__classdict__" : Str)) = false := by decide) : DE M k X (.Name x pos) (tVar i) (fVar i) := ⟨fun _ => pv i hN hv hd hcd, ok_var i⟩
theorem de_int {i j pos} : DE M k X (.Constant (.int i) j pos) (tC (.int i)) (fC (.int i)) := ⟨fun _ => pe_int, ok_c fun _ => .pl Pl.int⟩
theorem de_bl {i j pos} : DE M k X (.Constant (.bool i) j pos) (tC (.bl i)) (fC (.bool i)) := ⟨fun _ => pe_bl, ok_c fun _ => .pl Pl.bl⟩
theorem de_non {j pos} : DE M k X (.Constant .none j pos) (tC .non) (fC .none) := ⟨fun _ => pe_non, ok_c fun _ => .pl Pl.non⟩
theorem de_str {x j pos} (h : PyData.strOk x = true := by decide +kernel) : DE M k X (.Constant (.str x) j pos) (tC (.str x)) (fC (.str x)) := ⟨fun _ => pe_str, ok_c fun _ => .pl (Pl.str h)⟩
/-- a module's text constant -/
theorem de_glob {x y : Str} {t : Tok} {pos : Pos} (hm : M.mg x = some (.str y t)) (h : PyData.strOk y = true := by decide +kernel) (hg : Gl X x := by rfl) (hd : (x == ("__debug__" : Str)) = false := by decide) :
    DE M k X (.Name x pos) (tC (.str y)) (fC (.str y)) := ⟨fun G => pe_glob hg (by rw [G.mg]; exact hm) ⟨t, rfl⟩ hd, ok_c fun _ => .pl (Pl.str h)⟩
theorem de_globI {x : Str} {y : Int} {t : Tok} {pos : Pos} (hm : M.mg x = some (.int y t)) (hg : Gl X x := by rfl) (hd : (x == ("__debug__" : Str)) = false := by decide) :
    DE M k X (.Name x pos) (tC (.int y)) (fC (.int y)) := ⟨fun G => pe_glob hg (by rw [G.mg]; exact hm) ⟨t, rfl⟩ hd, ok_c fun _ => .pl Pl.int⟩
/-! ### operators -/
/-- what an operation on values asks, g its data -/
def ROk (M : Me) (r : R2) (g : PyData → PyData → Option PyData) : Prop := ∀ Z H x y a b z Q, Le Z H → RD M Z H x a → RD M Z H y b → g a b = some z →
  (∀ v Z' H', Step M.T Z H Z' H' (fun _ => False) → Le Z' H' → FD M Z' v z → Q v H') → r x y H Q
def fOp (g : PyData → PyData → Option PyData) (fa fb : F OV) : F OV := fun d => (fa d).bind fun p => (fb p.2).bind fun q => (rdO p.1 q.2).bind fun x => (rdO q.1 q.2).bind fun y => (g x y).bind fun z => some (.val z, q.2)
theorem fOp_inv {g : PyData → PyData → Option PyData} {fa fb : F OV} {d d' : SD} {ov : OV} (e : fOp g fa fb d = some (ov, d')) :
    ∃ o1 d1 o2 x y z, fa d = some (o1, d1) ∧ fb d1 = some (o2, d') ∧ rdO o1 d' = some x ∧ rdO o2 d' = some y ∧ g x y = some z ∧ ov = .val z := by
  simp only [fOp, Option.bind_eq_some_iff] at e
  obtain ⟨⟨o1, d1⟩, e1, ⟨o2, d2⟩, e2, x, e3, y, e4, z, e5, e6⟩ := e
  cases e6
  exact ⟨o1, d1, o2, x, y, z, e1, e2, e3, e4, e5, rfl⟩
theorem Sl.no {Z H Z' H' : Hp} {s : Sg} {d : SD} (S : Sl M Z H s d) (t : Step M.T Z H Z' H' fun _ => False) (f : Le Z' H') : Sl M Z' H' s d := S.step t f fun _ _ h => h
theorem ok_op {r : R2} {g : PyData → PyData → Option PyData} {ta tb : TE} {fa fb : F OV} (hg : ROk M r g) (ha : EOk M ta fa) (hb : EOk M tb fb) : EOk M (tOp r ta tb) (fOp g fa fb) := by
  intro Z H s d ov d' Q S e h
  obtain ⟨o1, d1, o2, x, y, z, e1, e2, e3, e4, e5, rfl⟩ := fOp_inv e
  refine ha Z H s d o1 d1 _ S e1 fun v Z1 H1 t1 S1 k1 r1 => ?_
  refine hb Z1 H1 s d1 o2 d' _ S1 e2 fun u Z2 H2 t2 S2 k2 r2 => ?_
  refine hg Z2 H2 v u x y z _ S2.fz ((r1.mono t2.zz).rd S2 e3) (r2.rd S2 e4) e5 fun v' Z' H' t3 f3 q3 => ?_
  exact h v' Z' H' ((two t1 k1 t2).trans t3.no) (S2.no t3 f3) (k1.trans k2) (.val q3)
structure OpD (M : Me) (k : Nat) (f : Value → Value → Sem Value) (r : R2) (g : PyData → PyData → Option PyData) : Prop where
  run : ∀ X, Good M k X → OpR X f r
  ok : ROk M r g
theorem de_op {a b : Expr} {op : Operator} {pos : Pos} {r : R2} {g : PyData → PyData → Option PyData} {ta tb : TE} {fa fb : F OV} (ho : OpD M k (binaryOp op) r g) (ha : DE M k X a ta fa) (hb : DE M k X b tb fb) :
    DE M k X (.BinOp a op b pos) (tOp r ta tb) (fOp g fa fb) := ⟨fun G => pe_op (ho.run X G) (ha.pe G) (hb.pe G), ok_op ho.ok ha.ok hb.ok⟩
theorem de_cmp {a b : Expr} {op : CmpOp} {pos : Pos} {r : R2} {g : PyData → PyData → Option PyData} {ta tb : TE} {fa fb : F OV} (ho : OpD M k (compareOp op) r g) (ha : DE M k X a ta fa) (hb : DE M k X b tb fb)
    (hm : behindInMarks op b = false := by first | exact nobehind _ (by decide) (by decide) | with_unfolding_all rfl) : DE M k X (.Compare a [op] [b] pos) (tOp r ta tb) (fOp g fa fb) := ⟨fun G => pe_cmpR (ho.run X G) (ha.pe G) (hb.pe G) hm, ok_op ho.ok ha.ok hb.ok⟩
/-! ### tests -/
def fB (f : F OV) : F Bool := fun d => (f d).bind fun p => match p.1 with
  | .val (.bool b) => some (b, p.2)
  | _ => none
theorem fB_inv {f : F OV} {d d' : SD} {b : Bool} (e : fB f d = some (b, d')) : f d = some (.val (.bool b), d') := by
  simp only [fB, Option.bind_eq_some_iff] at e
  obtain ⟨⟨o, d1⟩, e1, e2⟩ := e
  dsimp only at e2
  split at e2
  · cases e2; exact e1
  · cases e2
theorem ok_test {t : TE} {f : F OV} (h : EOk M t f) : TOk M (tTest t) (fB f) := by
  intro Z H s d b d' Q S e q
  refine h Z H s d _ d' _ S (fB_inv e) fun v Z' H' t1 S1 k1 r1 => ?_
  cases r1 with
  | val r1 =>
    cases r1 with
    | pl r1 => exact ⟨b, r1.bl_inv, q Z' H' t1 S1 k1⟩
    | ds r1 => obtain ⟨_, _, _, _, z, _⟩ := r1; cases z
theorem dt_cmp {a b : Expr} {op : CmpOp} {pos : Pos} {r : R2} {g : PyData → PyData → Option PyData} {ta tb : TE} {fa fb : F OV} (ho : OpD M k (compareOp op) r g) (ha : DE M k X a ta fa) (hb : DE M k X b tb fb)
    (hm : behindInMarks op b = false := by first | exact nobehind _ (by decide) (by decide) | with_unfolding_all rfl) : DT M k X (.Compare a [op] [b] pos) (tTest (tOp r ta tb)) (fB (fOp g fa fb)) :=
  ⟨fun G => pt_cmpR (ho.run X G) (ha.pe G) (hb.pe G) hm, ok_test (ok_op ho.ok ha.ok hb.ok)⟩
/-- an expression that gives a bool, as a test -/
theorem dt_val {e : Expr} {t : TE} {f : F OV} (h : DE M k X e t f) (he : ∀ whole, isTrue e X.env whole = (do let v ← whole; standAt e.pos; holding [v] (truthy v)) := by intro _; rfl) : DT M k X e (tB t) (fB f) :=
  ⟨fun G => pt_val (h.pe G) he, ok_test h.ok⟩
def fAnd (f g : F Bool) : F Bool := fun d => (f d).bind fun p => if p.1 = true then g p.2 else some (false, p.2)
def fOr (f g : F Bool) : F Bool := fun d => (f d).bind fun p => if p.1 = true then some (true, p.2) else g p.2
def fNot (f : F Bool) : F Bool := fun d => (f d).bind fun p => some (!p.1, p.2)
theorem ok_and {t u : TT} {f g : F Bool} (h : TOk M t f) (h' : TOk M u g) : TOk M (tAnd t u) (fAnd f g) := by
  intro Z H s d b d' Q S e q
  simp only [fAnd, Option.bind_eq_some_iff] at e
  obtain ⟨⟨c, d1⟩, e1, e2⟩ := e
  refine h Z H s d c d1 _ S e1 fun Z1 H1 t1 S1 k1 => ?_
  cases c with
  | true => exact h' Z1 H1 s d1 b d' _ S1 e2 fun Z2 H2 t2 S2 k2 => q Z2 H2 (two t1 k1 t2) S2 (k1.trans k2)
  | false => cases e2; exact q Z1 H1 t1 S1 k1
theorem ok_or {t u : TT} {f g : F Bool} (h : TOk M t f) (h' : TOk M u g) : TOk M (tOr t u) (fOr f g) := by
  intro Z H s d b d' Q S e q
  simp only [fOr, Option.bind_eq_some_iff] at e
  obtain ⟨⟨c, d1⟩, e1, e2⟩ := e
  refine h Z H s d c d1 _ S e1 fun Z1 H1 t1 S1 k1 => ?_
  cases c with
  | false => exact h' Z1 H1 s d1 b d' _ S1 e2 fun Z2 H2 t2 S2 k2 => q Z2 H2 (two t1 k1 t2) S2 (k1.trans k2)
  | true => cases e2; exact q Z1 H1 t1 S1 k1
theorem ok_not {t : TT} {f : F Bool} (h : TOk M t f) : TOk M (tNot t) (fNot f) := by
  intro Z H s d b d' Q S e q
  simp only [fNot, Option.bind_eq_some_iff] at e
  obtain ⟨⟨c, d1⟩, e1, e2⟩ := e
  cases e2
  exact h Z H s d c _ _ S e1 fun Z1 H1 t1 S1 k1 => q Z1 H1 t1 S1 k1
theorem DW.pt {e : Expr} {t : TT} {f : F Bool} (h : DW M k X e t f) : DT M k X e t f := ⟨fun G => (h.pw G).pt, h.ok⟩
theorem dw_and1 {a : Expr} {pos : Pos} {t : TT} {f : F Bool} (h : DT M k X a t f) : DW M k X (.BoolOp .And [a] pos) t f := ⟨fun G => pw_and1 (h.pt G), h.ok⟩
theorem dw_or1 {a : Expr} {pos : Pos} {t : TT} {f : F Bool} (h : DT M k X a t f) : DW M k X (.BoolOp .Or [a] pos) t f := ⟨fun G => pw_or1 (h.pt G), h.ok⟩
theorem dw_and {a b : Expr} {rest : List Expr} {pos : Pos} {t u : TT} {f g : F Bool} (h : DT M k X a t f) (h' : DW M k X (.BoolOp .And (b :: rest) pos) u g) : DW M k X (.BoolOp .And (a :: b :: rest) pos) (tAnd t u) (fAnd f g) :=
  ⟨fun G => pw_and (h.pt G) (h'.pw G), ok_and h.ok h'.ok⟩
theorem dw_or {a b : Expr} {rest : List Expr} {pos : Pos} {t u : TT} {f g : F Bool} (h : DT M k X a t f) (h' : DW M k X (.BoolOp .Or (b :: rest) pos) u g) : DW M k X (.BoolOp .Or (a :: b :: rest) pos) (tOr t u) (fOr f g) :=
  ⟨fun G => pw_or (h.pt G) (h'.pw G), ok_or h.ok h'.ok⟩
theorem dt_not {a : Expr} {pos : Pos} {t : TT} {f : F Bool} (h : DT M k X a t f) : DT M k X (.UnaryOp .Not a pos) (tNot t) (fNot f) := ⟨fun G => pt_not (h.pt G), ok_not h.ok⟩
/-- a if t else b -/
def fIfE (c : F Bool) (f g : F OV) : F OV := fun d => (c d).bind fun p => if p.1 = true then f p.2 else g p.2
theorem ok_ifE {t : TT} {ta tb : TE} {c : F Bool} {f g : F OV} (h : TOk M t c) (ha : EOk M ta f) (hb : EOk M tb g) : EOk M (tIf t ta tb) (fIfE c f g) := by
  intro Z H s d ov d' Q S e q
  simp only [fIfE, Option.bind_eq_some_iff] at e
  obtain ⟨⟨b, d1⟩, e1, e2⟩ := e
  refine h Z H s d b d1 _ S e1 fun Z1 H1 t1 S1 k1 => ?_
  cases b with
  | true => exact ha Z1 H1 s d1 ov d' _ S1 e2 fun v Z2 H2 t2 S2 k2 r2 => q v Z2 H2 (two t1 k1 t2) S2 (k1.trans k2) r2
  | false => exact hb Z1 H1 s d1 ov d' _ S1 e2 fun v Z2 H2 t2 S2 k2 r2 => q v Z2 H2 (two t1 k1 t2) S2 (k1.trans k2) r2
theorem de_if {c a b : Expr} {pos : Pos} {t : TT} {ta tb : TE} {fc : F Bool} {f g : F OV} (hc : DT M k X c t fc) (ha : DE M k X a ta f) (hb : DE M k X b tb g) : DE M k X (.IfExp c a b pos) (tIf t ta tb) (fIfE fc f g) :=
  ⟨fun G => pe_ifExp (hc.pt G) (ha.pe G) (hb.pe G), ok_ifE hc.ok ha.ok hb.ok⟩
/-- and as a value, of bools -/
def fAndV (f g : F OV) : F OV := fun d => (fB f d).bind fun p => if p.1 = true then g p.2 else some (.val (.bool false), p.2)
theorem ok_andV {ta tb : TE} {f g : F OV} (ha : EOk M ta f) (hb : EOk M tb g) : EOk M (tAndV ta tb) (fAndV f g) := by
  intro Z H s d ov d' Q S e q
  simp only [fAndV, Option.bind_eq_some_iff] at e
  obtain ⟨⟨b, d1⟩, e1, e2⟩ := e
  refine ok_test ha Z H s d b d1 (fun b H1 => if b = true then tb s H1 Q else Q (.bl false) H1) S e1 fun Z1 H1 t1 S1 k1 => ?_
  cases b with
  | true => exact hb Z1 H1 s d1 ov d' _ S1 e2 fun v Z2 H2 t2 S2 k2 r2 => q v Z2 H2 (two t1 k1 t2) S2 (k1.trans k2) r2
  | false => cases e2; exact q _ Z1 H1 t1 S1 k1 (.val (.pl Pl.bl))
theorem de_one {a : Expr} {op : BoolOp} {pos : Pos} {t : TE} {f : F OV} (h : DE M k X a t f) : DE M k X (.BoolOp op [a] pos) t f := ⟨fun G => pe_one (h.pe G), h.ok⟩
theorem de_and {a b : Expr} {rest : List Expr} {pos : Pos} {ta tb : TE} {f g : F OV} (ha : DE M k X a ta f) (hb : DE M k X (.BoolOp .And (b :: rest) pos) tb g) : DE M k X (.BoolOp .And (a :: b :: rest) pos) (tAndV ta tb) (fAndV f g) :=
  ⟨fun G => pe_and (ha.pe G) (hb.pe G), ok_andV ha.ok hb.ok⟩
/-! ### argument lists, displays -/
def fNil : F (List OV) := fun d => some ([], d)
def fCons (f : F OV) (g : F (List OV)) : F (List OV) := fun d => (f d).bind fun p => (g p.2).bind fun q => some (p.1 :: q.1, q.2)
theorem ok_nil : AOk M tNil fNil := by
  intro Z H s d os d' Q S e q
  cases e
  exact q [] Z H Step.refl S (SameO.refl _) .nil
theorem ok_cons {ta : TE} {t : TA} {f : F OV} {g : F (List OV)} (ha : EOk M ta f) (hr : AOk M t g) : AOk M (tCons ta t) (fCons f g) := by
  intro Z H s d os d' Q S e q
  simp only [fCons, Option.bind_eq_some_iff] at e
  obtain ⟨⟨o1, d1⟩, e1, ⟨os1, d2⟩, e2, e3⟩ := e
  cases e3
  refine ha Z H s d o1 d1 _ S e1 fun v Z1 H1 t1 S1 k1 r1 => ?_
  exact hr Z1 H1 s d1 os1 _ _ S1 e2 fun vs Z2 H2 t2 S2 k2 r2 => q _ Z2 H2 (two t1 k1 t2) S2 (k1.trans k2) (.cons (r1.mono t2.zz) r2)
theorem da_nil : DA M k X [] tNil fNil := ⟨fun _ => pa_nil, ok_nil, fun _ _ _ e => by cases e; rfl⟩
theorem da_cons {e : Expr} {es : List Expr} {te : TE} {t : TA} {f : F OV} {g : F (List OV)} (ha : DE M k X e te f) (hr : DA M k X es t g) (hs : starEach (e :: es) X.env = (false, eval e X.env) :: starEach es X.env := by rfl) :
    DA M k X (e :: es) (tCons te t) (fCons f g) := ⟨fun G => pa_cons (ha.pe G) (hr.pa G) hs, ok_cons ha.ok hr.ok, fun d os d' e => by
    simp only [fCons, Option.bind_eq_some_iff] at e
    obtain ⟨⟨o1, d1⟩, e1, ⟨os1, d2⟩, e2, e3⟩ := e
    cases e3
    simp [hr.len _ _ _ e2]⟩
/-- frozen plain data of all results -/
def plO (o : OV) : Option PyData := match o with
  | .val (.dict _) => none
  | .val x => some x
  | .slot _ => none
def plOs : List OV → Option (List PyData)
  | [] => some []
  | o :: os => (plO o).bind fun x => (plOs os).bind fun xs => some (x :: xs)
theorem FD.plain {Z : Hp} {v : V} {x : PyData} (q : FD M Z v x) (h : ∀ kvs, x ≠ .dict kvs) : Pl M Z v x := by
  cases q with
  | pl q => exact q
  | ds q => obtain ⟨_, _, _, _, e, _⟩ := q; exact absurd e (h _)
  | dt _ _ => exact absurd rfl (h _)
  | li _ _ _ _ => exact absurd rfl (h _)
  | sc _ => exact absurd rfl (h _)
theorem RO.pl {Z : Hp} {s : Sg} {v : V} {o : OV} {x : PyData} (q : RO M Z s v o) (e : plO o = some x) : Pl M Z v x := by
  cases q with
  | slot _ => cases e
  | val q =>
    rename_i d
    cases d <;> cases e <;> exact q.plain fun _ z => by cases z
theorem ROs.pl {Z : Hp} {s : Sg} {vs : List V} {os : List OV} (q : ROs M Z s vs os) : ∀ {xs : List PyData}, plOs os = some xs → PlA M Z vs xs := by
  induction q with
  | nil => intro xs e; cases e; exact .nil
  | cons a _ ih =>
    intro xs e
    simp only [plOs, Option.bind_eq_some_iff] at e
    obtain ⟨x, e1, ys, e2, e3⟩ := e
    cases e3
    exact .cons (a.pl e1) (ih e2)
def fTup (f : F (List OV)) : F OV := fun d => (f d).bind fun p => (plOs p.1).bind fun xs => some (.val (.tuple xs), p.2)
def fLst (f : F (List OV)) : F OV := fun d => (f d).bind fun p => (plOs p.1).bind fun xs => some (.val (.list xs), p.2)
theorem plOs_length : ∀ {os : List OV} {xs : List PyData}, plOs os = some xs → xs.length = os.length
  | [], _, e => by cases e; rfl
  | o :: os, _, e => by
    simp only [plOs, Option.bind_eq_some_iff] at e
    obtain ⟨x, e1, ys, e2, e3⟩ := e
    cases e3
    simp [plOs_length e2]
theorem upd_sqt {K : PySem.W.Frag} {Z : Hp} {p : Addr} {xs : List V} : SqT K (upd Z p (.tup xs)) p xs := SqT.of upd_same
theorem upd_sql {K : PySem.W.Frag} {Z : Hp} {p : Addr} {xs : List V} : SqL K (upd Z p (.lst xs)) p xs := SqL.of upd_same
/-- a new frozen tuple | list of plain data -/
theorem new_tup {Z H : Hp} {p : Addr} {vs : List V} {xs : List PyData} (f : Le Z H) (h : H p = none) (q : PlA M Z vs xs) : Step M.T Z H (upd Z p (.tup vs)) (upd H p (.tup vs)) (fun _ => False) ∧ Le (upd Z p (.tup vs)) (upd H p (.tup vs)) ∧ FD M (upd Z p (.tup vs)) (.ref p) (.tuple xs) := by
  have t : Step M.T Z H (upd Z p (.tup vs)) (upd H p (.tup vs)) (fun _ => False) := Step.new f h
  exact ⟨t, le_upd f, .pl (Pl.tup upd_same (q.mono t.zz))⟩
theorem new_lst {Z H : Hp} {p : Addr} {vs : List V} {xs : List PyData} (f : Le Z H) (h : H p = none) (q : PlA M Z vs xs) : Step M.T Z H (upd Z p (.lst vs)) (upd H p (.lst vs)) (fun _ => False) ∧ Le (upd Z p (.lst vs)) (upd H p (.lst vs)) ∧ FD M (upd Z p (.lst vs)) (.ref p) (.list xs) := by
  have t : Step M.T Z H (upd Z p (.lst vs)) (upd H p (.lst vs)) (fun _ => False) := Step.new f h
  exact ⟨t, le_upd f, .pl (Pl.lst upd_same (q.mono t.zz))⟩
theorem ok_tup {t : TA} {f : F (List OV)} (ha : AOk M t f) (hf : ∀ d os d', f d = some (os, d') → os.length ≤ 1000) : EOk M (tTup t) (fTup f) := by
  intro Z H s d ov d' Q S e q
  simp only [fTup, Option.bind_eq_some_iff] at e
  obtain ⟨⟨os, d1⟩, e1, xs, e2, e3⟩ := e
  cases e3
  refine ha Z H s d os _ _ S e1 fun vs Z1 H1 t1 S1 k1 r1 => ?_
  have pl := r1.pl e2
  refine ⟨?_, fun p hp => ?_⟩
  · rw [pl.length, plOs_length e2]; exact Nat.le_of_lt (small1000 (hf _ _ _ e1))
  · obtain ⟨t2, f2, q2⟩ := new_tup S1.fz hp pl
    exact q _ _ _ (t1.trans t2.no) (S1.no t2 f2) k1 (.val q2)
theorem ok_lst {t : TA} {f : F (List OV)} (ha : AOk M t f) (hf : ∀ d os d', f d = some (os, d') → os.length ≤ 1000) : EOk M (tLst t) (fLst f) := by
  intro Z H s d ov d' Q S e q
  simp only [fLst, Option.bind_eq_some_iff] at e
  obtain ⟨⟨os, d1⟩, e1, xs, e2, e3⟩ := e
  cases e3
  refine ha Z H s d os _ _ S e1 fun vs Z1 H1 t1 S1 k1 r1 => ?_
  have pl := r1.pl e2
  refine ⟨?_, fun p hp => ?_⟩
  · rw [pl.length, plOs_length e2]; exact Nat.le_of_lt (small1000 (hf _ _ _ e1))
  · obtain ⟨t2, f2, q2⟩ := new_lst S1.fz hp pl
    exact q _ _ _ (t1.trans t2.no) (S1.no t2 f2) k1 (.val q2)
theorem de_tup {es : List Expr} {x1 : Nat} {pos : Pos} {t : TA} {f : F (List OV)} (h : DA M k X es t f) (hn : es.length ≤ 1000 := by decide) : DE M k X (.Tuple es x1 pos) (tTup t) (fTup f) :=
  ⟨fun G => pe_tup (h.pa G), ok_tup h.ok fun d os d' e => by rw [h.len d os d' e]; exact hn⟩
theorem de_lst {es : List Expr} {pos : Pos} {t : TA} {f : F (List OV)} (h : DA M k X es t f) (hn : es.length ≤ 1000 := by decide) : DE M k X (.List es pos) (tLst t) (fLst f) :=
  ⟨fun G => pe_lst (h.pa G), ok_lst h.ok fun d os d' e => by rw [h.len d os d' e]; exact hn⟩
end
end DL

set_option maxRecDepth 100000
set_option linter.all false
/-! DL2: statements, targets, loops, comprehensions over slots of data. -/
namespace DL
open PySem L2

/-- the slots at a place of a def's body: since the entry (Z0, H0) only P0 and new things have changed -/
structure Ent (M : Me) (Z0 H0 : Hp) (P0 : Addr → Prop) (Z H : Hp) (s : Sg) (d : SD) : Prop where
  sl : Sl M Z H s d
  st : Step M.T Z0 H0 Z H P0
  nw : ∀ (i : Nat) y a, d[i]? = some (some (SV.own y)) → s[i]? = some (some (V.ref a)) → H0 a = none ∨ (P0 a ∧ i = 0)
  pt : ∀ a, P0 a → s[0]? = some (some (V.ref a)) ∧ ∃ x, d[0]? = some (some (SV.own x))
section
variable {M : Me} {Z0 H0 Z H Z' H' : Hp} {P0 : Addr → Prop} {s s' : Sg} {d d' : SD} {v : V} {x : PyData}
theorem Ent.exp (e : Ent M Z0 H0 P0 Z H s d) (t : Step M.T Z H Z' H' (Ows s d)) (S : Sl M Z' H' s d') (k : SameO d d') : Ent M Z0 H0 P0 Z' H' s d' where
  sl := S
  st := by
    refine ⟨e.st.zz.trans t.zz, fun a o h => ?_, fun a o h n m => ?_, fun a o h => ?_, fun n => t.nt (e.st.nt n), fun h => t.tb (e.st.tb h)⟩
    · obtain ⟨o', h'⟩ := e.st.he a o h
      rw [t.zn a o' h', e.st.zn a o h]
    · refine t.h0 a o (e.st.h0 a o h n m) (fun z => ?_) m
      obtain ⟨i, y, z1, z2⟩ := z
      rcases e.nw i y a z1 z2 with z | z
      · rw [h] at z; cases z
      · exact n z.1
    · obtain ⟨o', h'⟩ := e.st.he a o h
      exact t.he a o' h'
  nw := fun i y a h h2 => by
    obtain ⟨z, h'⟩ := (k i).mpr ⟨y, h⟩
    exact e.nw i z a h' h2
  pt := fun a h => by
    obtain ⟨z1, z2⟩ := e.pt a h
    exact ⟨z1, (k 0).mp z2⟩
theorem set_fr {i j : Nat} {y : PyData} (h : (d.set i (some (.fr x)))[j]? = some (some (SV.own y))) : j ≠ i ∧ d[j]? = some (some (SV.own y)) := by
  rw [List.getElem?_set] at h
  split at h
  · split at h <;> cases h
  · rename_i n; exact ⟨fun z => n z.symm, h⟩
theorem set_ne {α : Type} {l : List α} {i j : Nat} {a : α} (h : j ≠ i) : (l.set i a)[j]? = l[j]? := by
  rw [List.getElem?_set, if_neg fun z => h z.symm]
theorem Sl.set (S : Sl M Z H s d) (q : FD M Z v x) (i : Nat) : Sl M Z H (s.set i (some v)) (d.set i (some (.fr x))) where
  fz := S.fz
  nt := S.nt
  tb := S.tb
  len := by simp [S.len]
  fr := fun j y h => by
    by_cases e : j = i
    · subst e
      rw [List.getElem?_set] at h
      simp only [if_true] at h
      split at h
      · rename_i hl
        cases h
        exact ⟨v, by rw [List.getElem?_set]; simp [S.len, hl], q⟩
      · cases h
    · rw [set_ne e] at h ⊢
      exact S.fr j y h
  own := fun j y h => by
    obtain ⟨n, h⟩ := set_fr h
    rw [set_ne n]
    exact S.own j y h
  dis := fun j l y z a h1 h2 h3 h4 => by
    obtain ⟨n1, h1⟩ := set_fr h1
    obtain ⟨n2, h2⟩ := set_fr h2
    rw [set_ne n1] at h3
    rw [set_ne n2] at h4
    exact S.dis j l y z a h1 h2 h3 h4
theorem ows_set {i : Nat} {a : Addr} {o : Option V} (h : Ows (s.set i o) (d.set i (some (.fr x))) a) : Ows s d a := by
  obtain ⟨j, y, h1, h2⟩ := h
  obtain ⟨n, h1⟩ := set_fr h1
  rw [set_ne n] at h2
  exact ⟨j, y, h1, h2⟩
theorem Ent.set (e : Ent M Z0 H0 P0 Z H s d) (q : FD M Z v x) (i : Nat) (h0 : i ≠ 0) : Ent M Z0 H0 P0 Z H (s.set i (some v)) (d.set i (some (.fr x))) :=
  ⟨e.sl.set q i, e.st, fun j y a h h2 => by
    obtain ⟨n, h⟩ := set_fr h
    rw [set_ne n] at h2
    exact e.nw j y a h h2, fun a h => by
    rw [set_ne h0.symm, set_ne h0.symm]
    exact e.pt a h⟩
/-- a step that touches nothing that is there, in a body -/
theorem Ent.no (e : Ent M Z0 H0 P0 Z H s d) (t : Step M.T Z H Z' H' fun _ => False) (f : Le Z' H') : Ent M Z0 H0 P0 Z' H' s d := e.exp t.no (e.sl.no t f) (SameO.refl d)
end
/-- what is wanted behind a statement, by how it ends -/
def EndO (M : Me) (Z0 H0 : Hp) (P0 : Addr → Prop) (Zs : Hp) (fl : Fl) (d' : SD) (D : Ends) : Prop := match fl with
  | .nx => ∀ Z' H' s', Le Zs Z' → Ent M Z0 H0 P0 Z' H' s' d' → D.nx s' H'
  | .bk => ∀ Z' H' s', Le Zs Z' → Ent M Z0 H0 P0 Z' H' s' d' → D.bk s' H'
  | .ct => ∀ Z' H' s', Le Zs Z' → Ent M Z0 H0 P0 Z' H' s' d' → D.ct s' H'
  | .rt x => ∀ Z' H' s' v, Le Zs Z' → Ent M Z0 H0 P0 Z' H' s' d' → FD M Z' v x → D.rt v H'
  | .ro x => ∀ Z' H' s' a, Le Zs Z' → Ent M Z0 H0 P0 Z' H' s' d' → Z' a = none → H0 a = none → OwnAt M Z' H' a x → D.rt (.ref a) H'
def SOk (M : Me) (t : TS) (f : F Fl) : Prop := ∀ Z0 H0 P0 Z H s d fl d' D, Ent M Z0 H0 P0 Z H s d → f d = some (fl, d') → EndO M Z0 H0 P0 Z fl d' D → t D s H
theorem EndO.le {M : Me} {Z0 H0 : Hp} {P0 : Addr → Prop} {Z Z1 : Hp} {fl : Fl} {d' : SD} {D : Ends} (q : EndO M Z0 H0 P0 Z fl d' D) (h : Le Z Z1) : EndO M Z0 H0 P0 Z1 fl d' D := by
  cases fl with
  | nx => exact fun Z' H' s' l e => q Z' H' s' (h.trans l) e
  | bk => exact fun Z' H' s' l e => q Z' H' s' (h.trans l) e
  | ct => exact fun Z' H' s' l e => q Z' H' s' (h.trans l) e
  | rt x => exact fun Z' H' s' v l e => q Z' H' s' v (h.trans l) e
  | ro x => exact fun Z' H' s' v l e => q Z' H' s' v (h.trans l) e
structure DS (M : Me) (k : Nat) (X : Cx) (st : Stmt) (t : TS) (f : F Fl) : Prop where
  ps : Good M k X → PS X st t
  ok : SOk M t f
structure DSs (M : Me) (k : Nat) (X : Cx) (st : List Stmt) (t : TS) (f : F Fl) : Prop where
  ps : Good M k X → PSs X st t
  ok : SOk M t f
def fNext : F Fl := fun d => some (.nx, d)
def fSeq (f g : F Fl) : F Fl := fun d => (f d).bind fun p => match p.1 with
  | .nx => g p.2
  | .bk => some (.bk, p.2)
  | .ct => some (.ct, p.2)
  | .rt x => some (.rt x, p.2)
  | .ro x => some (.ro x, p.2)
section
variable {M : Me} {k : Nat} {X : Cx}
theorem ok_next : SOk M tNext fNext := by
  intro Z0 H0 P0 Z H s d fl d' D e h q
  cases h
  exact q Z H s (Le.refl Z) e
theorem ok_seq {t u : TS} {f g : F Fl} (h : SOk M t f) (h' : SOk M u g) : SOk M (tSeq t u) (fSeq f g) := by
  intro Z0 H0 P0 Z H s d fl d' D e r q
  simp only [fSeq, Option.bind_eq_some_iff] at r
  obtain ⟨⟨fl1, d1⟩, e1, e2⟩ := r
  refine h Z0 H0 P0 Z H s d fl1 d1 _ e e1 ?_
  cases fl1 with
  | nx => exact fun Z' H' s' le e' => h' Z0 H0 P0 Z' H' s' d1 fl d' D e' e2 (q.le le)
  | bk => cases e2; exact q
  | ct => cases e2; exact q
  | rt x => cases e2; exact q
  | ro x => cases e2; exact q
theorem dss_nil : DSs M k X [] tNext fNext := ⟨fun _ => pss_nil, ok_next⟩
theorem dss_cons {st : Stmt} {rest : List Stmt} {t u : TS} {f g : F Fl} (h : DS M k X st t f) (h' : DSs M k X rest u g) : DSs M k X (st :: rest) (tSeq t u) (fSeq f g) := ⟨fun G => pss_cons (h.ps G) (h'.ps G), ok_seq h.ok h'.ok⟩
theorem dss_one {st : Stmt} {t : TS} {f : F Fl} (h : DS M k X st t f) : DSs M k X [st] t f := ⟨fun G => pss_one (h.ps G), h.ok⟩
/-- an expression whose value is dropped -/
def fDrop (f : F OV) : F Fl := fun d => (f d).bind fun p => some (.nx, p.2)
theorem ok_drop {te : TE} {f : F OV} (h : EOk M te f) : SOk M (tDrop te) (fDrop f) := by
  intro Z0 H0 P0 Z H s d fl d' D e r q
  simp only [fDrop, Option.bind_eq_some_iff] at r
  obtain ⟨⟨o, d1⟩, e1, e2⟩ := r
  cases e2
  exact h Z H s d o _ _ e.sl e1 fun v Z' H' t1 S1 k1 _ => q Z' H' s t1.zz (e.exp t1 S1 k1)
theorem ds_expr {e : Expr} {pos : Pos} {te : TE} {f : F OV} (h : DE M k X e te f) (hs : swapsWith e none pos.line X.env = pure false := by rfl) : DS M k X (.Expr e pos) (tDrop te) (fDrop f) := ⟨fun G => ps_expr (h.pe G) hs, ok_drop h.ok⟩
/-- if -/
def fIf (c : F Bool) (f g : F Fl) : F Fl := fun d => (c d).bind fun p => if p.1 = true then f p.2 else g p.2
theorem ok_if {c : TT} {t u : TS} {fc : F Bool} {f g : F Fl} (hc : TOk M c fc) (h : SOk M t f) (h' : SOk M u g) : SOk M (tIfS c t u) (fIf fc f g) := by
  intro Z0 H0 P0 Z H s d fl d' D e r q
  simp only [fIf, Option.bind_eq_some_iff] at r
  obtain ⟨⟨b, d1⟩, e1, e2⟩ := r
  refine hc Z H s d b d1 _ e.sl e1 fun Z1 H1 t1 S1 k1 => ?_
  cases b with
  | true => exact h Z0 H0 P0 Z1 H1 s d1 fl d' D (e.exp t1 S1 k1) e2 (q.le t1.zz)
  | false => exact h' Z0 H0 P0 Z1 H1 s d1 fl d' D (e.exp t1 S1 k1) e2 (q.le t1.zz)
theorem ds_if {c : Expr} {a b : List Stmt} {pos : Pos} {tc : TT} {t u : TS} {fc : F Bool} {f g : F Fl} (hc : DT M k X c tc fc) (h : DSs M k X a t f) (h' : DSs M k X b u g) : DS M k X (.If c a b pos) (tIfS tc t u) (fIf fc f g) :=
  ⟨fun G => ps_if (hc.pt G) (h.ps G) (h'.ps G), ok_if hc.ok h.ok h'.ok⟩
/-- what is never reached -/
def fNever : F Fl := fun _ => none
theorem ds_never {st : Stmt} : DS M k X st tNever fNever := ⟨fun _ => ps_never, fun _ _ _ _ _ _ _ _ _ _ _ h => by cases h⟩
/-- name = value -/
def fSet (i : Nat) (f : F OV) : F Fl := fun d => (f d).bind fun p => (fzO p.1).bind fun x => some (.nx, p.2.set i (some (.fr x)))
theorem ok_set {te : TE} {f : F OV} (i : Nat) (h0 : i ≠ 0) (h : EOk M te f) : SOk M (tAsg te (gName i)) (fSet i f) := by
  intro Z0 H0 P0 Z H s d fl d' D e r q
  simp only [fSet, Option.bind_eq_some_iff] at r
  obtain ⟨⟨o, d1⟩, e1, x, e2, e3⟩ := r
  cases e3
  exact h Z H s d o d1 _ e.sl e1 fun v Z' H' t1 S1 k1 r1 => q Z' H' _ t1.zz ((e.exp t1 S1 k1).set (r1.fz e2) i h0)
theorem ds_set (i : Nat) {x : Str} {e : Expr} {te : TE} {f : F OV} {pos pos' : Pos} (h : DE M k X e te f) (h0 : i ≠ 0 := by decide) (hi : X.N[i]? = some x := by rfl) (hx : Loc X.env.scope x := by first | exact Or.inl rfl | exact Or.inr rfl)
    (hs : swapsWith e (some (.Name x pos')) pos.line X.env = pure false := by rfl) (hf : X.fn x = true ∨ X.env.scope.names.lookup x = some .local := by first | exact .inl rfl | exact .inr rfl) :
    DS M k X (.Assign [.Name x pos'] e pos) (tAsg te (gName i)) (fSet i f) := ⟨fun G => ps_set G.nd hi hx (h.pe G) hs hf, ok_set i h0 h.ok⟩
/-- return e, of what is frozen -/
def fRet (f : F OV) : F Fl := fun d => (f d).bind fun p => (fzO p.1).bind fun x => some (.rt x, p.2)
theorem ok_ret {te : TE} {f : F OV} (h : EOk M te f) : SOk M (tRet te) (fRet f) := by
  intro Z0 H0 P0 Z H s d fl d' D e r q
  simp only [fRet, Option.bind_eq_some_iff] at r
  obtain ⟨⟨o, d1⟩, e1, x, e2, e3⟩ := r
  cases e3
  exact h Z H s d o d1 _ e.sl e1 fun v Z' H' t1 S1 k1 r1 => q Z' H' s v t1.zz (e.exp t1 S1 k1) (r1.fz e2)
theorem ds_ret {e : Expr} {te : TE} {f : F OV} {pos : Pos} (h : DE M k X e te f) : DS M k X (.Return (some e) pos) (tRet te) (fRet f) := ⟨fun G => ps_ret (h.pe G), ok_ret h.ok⟩
/-! ### freezing -/
theorem OwnAt.freeze {Z H : Hp} {a : Addr} {x : PyData} (q : OwnAt M Z H a x) (h : Z a = none) : ∃ o, H a = some o ∧ FD M (upd Z a o) (.ref a) x := by
  have le : ∀ o, Le Z (upd Z a o) := fun o b u e => by rw [upd_ne (ne_of_none e h)]; exact e
  cases q with
  | lst h1 h2 => exact ⟨_, h1, .pl (Pl.lst upd_same (h2.mono (le _)))⟩
  | ds h1 h2 => exact ⟨_, h1, .ds ⟨a, _, _, rfl, rfl, upd_same, h2.mono (le _)⟩⟩
  | dt h1 h2 => exact ⟨_, h1, .dt upd_same (h2.mono (le _))⟩
/-- the slot i, where it owns, frozen -/
def frzD (i : Nat) (d : SD) : SD := match d[i]? with
  | some (some (.own x)) => d.set i (some (.fr x))
  | _ => d
theorem Ent.freeze {Z0 H0 Z H : Hp} {P0 : Addr → Prop} {s : Sg} {d : SD} {i : Nat} {x : PyData} {a : Addr} (e : Ent M Z0 H0 P0 Z H s d) (hi : d[i]? = some (some (SV.own x))) (ha : s[i]? = some (some (V.ref a))) (hn : H0 a = none) (h0 : i ≠ 0) :
    ∃ Z', Le Z Z' ∧ FD M Z' (.ref a) x ∧ Ent M Z0 H0 P0 Z' H s (d.set i (some (.fr x))) := by
  obtain ⟨a', e1, e2, e3⟩ := e.sl.own i x hi
  rw [ha] at e1
  cases e1
  obtain ⟨o, h1, h2⟩ := e3.freeze e2
  have le : Le Z (upd Z a o) := fun b u r => by rw [upd_ne (ne_of_none r e2)]; exact r
  have ss : s.set i (some (V.ref a)) = s := by
    apply List.ext_getElem?
    intro j
    by_cases z : j = i
    · subst z
      rw [List.getElem?_set, ha]
      have hl : j < s.length := (List.getElem?_eq_some_iff.mp ha).1
      simp [hl]
    · rw [set_ne z]
  have nt2 : NT (upd Z a o) := fun b ps => by
    by_cases z : b = a
    · subst z; rw [upd_same]; exact fun w => (e3.nt h1).1 ps (Option.some.inj w)
    · rw [upd_ne z]; exact e.sl.nt b ps
  refine ⟨upd Z a o, le, h2, ⟨⟨?_, nt2, e.sl.tb, by simp [e.sl.len], ?_, ?_, ?_⟩, ⟨?_, ?_, e.st.h0, e.st.he, fun _ => nt2, e.st.tb⟩, ?_, ?_⟩⟩
  · intro b u r
    by_cases z : b = a
    · subst z; rw [upd_same] at r; rw [h1]; exact r
    · rw [upd_ne z] at r; exact e.sl.fz b u r
  · intro j y h
    by_cases z : j = i
    · subst z
      rw [List.getElem?_set] at h
      simp only [if_true] at h
      split at h
      · cases h; exact ⟨_, ha, h2⟩
      · cases h
    · rw [set_ne z] at h
      obtain ⟨v, r1, r2⟩ := e.sl.fr j y h
      exact ⟨v, r1, r2.mono le⟩
  · intro j y h
    obtain ⟨n, h⟩ := set_fr h
    obtain ⟨b, r1, r2, r3⟩ := e.sl.own j y h
    have nb : b ≠ a := fun z => n (e.sl.dis j i y x a h hi (by rw [r1, z]) ha)
    exact ⟨b, r1, by rw [upd_ne nb]; exact r2, r3.mono le fun _ z _ => z⟩
  · intro j l y z b r1 r2 r3 r4
    exact e.sl.dis j l y z b (set_fr r1).2 (set_fr r2).2 r3 r4
  · exact e.st.zz.trans le
  · intro b u r
    have nb : b ≠ a := ne_of_none r hn
    rw [upd_ne nb]
    exact e.st.zn b u r
  · intro j y b h h'
    exact e.nw j y b (set_fr h).2 h'
  · intro b h
    rw [set_ne h0.symm]
    exact e.pt b h
theorem Ent.fresh {Z0 H0 Z H : Hp} {P0 : Addr → Prop} {s : Sg} {d : SD} {i : Nat} {x : PyData} (e : Ent M Z0 H0 P0 Z H s d) (hi : d[i]? = some (some (SV.own x))) (h0 : i ≠ 0) : ∃ a, s[i]? = some (some (V.ref a)) ∧ H0 a = none := by
  obtain ⟨a, e1, e2, e3⟩ := e.sl.own i x hi
  rcases e.nw i x a hi e1 with z | z
  · exact ⟨a, e1, z⟩
  · exact absurd z.2 h0
/-- return x, x a slot that the def owns and made -/
def fRetO (i : Nat) : F Fl := fun d => match d[i]? with
  | some (some (.own x)) => some (.rt x, d.set i (some (.fr x)))
  | _ => none
theorem ds_retO (i : Nat) {x : Str} {pos pos' : Pos} (h0 : i ≠ 0 := by decide) (hN : X.N[i]? = some x := by rfl) (hv : Vis X.env.scope x := by first | exact Or.inl rfl | exact Or.inr (Or.inl rfl) | exact Or.inr (Or.inr rfl)) (hd : (x == ("__debug__" : Str)) = false := by decide)
    (hcd : (x == ("__classdict__" : Str)) = false := by decide) : DS M k X (.Return (some (.Name x pos)) pos') (tRet (tVar i)) (fRetO i) := by
  refine ⟨fun _ => ps_ret (pv i hN hv hd hcd), ?_⟩
  intro Z0 H0 P0 Z H s d fl d' D e r q
  have r' : (match d[i]? with
    | some (some (.own x)) => some (Fl.rt x, d.set i (some (.fr x)))
    | _ => none) = some (fl, d') := r
  split at r'
  · rename_i y hy
    cases r'
    obtain ⟨a, h1, h2⟩ := e.fresh hy h0
    obtain ⟨Z', le, fd, e'⟩ := e.freeze hy h1 h2 h0
    exact ⟨_, h1, q Z' H s _ le e' fd⟩
  · cases r'
/-- behind a freeze of the slot i -/
def fFrz (i : Nat) (f : F Fl) : F Fl := fun d => match d[i]? with
  | some (some (.own x)) => f (d.set i (some (.fr x)))
  | _ => none
theorem dss_frz (i : Nat) {sts : List Stmt} {t : TS} {f : F Fl} (h : DSs M k X sts t f) (h0 : i ≠ 0 := by decide) : DSs M k X sts t (fFrz i f) := by
  refine ⟨h.ps, ?_⟩
  intro Z0 H0 P0 Z H s d fl d' D e r q
  have r' : (match d[i]? with
    | some (some (.own x)) => f (d.set i (some (.fr x)))
    | _ => none) = some (fl, d') := r
  split at r'
  · rename_i y hy
    obtain ⟨a, h1, h2⟩ := e.fresh hy h0
    obtain ⟨Z', le, fd, e'⟩ := e.freeze hy h1 h2 h0
    exact h.ok Z0 H0 P0 Z' H s _ fl d' D e' r' (q.le le)
  · cases r'
end
/-! ### targets -/
def GOk (M : Me) (t : TG) (g : PyData → SD → Option SD) (js : List Nat) : Prop := ∀ Z H s d v x d' (Q : Sg → Hp → Prop), Sl M Z H s d → FD M Z v x → g x d = some d' →
  (∀ s', Sl M Z H s' d' → s'.length = s.length → (∀ i : Nat, i ∉ js → s'[i]? = s[i]? ∧ d'[i]? = d[i]?) → (∀ (i : Nat) y, d'[i]? = some (some (SV.own y)) → d[i]? = some (some (SV.own y)) ∧ s'[i]? = s[i]?) → Q s' H) → t v s H Q
def GsOk (M : Me) (t : TGs) (g : List PyData → SD → Option SD) (js : List Nat) : Prop := ∀ Z H s d vs xs d' (Q : Sg → Hp → Prop), Sl M Z H s d → PlA M Z vs xs → g xs d = some d' →
  (∀ s', Sl M Z H s' d' → s'.length = s.length → (∀ i : Nat, i ∉ js → s'[i]? = s[i]? ∧ d'[i]? = d[i]?) → (∀ (i : Nat) y, d'[i]? = some (some (SV.own y)) → d[i]? = some (some (SV.own y)) ∧ s'[i]? = s[i]?) → Q s' H) → t vs s H Q
structure DG (M : Me) (k : Nat) (X : Cx) (e : Expr) (t : TG) (g : PyData → SD → Option SD) (js : List Nat) : Prop where
  pg : Good M k X → PG X e t
  ok : GOk M t g js
structure DGs (M : Me) (k : Nat) (X : Cx) (es : List Expr) (t : TGs) (g : List PyData → SD → Option SD) (js : List Nat) : Prop where
  pg : Good M k X → PGs X es t
  ok : GsOk M t g js
  len : ∀ xs d d', g xs d = some d' → xs.length = es.length
def gN (i : Nat) : PyData → SD → Option SD := fun x d => some (d.set i (some (.fr x)))
def gsN : List PyData → SD → Option SD := fun xs d => match xs with
  | [] => some d
  | _ :: _ => none
def gsC (g : PyData → SD → Option SD) (gs : List PyData → SD → Option SD) : List PyData → SD → Option SD := fun xs d => match xs with
  | [] => none
  | x :: r => (g x d).bind (gs r)
def gT (gs : List PyData → SD → Option SD) : PyData → SD → Option SD := fun x d => match x with
  | .tuple xs => gs xs d
  | _ => none
section
variable {M : Me} {k : Nat} {X : Cx}
theorem ok_gN (i : Nat) : GOk M (gName i) (gN i) [i] := by
  intro Z H s d v x d' Q S q e h
  cases e
  refine h _ (S.set q i) (by simp) (fun j n => ?_) fun j y z => ?_
  · rw [set_ne fun z => n (by simp [z]), set_ne fun z => n (by simp [z])]
    exact ⟨rfl, rfl⟩
  · obtain ⟨n, z⟩ := set_fr z
    exact ⟨z, by rw [set_ne n]⟩
theorem dg_name (i : Nat) {x : Str} {pos : Pos} (hi : X.N[i]? = some x := by rfl) (hx : Loc X.env.scope x := by first | exact Or.inl rfl | exact Or.inr rfl)
    (hf : X.fn x = true ∨ X.env.scope.names.lookup x = some .local := by first | exact .inl rfl | exact .inr rfl) : DG M k X (.Name x pos) (gName i) (gN i) [i] := ⟨fun G => pg_name G.nd hi hx hf, ok_gN i⟩
theorem dgs_nil : DGs M k X [] gNil gsN [] := by
  refine ⟨fun _ => pgs_nil, ?_, ?_⟩
  · intro Z H s d vs xs d' Q S q e h
    cases xs with
    | nil =>
      cases e
      exact ⟨q.nil_inv, h s S rfl (fun _ _ => ⟨rfl, rfl⟩) fun _ _ z => ⟨z, rfl⟩⟩
    | cons _ _ => cases e
  · intro xs d d' e
    cases xs with
    | nil => rfl
    | cons _ _ => cases e
theorem dgs_cons {e : Expr} {es : List Expr} {t : TG} {u : TGs} {g : PyData → SD → Option SD} {gs : List PyData → SD → Option SD} {js ks : List Nat} (h1 : DG M k X e t g js) (h2 : DGs M k X es u gs ks)
    (hs : (assignEach (e :: es) X.env).map (·.2) = assign e X.env :: (assignEach es X.env).map (·.2) := by rfl) : DGs M k X (e :: es) (gCons t u) (gsC g gs) (js ++ ks) := by
  refine ⟨fun G => pgs_cons (h1.pg G) (h2.pg G) hs, ?_, ?_⟩
  · intro Z H s d vs xs d' Q S q r h
    cases xs with
    | nil => cases r
    | cons x xs =>
      obtain ⟨v, vr, rfl, q1, q2⟩ := q.cons_inv
      have r' : (g x d).bind (gs xs) = some d' := r
      rw [Option.bind_eq_some_iff] at r'
      obtain ⟨d1, r1, r2⟩ := r'
      refine ⟨v, vr, rfl, h1.ok Z H s d v x d1 _ S (.pl q1) r1 fun s1 S1 l1 n1 o1 => ?_⟩
      refine h2.ok Z H s1 d1 vr xs d' _ S1 q2 r2 fun s2 S2 l2 n2 o2 => ?_
      refine h s2 S2 (l2.trans l1) (fun i n => ?_) fun i y z => ?_
      · obtain ⟨z1, z2⟩ := n2 i fun z => n (by simp [z])
        obtain ⟨z3, z4⟩ := n1 i fun z => n (by simp [z])
        exact ⟨z1.trans z3, z2.trans z4⟩
      · obtain ⟨z1, z2⟩ := o2 i y z
        obtain ⟨z3, z4⟩ := o1 i y z1
        exact ⟨z3, z2.trans z4⟩
  · intro xs d d' r
    cases xs with
    | nil => cases r
    | cons x xs =>
      have r' : (g x d).bind (gs xs) = some d' := r
      rw [Option.bind_eq_some_iff] at r'
      obtain ⟨d1, r1, r2⟩ := r'
      simp [h2.len _ _ _ r2]
theorem dg_tup {es : List Expr} {kk n : Nat} {pos : Pos} {t : TGs} {gs : List PyData → SD → Option SD} {js : List Nat} (h : DGs M k X es t gs js) (he : es.length = n := by rfl)
    (hn : (assignEach es X.env).length = n := by rfl) (hst : (assignEach es X.env).findIdx? (·.1) = none := by rfl) : DG M k X (.Tuple es kk pos) (gTup M.K n t) (gT gs) js := by
  refine ⟨fun G => by rw [← G.K]; exact pg_tup G.calm (h.pg G) hn hst, ?_⟩
  intro Z H s d v x d' Q S q r hq
  cases x with
  | tuple xs =>
    obtain ⟨a, vs, rfl, s1, q1⟩ := (q.plain fun _ z => by cases z).tup_inv
    refine ⟨a, vs, rfl, SqT.of (S.fz _ _ s1), ?_, h.ok Z H s d vs xs d' Q S q1 r hq⟩
    rw [q1.length, h.len xs d d' r, he]
  | none => cases r
  | bool _ => cases r
  | int _ => cases r
  | str _ => cases r
  | list _ => cases r
  | dict _ => cases r
/-- targets = value -/
def fAsg (g : PyData → SD → Option SD) (f : F OV) : F Fl := fun d => (f d).bind fun p => (fzO p.1).bind fun x => (g x p.2).bind fun d' => some (.nx, d')
theorem Ent.tgt {Z0 H0 Z H : Hp} {P0 : Addr → Prop} {s s' : Sg} {d d' : SD} {js : List Nat} (e : Ent M Z0 H0 P0 Z H s d) (S : Sl M Z H s' d') (h0 : 0 ∉ js) (n : ∀ i : Nat, i ∉ js → s'[i]? = s[i]? ∧ d'[i]? = d[i]?) (o : ∀ (i : Nat) y, d'[i]? = some (some (SV.own y)) → d[i]? = some (some (SV.own y)) ∧ s'[i]? = s[i]?) : Ent M Z0 H0 P0 Z H s' d' :=
  ⟨S, e.st, fun i y a h h2 => by
    obtain ⟨z1, z2⟩ := o i y h
    rw [z2] at h2
    exact e.nw i y a z1 h2, fun a h => by
    obtain ⟨z1, z2⟩ := n 0 h0
    rw [z1, z2]
    exact e.pt a h⟩
theorem ok_asg {te : TE} {t : TG} {f : F OV} {g : PyData → SD → Option SD} {js : List Nat} (h : EOk M te f) (hg : GOk M t g js) (h0 : 0 ∉ js) : SOk M (tAsg te t) (fAsg g f) := by
  intro Z0 H0 P0 Z H s d fl d' D e r q
  simp only [fAsg, Option.bind_eq_some_iff] at r
  obtain ⟨⟨o, d1⟩, e1, x, e2, d2, e3, e4⟩ := r
  cases e4
  refine h Z H s d o d1 _ e.sl e1 fun v Z' H' t1 S1 k1 r1 => ?_
  exact hg Z' H' s d1 v x _ _ S1 (r1.fz e2) e3 fun s' S' l n o => q Z' H' s' t1.zz ((e.exp t1 S1 k1).tgt S' h0 n o)
theorem ds_asg {tg e : Expr} {pos : Pos} {te : TE} {t : TG} {f : F OV} {g : PyData → SD → Option SD} {js : List Nat} (h : DE M k X e te f) (hg : DG M k X tg t g js) (h0 : 0 ∉ js := by decide) (hs : swapsWithSole [tg] e pos.line X.env = pure false := by rfl) (hw : swappedStores [tg] e X.env = pure none := by rfl)
    (h1 : (assignEach [tg] X.env).map (·.2) = [assign tg X.env] := by rfl) : DS M k X (.Assign [tg] e pos) (tAsg te t) (fAsg g f) := ⟨fun G => ps_asg (h.pe G) (hg.pg G) hs hw h1, ok_asg h.ok hg.ok h0⟩
/-- a, b = x, y of plain local names -/
def fPar (i j : Nat) (f : F (List OV)) : F Fl := fun d => (f d).bind fun p => match p.1 with
  | [o1, o2] => (fzO o1).bind fun x => (fzO o2).bind fun y => some (.nx, (p.2.set i (some (.fr x))).set j (some (.fr y)))
  | _ => none
theorem ok_par {ta : TA} {f : F (List OV)} (i j : Nat) (hi0 : i ≠ 0) (hj0 : j ≠ 0) (h : AOk M ta f) : SOk M (tPar i j ta) (fPar i j f) := by
  intro Z0 H0 P0 Z H s d fl d' D e r q
  simp only [fPar, Option.bind_eq_some_iff] at r
  obtain ⟨⟨os, d1⟩, e1, e2⟩ := r
  dsimp only at e2
  split at e2
  · rename_i o1 o2
    simp only [Option.bind_eq_some_iff] at e2
    obtain ⟨x, e2, y, e3, e4⟩ := e2
    cases e4
    refine h Z H s d _ d1 _ e.sl e1 fun vs Z' H' t1 S1 k1 r1 => ?_
    cases r1 with
    | cons r1 r2 =>
      cases r2 with
      | cons r2 r3 =>
        cases r3
        exact ⟨_, _, rfl, q Z' H' _ t1.zz (((e.exp t1 S1 k1).set (r1.fz e2) i hi0).set (r2.fz e3) j hj0)⟩
  · cases e2
theorem ds_par (i j : Nat) {x y : Str} {a b : Expr} {pos px py pt : Pos} {kt k2 : Nat} {pt2 : Pos} {ta : TA} {f : F (List OV)} (h : DA M k X [a, b] ta f) (hij : i ≠ j := by decide) (hi0 : i ≠ 0 := by decide) (hj0 : j ≠ 0 := by decide) (hi : X.N[i]? = some x := by rfl) (hj : X.N[j]? = some y := by rfl)
    (hx : X.env.scope.names.lookup x = some .local := by rfl) (hy : X.env.scope.names.lookup y = some .local := by rfl)
    (hw : swappedStores [.Tuple [.Name x px, .Name y py] kt pt] (.Tuple [a, b] k2 pt2) X.env = pure (some [x, y]) := by rfl)
    (hs : swapsWithSole [.Tuple [.Name x px, .Name y py] kt pt] (.Tuple [a, b] k2 pt2) pos.line X.env = pure false := by rfl) :
    DS M k X (.Assign [.Tuple [.Name x px, .Name y py] kt pt] (.Tuple [a, b] k2 pt2) pos) (tPar i j ta) (fPar i j f) := ⟨fun G => ps_par G.calm G.nd hi hj hij hx hy (h.pa G) hw hs, ok_par i j hi0 hj0 h.ok⟩
end
end DL

set_option maxRecDepth 100000
set_option linter.all false
/-! DL3: what loops and comprehensions walk; for, while, list comprehensions. -/
namespace DL
open PySem L2

/-- J gives xs, wherever Z1 is frozen -/
def Gives (M : Me) (J : It) (Z1 : Hp) (xs : List PyData) : Prop := ∀ Z H, Le Z1 Z → Le Z H →
  (∀ i, i < xs.length → J.go i H) ∧ J.stop xs.length H ∧
  ∀ i v H', i < xs.length → J.yld i H v H' → ∃ Z' x, xs[i]? = some x ∧ FD M Z' v x ∧ Step M.T Z H Z' H' (fun _ => False) ∧ Le Z' H'
def IOk (M : Me) (wi : TI) (f : F (List PyData)) : Prop := ∀ Z H s d xs d' (R : It → Hp → Prop), Sl M Z H s d → f d = some (xs, d') →
  (∀ J Z' H', Step M.T Z H Z' H' (Ows s d) → Sl M Z' H' s d' → SameO d d' → Gives M J Z' xs → R J H') → wi s H R
structure DI (M : Me) (k : Nat) (X : Cx) (tg e : Expr) (wi : TI) (f : F (List PyData)) : Prop where
  pi : Good M k X → PI X tg e wi
  ok : IOk M wi f
def forF (g : PyData → SD → Option SD) (b : F Fl) : List PyData → SD → Option (Fl × SD)
  | [], d => some (.nx, d)
  | x :: r, d => (g x d).bind fun d1 => (b d1).bind fun p => match p.1 with
    | .nx => forF g b r p.2
    | .ct => forF g b r p.2
    | .bk => some (.nx, p.2)
    | .rt z => some (.rt z, p.2)
    | .ro z => some (.ro z, p.2)
def fFor (fi : F (List PyData)) (g : PyData → SD → Option SD) (b : F Fl) : F Fl := fun d => (fi d).bind fun p => forF g b p.1 p.2
def whF (c : F Bool) (b : F Fl) : Nat → SD → Option (Fl × SD)
  | 0, _ => none
  | n + 1, d => (c d).bind fun p => if p.1 = true then (b p.2).bind fun q => match q.1 with
      | .nx => whF c b n q.2
      | .ct => whF c b n q.2
      | .bk => some (.nx, q.2)
      | .rt z => some (.rt z, q.2)
      | .ro z => some (.ro z, q.2)
    else some (.nx, p.2)
section
variable {M : Me} {k : Nat} {X : Cx}
theorem ok_for {wi : TI} {t : TG} {tb : TS} {fi : F (List PyData)} {g : PyData → SD → Option SD} {js : List Nat} {b : F Fl} (hi : IOk M wi fi) (hg : GOk M t g js) (h0 : 0 ∉ js) (hb : SOk M tb b) : SOk M (tFor wi t tb) (fFor fi g b) := by
  intro Z0 H0 P0 Z H s d fl d' D e r q
  simp only [fFor, Option.bind_eq_some_iff] at r
  obtain ⟨⟨xs, d1⟩, e1, e2⟩ := r
  refine hi Z H s d xs d1 _ e.sl e1 fun J Z1 H1 t1 S1 k1 gv => ?_
  have E1 := e.exp t1 S1 k1
  refine ⟨fun i m s H => i ≤ xs.length ∧ m = xs.length - i ∧ ∃ Z d, Le Z1 Z ∧ Ent M Z0 H0 P0 Z H s d ∧ forF g b (xs.drop i) d = some (fl, d'), ⟨_, Nat.zero_le _, rfl, Z1, d1, Le.refl _, E1, by simpa using e2⟩, ?_⟩
  rintro i m s H ⟨hi, rfl, Z, d, le, E, hf⟩
  obtain ⟨g1, g2, g3⟩ := gv Z H le E.sl.fz
  by_cases c : i < xs.length
  · right
    refine ⟨g1 i c, fun s H => ∃ m', m' < xs.length - i ∧ (i + 1 ≤ xs.length ∧ m' = xs.length - (i + 1) ∧ ∃ Z d, Le Z1 Z ∧ Ent M Z0 H0 P0 Z H s d ∧ forF g b (xs.drop (i + 1)) d = some (fl, d')), fun _ _ h => h, fun v H' y => ?_⟩
    obtain ⟨Z', x, hx, fd, st, le'⟩ := g3 i v H' c y
    have hd : xs.drop i = x :: xs.drop (i + 1) := by
      rw [List.drop_eq_getElem_cons c]
      rw [List.getElem?_eq_getElem c] at hx
      cases hx; rfl
    rw [hd] at hf
    simp only [forF, Option.bind_eq_some_iff] at hf
    obtain ⟨d2, f1, ⟨fl2, d3⟩, f2, f3⟩ := hf
    have E' := E.no st le'
    refine hg Z' H' s d v x d2 _ E'.sl fd f1 fun s' S' _ nj o => ?_
    refine hb Z0 H0 P0 Z' H' s' d2 fl2 d3 _ (E'.tgt S' h0 nj o) f2 ?_
    cases fl2 with
    | nx => exact fun Z2 H2 s2 l2 E2 => ⟨_, by omega, c, rfl, Z2, d3, (le.trans st.zz).trans l2, E2, f3⟩
    | ct => exact fun Z2 H2 s2 l2 E2 => ⟨_, by omega, c, rfl, Z2, d3, (le.trans st.zz).trans l2, E2, f3⟩
    | bk => cases f3; exact q.le (t1.zz.trans (le.trans st.zz))
    | rt z => cases f3; exact q.le (t1.zz.trans (le.trans st.zz))
    | ro z => cases f3; exact q.le (t1.zz.trans (le.trans st.zz))
  · left
    have ei : i = xs.length := by omega
    subst ei
    simp only [List.drop_length, forF] at hf
    cases hf
    exact ⟨g2, q Z H s (t1.zz.trans le) E⟩
theorem ds_for {tg iter : Expr} {body : List Stmt} {pos : Pos} {wi : TI} {t : TG} {tb : TS} {fi : F (List PyData)} {g : PyData → SD → Option SD} {js : List Nat} {b : F Fl} (hi : DI M k X tg iter wi fi) (hg : DG M k X tg t g js) (hb : DSs M k X body tb b) (h0 : 0 ∉ js := by decide)
    (hp : PassesOwn (model X.prog X.w) X.A X.env X.xe := by exact PassesOwn.never) (hs : ∀ x, foldedSetIterable iter X.env x = pure x := by intro _; rfl) : DS M k X (.For tg iter body [] pos) (tFor wi t tb) (fFor fi g b) :=
  ⟨fun G => ps_for hp G.calm (hi.pi G) (hg.pg G) (hb.ps G) hs, ok_for hi.ok hg.ok h0 hb.ok⟩
theorem ok_while {tc : TT} {tb : TS} {c : F Bool} {b : F Fl} (n : Nat) (hc : TOk M tc c) (hb : SOk M tb b) : SOk M (tWhile tc tb) (whF c b n) := by
  intro Z0 H0 P0 Z H s d fl d' D e r q
  refine ⟨fun m s H => ∃ Z1 d, Le Z Z1 ∧ Ent M Z0 H0 P0 Z1 H s d ∧ whF c b m d = some (fl, d'), ⟨n, Z, d, Le.refl _, e, r⟩, ?_⟩
  rintro m s H ⟨Z1, d, le, E, hf⟩
  cases m with
  | zero => cases hf
  | succ m =>
    simp only [whF, Option.bind_eq_some_iff] at hf
    obtain ⟨⟨v, d1⟩, f1, f2⟩ := hf
    refine hc Z1 H s d v d1 _ E.sl f1 fun Z2 H2 t2 S2 k2 => ?_
    cases v with
    | false =>
      cases f2
      exact q Z2 H2 s (le.trans t2.zz) (E.exp t2 S2 k2)
    | true =>
      rw [if_pos rfl]
      simp only [if_true, Option.bind_eq_some_iff] at f2
      obtain ⟨⟨fl2, d2⟩, f3, f4⟩ := f2
      refine ⟨fun s H => ∃ m', m' < m + 1 ∧ ∃ Z1 d, Le Z Z1 ∧ Ent M Z0 H0 P0 Z1 H s d ∧ whF c b m' d = some (fl, d'), fun _ _ h => h, ?_⟩
      refine hb Z0 H0 P0 Z2 H2 s d1 fl2 d2 _ (E.exp t2 S2 k2) f3 ?_
      cases fl2 with
      | nx => exact fun Z3 H3 s3 l3 E3 => ⟨m, Nat.lt_succ_self _, Z3, d2, (le.trans t2.zz).trans l3, E3, f4⟩
      | ct => exact fun Z3 H3 s3 l3 E3 => ⟨m, Nat.lt_succ_self _, Z3, d2, (le.trans t2.zz).trans l3, E3, f4⟩
      | bk => cases f4; exact q.le (le.trans t2.zz)
      | rt z => cases f4; exact q.le (le.trans t2.zz)
      | ro z => cases f4; exact q.le (le.trans t2.zz)
theorem ds_while (n : Nat) {c : Expr} {body : List Stmt} {pos : Pos} {tc : TT} {tb : TS} {fc : F Bool} {b : F Fl} (hc : DT M k X c tc fc) (hb : DSs M k X body tb b) (hp : PassesOwn (model X.prog X.w) X.A X.env X.xe := by exact PassesOwn.never) :
    DS M k X (.While c body [] pos) (tWhile tc tb) (whF fc b n) := ⟨fun G => ps_while hp (hc.pt G) (hb.ps G), ok_while n hc.ok hb.ok⟩
/-! ### breaks -/
theorem ds_break {pos : Pos} : DS M k X (.Break pos) tBreak (fun d => some (.bk, d)) := ⟨fun _ => ps_break, by
  intro Z0 H0 P0 Z H s d fl d' D e r q
  cases r
  exact q Z H s (Le.refl _) e⟩
theorem ds_continue {pos : Pos} : DS M k X (.Continue pos) tCont (fun d => some (.ct, d)) := ⟨fun _ => ps_continue, by
  intro Z0 H0 P0 Z H s d fl d' D e r q
  cases r
  exact q Z H s (Le.refl _) e⟩
end
/-! ### comprehensions -/
def wipeD (d : SD) : List Nat → SD
  | [] => d
  | v :: vs => (wipeD d vs).set v none
def okW (vs : List Nat) (d : SD) : Bool := vs.all fun i => match d[i]? with
  | some (some (.own _)) => false
  | _ => true
def mrg (a b : Option SV) : Option SV := match a with
  | some (.own _) => b
  | x => x
def mergeO (d t : SD) : SD := List.zipWith mrg d t
def lcF (g : PyData → SD → Option SD) (tt : F Bool) (te : F OV) (vs : List Nat) : List PyData → SD → Option (List PyData × SD)
  | [], t => some ([], t)
  | x :: r, t => (g x t).bind fun t1 => (tt t1).bind fun p => if p.1 = true then (te p.2).bind fun q => (plO q.1).bind fun y => (lcF g tt te vs r (wipeD q.2 vs)).bind fun z => some (y :: z.1, z.2)
    else lcF g tt te vs r (wipeD p.2 vs)
def fLc (fi : F (List PyData)) (g : PyData → SD → Option SD) (tt : F Bool) (te : F OV) (vs : List Nat) : F OV := fun d => (fi d).bind fun p => if okW vs p.2 = true then
    (lcF g tt te vs p.1 (wipeD p.2 vs)).bind fun z => if z.1.length ≤ sizeLine then some (.val (.list z.1), mergeO p.2 z.2) else none
  else none
theorem wipe_get (σ : Sg) : ∀ (vs : List Nat) (i : Nat), (wipe σ vs)[i]? = if i ∈ vs then (if i < σ.length then some none else none) else σ[i]?
  | [], i => by simp [wipe]
  | v :: vs, i => by
    have ih := wipe_get σ vs i
    have hl := wipe_length σ vs
    show ((wipe σ vs).set v none)[i]? = _
    rw [List.getElem?_set, hl]
    by_cases h : v = i
    · subst h; simp
    · rw [if_neg h, ih]
      have h' : ¬ i = v := fun z => h z.symm
      simp [h']
theorem wipeD_length (d : SD) : ∀ vs : List Nat, (wipeD d vs).length = d.length
  | [] => rfl
  | v :: vs => by
    show ((wipeD d vs).set v none).length = _
    rw [List.length_set, wipeD_length d vs]
theorem wipeD_get (d : SD) : ∀ (vs : List Nat) (i : Nat), (wipeD d vs)[i]? = if i ∈ vs then (if i < d.length then some none else none) else d[i]?
  | [], i => by simp [wipeD]
  | v :: vs, i => by
    have ih := wipeD_get d vs i
    have hl := wipeD_length d vs
    show ((wipeD d vs).set v none)[i]? = _
    rw [List.getElem?_set, hl]
    by_cases h : v = i
    · subst h; simp
    · rw [if_neg h, ih]
      have h' : ¬ i = v := fun z => h z.symm
      simp [h']
theorem wipeD_some {d : SD} {vs : List Nat} {i : Nat} {x : SV} (h : (wipeD d vs)[i]? = some (some x)) : i ∉ vs ∧ d[i]? = some (some x) := by
  rw [wipeD_get] at h
  split at h
  · split at h <;> cases h
  · rename_i n; exact ⟨n, h⟩
theorem wipe_eq {s s' : Sg} {vs : List Nat} (hl : s'.length = s.length) (h : ∀ i : Nat, i ∉ vs → s'[i]? = s[i]?) : wipe s' vs = wipe s vs := by
  apply List.ext_getElem?
  intro i
  rw [wipe_get, wipe_get, hl]
  split
  · rfl
  · rename_i n; exact h i n
theorem no_tab {H : Hp} {a : Addr} (h : H a = none) : ∀ u, H a = some u → (∀ ps, u ≠ .tbl ps) ∧ ∀ c, u ≠ LamX.CodeO a c := fun u e => by rw [h] at e; cases e
theorem lst_tab {H : Hp} {a : Addr} {xs : List V} (h : H a = some (.lst xs)) : ∀ u, H a = some u → (∀ ps, u ≠ .tbl ps) ∧ ∀ c, u ≠ LamX.CodeO a c := fun u e => by
  rw [h] at e; cases e
  exact ⟨(fun _ z => by cases z), fun _ z => by unfold LamX.CodeO at z; cases z⟩
section
variable {M : Me} {Z H : Hp} {s : Sg} {d : SD}
theorem Sl.wipe (S : Sl M Z H s d) (vs : List Nat) : Sl M Z H (wipe s vs) (wipeD d vs) where
  fz := S.fz
  nt := S.nt
  tb := S.tb
  len := by rw [wipe_length, wipeD_length, S.len]
  fr := fun i x h => by
    obtain ⟨n, h⟩ := wipeD_some h
    rw [wipe_get, if_neg n]
    exact S.fr i x h
  own := fun i x h => by
    obtain ⟨n, h⟩ := wipeD_some h
    rw [wipe_get, if_neg n]
    exact S.own i x h
  dis := fun i j x y a h1 h2 h3 h4 => by
    obtain ⟨n1, h1⟩ := wipeD_some h1
    obtain ⟨n2, h2⟩ := wipeD_some h2
    rw [wipe_get, if_neg n1] at h3
    rw [wipe_get, if_neg n2] at h4
    exact S.dis i j x y a h1 h2 h3 h4
/-- an object that is not the slots' is written, or made -/
theorem Sl.updO (S : Sl M Z H s d) {a : Addr} {o : HO} (h : Z a = none) (n : ¬ Ows s d a) (hp : ∀ u, H a = some u → (∀ ps, u ≠ .tbl ps) ∧ ∀ c, u ≠ LamX.CodeO a c) : Sl M Z (upd H a o) s d where
  fz := le_updH S.fz h
  nt := S.nt
  tb := fun p q => tabs_upd hp _ _ (S.tb p q)
  len := S.len
  fr := S.fr
  own := fun i x e => by
    obtain ⟨b, e1, e2, e3⟩ := S.own i x e
    have nb : b ≠ a := fun z => n ⟨i, x, e, by rw [e1, z]⟩
    exact ⟨b, e1, e2, e3.mono (Le.refl _) fun u z _ => by rw [upd_ne nb]; exact z⟩
  dis := S.dis
theorem Step.updNew {T : List (Addr × PySem.Str)} {Z0 H0 Z H : Hp} {P : Addr → Prop} {a : Addr} {o : HO} (t : Step T Z0 H0 Z H P) (h : H0 a = none) (hp : ∀ u, H a = some u → (∀ ps, u ≠ .tbl ps) ∧ ∀ c, u ≠ LamX.CodeO a c) : Step T Z0 H0 Z (upd H a o) P where
  zz := t.zz
  zn := t.zn
  h0 := fun b u e n m => by rw [upd_ne (ne_of_none e h)]; exact t.h0 b u e n m
  nt := t.nt
  tb := fun w p h => tabs_upd hp p.1 p.2 (t.tb w p h)
  he := fun b u e => by
    rw [upd_ne (ne_of_none e h)]
    exact t.he b u e
end
theorem mergeO_get {d t : SD} (hl : d.length = t.length) (i : Nat) : (mergeO d t)[i]? = match d[i]? with
    | some (some (.own _)) => t[i]?
    | x => x := by
  rw [mergeO, List.getElem?_zipWith]
  cases h : d[i]? with
  | none =>
    have : t[i]? = none := by
      rw [List.getElem?_eq_none_iff] at h ⊢
      omega
    simp [this]
  | some a =>
    have hi : i < t.length := by
      have := (List.getElem?_eq_some_iff.mp h).1
      omega
    rw [List.getElem?_eq_getElem hi]
    cases a with
    | none => rfl
    | some a => cases a <;> rfl
theorem okW_no {vs : List Nat} {d : SD} (h : okW vs d = true) {i : Nat} {x : PyData} (e : d[i]? = some (some (SV.own x))) : i ∉ vs := by
  intro hi
  have h' := List.all_eq_true.mp h i hi
  rw [e] at h'
  cases h'
section
variable {M : Me} {k : Nat} {X : Cx}
/-- one turn's slots, against those of the comprehension's begin -/
def SubO (d t : SD) : Prop := ∀ i : Nat, (∃ x, d[i]? = some (some (SV.own x))) ↔ ∃ x, t[i]? = some (some (SV.own x))
theorem ok_lc {wi : TI} {tg : TG} {tt : TT} {te : TE} {fi : F (List PyData)} {g : PyData → SD → Option SD} {js : List Nat} {ft : F Bool} {fe : F OV} {vs : List Nat} (hi : IOk M wi fi) (hg : GOk M tg g js) (ht : TOk M tt ft) (he : EOk M te fe) (hjs : ∀ j ∈ js, j ∈ vs) :
    EOk M (tLc wi tg tt te vs) (fLc fi g ft fe vs) := by
  intro Z H s d ov d' Q S r q
  simp only [fLc, Option.bind_eq_some_iff] at r
  obtain ⟨⟨xs, d1⟩, e1, e2⟩ := r
  dsimp only at e2
  split at e2
  case isFalse => cases e2
  rename_i hw
  rw [Option.bind_eq_some_iff] at e2
  obtain ⟨⟨tot, tE⟩, e3, e4⟩ := e2
  dsimp only at e4
  split at e4
  case isFalse => cases e4
  rename_i hsz
  cases e4
  refine hi Z H s d xs d1 _ S e1 fun J Z1 H1 t1 S1 k1 gv => ?_
  intro D hD
  have noD : ¬ Ows s d1 D := by
    rintro ⟨i, x, h1, h2⟩
    obtain ⟨a, r1, r2, r3⟩ := S1.own i x h1
    rw [h2] at r1
    cases r1
    obtain ⟨o, r4⟩ := r3.ex
    rw [hD] at r4
    cases r4
  have zD : Z1 D = none := by
    cases z : Z1 D with
    | none => rfl
    | some o => rw [S1.fz _ _ z] at hD; cases hD
  -- the word between two turns
  let W : Nat → Hp → Prop := fun i H => ∃ Z t acc ys zs, Le Z1 Z ∧ Sl M Z H (wipe s vs) t ∧ Step M.T Z1 H1 Z H (Ows s d1) ∧ SubO d1 t ∧ H D = some (.lst acc) ∧ Z D = none ∧ PlA M Z acc ys ∧ lcF g ft fe vs (xs.drop i) t = some (zs, tE) ∧ ys ++ zs = tot
  have hS0 : Sl M Z1 (upd H1 D (.lst [])) (wipe s vs) (wipeD d1 vs) := (S1.updO zD noD (no_tab hD)).wipe vs
  have hsub0 : SubO d1 (wipeD d1 vs) := by
    intro i
    constructor
    · rintro ⟨x, h⟩
      exact ⟨x, by rw [wipeD_get, if_neg (okW_no hw h)]; exact h⟩
    · rintro ⟨x, h⟩
      exact ⟨x, (wipeD_some h).2⟩
  have h0 : W 0 (upd H1 D (.lst [])) := ⟨Z1, wipeD d1 vs, [], [], tot, Le.refl _, hS0, Step.refl.updNew hD (no_tab hD), hsub0, upd_same, zD, .nil, by simpa using e3, rfl⟩
  refine ⟨fun i m H => i ≤ xs.length ∧ m = xs.length - i ∧ W i H, ⟨_, Nat.zero_le _, rfl, h0⟩, ?_⟩
  rintro i m H2 ⟨hi, rfl, Z2, t, acc, ys, zs, le, S2, st, sub, hacc, zD2, pl, hf, htot⟩
  obtain ⟨g1, g2, g3⟩ := gv Z2 H2 le S2.fz
  by_cases c : i < xs.length
  · right
    refine ⟨g1 i c, fun H => ∃ m', m' < xs.length - i ∧ (i + 1 ≤ xs.length ∧ m' = xs.length - (i + 1) ∧ W (i + 1) H), fun _ h => h, fun v H3 y => ?_⟩
    obtain ⟨Z3, x, hx, fd, st3, le3⟩ := g3 i v H3 c y
    have hd : xs.drop i = x :: xs.drop (i + 1) := by
      rw [List.drop_eq_getElem_cons c]
      rw [List.getElem?_eq_getElem c] at hx
      cases hx; rfl
    rw [hd] at hf
    simp only [lcF, Option.bind_eq_some_iff] at hf
    obtain ⟨ta, f1, ⟨b, tb⟩, f2, f3⟩ := hf
    have S3 := S2.no st3 le3
    refine hg Z3 H3 (wipe s vs) t v x ta _ S3 fd f1 fun s3 Sa hl hn ho => ?_
    have wq : wipe s3 vs = wipe s vs := by
      rw [wipe_eq (s := wipe s vs) (s' := s3) hl fun i n => (hn i fun z => n (hjs i z)).1]
      refine wipe_eq (wipe_length s vs) fun i n => ?_
      rw [wipe_get, if_neg n]
    refine ⟨wq, ?_⟩
    -- what the turn's slots own is what the begin's own
    have ows : ∀ a, Ows s3 ta a → Ows s d1 a := by
      rintro a ⟨j, w, h1, h2⟩
      obtain ⟨h3, h4⟩ := ho j w h1
      obtain ⟨u, h5⟩ := (sub j).mpr ⟨w, h3⟩
      rw [h4, wipe_get] at h2
      split at h2
      · split at h2 <;> cases h2
      · exact ⟨j, u, h5, h2⟩
    have suba : ∀ i : Nat, (∃ x, ta[i]? = some (some (SV.own x))) → ∃ x, t[i]? = some (some (SV.own x)) := fun i ⟨w, h⟩ => ⟨w, (ho i w h).1⟩
    refine ht Z3 H3 s3 ta b tb _ Sa f2 fun Z4 H4 st4 S4 k4 => ?_
    have st4' : Step M.T Z1 H1 Z4 H4 (Ows s d1) := (st.trans st3.no).trans (st4.mono ows)
    have hD4 : H4 D = some (.lst acc) := st4.hh D _ (st3.hh D _ hacc fun z => z) fun z => noD (ows D z)
    have zD4 : Z4 D = none := by rw [st4.zn D _ (st3.hh D _ hacc fun z => z), st3.zn D _ hacc]; exact zD2
    have fin : ∀ (Z5 H5 : Hp) (tc : SD) (acc' : List V) (ys' zs' : List PyData), Le Z4 Z5 → Sl M Z5 H5 s3 tc → Step M.T Z1 H1 Z5 H5 (Ows s d1) → (∀ i : Nat, (∃ x, tb[i]? = some (some (SV.own x))) ↔ ∃ x, tc[i]? = some (some (SV.own x))) → H5 D = some (.lst acc') → Z5 D = none → PlA M Z5 acc' ys' → lcF g ft fe vs (xs.drop (i + 1)) (wipeD tc vs) = some (zs', tE) → ys' ++ zs' = tot → W (i + 1) H5 := by
      intro Z5 H5 tc acc' ys' zs' l5 S5 st5 ko hD5 zD5 pl5 f5 t5
      refine ⟨Z5, wipeD tc vs, acc', ys', zs', st5.zz, ?_, st5, ?_, hD5, zD5, pl5, f5, t5⟩
      · rw [← wq]; exact S5.wipe vs
      · intro j
        constructor
        · rintro ⟨w, h⟩
          have nj : j ∉ vs := okW_no hw h
          obtain ⟨u, hu⟩ := (sub j).mp ⟨w, h⟩
          -- slot j of ta
          have hjt : ∃ x, ta[j]? = some (some (SV.own x)) := ⟨u, by rw [(hn j fun z => nj (hjs j z)).2]; exact hu⟩
          obtain ⟨u2, hu2⟩ := (ko j).mp ((k4 j).mp hjt)
          exact ⟨u2, by rw [wipeD_get, if_neg nj]; exact hu2⟩
        · rintro ⟨w, h⟩
          obtain ⟨nj, h⟩ := wipeD_some h
          exact (sub j).mpr (suba j ((k4 j).mpr ((ko j).mpr ⟨w, h⟩)))
    have nextW : ∀ H, W (i + 1) H → ∃ m', m' < xs.length - i ∧ (i + 1 ≤ xs.length ∧ m' = xs.length - (i + 1) ∧ W (i + 1) H) := fun H h => ⟨_, by omega, c, rfl, h⟩
    cases b with
    | false =>
      simp only [Bool.false_eq_true, if_false] at f3 ⊢
      exact nextW _ (fin Z4 H4 tb acc ys zs (Le.refl _) S4 st4' (fun _ => Iff.rfl) hD4 zD4 (pl.mono (st3.zz.trans st4.zz)) f3 htot)
    | true =>
      simp only [if_true, Option.bind_eq_some_iff] at f3 ⊢
      obtain ⟨⟨o5, tc⟩, f5, yd, f6, ⟨zs', tE'⟩, f7, f8⟩ := f3
      cases f8
      refine he Z4 H4 s3 tb o5 tc _ S4 f5 fun v5 Z5 H5 st5 S5 k5 r5 => ?_
      have noD5 : ¬ Ows s3 tc D := fun z => noD (ows D ((k4.ows D).mp ((k5.ows D).mp z)))
      have noD4 : ¬ Ows s3 tb D := fun z => noD (ows D ((k4.ows D).mp z))
      have hD5 : H5 D = some (.lst acc) := st5.hh D _ hD4 noD4
      have zD5 : Z5 D = none := by rw [st5.zn D _ hD4]; exact zD4
      have st5' : Step M.T Z1 H1 Z5 H5 (Ows s d1) := st4'.trans (st5.mono fun a z => ows a ((k4.ows a).mp z))
      have plA : PlA M Z5 (acc ++ [v5]) (ys ++ [yd]) := (pl.mono ((st3.zz.trans st4.zz).trans st5.zz)).append (.cons (r5.pl f6) .nil)
      have hlen : acc.length < sizeLine := by
        have e1 := pl.length
        have e2 : tot.length = ys.length + (zs'.length + 1) := by rw [← htot]; simp
        omega
      refine ⟨acc, hD5, hlen, nextW _ ?_⟩
      exact fin Z5 _ tc (acc ++ [v5]) (ys ++ [yd]) zs' st5.zz (S5.updO zD5 noD5 (lst_tab hD5)) (st5'.updNew hD (lst_tab hD5)) (fun j => k5 j) upd_same zD5 plA f7 (by rw [← htot]; simp)
  · left
    have ei : i = xs.length := by omega
    subst ei
    simp only [List.drop_length, lcF, Option.some.injEq, Prod.mk.injEq] at hf
    obtain ⟨rfl, rfl⟩ := hf
    rw [List.append_nil] at htot
    subst htot
    refine ⟨g2, ?_⟩
    have hl : d1.length = t.length := by rw [← S1.len, ← S2.len, wipe_length]
    have leD : Le Z2 (upd Z2 D (.lst acc)) := fun b u e => by rw [upd_ne (ne_of_none e zD2)]; exact e
    have st' := two t1 k1 st
    have ownG : ∀ (i : Nat) x, (mergeO d1 t)[i]? = some (some (SV.own x)) → (∃ y, d1[i]? = some (some (SV.own y))) ∧ t[i]? = some (some (SV.own x)) := by
      intro i x h
      rw [mergeO_get hl] at h
      split at h
      · rename_i y hy; exact ⟨⟨y, hy⟩, h⟩
      · rename_i n; exact absurd h (n x)
    have ntD : NT (upd Z2 D (.lst acc)) := fun b ps => by
      by_cases z : b = D
      · subst z; rw [upd_same]; exact fun w => by cases w
      · rw [upd_ne z]; exact S2.nt b ps
    refine q (.ref D) (upd Z2 D (.lst acc)) H2 ⟨st'.zz.trans leD, fun a u e => ?_, st'.h0, st'.he, fun _ => ntD, st'.tb⟩ ⟨?_, ntD, S2.tb, by simp [mergeO, hl, S1.len], ?_, ?_, ?_⟩ ?_ (.val (.pl (Pl.lst upd_same (pl.mono leD))))
    · obtain ⟨u', e'⟩ := t1.he a u e
      rw [upd_ne (ne_of_none e' hD)]
      exact st'.zn a u e
    · intro a u e
      by_cases z : a = D
      · subst z; rw [upd_same] at e; rw [hacc]; exact e
      · rw [upd_ne z] at e; exact S2.fz a u e
    · intro i x h
      rw [mergeO_get hl] at h
      split at h
      · rename_i y hy
        obtain ⟨u, hu⟩ := (sub i).mp ⟨y, hy⟩
        rw [hu] at h; cases h
      · obtain ⟨v, r1, r2⟩ := S1.fr i x h
        exact ⟨v, r1, r2.mono (le.trans leD)⟩
    · intro i x h
      obtain ⟨⟨y, hy⟩, ht⟩ := ownG i x h
      obtain ⟨a, r1, r2, r3⟩ := S2.own i x ht
      rw [wipe_get, if_neg (okW_no hw hy)] at r1
      have na : a ≠ D := by
        intro z
        subst z
        exact noD ⟨i, y, hy, r1⟩
      exact ⟨a, r1, by rw [upd_ne na]; exact r2, r3.mono leD fun _ z _ => z⟩
    · intro i j x y a h1 h2 h3 h4
      obtain ⟨⟨x', h1⟩, _⟩ := ownG i x h1
      obtain ⟨⟨y', h2⟩, _⟩ := ownG j y h2
      exact S1.dis i j x' y' a h1 h2 h3 h4
    · refine k1.trans fun i => ⟨fun ⟨x, h⟩ => ?_, fun ⟨x, h⟩ => (ownG i x h).1⟩
      obtain ⟨u, hu⟩ := (sub i).mp ⟨x, h⟩
      exact ⟨u, by rw [mergeO_get hl, h]; exact hu⟩
end
end DL

set_option maxRecDepth 100000
set_option linter.all false
/-! DL4: comprehensions as rules; what a def promises, calls, a def's body. -/
namespace DL
open PySem L2
theorem Good.blk {M : Me} {k : Nat} {X : Cx} (G : Good M k X) (s : Shared) (H : Hp) (scope : Scope) (cenv : Env) (fp : List Addr) : Good M k (X.blk s H scope cenv fp) :=
  ⟨G.prog, G.w, G.K, G.mg, G.base, G.calm, G.nd, G.room⟩
structure DTs (M : Me) (k : Nat) (X : Cx) (ifs : List Expr) (t : TT) (f : F Bool) : Prop where
  pt : Good M k X → PTs X ifs t
  ok : TOk M t f
def fYes : F Bool := fun d => some (true, d)
section
variable {M : Me} {k : Nat} {X : Cx}
theorem dts_nil : DTs M k X [] tYes fYes := ⟨fun _ => pts_nil, fun Z H s d b d' Q S e q => by
  cases e
  exact q Z H Step.refl S (SameO.refl _)⟩
theorem dts_one {c : Expr} {t : TT} {f : F Bool} (h : DT M k X c t f) : DTs M k X [c] t f := ⟨fun G => pts_one (h.pt G), h.ok⟩
theorem de_lc {elt tg iter : Expr} {ifs : List Expr} {scope : Scope} {pos : Pos} (own : List (Str × Nat)) {wi : TI} {t : TG} {tt : TT} {te : TE} {fi : F (List PyData)} {g : PyData → SD → Option SD} {js : List Nat} {ft : F Bool} {fe : F OV} (hi : DI M k X tg iter wi fi)
    (hg : ∀ (s : Shared) (H : Hp) (C : Addr) (cl : List (Str × Addr)) (fp : List Addr), DG M k (X.blk s H scope (compEnvC scope cl C X.env) fp) tg t g js) (ht : ∀ (s : Shared) (H : Hp) (C : Addr) (cl : List (Str × Addr)) (fp : List Addr), DTs M k (X.blk s H scope (compEnvC scope cl C X.env) fp) ifs tt ft)
    (he : ∀ (s : Shared) (H : Hp) (C : Addr) (cl : List (Str × Addr)) (fp : List Addr), DE M k (X.blk s H scope (compEnvC scope cl C X.env) fp) elt te fe) (ok : blkC X.N X.env.scope scope own = true := by decide +kernel) (hjs : ∀ j ∈ js, j ∈ own.map (·.2) := by decide)
    (hs : ∀ x, foldedSetIterable iter X.env x = pure x := by intro _; rfl) : DE M k X (.ListComp elt [⟨tg, iter, ifs, 0⟩] scope pos) (tLc wi t tt te (own.map (·.2))) (fLc fi g ft fe (own.map (·.2))) :=
  ⟨fun G => pe_lc G.calm G.nd (hi.pi G) (blkOk_by ok) (fun s H C cl fp => (hg s H C cl fp).pg (G.blk _ _ _ _ _)) (fun s H C cl fp => (ht s H C cl fp).pt (G.blk _ _ _ _ _)) (fun s H C cl fp => (he s H C cl fp).pe (G.blk _ _ _ _ _)) hs,
    ok_lc hi.ok (hg ({} : Shared) (fun _ => none) 0 [] []).ok (ht ({} : Shared) (fun _ => none) 0 [] []).ok (he ({} : Shared) (fun _ => none) 0 [] []).ok hjs⟩
theorem ds_setLc (i : Nat) {y : Str} {py : Pos} {elt tg iter : Expr} {ifs : List Expr} {scope : Scope} {pos spos : Pos} (own : List (Str × Nat)) {wi : TI} {t : TG} {tt : TT} {te : TE} {fi : F (List PyData)} {g : PyData → SD → Option SD} {js : List Nat} {ft : F Bool} {fe : F OV} (hi : DI M k X tg iter wi fi)
    (hg : ∀ (s : Shared) (H : Hp) (C : Addr) (cl : List (Str × Addr)) (fp : List Addr), DG M k (X.blk s H scope (compEnvC scope cl C X.env) fp) tg t g js) (ht : ∀ (s : Shared) (H : Hp) (C : Addr) (cl : List (Str × Addr)) (fp : List Addr), DTs M k (X.blk s H scope (compEnvC scope cl C X.env) fp) ifs tt ft)
    (he : ∀ (s : Shared) (H : Hp) (C : Addr) (cl : List (Str × Addr)) (fp : List Addr), DE M k (X.blk s H scope (compEnvC scope cl C X.env) fp) elt te fe) (ok : blkC X.N X.env.scope scope own = true := by decide +kernel) (hjs : ∀ j ∈ js, j ∈ own.map (·.2) := by decide) (h0 : i ≠ 0 := by decide)
    (hy : X.N[i]? = some y := by rfl) (hyl : X.env.scope.names.lookup y = some .local := by rfl) (hsw : swapsWith (.ListComp elt [⟨tg, iter, ifs, 0⟩] scope pos) (some (.Name y py)) spos.line X.env = pure true := by exact sw_true rfl rfl rfl (by decide +kernel))
    (hs : ∀ x, foldedSetIterable iter X.env x = pure x := by intro _; rfl) : DS M k X (.Assign [.Name y py] (.ListComp elt [⟨tg, iter, ifs, 0⟩] scope pos) spos) (tAsg (tLc wi t tt te (own.map (·.2))) (gName i)) (fSet i (fLc fi g ft fe (own.map (·.2)))) :=
  ⟨fun G => ps_setLc G.calm G.nd hy hyl hsw (hi.pi G) (blkOk_by ok) (fun s H C cl fp => (hg s H C cl fp).pg (G.blk _ _ _ _ _)) (fun s H C cl fp => (ht s H C cl fp).pt (G.blk _ _ _ _ _)) (fun s H C cl fp => (he s H C cl fp).pe (G.blk _ _ _ _ _)) hs,
    ok_set i h0 (ok_lc hi.ok (hg ({} : Shared) (fun _ => none) 0 [] []).ok (ht ({} : Shared) (fun _ => none) 0 [] []).ok (he ({} : Shared) (fun _ => none) 0 [] []).ok hjs)⟩
end
/-! ### what a def promises -/
inductive FDs (M : Me) (Z : Hp) : List V → List PyData → Prop
  | nil : FDs M Z [] []
  | cons {v x vs xs} : FD M Z v x → FDs M Z vs xs → FDs M Z (v :: vs) (x :: xs)
theorem FDs.length {M : Me} {Z : Hp} {vs : List V} {xs : List PyData} (q : FDs M Z vs xs) : vs.length = xs.length := by
  induction q with
  | nil => rfl
  | cons _ _ ih => simp [ih]
structure Fz (M : Me) (Z H : Hp) : Prop where
  le : Le Z H
  nt : NT Z
  tb : Tbs M H
theorem Sl.F {M : Me} {Z H : Hp} {s : Sg} {d : SD} (S : Sl M Z H s d) : Fz M Z H := ⟨S.fz, S.nt, S.tb⟩
/-- f of frozen data, n of them -/
def spD (M : Me) (n : Nat) (f : List PyData → Option PyData) : Sp := fun vs H Q _ => ∃ Z xs z, vs.length = n ∧ Fz M Z H ∧ FDs M Z vs xs ∧ f xs = some z ∧
  ∀ v Z' H', Step M.T Z H Z' H' (fun _ => False) → Le Z' H' → FD M Z' v z → Q v H'
/-- the same, the answer an object that the caller owns -/
def spO (M : Me) (n : Nat) (f : List PyData → Option PyData) : Sp := fun vs H Q _ => ∃ Z xs z, vs.length = n ∧ Fz M Z H ∧ FDs M Z vs xs ∧ f xs = some z ∧
  ∀ a Z' H', Step M.T Z H Z' H' (fun _ => False) → Le Z' H' → H a = none → Z' a = none → OwnAt M Z' H' a z → Q (.ref a) H'
def potL (g r : Int) : PyData := .list [.int g, .int r]
/-- f of a pot and n frozen data behind it -/
def spP (M : Me) (n : Nat) (f : List PyData → Int → Int → Option (PyData × Int × Int)) : Sp := fun vs H Q _ => ∃ Z a vr xs g r z, vs = .ref a :: vr ∧ vr.length = n ∧ Fz M Z H ∧ Z a = none ∧ OwnAt M Z H a (potL g r) ∧ FDs M Z vr xs ∧ f xs g r = some z ∧
  ∀ v Z' H', Step M.T Z H Z' H' (fun b => b = a) → Le Z' H' → Z' a = none → OwnAt M Z' H' a (potL z.2.1 z.2.2) → FD M Z' v z.1 → Q v H'
structure Callee (M : Me) (k : Nat) (x : Str) (ps : List Str) (sp : Sp) : Prop where
  ex : ∃ f fd, FnOk M.P M.w M.K M.mg M.base CX0 k f fd ps sp ∧ M.mg x = some (.ref f) ∧ PySem.W.keepIn M.K (.ref f) = true ∧ Binds M.K fd ps []
theorem Callee.mono {M : Me} {j k : Nat} {x : Str} {ps : List Str} {sp : Sp} (c : Callee M j x ps sp) (h : j ≤ k) : Callee M k x ps sp := by
  obtain ⟨f, fd, a, b⟩ := c.ex
  exact ⟨f, fd, a.mono h, b⟩
def fzOs : List OV → Option (List PyData)
  | [] => some []
  | o :: os => (fzO o).bind fun x => (fzOs os).bind fun xs => some (x :: xs)
theorem ROs.fz {M : Me} {Z : Hp} {s : Sg} {vs : List V} {os : List OV} (q : ROs M Z s vs os) : ∀ {xs : List PyData}, fzOs os = some xs → FDs M Z vs xs := by
  induction q with
  | nil => intro xs e; cases e; exact .nil
  | cons a _ ih =>
    intro xs e
    simp only [fzOs, Option.bind_eq_some_iff] at e
    obtain ⟨x, e1, ys, e2, e3⟩ := e
    cases e3
    exact .cons (a.fz e1) (ih e2)
def fCall (f : List PyData → Option PyData) (fa : F (List OV)) : F OV := fun d => (fa d).bind fun p => (fzOs p.1).bind fun xs => (f xs).bind fun z => some (.val z, p.2)
def fCallP (f : List PyData → Int → Int → Option (PyData × Int × Int)) (fa : F (List OV)) : F OV := fun d => (fa d).bind fun p => match p.1 with
  | .slot j :: os => match p.2[j]? with
    | some (some (.own (.list [.int g, .int r]))) => (fzOs os).bind fun xs => (f xs g r).bind fun z => some (.val z.1, p.2.set j (some (.own (potL z.2.1 z.2.2))))
    | _ => none
  | _ => none
theorem FDs_of {M : Me} {Z : Hp} {s : Sg} {vs : List V} {os : List OV} {xs : List PyData} (q : ROs M Z s vs os) (e : fzOs os = some xs) : FDs M Z vs xs := q.fz e
theorem ROs.length {M : Me} {Z : Hp} {s : Sg} {vs : List V} {os : List OV} (q : ROs M Z s vs os) : vs.length = os.length := by
  induction q with
  | nil => rfl
  | cons _ _ ih => simp [ih]
section
variable {M : Me} {k : Nat} {X : Cx}
theorem ok_call {n : Nat} {f : List PyData → Option PyData} {t : TA} {fa : F (List OV)} (ha : AOk M t fa) (hn : ∀ d os d', fa d = some (os, d') → os.length = n) : EOk M (tCall (spD M n f) [] E0 t) (fCall f fa) := by
  intro Z H s d ov d' Q S r q
  simp only [fCall, Option.bind_eq_some_iff] at r
  obtain ⟨⟨os, d1⟩, e1, xs, e2, z, e3, e4⟩ := r
  cases e4
  refine ha Z H s d os _ _ S e1 fun vs Z1 H1 t1 S1 k1 r1 => ?_
  refine ⟨Z1, xs, z, by rw [List.append_nil, r1.length, hn _ _ _ e1], S1.F, by rw [List.append_nil]; exact r1.fz e2, e3, fun v Z' H' t2 f2 q2 => ?_⟩
  exact q v Z' H' (t1.trans t2.no) (S1.no t2 f2) k1 (.val q2)
theorem de_call {x : Str} {ps : List Str} {n : Nat} {f : List PyData → Option PyData} {e : Expr} {es : List Expr} {p pos : Pos} {t : TA} {fa : F (List OV)} (C : Callee M k x ps (spD M n f)) (ha : DA M k X (e :: es) t fa) (hn : (e :: es).length = n := by rfl) (hg : Gl X x := by rfl)
    (hdb : (x == ("__debug__" : Str)) = false := by decide) (he : starEach (e :: es) X.env = (false, eval e X.env) :: starEach es X.env := by rfl) (hpl : (backTo pos (starEach es X.env)).any (·.1) = false := by rfl) :
    DE M k X (.Call (.Name x p) (e :: es) [] pos) (tCall (spD M n f) [] E0 t) (fCall f fa) := by
  refine ⟨fun G => ?_, ok_call ha.ok fun d os d' z => by rw [ha.len d os d' z, hn]⟩
  obtain ⟨fa, fd, F, m, kp, b⟩ := C.ex
  have F' : FnOk X.prog X.w X.K X.mg X.base CX0 k fa fd ps (spD M n f) := by rw [G.prog, G.w, G.K, G.mg, G.base]; exact F
  exact pe_call F' G.room hg (by rw [G.mg]; exact m) (by rw [G.K]; exact kp) (by rw [G.K]; exact b) .nil pass0 (ha.pa G) hdb he hpl
theorem Ows_set {s : Sg} {d : SD} {j : Nat} {x y : PyData} (h : d[j]? = some (some (SV.own x))) (a : Addr) : Ows s (d.set j (some (.own y))) a ↔ Ows s d a := by
  constructor
  · rintro ⟨i, z, e, r⟩
    by_cases n : i = j
    · subst n; exact ⟨i, x, h, r⟩
    · rw [set_ne n] at e; exact ⟨i, z, e, r⟩
  · rintro ⟨i, z, e, r⟩
    by_cases n : i = j
    · subst n
      have hl := (List.getElem?_eq_some_iff.mp h).1
      exact ⟨i, y, by rw [List.getElem?_set]; simp [hl], r⟩
    · exact ⟨i, z, by rw [set_ne n]; exact e, r⟩
theorem SameO_set {d : SD} {j : Nat} {x y : PyData} (h : d[j]? = some (some (SV.own x))) : SameO d (d.set j (some (.own y))) := by
  intro i
  by_cases n : i = j
  · subst n
    have hl := (List.getElem?_eq_some_iff.mp h).1
    exact ⟨fun _ => ⟨y, by rw [List.getElem?_set]; simp [hl]⟩, fun _ => ⟨x, h⟩⟩
  · rw [set_ne n]
/-- the object of the slot j has changed -/
theorem Sl.put {Z H Z' H' : Hp} {s : Sg} {d : SD} {j : Nat} {x y : PyData} {a : Addr} (S : Sl M Z H s d) (h : d[j]? = some (some (SV.own x))) (hs : s[j]? = some (some (V.ref a))) (t : Step M.T Z H Z' H' (fun b => b = a)) (f : Le Z' H') (hz : Z' a = none) (q : OwnAt M Z' H' a y) :
    Sl M Z' H' s (d.set j (some (.own y))) where
  fz := f
  nt := t.nt S.nt
  tb := t.tb S.tb
  len := by simp [S.len]
  fr := fun i w e => by
    by_cases n : i = j
    · subst n
      rw [List.getElem?_set] at e
      simp only [if_true] at e
      split at e <;> cases e
    · rw [set_ne n] at e
      obtain ⟨v, e1, e2⟩ := S.fr i w e
      exact ⟨v, e1, e2.mono t.zz⟩
  own := fun i w e => by
    by_cases n : i = j
    · subst n
      rw [List.getElem?_set] at e
      simp only [if_true] at e
      split at e
      · cases e; exact ⟨a, hs, hz, q⟩
      · cases e
    · rw [set_ne n] at e
      obtain ⟨b, e1, e2, e3⟩ := S.own i w e
      have nb : b ≠ a := fun z => n (S.dis i j w x a e h (by rw [e1, z]) hs)
      obtain ⟨o, e4⟩ := e3.ex
      exact ⟨b, e1, by rw [t.zn b o e4]; exact e2, e3.mono t.zz fun o z m => t.h0 b o z nb m⟩
  dis := fun i l w z b h1 h2 h3 h4 => by
    have g : ∀ (i : Nat) w, (d.set j (some (SV.own y)))[i]? = some (some (SV.own w)) → ∃ w', d[i]? = some (some (SV.own w')) := by
      intro i w e
      by_cases n : i = j
      · subst n; exact ⟨x, h⟩
      · rw [set_ne n] at e; exact ⟨w, e⟩
    obtain ⟨w', h1⟩ := g i w h1
    obtain ⟨z', h2⟩ := g l z h2
    exact S.dis i l w' z' b h1 h2 h3 h4
theorem ok_callP {n : Nat} {f : List PyData → Int → Int → Option (PyData × Int × Int)} {t : TA} {fa : F (List OV)} (ha : AOk M t fa) (hn : ∀ d os d', fa d = some (os, d') → os.length = n + 1) : EOk M (tCall (spP M n f) [] E0 t) (fCallP f fa) := by
  intro Z H s d ov d' Q S r q
  simp only [fCallP, Option.bind_eq_some_iff] at r
  obtain ⟨⟨os, d1⟩, e1, e2⟩ := r
  dsimp only at e2
  split at e2
  case h_2 => cases e2
  rename_i j os'
  split at e2
  case h_2 => cases e2
  rename_i g r hj
  simp only [Option.bind_eq_some_iff] at e2
  obtain ⟨xs, e3, z, e4, e5⟩ := e2
  cases e5
  refine ha Z H s d _ d1 _ S e1 fun vs Z1 H1 t1 S1 k1 r1 => ?_
  cases r1 with
  | cons ra rr =>
    cases ra with
    | slot ra =>
      obtain ⟨a, r2, r3, r4⟩ := S1.own j _ hj
      rw [ra] at r2
      cases r2
      have hl := hn _ _ _ e1
      refine ⟨Z1, a, _, xs, g, r, z, rfl, ?_, S1.F, r3, r4, ?_, e4, fun v Z' H' t2 f2 hz ho q2 => ?_⟩
      · have := rr.length
        simp only [List.append_eq, List.append_nil]
        simp at hl
        omega
      · simp only [List.append_eq, List.append_nil]
        exact rr.fz e3
      · refine q v Z' H' ?_ (S1.put hj ra t2 f2 hz ho) (k1.trans (SameO_set hj)) (.val q2)
        exact two t1 k1 (t2.mono fun b e => by subst e; exact ⟨j, _, hj, ra⟩)
theorem de_callP {x : Str} {ps : List Str} {n : Nat} {f : List PyData → Int → Int → Option (PyData × Int × Int)} {e : Expr} {es : List Expr} {p pos : Pos} {t : TA} {fa : F (List OV)} (C : Callee M k x ps (spP M n f)) (ha : DA M k X (e :: es) t fa) (hn : (e :: es).length = n + 1 := by rfl) (hg : Gl X x := by rfl)
    (hdb : (x == ("__debug__" : Str)) = false := by decide) (he : starEach (e :: es) X.env = (false, eval e X.env) :: starEach es X.env := by rfl) (hpl : (backTo pos (starEach es X.env)).any (·.1) = false := by rfl) :
    DE M k X (.Call (.Name x p) (e :: es) [] pos) (tCall (spP M n f) [] E0 t) (fCallP f fa) := by
  refine ⟨fun G => ?_, ok_callP ha.ok fun d os d' z => by rw [ha.len d os d' z, hn]⟩
  obtain ⟨fa, fd, F, m, kp, b⟩ := C.ex
  have F' : FnOk X.prog X.w X.K X.mg X.base CX0 k fa fd ps (spP M n f) := by rw [G.prog, G.w, G.K, G.mg, G.base]; exact F
  exact pe_call F' G.room hg (by rw [G.mg]; exact m) (by rw [G.K]; exact kp) (by rw [G.K]; exact b) .nil pass0 (ha.pa G) hdb he hpl
end
/-! ### a def's body -/
def startD (N : List Str) (xs : List PyData) : SD := xs.map (fun x => some (.fr x)) ++ List.replicate (N.length - xs.length) none
def startP (N : List Str) (xs : List PyData) (g r : Int) : SD := some (.own (potL g r)) :: startD N.tail xs
/-- what a body gives, run from its arguments -/
def runF (N : List Str) (b : F Fl) (xs : List PyData) : Option PyData := (b (startD N xs)).bind fun p => match p.1 with
  | .rt z => some z
  | .nx => some .none
  | _ => none
def runO (N : List Str) (b : F Fl) (xs : List PyData) : Option PyData := (b (startD N xs)).bind fun p => match p.1 with
  | .ro z => some z
  | _ => none
def runP (N : List Str) (b : F Fl) (xs : List PyData) (g r : Int) : Option (PyData × Int × Int) := (b (startP N xs g r)).bind fun p => match (p.2)[0]? with
  | some (some (SV.own (.list [.int g', .int r']))) => (match p.1 with
    | .rt z => some (z, g', r')
    | .nx => some (.none, g', r')
    | _ => none)
  | _ => none
theorem startD_get {M : Me} {Z : Hp} {N : List Str} {vs : List V} {xs : List PyData} (q : FDs M Z vs xs) : ∀ (i : Nat) (x : SV), (startD N xs)[i]? = some (some x) → ∃ y v, x = .fr y ∧ (L2.start N vs)[i]? = some (some v) ∧ FD M Z v y := by
  unfold startD L2.start
  rw [q.length]
  generalize N.length - xs.length = m
  induction q with
  | nil =>
    intro i x h
    simp only [List.map_nil, List.nil_append, List.getElem?_replicate] at h
    split at h <;> cases h
  | @cons v y vs xs a _ ih =>
    intro i x h
    cases i with
    | zero =>
      simp only [List.map_cons, List.cons_append, List.getElem?_cons_zero, Option.some.injEq] at h
      exact ⟨y, v, h.symm, rfl, a⟩
    | succ i =>
      simp only [List.map_cons, List.cons_append, List.getElem?_cons_succ] at h ⊢
      exact ih i x h
theorem startD_len {M : Me} {Z : Hp} {N : List Str} {vs : List V} {xs : List PyData} (q : FDs M Z vs xs) : (L2.start N vs).length = (startD N xs).length := by
  unfold startD L2.start
  simp [q.length]
section
variable {M : Me} {k : Nat}
theorem ent_start {Z H : Hp} {N : List Str} {vs : List V} {xs : List PyData} (f : Fz M Z H) (q : FDs M Z vs xs) : Ent M Z H (fun _ => False) Z H (L2.start N vs) (startD N xs) where
  sl := by
    have g := startD_get (N := N) q
    refine ⟨f.le, f.nt, f.tb, startD_len q, fun i x h => ?_, fun i x h => ?_, fun i j x y a h => ?_⟩
    · obtain ⟨y, v, e1, e2, e3⟩ := g i _ h
      cases e1
      exact ⟨v, e2, e3⟩
    · obtain ⟨y, v, e1, e2, e3⟩ := g i _ h
      cases e1
    · obtain ⟨y, v, e1, e2, e3⟩ := g i _ h
      cases e1
  st := Step.refl
  nw := fun i y a h => by
    obtain ⟨y, v, e1, e2, e3⟩ := startD_get (N := N) q i _ h
    cases e1
  pt := fun _ h => h.elim
abbrev cxD (M : Me) (N : List Str) (qual : Str) (st : Stmt) (f : Addr) (cdv : Value) (A : Around) (outer : List Env) (s : Shared) (H : Hp) (E : XK) : Cx := (cxOf CX0 M.P M.w M.K M.mg M.base N qual (defScope st) f cdv A outer s H E).nox
theorem good_cxD {N ps : List Str} {qual : Str} {st : Stmt} {f : Addr} {cdv : Value} {A : Around} {outer : List Env} {s : Shared} {H : Hp} {E : XK} (S : FnScope N ps (defScope st)) (hr : Room k (A.deeper (PyProof.Rows.envOfC qual (defScope st) s.heap.objs.size f cdv))) : Good M k (cxD M N qual st f cdv A outer s H E) :=
  ⟨rfl, rfl, rfl, rfl, rfl, rfl, S.nd, hr⟩
/-- a def of frozen data that answers frozen data -/
theorem fn_D {x qual : Str} {st : Stmt} {f : Addr} {fd : FuncData} {N ps : List Str} {t : TS} {b : F Fl} (F : Fun M.K x qual st f fd) (S : FnScope N ps (defScope st))
    (h : ∀ (cdv : Value) (A : Around) (outer : List Env) (s : Shared) (H : Hp) (E : XK), DSs M k (cxD M N qual st f cdv A outer s H E) (defBody st) t b) : FnOk M.P M.w M.K M.mg M.base CX0 (k + 1) f fd ps (spD M ps.length (runF N b)) := by
  refine F.ok S (fun vs H Q E h => ?_) (fun cdv A outer s H vs Q E hr hh => ?_)
  · obtain ⟨_, _, _, h, _⟩ := h; exact h
  obtain ⟨Z, xs, z, hl, le, q, e, kk⟩ := hh
  refine ⟨t, (h cdv A outer s H E).ps (good_cxD S hr), ?_⟩
  simp only [runF, Option.bind_eq_some_iff] at e
  obtain ⟨⟨fl, d'⟩, e1, e2⟩ := e
  refine (h cdv A outer s H E).ok Z H (fun _ => False) Z H (L2.start N vs) (startD N xs) fl d' _ (ent_start le q) e1 ?_
  cases fl with
  | nx => cases e2; exact fun Z' H' s' _ E' => kk .non Z' H' E'.st E'.sl.fz (.pl Pl.non)
  | rt y => cases e2; exact fun Z' H' s' v _ E' w => kk v Z' H' E'.st E'.sl.fz w
  | bk => cases e2
  | ct => cases e2
  | ro y => cases e2
theorem fn_O {x qual : Str} {st : Stmt} {f : Addr} {fd : FuncData} {N ps : List Str} {t : TS} {b : F Fl} (F : Fun M.K x qual st f fd) (S : FnScope N ps (defScope st))
    (h : ∀ (cdv : Value) (A : Around) (outer : List Env) (s : Shared) (H : Hp) (E : XK), DSs M k (cxD M N qual st f cdv A outer s H E) (defBody st) t b) : FnOk M.P M.w M.K M.mg M.base CX0 (k + 1) f fd ps (spO M ps.length (runO N b)) := by
  refine F.ok S (fun vs H Q E h => ?_) (fun cdv A outer s H vs Q E hr hh => ?_)
  · obtain ⟨_, _, _, h, _⟩ := h; exact h
  obtain ⟨Z, xs, z, hl, le, q, e, kk⟩ := hh
  refine ⟨t, (h cdv A outer s H E).ps (good_cxD S hr), ?_⟩
  simp only [runO, Option.bind_eq_some_iff] at e
  obtain ⟨⟨fl, d'⟩, e1, e2⟩ := e
  refine (h cdv A outer s H E).ok Z H (fun _ => False) Z H (L2.start N vs) (startD N xs) fl d' _ (ent_start le q) e1 ?_
  cases fl with
  | nx => cases e2
  | rt y => cases e2
  | bk => cases e2
  | ct => cases e2
  | ro y => cases e2; exact fun Z' H' s' a _ E' hz hn ho => kk a Z' H' E'.st E'.sl.fz hn hz ho
theorem fn_P {x qual : Str} {st : Stmt} {f : Addr} {fd : FuncData} {N ps : List Str} {n : Nat} {t : TS} {b : F Fl} (F : Fun M.K x qual st f fd) (S : FnScope N ps (defScope st)) (hn : ps.length = n + 1) (hN : 1 ≤ N.length)
    (h : ∀ (cdv : Value) (A : Around) (outer : List Env) (s : Shared) (H : Hp) (E : XK), DSs M k (cxD M N qual st f cdv A outer s H E) (defBody st) t b) : FnOk M.P M.w M.K M.mg M.base CX0 (k + 1) f fd ps (spP M n (runP N b)) := by
  refine F.ok S (fun vs H Q E h => ?_) (fun cdv A outer s H vs Q E' hr hh => ?_)
  · obtain ⟨_, a, vr, _, _, _, _, rfl, h, _⟩ := h
    rw [List.length_cons, h, hn]
  obtain ⟨Z, a, vr, xs, g, r, z, rfl, hl, le, hz, ho, q, e, kk⟩ := hh
  refine ⟨t, (h cdv A outer s H E').ps (good_cxD S hr), ?_⟩
  simp only [runP, Option.bind_eq_some_iff] at e
  obtain ⟨⟨fl, d'⟩, e1, e2⟩ := e
  dsimp only at e2
  split at e2
  case h_2 => cases e2
  rename_i g' r' hd'
  have es : L2.start N (.ref a :: vr) = some (.ref a) :: L2.start N.tail vr := by
    unfold L2.start
    simp only [List.map_cons, List.length_cons, List.cons_append, List.cons.injEq, true_and, List.length_tail]
    congr 2
    omega
  have E : Ent M Z H (fun b => b = a) Z H (L2.start N (.ref a :: vr)) (startP N xs g r) := by
    have g' := startD_get (N := N.tail) q
    rw [es]
    refine ⟨⟨le.le, le.nt, le.tb, by simp [startP, startD_len q], fun i x h => ?_, fun i x h => ?_, fun i j x y b h1 h2 h3 h4 => ?_⟩, Step.refl, fun i x b h h2 => ?_, fun b h => by cases h; exact ⟨rfl, _, rfl⟩⟩
    · cases i with
      | zero => cases h
      | succ i =>
        obtain ⟨y, v, e1, e2, e3⟩ := g' i _ h
        cases e1
        exact ⟨v, e2, e3⟩
    · cases i with
      | zero => cases h; exact ⟨a, rfl, hz, ho⟩
      | succ i =>
        obtain ⟨y, v, e1, e2, e3⟩ := g' i _ h
        cases e1
    · cases i with
      | succ i =>
        obtain ⟨y, v, e1, e2, e3⟩ := g' i _ h1
        cases e1
      | zero =>
        cases j with
        | zero => rfl
        | succ j =>
          obtain ⟨y, v, e1, e2, e3⟩ := g' j _ h2
          cases e1
    · cases i with
      | zero => cases h2; exact .inr ⟨rfl, rfl⟩
      | succ i =>
        obtain ⟨y, v, e1, e2, e3⟩ := g' i _ h
        cases e1
  have fin : ∀ Z' H' s', Ent M Z H (fun b => b = a) Z' H' s' d' → Z' a = none ∧ OwnAt M Z' H' a (potL g' r') := by
    intro Z' H' s' E'
    obtain ⟨b, h1, h2, h3⟩ := E'.sl.own 0 _ hd'
    rw [(E'.pt a rfl).1] at h1
    cases h1
    exact ⟨h2, h3⟩
  refine (h cdv A outer s H E').ok Z H _ Z H _ _ fl d' _ E e1 ?_
  cases fl with
  | nx =>
    cases e2
    exact fun Z' H' s' _ E' => kk .non Z' H' E'.st E'.sl.fz (fin Z' H' s' E').1 (fin Z' H' s' E').2 (.pl Pl.non)
  | rt y =>
    cases e2
    exact fun Z' H' s' v _ E' w => kk v Z' H' E'.st E'.sl.fz (fin Z' H' s' E').1 (fin Z' H' s' E').2 w
  | bk => cases e2
  | ct => cases e2
  | ro y => cases e2
end
end DL

set_option maxRecDepth 100000
set_option linter.all false
/-! DL5: operators, comparisons, subscripts, slices, built-in calls over slots of data. -/
namespace DL
open PySem L2
section
variable {M : Me} {Z H : Hp} {v : V}
theorem RD.lst {ds : List PyData} (q : RD M Z H v (.list ds)) (f : Le Z H) : ∃ a xs, v = .ref a ∧ H a = some (.lst xs) ∧ PlA M Z xs ds := by
  rcases q with q | ⟨a, rfl, _, q⟩
  · obtain ⟨a, xs, e1, e2, e3⟩ := (q.plain fun _ z => by cases z).lst_inv
    exact ⟨a, xs, e1, f _ _ e2, e3⟩
  · cases q with
    | lst h1 h2 => exact ⟨a, _, rfl, h1, h2⟩
theorem own_ne {a : Addr} {d : PyData} (q : OwnAt M Z H a d) : (∃ ds, d = .list ds) ∨ ∃ kvs, d = .dict kvs := by
  cases q with
  | lst _ _ => exact .inl ⟨_, rfl⟩
  | ds _ _ => exact .inr ⟨_, rfl⟩
  | dt _ _ => exact .inr ⟨_, rfl⟩
theorem RD.pl {d : PyData} (q : RD M Z H v d) (h1 : ∀ ds, d ≠ .list ds) (h2 : ∀ kvs, d ≠ .dict kvs) : Pl M Z v d := by
  rcases q with q | ⟨a, rfl, _, q⟩
  · exact q.plain h2
  · rcases own_ne q with ⟨_, e⟩ | ⟨_, e⟩
    · exact absurd e (h1 _)
    · exact absurd e (h2 _)
theorem RD.tup {ds : List PyData} (q : RD M Z H v (.tuple ds)) : ∃ a xs, v = .ref a ∧ Z a = some (.tup xs) ∧ PlA M Z xs ds := (q.pl (fun _ z => by cases z) fun _ z => by cases z).tup_inv
theorem RD.int {i : Int} (q : RD M Z H v (.int i)) : v = .int i := (q.pl (fun _ z => by cases z) fun _ z => by cases z).int_inv
theorem RD.bl {i : Bool} (q : RD M Z H v (.bool i)) : v = .bl i := (q.pl (fun _ z => by cases z) fun _ z => by cases z).bl_inv
theorem RD.non (q : RD M Z H v .none) : v = .non := (q.pl (fun _ z => by cases z) fun _ z => by cases z).non_inv
theorem RD.str {i : Str} (q : RD M Z H v (.str i)) : v = .str i ∧ PyData.strOk i = true := (q.pl (fun _ z => by cases z) fun _ z => by cases z).str_inv
theorem RD.dp {d : PyData} (q : RD M Z H v d) (f : Le Z H) (n : ∀ kvs, d ≠ .dict kvs) : Dp M.K H v d ∧ d.canLay0 = true := by
  rcases q with q | ⟨a, rfl, _, q⟩
  · have p := q.plain n
    exact ⟨p.dp f, p.2⟩
  · cases q with
    | lst h1 h2 => exact ⟨.lst (SqL.of h1) (h2.dp f), by simpa [PyData.canLay0] using h2.2⟩
    | ds _ _ => exact absurd rfl (n _)
    | dt _ _ => exact absurd rfl (n _)
end
def isDic (d : PyData) : Bool := match d with
  | .dict _ => true
  | _ => false
theorem not_dic {d : PyData} (h : isDic d = false) : ∀ kvs, d ≠ .dict kvs := fun _ e => by subst e; cases h
section
variable {M : Me} {k : Nat}
/-! ### ints -/
def gI (g : Int → Int → Int) (a b : PyData) : Option PyData := match a, b with
  | .int i, .int j => some (.int (g i j))
  | _, _ => none
def gIC (c : Int → Int → Bool) (g : Int → Int → Int) (a b : PyData) : Option PyData := match a, b with
  | .int i, .int j => if c i j = true then some (.int (g i j)) else none
  | _, _ => none
def gIB (g : Int → Int → Bool) (a b : PyData) : Option PyData := match a, b with
  | .int i, .int j => some (.bool (g i j))
  | _, _ => none
theorem rok_I {g : Int → Int → Int} : ROk M (rI0 fun i j => .int (g i j)) (gI g) := by
  intro Z H x y a b z Q f hx hy e q
  unfold gI at e
  split at e
  · cases e
    rw [hx.int, hy.int]
    exact ⟨_, _, rfl, rfl, q _ Z H Step.refl f (.pl Pl.int)⟩
  · cases e
theorem rok_IC {C : Int → Int → Prop} {c : Int → Int → Bool} {g : Int → Int → Int} (hc : ∀ i j, c i j = true → C i j) : ROk M (rI C fun i j => .int (g i j)) (gIC c g) := by
  intro Z H x y a b z Q f hx hy e q
  unfold gIC at e
  split at e
  · split at e
    · rename_i h
      cases e
      rw [hx.int, hy.int]
      exact ⟨_, _, rfl, rfl, hc _ _ h, q _ Z H Step.refl f (.pl Pl.int)⟩
    · cases e
  · cases e
theorem rok_IB {g : Int → Int → Bool} : ROk M (rI0 fun i j => .bl (g i j)) (gIB g) := by
  intro Z H x y a b z Q f hx hy e q
  unfold gIB at e
  split at e
  · cases e
    rw [hx.int, hy.int]
    exact ⟨_, _, rfl, rfl, q _ Z H Step.refl f (.pl Pl.bl)⟩
  · cases e
theorem o_add : OpD M k (binaryOp .Add) (rI0 fun i j => .int (i + j)) (gI fun i j => i + j) := ⟨fun _ _ => op_add, rok_I⟩
theorem o_sub : OpD M k (binaryOp .Sub) (rI0 fun i j => .int (i - j)) (gI fun i j => i - j) := ⟨fun _ _ => op_sub, rok_I⟩
def cMul (i j : Int) : Bool := (decide (-(2 ^ 64) < i) && decide (i < 2 ^ 64)) || (decide (-(2 ^ 64) < j) && decide (j < 2 ^ 64))
theorem o_mul : OpD M k (binaryOp .Mult) (rI CMul fun i j => .int (i * j)) (gIC cMul fun i j => i * j) := ⟨fun _ _ => op_mul, rok_IC fun i j h => by
  simp only [cMul, Bool.or_eq_true, Bool.and_eq_true, decide_eq_true_eq] at h
  exact h⟩
def cDiv (i j : Int) : Bool := decide (0 < j) && decide (j < 1073741824)
theorem o_fdiv : OpD M k (binaryOp .FloorDiv) (rI CDiv fun i j => .int (i / j)) (gIC cDiv fun i j => i / j) := ⟨fun _ _ => op_fdiv, rok_IC fun i j h => by
  simp only [cDiv, Bool.and_eq_true, decide_eq_true_eq] at h
  exact h⟩
theorem o_mod : OpD M k (binaryOp .Mod) (rI (fun _ j => 0 < j) fun i j => .int (i % j)) (gIC (fun _ j => decide (0 < j)) fun i j => i % j) := ⟨fun _ _ => op_mod, rok_IC fun i j h => of_decide_eq_true h⟩
def cPow (i j : Int) : Bool := decide (0 ≤ j) && (decide (j ≤ 1000000) && decide (i.natAbs < 2 ^ 64))
theorem o_pow : OpD M k (binaryOp .Pow) (rI CPow fun i j => .int (i ^ j.toNat)) (gIC cPow fun i j => i ^ j.toNat) := ⟨fun _ _ => op_pow, rok_IC fun i j h => by
  simp only [cPow, Bool.and_eq_true, decide_eq_true_eq] at h
  exact h⟩
theorem o_lt : OpD M k (compareOp .Lt) (rI0 fun i j => .bl (decide (i < j))) (gIB fun i j => decide (i < j)) := ⟨fun _ _ => op_lt, rok_IB⟩
theorem o_le : OpD M k (compareOp .LtE) (rI0 fun i j => .bl (decide (i ≤ j))) (gIB fun i j => decide (i ≤ j)) := ⟨fun _ _ => op_le, rok_IB⟩
theorem o_gt : OpD M k (compareOp .Gt) (rI0 fun i j => .bl (decide (j < i))) (gIB fun i j => decide (j < i)) := ⟨fun _ _ => op_gt, rok_IB⟩
theorem o_ge : OpD M k (compareOp .GtE) (rI0 fun i j => .bl (decide (j ≤ i))) (gIB fun i j => decide (j ≤ i)) := ⟨fun _ _ => op_ge, rok_IB⟩
/-! ### texts, tuples, lists together -/
theorem strOk_append {x y : Str} (h : PyData.strOk x = true) (h' : PyData.strOk y = true) : PyData.strOk (x ++ y) = true := by
  show (x.cps ++ y.cps).all (· < 0x110000) = true
  simp only [PyData.strOk] at h h'
  rw [Array.all_append, h, h']; rfl
def gCatS (a b : PyData) : Option PyData := match a, b with
  | .str x, .str y => if x.length + y.length ≤ sizeLine then some (.str (x ++ y)) else none
  | _, _ => none
theorem o_catS : OpD M k (binaryOp .Add) (fun x y H Q => ∃ i j, x = .str i ∧ y = .str j ∧ i.length + j.length ≤ sizeLine ∧ Q (.str (i ++ j)) H) gCatS := by
  refine ⟨fun _ _ => op_add_str, ?_⟩
  intro Z H x y a b z Q f hx hy e q
  unfold gCatS at e
  split at e
  · split at e
    · rename_i h
      cases e
      obtain ⟨rfl, k1⟩ := hx.str
      obtain ⟨rfl, k2⟩ := hy.str
      exact ⟨_, _, rfl, rfl, h, q _ Z H Step.refl f (.pl (Pl.str (strOk_append k1 k2)))⟩
    · cases e
  · cases e
def gCatT (a b : PyData) : Option PyData := match a, b with
  | .tuple x, .tuple y => if x.length + y.length ≤ sizeLine then some (.tuple (x ++ y)) else none
  | _, _ => none
theorem o_catT : OpD M k (binaryOp .Add) (rCatA M.K) gCatT := by
  refine ⟨fun X G => by rw [← G.K]; exact op_catA, ?_⟩
  intro Z H x y a b z Q f hx hy e q
  unfold gCatT at e
  split at e
  · split at e
    · rename_i h
      cases e
      obtain ⟨a, xs, rfl, h1, p1⟩ := hx.tup
      obtain ⟨b, ys, rfl, h2, p2⟩ := hy.tup
      have pa := p1.append p2
      refine ⟨a, b, xs, ys, rfl, rfl, SqT.of (f _ _ h1), SqT.of (f _ _ h2), by rw [p1.length, p2.length]; exact h, fun e => ?_, fun _ e => ?_, fun _ _ p hp => ?_⟩
      · subst e
        exact q _ Z H Step.refl f (.pl (Pl.tup h2 (by simpa using pa)))
      · subst e
        exact q _ Z H Step.refl f (.pl (Pl.tup h1 (by simpa using pa)))
      · obtain ⟨t, g, d⟩ := new_tup f hp pa
        exact q _ _ _ t g d
    · cases e
  · cases e
def gCatL (a b : PyData) : Option PyData := match a, b with
  | .list x, .list y => if x.length + y.length ≤ sizeLine then some (.list (x ++ y)) else none
  | _, _ => none
theorem o_catL : OpD M k (binaryOp .Add) rCat gCatL := by
  refine ⟨fun X G => op_cat, ?_⟩
  intro Z H x y a b z Q f hx hy e q
  unfold gCatL at e
  split at e
  · split at e
    · rename_i h
      cases e
      obtain ⟨a, xs, rfl, h1, p1⟩ := hx.lst f
      obtain ⟨b, ys, rfl, h2, p2⟩ := hy.lst f
      refine ⟨a, b, xs, ys, rfl, rfl, h1, h2, by rw [p1.length, p2.length]; exact h, fun p hp => ?_⟩
      obtain ⟨t, g, d⟩ := new_lst f hp (p1.append p2)
      exact q _ _ _ t g d
    · cases e
  · cases e
/-! ### == and != of plain data -/
def rEqM (K : PySem.W.Frag) (s : Bool) : R2 := fun x y H Q => ∃ d e, Dp K H x d ∧ Dp K H y e ∧ d.canLay0 = true ∧ e.canLay0 = true ∧ min d.depth e.depth ≤ 60 ∧ Q (.bl (if s = true then PyData.eqv d e else !PyData.eqv d e)) H
def gEq (s : Bool) (a b : PyData) : Option PyData := if isDic a = false ∧ isDic b = false ∧ min a.depth b.depth ≤ 60 then some (.bool (if s = true then PyData.eqv a b else !PyData.eqv a b)) else none
theorem rok_eq (s : Bool) : ROk M (rEqM M.K s) (gEq s) := by
  intro Z H x y a b z Q f hx hy e q
  unfold gEq at e
  split at e
  · rename_i h
    cases e
    obtain ⟨h1, h2, h3⟩ := h
    obtain ⟨d1, c1⟩ := hx.dp f (not_dic h1)
    obtain ⟨d2, c2⟩ := hy.dp f (not_dic h2)
    exact ⟨a, b, d1, d2, c1, c2, h3, q _ Z H Step.refl f (.pl Pl.bl)⟩
  · cases e
theorem o_eq : OpD M k (compareOp .Eq) (rEqM M.K true) (gEq true) := by
  refine ⟨fun X G => ?_, rok_eq true⟩
  intro pins s σ H x y v u Q I rx ry h
  obtain ⟨d, e, h1, h2, c1, c2, h3, q⟩ := h
  rw [← G.K] at h1 h2
  obtain ⟨as, r1⟩ := Dp.reads I d x v h1 rx
  obtain ⟨bs, r2⟩ := Dp.reads I e y u h2 ry
  have hr := G.room.units
  exact SeqAt.compareEq_reads r1 r2 c1 c2 (by omega) ⟨.bl _, H, I, rfl, q⟩
theorem o_ne : OpD M k (compareOp .NotEq) (rEqM M.K false) (gEq false) := by
  refine ⟨fun X G => ?_, rok_eq false⟩
  intro pins s σ H x y v u Q I rx ry h
  obtain ⟨d, e, h1, h2, c1, c2, h3, q⟩ := h
  rw [← G.K] at h1 h2
  obtain ⟨as, r1⟩ := Dp.reads I d x v h1 rx
  obtain ⟨bs, r2⟩ := Dp.reads I e y u h2 ry
  have hr := G.room.units
  exact SeqAt.compareNe_reads r1 r2 c1 c2 (by omega) ⟨.bl _, H, I, rfl, q⟩
/-! ### in, not in of lists and tuples -/
def seqOf (d : PyData) : Option (List PyData) := match d with
  | .list xs => some xs
  | .tuple xs => some xs
  | _ => none
def rInM (K : PySem.W.Frag) (s : Bool) : R2 := fun x y H Q => ∃ d e ds, Dp K H x d ∧ Dp K H y e ∧ seqOf e = some ds ∧ d.canLay0 = true ∧ PyData.canLayAll0 ds = true ∧ d.depth ≤ 60 ∧ Q (.bl (if s = true then ds.any (fun z => PyData.eqv z d) else !ds.any fun z => PyData.eqv z d)) H
def gIn (s : Bool) (a b : PyData) : Option PyData := if isDic a = false ∧ a.depth ≤ 60 then (seqOf b).bind fun ds => some (.bool (if s = true then ds.any (fun z => PyData.eqv z a) else !ds.any fun z => PyData.eqv z a)) else none
theorem seq_nd {e : PyData} {ds : List PyData} (h : seqOf e = some ds) : (∀ kvs, e ≠ .dict kvs) ∧ (e.canLay0 = true → PyData.canLayAll0 ds = true) := by
  unfold seqOf at h
  split at h <;> cases h
  · exact ⟨(fun _ z => by cases z), fun z => by simpa [PyData.canLay0] using z⟩
  · exact ⟨(fun _ z => by cases z), fun z => by simpa [PyData.canLay0] using z⟩
theorem rok_in (s : Bool) : ROk M (rInM M.K s) (gIn s) := by
  intro Z H x y a b z Q f hx hy e q
  unfold gIn at e
  split at e
  · rename_i h
    obtain ⟨h1, h2⟩ := h
    rw [Option.bind_eq_some_iff] at e
    obtain ⟨ds, e1, e2⟩ := e
    cases e2
    obtain ⟨n, cl⟩ := seq_nd e1
    obtain ⟨d1, c1⟩ := hx.dp f (not_dic h1)
    obtain ⟨d2, c2⟩ := hy.dp f n
    exact ⟨a, b, ds, d1, d2, e1, c1, cl c2, h2, q _ Z H Step.refl f (.pl Pl.bl)⟩
  · cases e
theorem o_in : OpD M k (compareOp .In) (rInM M.K true) (gIn true) := by
  refine ⟨fun X G => ?_, rok_in true⟩
  intro pins s σ H x y v u Q I rx ry h
  obtain ⟨d, e, ds, h1, h2, hs, c1, c2, h3, q⟩ := h
  rw [← G.K] at h1 h2
  obtain ⟨as, r1⟩ := Dp.reads I d x v h1 rx
  have hr := G.room.units
  obtain ⟨bs, r2⟩ := Dp.reads I e y u h2 ry
  unfold seqOf at hs
  split at hs <;> cases hs
  · exact SeqAt.in_list_reads r2 r1 c2 c1 (by omega) ⟨.bl _, H, I, rfl, q⟩
  · exact SeqAt.in_tuple_reads r2 r1 c2 c1 (by omega) ⟨.bl _, H, I, rfl, q⟩
theorem o_notIn : OpD M k (compareOp .NotIn) (rInM M.K false) (gIn false) := by
  refine ⟨fun X G => ?_, rok_in false⟩
  intro pins s σ H x y v u Q I rx ry h
  obtain ⟨d, e, ds, h1, h2, hs, c1, c2, h3, q⟩ := h
  rw [← G.K] at h1 h2
  obtain ⟨as, r1⟩ := Dp.reads I d x v h1 rx
  have hr := G.room.units
  obtain ⟨bs, r2⟩ := Dp.reads I e y u h2 ry
  unfold seqOf at hs
  split at hs <;> cases hs
  · exact SeqAt.notIn_list_reads r2 r1 c2 c1 (by omega) ⟨.bl _, H, I, rfl, q⟩
  · exact SeqAt.notIn_tuple_reads r2 r1 c2 c1 (by omega) ⟨.bl _, H, I, rfl, q⟩
/-! ### order of texts; is -/
def gLtS (a b : PyData) : Option PyData := match a, b with
  | .str x, .str y => some (.bool (decide (x.cps.toList < y.cps.toList)))
  | _, _ => none
theorem o_ltS : OpD M k (compareOp .Lt) (fun x y H Q => ∃ i j, x = .str i ∧ y = .str j ∧ Q (.bl (decide (i.cps.toList < j.cps.toList))) H) gLtS := by
  refine ⟨fun _ _ => op_lt_str, ?_⟩
  intro Z H x y a b z Q f hx hy e q
  unfold gLtS at e
  split at e
  · cases e
    rw [hx.str.1, hy.str.1]
    exact ⟨_, _, rfl, rfl, q _ Z H Step.refl f (.pl Pl.bl)⟩
  · cases e
def gIsB (s : Bool) (a b : PyData) : Option PyData := match a, b with
  | .bool x, .bool y => some (.bool (if s = true then decide (x = y) else !decide (x = y)))
  | _, _ => none
theorem o_isB : OpD M k (compareOp .Is) rIsB (gIsB true) := by
  refine ⟨fun _ _ => op_isBl, ?_⟩
  intro Z H x y a b z Q f hx hy e q
  unfold gIsB at e
  split at e
  · cases e
    rw [hx.bl, hy.bl]
    exact ⟨_, _, rfl, rfl, q _ Z H Step.refl f (.pl Pl.bl)⟩
  · cases e
theorem o_isNotB : OpD M k (compareOp .IsNot) rNotB (gIsB false) := by
  refine ⟨fun _ _ => op_notBl, ?_⟩
  intro Z H x y a b z Q f hx hy e q
  unfold gIsB at e
  split at e
  · cases e
    rw [hx.bl, hy.bl]
    exact ⟨_, _, rfl, rfl, q _ Z H Step.refl f (.pl Pl.bl)⟩
  · cases e
/-- a is None -/
def gIsN (a b : PyData) : Option PyData := match b with
  | .none => (match a with
    | .none => some (.bool true)
    | .dict _ => none
    | _ => some (.bool false))
  | _ => none
theorem pl_non_iff {Z : Hp} {v : V} {d : PyData} (q : Pl M Z v d) : decide (v = .non) = match d with
    | .none => true
    | _ => false := by
  obtain ⟨q, _⟩ := q
  cases q <;> simp
theorem o_isN : OpD M k (compareOp .Is) (fun x y H Q => y = .non ∧ Q (.bl (decide (x = .non))) H) gIsN := by
  refine ⟨fun _ _ => op_isN, ?_⟩
  intro Z H x y a b z Q f hx hy e q
  unfold gIsN at e
  split at e
  · refine ⟨hy.non, ?_⟩
    rcases hx with hx | ⟨p, rfl, _, hx⟩
    · cases a with
      | dict _ => cases e
      | none => cases e; rw [pl_non_iff (hx.plain fun _ z => by cases z)]; exact q _ Z H Step.refl f (.pl Pl.bl)
      | bool _ => cases e; rw [pl_non_iff (hx.plain fun _ z => by cases z)]; exact q _ Z H Step.refl f (.pl Pl.bl)
      | int _ => cases e; rw [pl_non_iff (hx.plain fun _ z => by cases z)]; exact q _ Z H Step.refl f (.pl Pl.bl)
      | str _ => cases e; rw [pl_non_iff (hx.plain fun _ z => by cases z)]; exact q _ Z H Step.refl f (.pl Pl.bl)
      | list _ => cases e; rw [pl_non_iff (hx.plain fun _ z => by cases z)]; exact q _ Z H Step.refl f (.pl Pl.bl)
      | tuple _ => cases e; rw [pl_non_iff (hx.plain fun _ z => by cases z)]; exact q _ Z H Step.refl f (.pl Pl.bl)
    · rcases own_ne hx with ⟨_, rfl⟩ | ⟨_, rfl⟩
      · cases e; exact q _ Z H Step.refl f (.pl Pl.bl)
      · cases e
  · cases e
/-! ### subscripts -/
theorem atI_pl {Z : Hp} {vs : List V} {ds : List PyData} {i : Int} {d : PyData} (q : PlA M Z vs ds) (h : atI ds i = some d) : ∃ v, atI vs i = some v ∧ Pl M Z v d := by
  unfold atI at h ⊢
  rw [q.length]
  rw [Option.bind_eq_some_iff] at h
  obtain ⟨j, e1, e2⟩ := h
  obtain ⟨v, e3, e4⟩ := q.get e2
  exact ⟨v, by rw [e1]; exact e3, e4⟩
theorem strOk_one {z : Str} {i : Int} {c : Nat} (h : PyData.strOk z = true) (e : atI z.cps.toList i = some c) : PyData.strOk ⟨#[c]⟩ = true := by
  unfold atI at e
  rw [Option.bind_eq_some_iff] at e
  obtain ⟨j, _, e2⟩ := e
  have hm : c ∈ z.cps.toList := List.mem_of_getElem? e2
  simp only [PyData.strOk] at h ⊢
  rw [Array.all_eq_true_iff_forall_mem] at h
  have := h c (by simpa using hm)
  simpa using this
def gIx (a b : PyData) : Option PyData := match a, b with
  | .list ds, .int i => atI ds i
  | .tuple ds, .int i => atI ds i
  | .str z, .int i => if z.length ≤ sizeLine then (atI z.cps.toList i).bind fun c => some (.str ⟨#[c]⟩) else none
  | _, _ => none
theorem rok_ix : ROk M (rIx M.K) gIx := by
  intro Z H x y a b z Q f hx hy e q
  unfold gIx at e
  split at e
  · obtain ⟨p, xs, rfl, h1, p1⟩ := hx.lst f
    obtain ⟨v, e1, e2⟩ := atI_pl p1 e
    exact .inl ⟨p, xs, _, v, rfl, hy.int, SqL.of h1, e1, q _ Z H Step.refl f (.pl e2)⟩
  · obtain ⟨p, xs, rfl, h1, p1⟩ := hx.tup
    obtain ⟨v, e1, e2⟩ := atI_pl p1 e
    exact .inr (.inl ⟨p, xs, _, v, rfl, hy.int, SqT.of (f _ _ h1), e1, q _ Z H Step.refl f (.pl e2)⟩)
  · split at e
    · rename_i h
      rw [Option.bind_eq_some_iff] at e
      obtain ⟨c, e1, e2⟩ := e
      cases e2
      obtain ⟨rfl, k1⟩ := hx.str
      exact .inr (.inr ⟨_, _, c, rfl, hy.int, h, e1, q _ Z H Step.refl f (.pl (Pl.str (strOk_one k1 e1)))⟩)
    · cases e
  · cases e
structure IxD (M : Me) (k : Nat) (r : R2) (g : PyData → PyData → Option PyData) : Prop where
  run : ∀ X, Good M k X → IxR X r
  ok : ROk M r g
theorem i_seq : IxD M k (rIx M.K) gIx := ⟨fun X G => by rw [← G.K]; exact ix_seq, rok_ix⟩
theorem de_ix {X : Cx} {a b : Expr} {pos : Pos} {r : R2} {g : PyData → PyData → Option PyData} {ta tb : TE} {fa fb : F OV} (hr : IxD M k r g) (ha : DE M k X a ta fa) (hb : DE M k X b tb fb) (hs : PlainIx b := by exact fun _ _ => rfl) :
    DE M k X (.Subscript a b pos) (tOp r ta tb) (fOp g fa fb) := ⟨fun G => pe_ix (hr.run X G) (ha.pe G) (hb.pe G) hs, ok_op hr.ok ha.ok hb.ok⟩
/-! ### slices -/
structure DPo (M : Me) (k : Nat) (X : Cx) (e : Option Expr) (t : TO) (f : F (Option Int)) : Prop where
  po : Good M k X → PO X e t
  ok : ∀ Z H s d o d' (Q : Option Int → Hp → Prop), Sl M Z H s d → f d = some (o, d') → (∀ Z' H', Step M.T Z H Z' H' (Ows s d) → Sl M Z' H' s d' → SameO d d' → Q o H') → t s H Q
def fPn : F (Option Int) := fun d => some (none, d)
def fPs (f : F OV) : F (Option Int) := fun d => (f d).bind fun p => match p.1 with
  | .val (.int i) => some (some i, p.2)
  | _ => none
theorem dp_none {X : Cx} : DPo M k X none tNoPart fPn := ⟨fun _ => po_none, fun Z H s d o d' Q S e q => by
  cases e
  exact q Z H Step.refl S (SameO.refl _)⟩
theorem dp_some {X : Cx} {e : Expr} {t : TE} {f : F OV} (h : DE M k X e t f) : DPo M k X (some e) (tPart t) (fPs f) := ⟨fun G => po_some (h.pe G), fun Z H s d o d' Q S e q => by
  simp only [fPs, Option.bind_eq_some_iff] at e
  obtain ⟨⟨o1, d1⟩, e1, e2⟩ := e
  dsimp only at e2
  split at e2
  · cases e2
    refine h.ok Z H s d _ _ _ S e1 fun v Z' H' t1 S1 k1 r1 => ?_
    cases r1 with
    | val r1 => exact ⟨_, (r1.plain fun _ z => by cases z).int_inv, q Z' H' t1 S1 k1⟩
  · cases e2⟩
def cutD {α : Type} (xs : List α) (lo hi : Option Int) : List α := (xs.drop (HT.sIx xs.length 0 lo)).take (HT.sIx xs.length xs.length hi - HT.sIx xs.length 0 lo)
theorem PlA.cut {Z : Hp} {vs : List V} {ds : List PyData} (q : PlA M Z vs ds) (lo hi : Option Int) : PlA M Z (cutV vs lo hi) (cutD ds lo hi) := by
  unfold cutV cutD
  rw [q.length]
  exact (q.drop _).take _
theorem strOk_cut {z : Str} (h : PyData.strOk z = true) (lo hi : Option Int) : PyData.strOk (cutS z lo hi) = true := by
  simp only [PyData.strOk] at h ⊢
  rw [Array.all_eq_true_iff_forall_mem] at h ⊢
  intro c hc
  refine h c ?_
  have hm : c ∈ ((z.cps.toList.drop (HT.sIx z.length 0 lo)).take (HT.sIx z.length z.length hi - HT.sIx z.length 0 lo)) := by simpa [cutS] using hc
  simpa using List.mem_of_mem_drop (List.mem_of_mem_take hm)
def rSlM (K : PySem.W.Frag) : V → Option Int → Option Int → Hp → VK → Prop := fun x lo hi H Q => rSlL K x lo hi H Q ∨ (rSlA K x lo hi H Q ∨ rSlS x lo hi H Q)
def gSl (a : PyData) (lo hi : Option Int) : Option PyData := match a with
  | .list ds => some (.list (cutD ds lo hi))
  | .tuple ds => some (.tuple (cutD ds lo hi))
  | .str z => if z.length ≤ sizeLine then some (.str (cutS z lo hi)) else none
  | _ => none
def fSl (fe : F OV) (fl fh : F (Option Int)) : F OV := fun d => (fe d).bind fun p => (fl p.2).bind fun l => (fh l.2).bind fun h => (rdO p.1 h.2).bind fun x => (gSl x l.1 h.1).bind fun z => some (.val z, h.2)
theorem whole_cut {α : Type} {xs : List α} {lo hi : Option Int} (h : HT.sIx xs.length 0 lo = 0 ∧ HT.sIx xs.length xs.length hi = xs.length) : cutD xs lo hi = xs := by
  unfold cutD
  rw [h.1, h.2]
  simp
theorem de_slice {X : Cx} {e : Expr} {lo hi : Option Expr} {p2 pos : Pos} {te : TE} {tl th : TO} {fe : F OV} {fl fh : F (Option Int)} (he : DE M k X e te fe) (hl : DPo M k X lo tl fl) (hh : DPo M k X hi th fh) :
    DE M k X (.Subscript e (.Slice lo hi none p2) pos) (tSl (rSlM M.K) te tl th) (fSl fe fl fh) := by
  refine ⟨fun G => ?_, ?_⟩
  · have hr : SlR X (rSlM X.K) := sl_list.or (sl_tupA.or sl_str)
    rw [G.K] at hr
    exact pe_slice hr (he.pe G) (hl.po G) (hh.po G)
  · intro Z H s d ov d' Q S r q
    simp only [fSl, Option.bind_eq_some_iff] at r
    obtain ⟨⟨o1, d1⟩, e1, ⟨l, d2⟩, e2, ⟨h, d3⟩, e3, x, e4, z, e5, e6⟩ := r
    cases e6
    refine he.ok Z H s d o1 d1 _ S e1 fun v Z1 H1 t1 S1 k1 r1 => ?_
    refine hl.ok Z1 H1 s d1 l d2 _ S1 e2 fun Z2 H2 t2 S2 k2 => ?_
    refine hh.ok Z2 H2 s d2 h d3 _ S2 e3 fun Z3 H3 t3 S3 k3 => ?_
    have T := two (two t1 k1 t2) (k1.trans k2) t3
    have KK := (k1.trans k2).trans k3
    have rd := (r1.mono (t2.zz.trans t3.zz)).rd S3 e4
    have f := S3.fz
    dsimp only at e5
    unfold gSl at e5
    split at e5
    · cases e5
      obtain ⟨a, xs, rfl, h1, p1⟩ := rd.lst f
      refine .inl ⟨a, xs, rfl, SqL.of h1, fun p hp => ?_⟩
      obtain ⟨t, g, w⟩ := new_lst f hp (p1.cut l h)
      exact q _ _ _ (T.trans t.no) (S3.no t g) KK (.val w)
    · cases e5
      obtain ⟨a, xs, rfl, h1, p1⟩ := rd.tup
      refine .inr (.inl ⟨a, xs, rfl, SqT.of (f _ _ h1), fun w => ?_, fun _ p hp => ?_⟩)
      · rw [p1.length] at w
        exact q _ _ _ T S3 KK (.val (.pl (by rw [whole_cut w]; exact Pl.tup h1 p1)))
      · obtain ⟨t, g, w⟩ := new_tup f hp (p1.cut l h)
        exact q _ _ _ (T.trans t.no) (S3.no t g) KK (.val w)
    · split at e5
      · rename_i hz
        cases e5
        obtain ⟨rfl, k1⟩ := rd.str
        exact .inr (.inr ⟨_, rfl, hz, q _ _ _ T S3 KK (.val (.pl (Pl.str (strOk_cut k1 l h))))⟩)
      · cases e5
    · cases e5
end
end DL

set_option maxRecDepth 100000
set_option linter.all false
/-! DL6: what is walked: lists, tuples, ranges, enumerate and zip of either. -/
namespace DL
open PySem L2
/-! ### a list (false) or a tuple (true) -/
def Sq (b : Bool) (K : PySem.W.Frag) (H : Hp) (a : Addr) (xs : List V) : Prop := match b with
  | false => SqL K H a xs
  | true => SqT K H a xs
def SIs (b : Bool) (h : Heap) (a : Addr) (its : Array Value) : Prop := match b with
  | false => h.IsList a its
  | true => h.IsTuple a its
def SIt (b : Bool) (h : Heap) (it a : Addr) (i : Nat) : Prop := match b with
  | false => h.IsListIter it a i
  | true => h.IsTupleIter it a i
def sIO (b : Bool) (a : Addr) : Obj := match b with
  | false => { cls := .type "list_iterator", data := .fields #[.ref a, .int 0 0] }
  | true => { cls := .type "tuple_iterator", data := .fields #[.ref a, .int 0 0] }
section
variable {X : Cx} {pins : List (Addr × Obj)} {σ : L2.St} {H : Hp} {s : Shared}
theorem sq_get (I : Inv X pins σ H s) {b : Bool} {a : Addr} {xs : List V} (h : Sq b X.K H a xs) : ∃ its : List Value, Vals xs its ∧ SIs b s.heap a its.toArray ∧ xs.length ≤ sizeLine := by
  cases b with
  | false =>
    obtain ⟨its, h1, h2, h3⟩ := I.list h
    exact ⟨its, h1, h2.isList, h3⟩
  | true =>
    obtain ⟨its, h1, h2, h3⟩ := I.tuple h
    exact ⟨its, h1, h2, h3⟩
theorem sq_inj (I : Inv X pins σ H s) {b : Bool} {a : Addr} {xs ys : List V} (h : Sq b X.K H a xs) (h' : Sq b X.K H a ys) : xs = ys := by
  cases b with
  | false => exact I.list_inj h h'
  | true => exact I.tuple_inj h h'
end
theorem sit_obj {b : Bool} {h : Heap} {it a : Addr} {i : Nat} (q : SIt b h it a i) : ∃ o, h.get? it = some o ∧ ∀ v, o.data ≠ .cell v := by
  cases b with
  | false => obtain ⟨o, e1, _, e2⟩ := q; exact ⟨o, e1, fun v z => by rw [e2] at z; cases z⟩
  | true => obtain ⟨o, e1, _, e2⟩ := q; exact ⟨o, e1, fun v z => by rw [e2] at z; cases z⟩
theorem sit_at {b : Bool} {h h' : Heap} {it a : Addr} {i : Nat} (q : SIt b h it a i) (k : ∀ o, h.get? it = some o → h'.get? it = some o) : SIt b h' it a i := by
  cases b with
  | false => exact Heap.IsListIter.at q k
  | true => exact Heap.IsTupleIter.at q k
theorem sis_ob {b : Bool} {h : Heap} {a : Addr} {its : Array Value} (q : SIs b h a its) : ∃ o, h.get? a = some o ∧ ∃ n, o.data = .seq its n := by
  cases b with
  | false => obtain ⟨o, e1, _, n, e2⟩ := q; exact ⟨o, e1, n, e2⟩
  | true => obtain ⟨o, e1, _, n, e2⟩ := q; exact ⟨o, e1, n, e2⟩
theorem sit_ne {b b' : Bool} {h : Heap} {it a c : Addr} {i : Nat} {its : Array Value} (q : SIt b h it a i) (r : SIs b' h c its) : c ≠ it := by
  intro z
  subst z
  obtain ⟨o, e1, n, e2⟩ := sis_ob r
  cases b with
  | false => obtain ⟨o', e3, _, e4⟩ := q; rw [e1] at e3; cases e3; rw [e2] at e4; cases e4
  | true => obtain ⟨o', e3, _, e4⟩ := q; rw [e1] at e3; cases e3; rw [e2] at e4; cases e4
theorem draws_sq {prog : Program} {w : World} {A : Around} (b : Bool) (hh : A.handled = none) (it l : Addr) (hne : l ≠ it) (items : Array Value) :
    Draws prog w A it [it, l] items.size (fun i v => items[i]? = some v) (fun i h => SIt b h it l i ∧ SIs b h l items) := by
  cases b with
  | false => exact Draws.list hh it l hne items
  | true => exact Draws.tuple hh it l hne items
theorem begins_sq (b : Bool) (l : Addr) (items : Array Value) : Begins (.ref l) (sIO b l) fun h => SIs b h l items := by
  cases b with
  | false => exact begins_list l items
  | true => exact begins_tuple l items
theorem sit_new {b : Bool} {h : Heap} {it a : Addr} (e : h.get? it = some (sIO b a)) : SIt b h it a 0 := by
  cases b with
  | false => exact ⟨_, e, rfl, rfl⟩
  | true => exact ⟨_, e, rfl, rfl⟩
/-! ### enumerate of one thing, its call -/
set_option maxHeartbeats 1000000 in
theorem enum_new1 {v : Value} {o : Obj} {G : Heap → Prop} (B : Begins v o G) :
    Meets (Builtin.«enumerate.__new__» ⟨[.type "enumerate", v], []⟩) (fun _ R s => G s.heap ∧
      R (.ok (.ret (.ref (s.heap.push o).objs.size))) { s with heap := (s.heap.push o).push { cls := .type "enumerate", data := .fields #[.none, .bool false, .ref s.heap.objs.size, rawInt 0, .none, .none] } }) :=
  .of_wp fun prog w A R s hyp => by
    obtain ⟨hp, gs, dr, tk, os⟩ := s
    obtain ⟨g1, hyp⟩ := hyp
    have hsub := sub_enumerate
    have iterates : ∀ {A' : Around} {E' : Value → Shared → Prop} {Q' : Value → Shared → Prop}, Q' (.ref hp.objs.size) ⟨hp.push o, gs, dr, tk, os⟩ → wpAny (model prog w) A' (pyIter v) Q' E' ⟨hp, gs, dr, tk, os⟩ :=
      fun q => B.iter prog w _ _ ⟨hp, gs, dr, tk, os⟩ _ g1 q
    wp_walk using iterates
    refine (wpAny_stack_any fun stk => (wpAny_pure ?_))
    split
    · rename_i cl _ _ _ _ _
      cases (cl == Value.type "enumerate")
      all_goals
        wp_walk using iterates
        exact ⟨_, rfl, hyp⟩
    · wp_walk using iterates
      exact ⟨_, rfl, hyp⟩
theorem enum_call1 {prog : Program} {w : World} {A : Around} {E : Value → Shared → Prop} {s : Shared} {v : Value} {o : Obj} {G : Heap → Prop} {Q : Value → Shared → Prop} (B : Begins v o G) (g1 : G s.heap)
    (h : ∀ h', IsEnum h' (s.heap.objs.size + 1) s.heap.objs.size 0 .none → h'.get? s.heap.objs.size = some o → (∀ b u, s.heap.get? b = some u → h'.get? b = some u) → Q (.ref (s.heap.objs.size + 1)) { s with heap := h' }) :
    wpAny (model prog w) A (call (.type "enumerate") [v]) Q E s := by
  refine callType_new F.called_enumerate (by decide) (F.typeCall_enumerate_1 _) (F.newCall_enumerate_1 _) (fun ob => F.args_object_init_2 ob _)
    F.entry_enumerate_new (enum_new1 B) ⟨g1, ?_⟩
  have z1 : (s.heap.push o).objs.size = s.heap.objs.size + 1 := Heap.size_push ..
  let e2 : Obj := { cls := .type "enumerate", data := .fields #[.none, .bool false, .ref s.heap.objs.size, rawInt 0, .none, .none] }
  have he : ((s.heap.push o).push e2).get? (s.heap.objs.size + 1) = some e2 := by
    rw [← z1]; exact Heap.get?_push_size _ rfl
  show _ ∧ _
  rw [z1]
  exact ⟨⟨_, he, rfl⟩, h _ he (Heap.get?_push_of_some _ (Heap.get?_push_size _ B.free)) fun b u q => Heap.get?_push_of_some _ (Heap.get?_push_of_some _ q)⟩
/-! ### turns -/
/-- enumerate of the list or tuple at a -/
def ItE (b : Bool) (K : PySem.W.Frag) (a : Addr) : It :=
  ⟨fun i H => ∃ xs x, Sq b K H a xs ∧ xs[i]? = some x,
    fun i H v H' => ∃ T x, v = .ref T ∧ H T = none ∧ H' = upd H T (.tup [.int (i : Nat), x]) ∧ ∀ xs, Sq b K H a xs → xs[i]? = some x,
    fun i H => ∃ xs, Sq b K H a xs ∧ xs.length = i⟩
theorem mem_two {a b c : Addr} (h : c ∈ [a, b]) : c = a ∨ c = b := by simpa using h
theorem turn_enumS {P : Program} {w : World} {K : PySem.W.Frag} {elts : List Expr} {kk : Nat} {tpos : Pos} (b : Bool) (a e it : Addr) (hne : e ≠ it) :
    Turn P w K (.Tuple elts kk tpos) (ItE b K a) [e, it] e (fun i h => (∃ old, IsEnum h e it ((i : Nat) : Int) old) ∧ SIt b h it a i) where
  mem := by simp
  obj := fun i h st c hc => by
    obtain ⟨⟨old, he⟩, hi⟩ := st
    rcases mem_two hc with rfl | rfl
    · exact ⟨_, he, fun v z => nomatch z⟩
    · exact sit_obj hi
  keep := fun i h h' st k => by
    obtain ⟨⟨old, he⟩, hi⟩ := st
    exact ⟨⟨old, k e (by simp) _ he⟩, sit_at hi fun o z => k it (by simp) o z⟩
  item := by
    intro X hP hw hK hc i pins s σ H E I hf st hg
    subst hP hw hK
    obtain ⟨⟨old, he⟩, hi⟩ := st
    obtain ⟨xs, x, hq, hx⟩ := hg
    obtain ⟨its, rv, sq, hz⟩ := sq_get I hq
    obtain ⟨u, hu, ru⟩ := rv.get hx
    have hil : i < its.toArray.size := by
      have := (List.getElem?_eq_some_iff.mp hu).1
      simpa using this
    have elt : e < s.heap.objs.size := Heap.lt_size he
    have ilt : it < s.heap.objs.size := by obtain ⟨o, z, _⟩ := sit_obj hi; exact Heap.lt_size z
    have ea : a ≠ e := by
      intro z
      subst z
      obtain ⟨o, e1, n, e2⟩ := sis_ob sq
      rw [he] at e1; cases e1; cases e2
    refine wpAny_pyNext_enum_itemD (draws_sq (A := X.A.in1) b (I.ok.hd hc) it a (sit_ne hi sq) its.toArray) he ⟨hi, sq⟩ hil hne (by simp [hne, ea.symm]) fun y h1 tk hy ho hs1 hT hsz hk => ?_
    have ey : y = u := by
      have : its[i]? = some y := by simpa using hy
      rw [hu] at this
      exact (Option.some.inj this).symm
    subst ey
    refine ⟨_, rfl, wpAny_letOwnedTupleGo_enum (s := { s with heap := h1, toks := tk + 1 }) ho fun h2 he2 sb => ?_⟩
    have hT2 : h2.get? s.heap.objs.size = some { cls := .type "tuple", data := .seq #[.int i tk, y] } := (sb.2 _ (Nat.ne_of_gt elt)).trans hT
    have new : ObjOk X.prog X.w (upd H s.heap.objs.size (.tup [.int (i : Nat), x])) h2 s.heap.objs.size (.tup [.int (i : Nat), x]) :=
      ⟨(by decide : 2 ≤ sizeLine), [.int i tk, y], .cons ⟨tk, rfl⟩ (.cons ru .nil), _, hT2, rfl, _, rfl⟩
    have I2 := I.turnedNew (t' := tk + 1) (ch := [e, it]) (fun c o hb z => (sb.2 c fun z => hb (by simp [z])).trans (hk c o (fun z => hb (by simp [z])) (fun z => hb (by simp [z])) z)) hf (Nat.le_refl _) new
    refine ⟨.ref s.heap.objs.size, _, I2, rfl, ⟨_, x, rfl, I.hok.fresh (Nat.le_refl _), rfl, fun ys hy => by rw [sq_inj I hy hq]; exact hx⟩, ⟨⟨y, he2⟩, ?_⟩, fun c hcm => ?_⟩
    · exact sit_at hs1.1 fun o z => (sb.2 it hne.symm).trans z
    · have clt : c < s.heap.objs.size := by
        rcases mem_two hcm with rfl | rfl
        · exact elt
        · exact ilt
      rw [upd_ne (Nat.ne_of_lt clt)]
      exact (hf c hcm).1
  done := by
    intro X hP hw hK hc i pins s σ H E I hf st hg
    subst hP hw hK
    obtain ⟨⟨old, he⟩, hi⟩ := st
    obtain ⟨xs, hq, hx⟩ := hg
    obtain ⟨its, rv, sq, hz⟩ := sq_get I hq
    have hn : i = its.toArray.size := by
      have := rv.length
      rw [← hx, this]; simp
    obtain ⟨f0, f1, f2, f3, f4, f5⟩ := hf it (by simp)
    have st' : SIt b s.heap it a its.toArray.size ∧ SIs b s.heap a its.toArray := ⟨hn ▸ hi, sq⟩
    exact wpAny_pyNext_enum_endD (draws_sq (A := X.A.in1) b (I.ok.hd hc) it a (sit_ne hi sq) its.toArray) he st' fun h1 eb => ⟨rfl, I.turned (t' := s.toks) (fun c o hb z => eb c o hb z) f0 f1 f3 f4 f5⟩
  self := fun A i s Q E st h => by
    obtain ⟨⟨old, he⟩, _⟩ := st
    exact wpAny_pyIter_enum he h
def iEnumS (K : PySem.W.Frag) (ta : TA) : TI := fun σ H R => ta σ H fun vs H1 => ∃ b a xs, vs = [.ref a] ∧ Sq b K H1 a xs ∧ R (ItE b K a) H1
theorem pi_enumS {X : Cx} {e : Expr} {ta : TA} {p pos tpos : Pos} {elts : List Expr} {kk : Nat} (hg : Gl X "enumerate") (hm : X.mg "enumerate" = none) (ha : PA X [e] ta) (hs : starEach [e] X.env = [(false, eval e X.env)] := by rfl) :
    PI X (.Tuple elts kk tpos) (.Call (.Name "enumerate" p) [e] [] pos) (iEnumS X.K ta) := by
  refine ⟨fun pins s σ H R I h => ?_⟩
  refine PyProof.Rows.Call_ (ld_blt I hg hm PyProof.Rows.boot_enumerate (PyProof.Rows.callWith_type1 (thn (ha.run pos pins s σ H _ I h) fun us s1 end1 => ?_) hs rfl))
  obtain ⟨vs, H1, I1, r1, b, a, xs, rfl, hq, q⟩ := end1
  obtain ⟨u, rfl, ru⟩ := Vals.one r1
  cases ru
  obtain ⟨its, rv, sq, hz⟩ := sq_get I1 hq
  refine enum_call1 (begins_sq b a its.toArray) sq fun h' he hi hk => wpAny_pyIter_enum he ?_
  have I2 : Inv X pins σ H1 { s1 with heap := h' } := I1.kept (t' := s1.toks) hk
  refine ⟨s1.heap.objs.size + 1, [s1.heap.objs.size + 1, s1.heap.objs.size], _, _, H1, rfl, I2, turn_enumS b a _ _ (Nat.succ_ne_self _), ⟨⟨.none, he⟩, sit_new hi⟩, fun c hc => ?_, q⟩
  have le : s1.heap.objs.size ≤ c := by
    rcases mem_two hc with rfl | rfl
    · exact Nat.le_succ _
    · exact Nat.le_refl _
  exact I1.fpOk le (I1.hok.fresh le)
/-- zip of two -/
def ItZ (b c : Bool) (K : PySem.W.Frag) (a d : Addr) : It :=
  ⟨fun i H => ∃ xs ys x y, Sq b K H a xs ∧ Sq c K H d ys ∧ xs[i]? = some x ∧ ys[i]? = some y,
    fun i H v H' => ∃ T x y, v = .ref T ∧ H T = none ∧ H' = upd H T (.tup [x, y]) ∧ (∀ xs, Sq b K H a xs → xs[i]? = some x) ∧ ∀ ys, Sq c K H d ys → ys[i]? = some y,
    fun i H => ∃ xs ys, Sq b K H a xs ∧ Sq c K H d ys ∧ i ≤ xs.length ∧ i ≤ ys.length ∧ (i = xs.length ∨ i = ys.length)⟩
theorem mem_five {z1 z2 z3 z4 z5 c : Addr} (h : c ∈ [z1, z2, z3, z4, z5]) : c = z1 ∨ c = z2 ∨ c = z3 ∨ c = z4 ∨ c = z5 := by simpa using h
structure Zap (z t o i j : Addr) : Prop where
  a1 : t ≠ z
  a2 : o ≠ z
  a3 : t ≠ o
  a4 : t ≠ i
  a5 : t ≠ j
  a6 : z ≠ i
  a7 : z ≠ j
  a8 : o ≠ i
  a9 : o ≠ j
  a10 : i ≠ j
theorem sis_nf {b : Bool} {h : Heap} {a z : Addr} {its : Array Value} {o : Obj} {fs : Array Value} (q : SIs b h a its) (e : h.get? z = some o) (d : o.data = .fields fs) : z ≠ a := by
  intro k
  subst k
  obtain ⟨o', e1, n, e2⟩ := sis_ob q
  rw [e] at e1; cases e1; rw [d] at e2; cases e2
theorem turn_zipS {P : Program} {w : World} {K : PySem.W.Frag} {elts : List Expr} {kk : Nat} {tpos : Pos} (b c : Bool) (a d : Addr) {z t o i1 i2 : Addr} (D : Zap z t o i1 i2) (ha : o ≠ a) (hd : o ≠ d) :
    Turn P w K (.Tuple elts kk tpos) (ItZ b c K a d) [z, t, o, i1, i2] z (fun i h => IsZip h z t o .none ∧ IsTupOf2 h t (.ref i1) (.ref i2) ∧ (∃ u v, IsTupOf2 h o u v) ∧ SIt b h i1 a i ∧ SIt c h i2 d i) where
  mem := by simp
  obj := fun i h st r hr => by
    obtain ⟨k1, k2, ⟨u, v, k3⟩, k4, k5⟩ := st
    rcases mem_five hr with rfl | rfl | rfl | rfl | rfl
    · exact ⟨_, k1, fun v z => nomatch z⟩
    · exact ⟨_, k2, fun v z => nomatch z⟩
    · exact ⟨_, k3, fun v z => nomatch z⟩
    · exact sit_obj k4
    · exact sit_obj k5
  keep := fun i h h' st k => by
    obtain ⟨k1, k2, ⟨u, v, k3⟩, k4, k5⟩ := st
    exact ⟨k z (by simp) _ k1, k t (by simp) _ k2, ⟨u, v, k o (by simp) _ k3⟩, sit_at k4 fun w z => k i1 (by simp) w z, sit_at k5 fun w z => k i2 (by simp) w z⟩
  item := by
    intro X hP hw hK hc i pins s σ H E I hf st hg
    subst hP hw hK
    obtain ⟨k1, k2, ⟨p, p', k3⟩, k4, k5⟩ := st
    obtain ⟨xs, ys, x, y, hx, hy, ex, ey⟩ := hg
    obtain ⟨us, rx, sx, _⟩ := sq_get I hx
    obtain ⟨ws, ry, sy, _⟩ := sq_get I hy
    obtain ⟨u, hu, ru⟩ := rx.get ex
    obtain ⟨v, hv, rv⟩ := ry.get ey
    have l1 : i < us.toArray.size := by simpa using (List.getElem?_eq_some_iff.mp hu).1
    have l2 : i < ws.toArray.size := by simpa using (List.getElem?_eq_some_iff.mp hv).1
    have zlt : z < s.heap.objs.size := Heap.lt_size k1
    have za : z ≠ a := sis_nf sx k1 rfl
    have zd : z ≠ d := sis_nf sy k1 rfl
    have sep : ZipSep2 z t o i1 i2 [i1, a] [i2, d] :=
      { TIz := D.a1, TOz := D.a2, TITO := D.a3, TIi1 := D.a4, mem1 := by simp, zf1 := by simp [D.a6, za], Tf1 := by simp [D.a8, ha], TIi2 := D.a5, mem2 := by simp, zf2 := by simp [D.a7, zd],
        Tf2 := by simp [D.a9, hd], sep1_2 := by simp [D.a10, (sit_ne k4 sy).symm], sep2_1 := by simp [D.a10.symm, (sit_ne k5 sx).symm] }
    refine wpAny_pyNext_zipD2_item sep (draws_sq (A := X.A.in1) b (I.ok.hd hc) i1 a (sit_ne k4 sx) us.toArray) (draws_sq (A := X.A.in1) c (I.ok.hd hc) i2 d (sit_ne k5 sy) ws.toArray) k1 k2 k3 ⟨k4, sx⟩ ⟨k5, sy⟩ l1 l2
      fun u' v' h1 tk hu' hv' z1 o1 s1 s2 hT hsz hk => ?_
    have e1 : u' = u := by
      have : us[i]? = some u' := by simpa using hu'
      rw [hu] at this; exact (Option.some.inj this).symm
    have e2 : v' = v := by
      have : ws[i]? = some v' := by simpa using hv'
      rw [hv] at this; exact (Option.some.inj this).symm
    subst e1 e2
    refine ⟨_, rfl, wpAny_letOwnedTupleGo_zip (s := { s with heap := h1, toks := tk }) z1 fun h2 z2 sb => ?_⟩
    have hT2 : h2.get? s.heap.objs.size = some { cls := .type "tuple", data := .seq #[u', v'] } := (sb.2 _ (Nat.ne_of_gt zlt)).trans hT
    have new : ObjOk X.prog X.w (upd H s.heap.objs.size (.tup [x, y])) h2 s.heap.objs.size (.tup [x, y]) :=
      ⟨(by decide : 2 ≤ sizeLine), [u', v'], .cons ru (.cons rv .nil), _, hT2, rfl, _, rfl⟩
    have I2 := I.turnedNew (t' := tk) (ch := [z, t, o, i1, i2]) (fun r w hb q => (sb.2 r fun k => hb (by simp [k])).trans (hk r w (fun k => hb (by simp [k])) (fun k => hb (by simp [k])) (fun k => hb (by simp [k])) (fun k => hb (by simp [k])) q)) hf (Nat.le_refl _) new
    refine ⟨.ref s.heap.objs.size, _, I2, rfl, ⟨_, x, y, rfl, I.hok.fresh (Nat.le_refl _), rfl, fun l hl => by rw [sq_inj I hl hx]; exact ex, fun l hl => by rw [sq_inj I hl hy]; exact ey⟩, ⟨z2, ?_, ⟨u', v', ?_⟩, ?_, ?_⟩, fun r hr => ?_⟩
    · exact (sb.2 _ D.a1).trans (hk t _ D.a1 D.a3 D.a4 D.a5 k2)
    · exact (sb.2 _ D.a2).trans o1
    · exact sit_at s1.1 fun w q => (sb.2 i1 D.a6.symm).trans q
    · exact sit_at s2.1 fun w q => (sb.2 i2 D.a7.symm).trans q
    · have rlt : r < s.heap.objs.size := by
        rcases mem_five hr with rfl | rfl | rfl | rfl | rfl
        · exact zlt
        · exact Heap.lt_size k2
        · exact Heap.lt_size k3
        · obtain ⟨_, q, _⟩ := sit_obj k4; exact Heap.lt_size q
        · obtain ⟨_, q, _⟩ := sit_obj k5; exact Heap.lt_size q
      rw [upd_ne (Nat.ne_of_lt rlt)]
      exact (hf r hr).1
  done := by
    intro X hP hw hK hc i pins s σ H E I hf st hg
    subst hP hw hK
    obtain ⟨k1, k2, ⟨p, p', k3⟩, k4, k5⟩ := st
    obtain ⟨xs, ys, hx, hy, m1, m2, m3⟩ := hg
    obtain ⟨us, rx, sx, _⟩ := sq_get I hx
    obtain ⟨ws, ry, sy, _⟩ := sq_get I hy
    have n1 : us.toArray.size = xs.length := by rw [rx.length]; simp
    have n2 : ws.toArray.size = ys.length := by rw [ry.length]; simp
    have za : z ≠ a := sis_nf sx k1 rfl
    have zd : z ≠ d := sis_nf sy k1 rfl
    have sep : ZipSep2 z t o i1 i2 [i1, a] [i2, d] :=
      { TIz := D.a1, TOz := D.a2, TITO := D.a3, TIi1 := D.a4, mem1 := by simp, zf1 := by simp [D.a6, za], Tf1 := by simp [D.a8, ha], TIi2 := D.a5, mem2 := by simp, zf2 := by simp [D.a7, zd],
        Tf2 := by simp [D.a9, hd], sep1_2 := by simp [D.a10, (sit_ne k4 sy).symm], sep2_1 := by simp [D.a10.symm, (sit_ne k5 sx).symm] }
    refine wpAny_pyNext_zipD2_end (i := i) sep (draws_sq (A := X.A.in1) b (I.ok.hd hc) i1 a (sit_ne k4 sx) us.toArray) (draws_sq (A := X.A.in1) c (I.ok.hd hc) i2 d (sit_ne k5 sy) ws.toArray) k1 k2 k3 ⟨k4, sx⟩ ⟨k5, sy⟩ (by omega) (by omega) (by omega) fun h1 tk hk => ?_
    exact ⟨rfl, I.turnedL (t' := tk) (ch := [z, t, o, i1, i2]) (fun r w hb q => hk r w (fun k => hb (by simp [k])) (fun k => hb (by simp [k])) (fun k => hb (by simp [k])) (fun k => hb (by simp [k])) q) hf⟩
  self := fun A i s Q E st h => wpAny_pyIter_zip st.1 h
def iZipS (K : PySem.W.Frag) (ta : TA) : TI := fun σ H R => ta σ H fun vs H1 => ∃ b c a d xs ys, vs = [.ref a, .ref d] ∧ Sq b K H1 a xs ∧ Sq c K H1 d ys ∧ R (ItZ b c K a d) H1
theorem pi_zipS {X : Cx} {e e2 : Expr} {ta : TA} {p pos tpos : Pos} {elts : List Expr} {kk : Nat} (hg : Gl X "zip") (hm : X.mg "zip" = none) (ha : PA X [e, e2] ta)
    (hs : starEach [e, e2] X.env = (false, eval e X.env) :: starEach [e2] X.env := by rfl) (hpl : (backTo pos (starEach [e2] X.env)).any (·.1) = false := by rfl) : PI X (.Tuple elts kk tpos) (.Call (.Name "zip" p) [e, e2] [] pos) (iZipS X.K ta) := by
  refine ⟨fun pins s σ H R I h => ?_⟩
  refine PyProof.Rows.Call_ (ld_blt I hg hm PyProof.Rows.boot_zip (PyProof.Rows.callWith_type1 (thn (ha.run pos pins s σ H _ I h) fun us s1 end1 => ?_) hs hpl))
  obtain ⟨vs, H1, I1, r1, b, c, a, d, xs, ys, rfl, hx, hy, q⟩ := end1
  obtain ⟨u, v, rfl, ru, rv⟩ := Vals.two r1
  cases ru
  cases rv
  obtain ⟨ws, rx, sx, _⟩ := sq_get I1 hx
  obtain ⟨zs, ry, sy, _⟩ := sq_get I1 hy
  have alt : a < s1.heap.objs.size := by obtain ⟨_, z, _⟩ := sis_ob sx; exact Heap.lt_size z
  have dlt : d < s1.heap.objs.size := by obtain ⟨_, z, _⟩ := sis_ob sy; exact Heap.lt_size z
  refine zip_begins2 (begins_sq b a ws.toArray) (begins_sq c d zs.toArray) sx sy fun h' k1 k2 k3 k4 k5 _ hk => wpAny_pyIter_zip k1 ?_
  have I2 : Inv X pins σ H1 { s1 with heap := h' } := I1.kept (t' := s1.toks) hk
  generalize hN : s1.heap.objs.size = N at *
  refine ⟨N + 4, [N + 4, N + 2, N + 3, N, N + 1], _, _, H1, rfl, I2, turn_zipS b c a d (z := N + 4) (t := N + 2) (o := N + 3) (i1 := N) (i2 := N + 1) ?_ ?_ ?_, ⟨k1, k2, ⟨_, _, k3⟩, sit_new k4, sit_new k5⟩, fun r hr => ?_, q⟩
  · constructor <;> (show (_ : Nat) ≠ _) <;> omega
  · exact Nat.ne_of_gt (Nat.lt_of_lt_of_le alt (Nat.le_add_right _ _))
  · exact Nat.ne_of_gt (Nat.lt_of_lt_of_le dlt (Nat.le_add_right _ _))
  · have le : s1.heap.objs.size ≤ r := by
      rw [hN]
      rcases mem_five hr with k | k | k | k | k
      · rw [k]; exact Nat.le_add_right _ _
      · rw [k]; exact Nat.le_add_right _ _
      · rw [k]; exact Nat.le_add_right _ _
      · rw [k]; exact Nat.le_refl _
      · rw [k]; exact Nat.le_add_right _ _
    exact I1.fpOk le (I1.hok.fresh le)
end DL

set_option maxRecDepth 100000
set_option linter.all false
/-! DL7: iteration rules, built-in calls, list methods over slots of data. -/
namespace DL
open PySem L2
/-! ### walked: a list or a tuple -/
def ItS (b : Bool) (K : PySem.W.Frag) (a : Addr) : It := match b with
  | false => Itl K a
  | true => Itt K a
theorem turn_sq {P : Program} {w : World} {K : PySem.W.Frag} {tg : Expr} (b : Bool) (a it : Addr) : Turn P w K tg (ItS b K a) [it] it (fun i h => SIt b h it a i) := by
  cases b with
  | false => exact turn_list a it
  | true => exact turn_tuple a it
def iSeq (K : PySem.W.Frag) (tl : TE) : TI := fun σ H R => tl σ H fun x H1 => ∃ b a xs, x = .ref a ∧ Sq b K H1 a xs ∧ R (ItS b K a) H1
theorem pi_seqS {X : Cx} {tg l : Expr} {tl : TE} (hl : PE X l tl) : PI X tg l (iSeq X.K tl) := by
  refine ⟨fun pins s σ H R I h => ?_⟩
  refine thn (hl.run pins s σ H _ I h) fun v s1 end1 => ?_
  obtain ⟨x, H1, I1, r1, b, a, xs, rfl, hq, q⟩ := end1
  cases r1
  obtain ⟨its, rv, sq, hz⟩ := sq_get I1 hq
  refine (begins_sq b a its.toArray).iter _ _ _ _ s1 _ sq ?_
  have nf : (sIO b a).isFreed = false := (begins_sq b a #[]).free
  refine ⟨s1.heap.objs.size, [s1.heap.objs.size], _, _, H1, rfl, I1.kept (t' := s1.toks) (fun c o e => Heap.get?_push_of_some _ e), turn_sq b a _, sit_new (Heap.get?_push_size _ nf), fun c hc => ?_, q⟩
  have e : c = s1.heap.objs.size := List.mem_singleton.mp hc
  subst e
  exact I1.fpOk (Nat.le_refl _) (I1.hok.fresh (Nat.le_refl _))
section
variable {M : Me} {k : Nat}
/-- frozen items -/
def fItems (f : F OV) : F (List PyData) := fun d => (f d).bind fun p => (fzO p.1).bind fun x => (seqOf x).bind fun xs => some (xs, p.2)
theorem Pl.sq {Z : Hp} {v : V} {x : PyData} {xs : List PyData} (q : Pl M Z v x) (h : seqOf x = some xs) : ∃ b a vs, v = .ref a ∧ Sq b M.K Z a vs ∧ PlA M Z vs xs := by
  unfold seqOf at h
  split at h <;> cases h
  · obtain ⟨a, vs, rfl, h1, h2⟩ := q.lst_inv
    exact ⟨false, a, vs, rfl, SqL.of h1, h2⟩
  · obtain ⟨a, vs, rfl, h1, h2⟩ := q.tup_inv
    exact ⟨true, a, vs, rfl, SqT.of h1, h2⟩
theorem Sq.le {b : Bool} {K : PySem.W.Frag} {Z H : Hp} {a : Addr} {vs : List V} (h : Sq b K Z a vs) (f : Le Z H) : Sq b K H a vs := by
  cases b with
  | false => exact f.sql h
  | true => exact f.sqt h
theorem gives_sq {b : Bool} {Z1 : Hp} {a : Addr} {vs : List V} {xs : List PyData} (h : Sq b M.K Z1 a vs) (q : PlA M Z1 vs xs) : Gives M (ItS b M.K a) Z1 xs := by
  intro Z H l1 l2
  have hs := (h.le l1).le l2
  have gv : ∀ i, i < xs.length → ∃ v, vs[i]? = some v := fun i hi => by
    obtain ⟨v, e, _⟩ := q.get (List.getElem?_eq_getElem hi)
    exact ⟨v, e⟩
  cases b with
  | false =>
    refine ⟨fun i hi => ?_, ⟨vs, hs, by rw [q.length]; exact Nat.le_refl _⟩, fun i v H' hi y => ?_⟩
    · obtain ⟨v, e⟩ := gv i hi
      exact ⟨vs, v, hs, e⟩
    · obtain ⟨rfl, y⟩ := y
      obtain ⟨x, e1, e2⟩ := q.getV (y vs hs)
      exact ⟨Z, x, e1, .pl (e2.mono l1), Step.refl, l2⟩
  | true =>
    refine ⟨fun i hi => ?_, ⟨vs, hs, by rw [q.length]; exact Nat.le_refl _⟩, fun i v H' hi y => ?_⟩
    · obtain ⟨v, e⟩ := gv i hi
      exact ⟨vs, v, hs, e⟩
    · obtain ⟨rfl, y⟩ := y
      obtain ⟨x, e1, e2⟩ := q.getV (y vs hs)
      exact ⟨Z, x, e1, .pl (e2.mono l1), Step.refl, l2⟩
theorem ok_items {tl : TE} {f : F OV} (h : EOk M tl f) : IOk M (iSeq M.K tl) (fItems f) := by
  intro Z H s d xs d' R S e q
  simp only [fItems, Option.bind_eq_some_iff] at e
  obtain ⟨⟨o, d1⟩, e1, x, e2, ys, e3, e4⟩ := e
  cases e4
  refine h Z H s d o _ _ S e1 fun v Z' H' t1 S1 k1 r1 => ?_
  have p := (r1.fz e2).plain (seq_nd e3).1
  obtain ⟨b, a, vs, rfl, h1, h2⟩ := p.sq e3
  exact ⟨b, a, vs, rfl, h1.le S1.fz, q _ Z' H' t1 S1 k1 (gives_sq h1 h2)⟩
theorem di_seq {X : Cx} {tg e : Expr} {te : TE} {f : F OV} (h : DE M k X e te f) : DI M k X tg e (iSeq M.K te) (fItems f) := ⟨fun G => by rw [← G.K]; exact pi_seqS (h.pe G), ok_items h.ok⟩
/-! ### range -/
def fRange (f : F (List OV)) : F (List PyData) := fun d => (f d).bind fun p => match p.1 with
  | [.val (.int n)] => if -(2 ^ 62) ≤ n ∧ n < 2 ^ 62 then some ((List.range n.toNat).map (fun (i : Nat) => .int (i : Int)), p.2) else none
  | _ => none
theorem di_range {X : Cx} {tg a : Expr} {p pos : Pos} {ta : TA} {f : F (List OV)} (hm : M.mg "range" = none) (ha : DA M k X [a] ta f) (hg : Gl X "range" := by rfl) (hs : starEach [a] X.env = [(false, eval a X.env)] := by rfl) :
    DI M k X tg (.Call (.Name "range" p) [a] [] pos) (iRng1 ta) (fRange f) := by
  refine ⟨fun G => pi_range1 hg (by rw [G.mg]; exact hm) (ha.pa G) hs, ?_⟩
  intro Z H s d xs d' R S e q
  simp only [fRange, Option.bind_eq_some_iff] at e
  obtain ⟨⟨os, d1⟩, e1, e2⟩ := e
  dsimp only at e2
  split at e2
  · rename_i n
    split at e2
    · rename_i hn
      cases e2
      refine ha.ok Z H s d _ _ _ S e1 fun vs Z' H' t1 S1 k1 r1 => ?_
      cases r1 with
      | cons r1 r2 =>
        cases r2
        cases r1 with
        | val r1 =>
          have ei := (r1.plain fun _ z => by cases z).int_inv
          subst ei
          refine ⟨n, rfl, hn.1, hn.2, q _ Z' H' t1 S1 k1 ?_⟩
          intro Z2 H2 l1 l2
          refine ⟨fun i hi => (by show i < n.toNat; simpa using hi), by show n.toNat ≤ _; simp, fun i v H3 hi y => ?_⟩
          obtain ⟨rfl, rfl⟩ := y
          have hi' : i < n.toNat := by simpa using hi
          exact ⟨Z2, .int ((0 : Int) + i), by simp [hi'], .pl Pl.int, Step.refl, l2⟩
    · cases e2
  · cases e2
/-! ### enumerate, zip -/
def fEnum (f : F (List OV)) : F (List PyData) := fun d => (f d).bind fun p => match p.1 with
  | [o] => (fzO o).bind fun x => (seqOf x).bind fun xs => some (xs.mapIdx (fun i x => .tuple [.int (i : Nat), x]), p.2)
  | _ => none
theorem gives_enum {b : Bool} {Z1 : Hp} {a : Addr} {vs : List V} {xs : List PyData} (h : Sq b M.K Z1 a vs) (q : PlA M Z1 vs xs) : Gives M (ItE b M.K a) Z1 (xs.mapIdx fun i x => .tuple [.int (i : Nat), x]) := by
  intro Z H l1 l2
  have hs := (h.le l1).le l2
  simp only [List.length_mapIdx]
  refine ⟨fun i hi => ?_, ⟨vs, hs, q.length⟩, fun i v H' hi y => ?_⟩
  · obtain ⟨v, e, _⟩ := q.get (List.getElem?_eq_getElem hi)
    exact ⟨vs, v, hs, e⟩
  · obtain ⟨T, x, rfl, hT, rfl, y⟩ := y
    obtain ⟨d, e1, e2⟩ := q.getV (y vs hs)
    obtain ⟨t, g, w⟩ := new_tup (M := M) (xs := [.int (i : Nat), d]) l2 hT (.cons Pl.int (.cons (e2.mono l1) .nil))
    exact ⟨_, _, by simp [e1], w, t, g⟩
theorem di_enum {X : Cx} {e : Expr} {p pos tpos : Pos} {elts : List Expr} {kk : Nat} {ta : TA} {f : F (List OV)} (hm : M.mg "enumerate" = none) (ha : DA M k X [e] ta f) (hg : Gl X "enumerate" := by rfl) (hs : starEach [e] X.env = [(false, eval e X.env)] := by rfl) :
    DI M k X (.Tuple elts kk tpos) (.Call (.Name "enumerate" p) [e] [] pos) (iEnumS M.K ta) (fEnum f) := by
  refine ⟨fun G => by rw [← G.K]; exact pi_enumS hg (by rw [G.mg]; exact hm) (ha.pa G) hs, ?_⟩
  intro Z H s d xs d' R S e q
  simp only [fEnum, Option.bind_eq_some_iff] at e
  obtain ⟨⟨os, d1⟩, e1, e2⟩ := e
  dsimp only at e2
  split at e2
  · simp only [Option.bind_eq_some_iff] at e2
    obtain ⟨x, e2, ys, e3, e4⟩ := e2
    cases e4
    refine ha.ok Z H s d _ _ _ S e1 fun vs Z' H' t1 S1 k1 r1 => ?_
    cases r1 with
    | cons r1 r2 =>
      cases r2
      have p := (r1.fz e2).plain (seq_nd e3).1
      obtain ⟨b, a, vs, rfl, h1, h2⟩ := p.sq e3
      exact ⟨b, a, vs, rfl, h1.le S1.fz, q _ Z' H' t1 S1 k1 (gives_enum h1 h2)⟩
  · cases e2
def fZip (f : F (List OV)) : F (List PyData) := fun d => (f d).bind fun p => match p.1 with
  | [o, o'] => (fzO o).bind fun x => (fzO o').bind fun y => (seqOf x).bind fun xs => (seqOf y).bind fun ys => some (List.zipWith (fun x y => .tuple [x, y]) xs ys, p.2)
  | _ => none
theorem gives_zip {b c : Bool} {Z1 : Hp} {a e : Addr} {vs ws : List V} {xs ys : List PyData} (h : Sq b M.K Z1 a vs) (q : PlA M Z1 vs xs) (h' : Sq c M.K Z1 e ws) (q' : PlA M Z1 ws ys) : Gives M (ItZ b c M.K a e) Z1 (List.zipWith (fun x y => .tuple [x, y]) xs ys) := by
  intro Z H l1 l2
  have hs := (h.le l1).le l2
  have hs' := (h'.le l1).le l2
  have ev := q.length
  have ew := q'.length
  simp only [List.length_zipWith]
  refine ⟨fun i hi => ?_, ⟨vs, ws, hs, hs', by omega, by omega, by omega⟩, fun i v H' hi y => ?_⟩
  · obtain ⟨v, e1, _⟩ := q.get (List.getElem?_eq_getElem (show i < xs.length by omega))
    obtain ⟨w, e2, _⟩ := q'.get (List.getElem?_eq_getElem (show i < ys.length by omega))
    exact ⟨vs, ws, v, w, hs, hs', e1, e2⟩
  · obtain ⟨T, x, y, rfl, hT, rfl, y1, y2⟩ := y
    obtain ⟨d, e1, e2⟩ := q.getV (y1 vs hs)
    obtain ⟨d', e3, e4⟩ := q'.getV (y2 ws hs')
    obtain ⟨t, g, w⟩ := new_tup (M := M) (xs := [d, d']) l2 hT (.cons (e2.mono l1) (.cons (e4.mono l1) .nil))
    exact ⟨_, _, by simp [List.getElem?_zipWith, e1, e3], w, t, g⟩
theorem di_zip {X : Cx} {e e' : Expr} {p pos tpos : Pos} {elts : List Expr} {kk : Nat} {ta : TA} {f : F (List OV)} (hm : M.mg "zip" = none) (ha : DA M k X [e, e'] ta f) (hg : Gl X "zip" := by rfl)
    (hs : starEach [e, e'] X.env = (false, eval e X.env) :: starEach [e'] X.env := by rfl) (hpl : (backTo pos (starEach [e'] X.env)).any (·.1) = false := by rfl) :
    DI M k X (.Tuple elts kk tpos) (.Call (.Name "zip" p) [e, e'] [] pos) (iZipS M.K ta) (fZip f) := by
  refine ⟨fun G => by rw [← G.K]; exact pi_zipS hg (by rw [G.mg]; exact hm) (ha.pa G) hs hpl, ?_⟩
  intro Z H s d xs d' R S e q
  simp only [fZip, Option.bind_eq_some_iff] at e
  obtain ⟨⟨os, d1⟩, e1, e2⟩ := e
  dsimp only at e2
  split at e2
  · simp only [Option.bind_eq_some_iff] at e2
    obtain ⟨x, e2, y, e2', xs, e3, ys, e3', e4⟩ := e2
    cases e4
    refine ha.ok Z H s d _ _ _ S e1 fun vs Z' H' t1 S1 k1 r1 => ?_
    cases r1 with
    | cons r1 r2 =>
      cases r2 with
      | cons r2 r3 =>
        cases r3
        obtain ⟨b, a, vs, rfl, h1, h2⟩ := ((r1.fz e2).plain (seq_nd e3).1).sq e3
        obtain ⟨c, a', ws, rfl, h1', h2'⟩ := ((r2.fz e2').plain (seq_nd e3').1).sq e3'
        exact ⟨b, c, a, a', vs, ws, rfl, h1.le S1.fz, h1'.le S1.fz, q _ Z' H' t1 S1 k1 (gives_zip h1 h2 h1' h2')⟩
  · cases e2
/-! ### calls of built-ins -/
inductive RDs (M : Me) (Z H : Hp) : List V → List PyData → Prop
  | nil : RDs M Z H [] []
  | cons {v x vs xs} : RD M Z H v x → RDs M Z H vs xs → RDs M Z H (v :: vs) (x :: xs)
def rdOs (d : SD) : List OV → Option (List PyData)
  | [] => some []
  | o :: os => (rdO o d).bind fun x => (rdOs d os).bind fun xs => some (x :: xs)
theorem ROs.rd {Z H : Hp} {s : Sg} {d : SD} {vs : List V} {os : List OV} (q : ROs M Z s vs os) (S : Sl M Z H s d) : ∀ {xs : List PyData}, rdOs d os = some xs → RDs M Z H vs xs := by
  induction q with
  | nil => intro xs e; cases e; exact .nil
  | cons a _ ih =>
    intro xs e
    simp only [rdOs, Option.bind_eq_some_iff] at e
    obtain ⟨x, e1, ys, e2, e3⟩ := e
    cases e3
    exact .cons (a.rd S e1) (ih e2)
def COk (M : Me) (r : List V → Hp → VK → Prop) (g : List PyData → Option PyData) : Prop := ∀ Z H vs xs z Q, Le Z H → RDs M Z H vs xs → g xs = some z →
  (∀ v Z' H', Step M.T Z H Z' H' (fun _ => False) → Le Z' H' → FD M Z' v z → Q v H') → r vs H Q
def fCB (g : List PyData → Option PyData) (f : F (List OV)) : F OV := fun d => (f d).bind fun p => (rdOs p.2 p.1).bind fun xs => (g xs).bind fun z => some (.val z, p.2)
theorem ok_cb {r : List V → Hp → VK → Prop} {g : List PyData → Option PyData} {t : TA} {f : F (List OV)} (hg : COk M r g) (ha : AOk M t f) : EOk M (tCB r t) (fCB g f) := by
  intro Z H s d ov d' Q S e q
  simp only [fCB, Option.bind_eq_some_iff] at e
  obtain ⟨⟨os, d1⟩, e1, xs, e2, z, e3, e4⟩ := e
  cases e4
  refine ha Z H s d os _ _ S e1 fun vs Z1 H1 t1 S1 k1 r1 => ?_
  refine hg Z1 H1 vs xs z Q S1.fz (r1.rd S1 e2) e3 fun v Z' H' t2 f2 q2 => ?_
  exact q v Z' H' (t1.trans t2.no) (S1.no t2 f2) k1 (.val q2)
structure CalD (M : Me) (k : Nat) (f : Value) (r : List V → Hp → VK → Prop) (g : List PyData → Option PyData) : Prop where
  run : ∀ X, Good M k X → CallR X f r
  ok : COk M r g
/-- a built-in function | type -/
theorem de_cb {X : Cx} {x : Str} {p pos : Pos} {e : Expr} {es : List Expr} {t : TA} {id : String} {r : List V → Hp → VK → Prop} {g : List PyData → Option PyData} {f : F (List OV)} (hc : CalD M k (.builtin id) r g) (hm : M.mg x = none) (ha : DA M k X (e :: es) t f) (hv : bootBuiltins x = some (.builtin id) := by decide +kernel) (hg : Gl X x := by rfl)
    (hn : x ≠ "__name__" := by decide) (hdb : (x == ("__debug__" : Str)) = false := by decide) (he : starEach (e :: es) X.env = (false, eval e X.env) :: starEach es X.env := by rfl) (hpl : (backTo pos (starEach es X.env)).any (·.1) = false := by rfl) :
    DE M k X (.Call (.Name x p) (e :: es) [] pos) (tCB r t) (fCB g f) := ⟨fun G => pe_callB (hc.run X G) hg (by rw [G.mg]; exact hm) hv (ha.pa G) hn hdb he hpl, ok_cb hc.ok ha.ok⟩
theorem de_ct {X : Cx} {x : Str} {p pos : Pos} {e : Expr} {es : List Expr} {t : TA} {T : String} {r : List V → Hp → VK → Prop} {g : List PyData → Option PyData} {f : F (List OV)} (hc : CalD M k (.type T) r g) (hm : M.mg x = none) (ha : DA M k X (e :: es) t f) (hv : bootBuiltins x = some (.type T) := by decide +kernel) (hg : Gl X x := by rfl)
    (hn : x ≠ "__name__" := by decide) (hdb : (x == ("__debug__" : Str)) = false := by decide) (he : starEach (e :: es) X.env = (false, eval e X.env) :: starEach es X.env := by rfl) (hpl : (backTo pos (starEach es X.env)).any (·.1) = false := by rfl) :
    DE M k X (.Call (.Name x p) (e :: es) [] pos) (tCB r t) (fCB g f) := ⟨fun G => pe_callTy (hc.run X G) hg (by rw [G.mg]; exact hm) hv (ha.pa G) hn hdb he hpl, ok_cb hc.ok ha.ok⟩
def gLen : List PyData → Option PyData := fun xs => match xs with
  | [.list ds] => some (.int (ds.length : Nat))
  | [.tuple ds] => some (.int (ds.length : Nat))
  | [.str z] => if z.length ≤ sizeLine then some (.int (z.length : Nat)) else none
  | _ => none
theorem c_len : CalD M k (.builtin "len") (fun xs H Q => ∃ x n, xs = [x] ∧ LenV M.K x H n ∧ Q (.int (n : Nat)) H) gLen := by
  refine ⟨fun X G => by rw [← G.K]; exact call_len, ?_⟩
  intro Z H vs xs z Q f h e q
  unfold gLen at e
  split at e
  · cases e
    cases h with
    | cons h h' =>
      cases h'
      obtain ⟨a, xs, rfl, h1, h2⟩ := h.lst f
      exact ⟨_, _, rfl, .inl ⟨xs, SqL.of h1, h2.length.symm⟩, q _ Z H Step.refl f (.pl Pl.int)⟩
  · cases e
    cases h with
    | cons h h' =>
      cases h'
      obtain ⟨a, xs, rfl, h1, h2⟩ := h.tup
      exact ⟨_, _, rfl, .inr ⟨xs, SqT.of (f _ _ h1), h2.length.symm⟩, q _ Z H Step.refl f (.pl Pl.int)⟩
  · split at e
    · rename_i hz
      cases e
      cases h with
      | cons h h' =>
        cases h'
        obtain ⟨rfl, _⟩ := h.str
        exact ⟨_, _, rfl, ⟨hz, rfl⟩, q _ Z H Step.refl f (.pl Pl.int)⟩
    · cases e
  · cases e
def boolsOf : List PyData → Option (List Bool)
  | [] => some []
  | .bool b :: r => (boolsOf r).bind fun bs => some (b :: bs)
  | _ :: _ => none
theorem bools_of {Z : Hp} : ∀ {ds : List PyData} {bs : List Bool} {vs : List V}, boolsOf ds = some bs → PlA M Z vs ds → vs = bs.map V.bl
  | [], _, _, e, h => by cases e; exact h.nil_inv
  | .bool b :: r, _, _, e, h => by
    simp only [boolsOf, Option.bind_eq_some_iff] at e
    obtain ⟨bs, e1, e2⟩ := e
    cases e2
    obtain ⟨v, vr, rfl, h1, h2⟩ := h.cons_inv
    rw [h1.bl_inv, bools_of e1 h2]; rfl
  | .none :: _, _, _, e, _ => by cases e
  | .int _ :: _, _, _, e, _ => by cases e
  | .str _ :: _, _, _, e, _ => by cases e
  | .list _ :: _, _, _, e, _ => by cases e
  | .tuple _ :: _, _, _, e, _ => by cases e
  | .dict _ :: _, _, _, e, _ => by cases e
def gAny : List PyData → Option PyData := fun xs => match xs with
  | [.list ds] => (boolsOf ds).bind fun bs => some (.bool (bs.any id))
  | _ => none
def gAll : List PyData → Option PyData := fun xs => match xs with
  | [.list ds] => (boolsOf ds).bind fun bs => some (.bool (bs.all id))
  | _ => none
theorem c_any : CalD M k (.builtin "any") (rAny M.K) gAny := by
  refine ⟨fun X G => by rw [← G.K]; exact cr_any G.calm, ?_⟩
  intro Z H vs xs z Q f h e q
  unfold gAny at e
  split at e
  · rw [Option.bind_eq_some_iff] at e
    obtain ⟨bs, e1, e2⟩ := e
    cases e2
    cases h with
    | cons h h' =>
      cases h'
      obtain ⟨a, xs, rfl, h1, h2⟩ := h.lst f
      rw [bools_of e1 h2] at h1
      exact ⟨a, bs, rfl, SqL.of h1, q _ Z H Step.refl f (.pl Pl.bl)⟩
  · cases e
theorem c_all : CalD M k (.builtin "all") (rAll M.K) gAll := by
  refine ⟨fun X G => by rw [← G.K]; exact cr_all G.calm, ?_⟩
  intro Z H vs xs z Q f h e q
  unfold gAll at e
  split at e
  · rw [Option.bind_eq_some_iff] at e
    obtain ⟨bs, e1, e2⟩ := e
    cases e2
    cases h with
    | cons h h' =>
      cases h'
      obtain ⟨a, xs, rfl, h1, h2⟩ := h.lst f
      rw [bools_of e1 h2] at h1
      exact ⟨a, bs, rfl, SqL.of h1, q _ Z H Step.refl f (.pl Pl.bl)⟩
  · cases e
def gTuple : List PyData → Option PyData := fun xs => match xs with
  | [.list ds] => some (.tuple ds)
  | [.tuple ds] => some (.tuple ds)
  | _ => none
theorem c_tuple : CalD M k (.type "tuple") (fun xs H Q => ∃ p ys, xs = [.ref p] ∧ ((SqL M.K H p ys ∧ ∀ l, H l = none → Q (.ref l) (upd H l (.tup ys))) ∨ (SqT M.K H p ys ∧ Q (.ref p) H))) gTuple := by
  refine ⟨fun X G => by rw [← G.K]; exact call_tuple_of, ?_⟩
  intro Z H vs xs z Q f h e q
  unfold gTuple at e
  split at e
  · cases e
    cases h with
    | cons h h' =>
      cases h'
      obtain ⟨a, xs, rfl, h1, h2⟩ := h.lst f
      refine ⟨a, xs, rfl, .inl ⟨SqL.of h1, fun l hl => ?_⟩⟩
      obtain ⟨t, g, w⟩ := new_tup f hl h2
      exact q _ _ _ t g w
  · cases e
    cases h with
    | cons h h' =>
      cases h'
      obtain ⟨a, xs, rfl, h1, h2⟩ := h.tup
      exact ⟨a, xs, rfl, .inr ⟨SqT.of (f _ _ h1), q _ Z H Step.refl f (.pl (Pl.tup h1 h2))⟩⟩
  · cases e
def gList : List PyData → Option PyData := fun xs => match xs with
  | [.list ds] => some (.list ds)
  | [.tuple ds] => some (.list ds)
  | _ => none
theorem c_list : CalD M k (.type "list") (fun xs H Q => ∃ p ys, xs = [.ref p] ∧ (SqL M.K H p ys ∨ SqT M.K H p ys) ∧ ∀ l, H l = none → Q (.ref l) (upd H l (.lst ys))) gList := by
  refine ⟨fun X G => by rw [← G.K]; exact call_list_of, ?_⟩
  intro Z H vs xs z Q f h e q
  unfold gList at e
  split at e
  · cases e
    cases h with
    | cons h h' =>
      cases h'
      obtain ⟨a, xs, rfl, h1, h2⟩ := h.lst f
      refine ⟨a, xs, rfl, .inl (SqL.of h1), fun l hl => ?_⟩
      obtain ⟨t, g, w⟩ := new_lst f hl h2
      exact q _ _ _ t g w
  · cases e
    cases h with
    | cons h h' =>
      cases h'
      obtain ⟨a, xs, rfl, h1, h2⟩ := h.tup
      refine ⟨a, xs, rfl, .inr (SqT.of (f _ _ h1)), fun l hl => ?_⟩
      obtain ⟨t, g, w⟩ := new_lst f hl h2
      exact q _ _ _ t g w
  · cases e
def gAbs : List PyData → Option PyData := fun xs => match xs with
  | [.int i] => some (.int (if i < 0 then -i else i))
  | _ => none
theorem c_abs : CalD M k (.builtin "abs") (fun xs H Q => ∃ i, xs = [.int i] ∧ Q (.int (if i < 0 then -i else i)) H) gAbs := by
  refine ⟨fun X G => call_abs, ?_⟩
  intro Z H vs xs z Q f h e q
  unfold gAbs at e
  split at e
  · cases e
    cases h with
    | cons h h' =>
      cases h'
      rw [h.int]
      exact ⟨_, rfl, q _ Z H Step.refl f (.pl Pl.int)⟩
  · cases e
def gMax2 : List PyData → Option PyData := fun xs => match xs with
  | [.int i, .int j] => some (.int (if j > i then j else i))
  | _ => none
theorem c_max2 : CalD M k (.builtin "max") (fun xs H Q => ∃ i j, xs = [.int i, .int j] ∧ Q (.int (if j > i then j else i)) H) gMax2 := by
  refine ⟨fun X G => call_max2 G.calm, ?_⟩
  intro Z H vs xs z Q f h e q
  unfold gMax2 at e
  split at e
  · cases e
    cases h with
    | cons h h' =>
      cases h' with
      | cons h' h'' =>
        cases h''
        rw [h.int, h'.int]
        exact ⟨_, _, rfl, q _ Z H Step.refl f (.pl Pl.int)⟩
  · cases e
def gMin2 : List PyData → Option PyData := fun xs => match xs with
  | [.int i, .int j] => some (.int (if j < i then j else i))
  | _ => none
theorem c_min2 : CalD M k (.builtin "min") (fun xs H Q => ∃ i j, xs = [.int i, .int j] ∧ Q (.int (if j < i then j else i)) H) gMin2 := by
  refine ⟨fun X G => call_min2 G.calm, ?_⟩
  intro Z H vs xs z Q f h e q
  unfold gMin2 at e
  split at e
  · cases e
    cases h with
    | cons h h' =>
      cases h' with
      | cons h' h'' =>
        cases h''
        rw [h.int, h'.int]
        exact ⟨_, _, rfl, q _ Z H Step.refl f (.pl Pl.int)⟩
  · cases e
/-- int(a truth value) -/
def gIntB : List PyData → Option PyData := fun xs => match xs with
  | [.bool b] => some (.int (if b = true then 1 else 0))
  | _ => none
theorem c_intB : CalD M k (.type "int") (fun xs H Q => (∃ i, xs = [.int i] ∧ Q (.int i) H) ∨ ∃ b, xs = [.bl b] ∧ Q (.int (if b then 1 else 0)) H) gIntB := by
  refine ⟨fun X G => call_int1, ?_⟩
  intro Z H vs xs z Q f h e q
  unfold gIntB at e
  split at e
  · cases e
    cases h with
    | cons h h' =>
      cases h'
      rw [h.bl]
      exact .inr ⟨_, rfl, q _ Z H Step.refl f (.pl Pl.int)⟩
  · cases e
theorem strOk_ascii {z : Str} (h : ∀ c ∈ z.cps.toList, c < 128) : PyData.strOk z = true := by
  simp only [PyData.strOk]
  rw [Array.all_eq_true_iff_forall_mem]
  intro c hc
  have := h c (by simpa using hc)
  simp
  omega
def gStrI : List PyData → Option PyData := fun xs => match xs with
  | [.int i] => if i.natAbs.log2 < 1920 ∧ PyData.strOk (toString i : Str) = true then some (.str (toString i)) else none
  | _ => none
theorem c_strI : CalD M k (.type "str") (fun xs H Q => ∃ i : Int, xs = [.int i] ∧ i.natAbs.log2 < 1920 ∧ Q (.str (toString i)) H) gStrI := by
  refine ⟨fun X G => call_str_int, ?_⟩
  intro Z H vs xs z Q f h e q
  unfold gStrI at e
  split at e
  · split at e
    · rename_i hi
      cases e
      cases h with
      | cons h h' =>
        cases h'
        rw [h.int]
        exact ⟨_, rfl, hi.1, q _ Z H Step.refl f (.pl (Pl.str hi.2))⟩
    · cases e
  · cases e
/-! ### isinstance -/
/-- the name of a datum's built-in type -/
def tyName : PyData → Option String
  | .none => some "NoneType"
  | .bool _ => some "bool"
  | .int _ => some "int"
  | .str _ => some "str"
  | .list _ => some "list"
  | .tuple _ => some "tuple"
  | .dict _ => none
theorem tyx_of {Z H : Hp} {v : V} {d : PyData} {n : String} (q : Pl M Z v d) (f : Le Z H) (e : tyName d = some n) : TyX M.K H v (.type n) := by
  obtain ⟨q, _⟩ := q
  cases q with
  | non => cases e; exact .base .non
  | bl b => cases e; exact .base (.bl b)
  | int i => cases e; exact .base (.int i)
  | str x => cases e; exact .base (.str x)
  | lst h _ => cases e; exact .base (.lst (f _ _ h))
  | tup h _ => cases e; exact .base (.tup (f _ _ h))
/-- isinstance(e, T) for a written built-in type T -/
def gIsi (T : String) (d : PyData) : Option PyData := (tyName d).bind fun n => (kitB n T).bind fun b => some (.bool b)
def fIsi (T : String) (f : F OV) : F OV := fun d => (f d).bind fun p => (fzO p.1).bind fun x => (gIsi T x).bind fun z => some (.val z, p.2)
theorem de_isi {X : Cx} {e : Expr} {p p' pos : Pos} {x : Str} {T : String} {te : TE} {f : F OV} (hm : M.mg "isinstance" = none) (hmT : M.mg x = none) (h : DE M k X e te f) (hv : bootBuiltins x = some (.type T) := by decide +kernel) (hg : Gl X "isinstance" := by rfl) (hgT : Gl X x := by rfl)
    (hnT : x ≠ "__name__" := by decide) (hdT : (x == ("__debug__" : Str)) = false := by decide) (he : starEach [e, .Name x p'] X.env = (false, eval e X.env) :: starEach [.Name x p'] X.env := by rfl) (he2 : starEach [.Name x p'] X.env = (false, eval (.Name x p') X.env) :: starEach [] X.env := by rfl)
    (hpl : (backTo pos (starEach [.Name x p'] X.env)).any (·.1) = false := by rfl) :
    DE M k X (.Call (.Name "isinstance" p) [e, .Name x p'] [] pos) (tCB (rIsi M.K) (tCons te (tCons (tC (.ty T)) tNil))) (fIsi T f) := by
  refine ⟨fun G => ?_, ?_⟩
  · have ha : PA X [e, .Name x p'] (tCons te (tCons (tC (.ty T)) tNil)) := pa_cons (h.pe G) (pa_cons (pe_bltn hgT (by rw [G.mg]; exact hmT) hv rfl hnT hdT) pa_nil he2) he
    rw [← G.K]
    exact pe_callB call_isi hg (by rw [G.mg]; exact hm) (by decide +kernel) ha (by decide) (by decide) he hpl
  · intro Z H s d ov d' Q S e q
    simp only [fIsi, Option.bind_eq_some_iff] at e
    obtain ⟨⟨o, d1⟩, e1, y, e2, z, e3, e4⟩ := e
    cases e4
    simp only [gIsi, Option.bind_eq_some_iff] at e3
    obtain ⟨n, e5, b, e6, e7⟩ := e3
    cases e7
    refine h.ok Z H s d o _ _ S e1 fun v Z' H' t1 S1 k1 r1 => ?_
    have pl := (r1.fz e2).plain fun kvs z => by subst z; cases e5
    exact ⟨v, .ty T, .type n, .type T, b, rfl, .ty T, tyx_of pl S1.fz e5, kit_ty e6, q _ Z' H' t1 S1 k1 (.val (.pl Pl.bl))⟩
/-! ### methods of owned lists -/
def isOL (d : SD) (i : Nat) : Bool := match d[i]? with
  | some (some (SV.own (.list _))) => true
  | _ => false
theorem isOL_ex {d : SD} {i : Nat} (h : isOL d i = true) : ∃ xs, d[i]? = some (some (SV.own (.list xs))) := by
  unfold isOL at h
  split at h
  · rename_i xs e; exact ⟨xs, e⟩
  · cases h
/-- the items that are laid behind an owned list's -/
def putL (i : Nat) (ys : List PyData) (d : SD) : Option (Fl × SD) := match d[i]? with
  | some (some (SV.own (.list xs))) => if xs.length + ys.length ≤ sizeLine then some (.nx, d.set i (some (.own (.list (xs ++ ys))))) else none
  | _ => none
theorem putL_inv {i : Nat} {ys : List PyData} {d d' : SD} {fl : Fl} (h : putL i ys d = some (fl, d')) : ∃ xs, d[i]? = some (some (SV.own (.list xs))) ∧ xs.length + ys.length ≤ sizeLine ∧ fl = .nx ∧ d' = d.set i (some (.own (.list (xs ++ ys)))) := by
  unfold putL at h
  split at h
  · split at h
    · rename_i xs e hz; cases h; exact ⟨xs, e, hz, rfl, rfl⟩
    · cases h
  · cases h
def fApp (i : Nat) (f : F OV) : F Fl := fun d => if isOL d i = true then (f d).bind fun p => (plO p.1).bind fun y => putL i [y] p.2 else none
theorem Sl.ownL {Z H : Hp} {s : Sg} {d : SD} {i : Nat} {xs : List PyData} (S : Sl M Z H s d) (h : d[i]? = some (some (SV.own (.list xs)))) : ∃ a vs, s[i]? = some (some (V.ref a)) ∧ Z a = none ∧ H a = some (.lst vs) ∧ PlA M Z vs xs := by
  obtain ⟨a, e1, e2, e3⟩ := S.own i _ h
  cases e3 with
  | lst h1 h2 => exact ⟨a, _, e1, e2, h1, h2⟩
/-- an owned object written: the slots, the step -/
theorem Sl.wr {Z H : Hp} {s : Sg} {d : SD} {i : Nat} {x y : PyData} {a : Addr} {o : HO} (S : Sl M Z H s d) (h : d[i]? = some (some (SV.own x))) (hs : s[i]? = some (some (V.ref a))) (hz : Z a = none) (q : OwnAt M Z (upd H a o) a y) :
    Step M.T Z H Z (upd H a o) (Ows s d) ∧ Sl M Z (upd H a o) s (d.set i (some (.own y))) ∧ SameO d (d.set i (some (.own y))) := by
  have hp : ∀ u, H a = some u → (∀ ps, u ≠ .tbl ps) ∧ ∀ c, u ≠ LamX.CodeO a c := fun u e => by
    obtain ⟨b, e1, _, e3⟩ := S.own i x h
    rw [hs] at e1; cases e1
    exact e3.nt e
  refine ⟨Step.write ⟨i, x, h, hs⟩ hp, S.put h hs (Step.write rfl hp) (le_updH S.fz hz) hz q, SameO_set h⟩
/-- a method of an owned list with one argument, that gives nothing -/
theorem ok_lmeth {te : TE} {f : F OV} {r : V → List V → Hp → VK → Prop} {G : OV → SD → Option (List PyData)} (i : Nat) (h : EOk M te f)
    (hr : ∀ Z H s d o ys v a vs xs Q, Sl M Z H s d → RO M Z s v o → G o d = some ys → H a = some (.lst vs) → PlA M Z vs xs → xs.length + ys.length ≤ sizeLine → (∀ ws, PlA M Z ws ys → Q .non (upd H a (.lst (vs ++ ws)))) → r (.ref a) [v] H Q) :
    SOk M (tDrop (tBM M.K "list" r (tVar i) (tCons te tNil))) (fun d => if isOL d i = true then (f d).bind fun p => (G p.1 p.2).bind fun ys => putL i ys p.2 else none) := by
  intro Z0 H0 P0 Z H s d fl d' D E e q
  dsimp only at e
  split at e
  case isFalse => cases e
  rename_i hol
  obtain ⟨xs0, hx0⟩ := isOL_ex hol
  simp only [Option.bind_eq_some_iff] at e
  obtain ⟨⟨o, d1⟩, e1, ys, e2, e3⟩ := e
  obtain ⟨a, vs0, r1, r2, r3, r4⟩ := E.sl.ownL hx0
  refine ⟨.ref a, r1, .inl ⟨rfl, vs0, SqL.of r3⟩, ?_⟩
  refine h Z H s d o d1 _ E.sl e1 fun v Z1 H1 t1 S1 k1 ro => ?_
  obtain ⟨xs, hx, hz, rfl, rfl⟩ := putL_inv e3
  obtain ⟨a', vs, s1, s2, s3, s4⟩ := S1.ownL hx
  rw [r1] at s1
  cases s1
  refine hr Z1 H1 s d1 o ys v a vs xs _ S1 ro e2 s3 s4 hz fun ws pw => ?_
  obtain ⟨t2, S2, k2⟩ := S1.wr hx r1 s2 (OwnAt.lst upd_same (s4.append pw))
  exact q Z1 _ s t1.zz ((E.exp t1 S1 k1).exp t2 S2 k2)
theorem ok_append {te : TE} {f : F OV} (i : Nat) (h : EOk M te f) : SOk M (tDrop (tBM M.K "list" rAppend (tVar i) (tCons te tNil))) (fApp i f) := by
  have k := ok_lmeth (M := M) (r := rAppend) (G := fun o _ => (plO o).bind fun y => some [y]) i h ?_
  · have e : (fApp i f) = (fun d => if isOL d i = true then (f d).bind fun p => ((plO p.1).bind fun y => some [y]).bind fun ys => putL i ys p.2 else none) := by
      funext d
      unfold fApp
      simp only [Option.bind_assoc, Option.bind_some]
    rw [e]; exact k
  · intro Z H s d o ys v a vs xs Q S ro e h1 h2 hz q
    rw [Option.bind_eq_some_iff] at e
    obtain ⟨y, e1, e2⟩ := e
    cases e2
    refine ⟨a, vs, v, rfl, rfl, h1, ?_, q [v] (.cons (ro.pl e1) .nil)⟩
    have := h2.length
    simp at hz
    omega
theorem ds_append (i : Nat) {X : Cx} {x : Str} {e : Expr} {te : TE} {f : F OV} {p p2 p3 pos : Pos} (h : DE M k X e te f) (hN : X.N[i]? = some x := by rfl) (hv : Vis X.env.scope x := by first | exact Or.inl rfl | exact Or.inr (Or.inl rfl) | exact Or.inr (Or.inr rfl)) (hd : (x == ("__debug__" : Str)) = false := by decide)
    (hcd : (x == ("__classdict__" : Str)) = false := by decide) (hpe : PE X (.Name x p) (tVar i) → PA X [e] (tCons te tNil) → PE X (.Call (.Attribute (.Name x p) "append" p2) [e] [] p3) (tBM X.K "list" rAppend (tVar i) (tCons te tNil)) := by intro h1 h2; exact pe_bm PySem.F.plainAttrs_list PySem.F.slot_list_append PySem.F.type_list_append mt_append h1 h2)
    (he : starEach [e] X.env = (false, eval e X.env) :: starEach [] X.env := by rfl) (hs : swapsWith (.Call (.Attribute (.Name x p) "append" p2) [e] [] p3) none pos.line X.env = pure false := by rfl) :
    DS M k X (.Expr (.Call (.Attribute (.Name x p) "append" p2) [e] [] p3) pos) (tDrop (tBM M.K "list" rAppend (tVar i) (tCons te tNil))) (fApp i f) :=
  ⟨fun G => by rw [← G.K]; exact ps_expr (hpe (pv i hN hv hd hcd) (pa_cons (h.pe G) pa_nil he)) hs, ok_append i h.ok⟩
/-- extend by a list or a tuple that is frozen -/
def rExtS (K : PySem.W.Frag) : V → List V → Hp → VK → Prop := fun x vs H Q => ∃ l b xs zs, x = .ref l ∧ vs = [.ref b] ∧ H l = some (.lst xs) ∧ (H b = some (.lst zs) ∨ SqT K H b zs) ∧ xs.length + zs.length ≤ sizeLine ∧ Q .non (upd H l (.lst (xs ++ zs)))
end
section
/-- the library's extension of a list by a tuple, the tuple of any making -/
theorem extend_tup (l : Addr) (items : Array Value) (n : Nat) (b : Addr) (its2 : Array Value) (n2 : Nat) (dd : Option Addr) (sl : Array (Option Value)) (hs0 : ¬(!items.isEmpty && Builtin.List.listTooLong (items.size + its2.size)) = true) (hs1 : items.size ≤ sizeLine) (hs2 : items.size + its2.size ≤ sizeLine + 1) :
    Meets (Builtin.«list.extend» ⟨[.ref l, .ref b], []⟩) (fun _ R s => s.heap.get? l = some { cls := .type "list", dict := none, data := .seq items n, slots := #[] } ∧ s.heap.get? b = some { cls := .type "tuple", dict := dd, data := .seq its2 n2, slots := sl } ∧
      R (.ok (.ret Value.none)) { s with heap := s.heap.update l (Obj.mapSeq fun x => x ++ its2), toks := s.toks }) :=
  .of_wp fun prog w A R s hyp => by
    obtain ⟨hp, gs, dr, tk, os⟩ := s
    obtain ⟨hl, hb, hyp⟩ := hyp
    have f1 := AutoSeq1.idx_int
    have f2 := AutoSeq1.sub_tuple_tuple
    have f3 := AutoSeq1.sub_list_list
    have f4 := AutoSeq1.sub_tuple_list
    have f5 := AutoSeq1.sub_list_tuple
    have hz' : (items ++ its2).size ≤ sizeLine + 1 := by rw [Array.size_append]; exact hs2
    wp_walk using (wpAny_updateSeq hl rfl (hz := hs1) (_hz' := hz')), AutoSeq1.wpAny_loadPart' hl, AutoSeq1.wpAny_loadPart' hb
    exact ⟨_, rfl, hyp⟩
end
section
variable {M : Me} {k : Nat}
theorem mt_extS {X : Cx} : MtM X "list.extend" (rExtS X.K) := by
  intro pins s σ H x vs v us Q I rx rv h
  obtain ⟨l, b, xs, zs, rfl, rfl, hH, hB, hz, q⟩ := h
  rcases hB with hB | hB
  · exact mt_extend pins s σ H _ _ v us Q I rx rv ⟨l, b, xs, zs, rfl, rfl, hH, hB, hz, q⟩
  · cases rx
    obtain ⟨u, rfl, ru⟩ := rv.one
    cases ru
    obtain ⟨z1, its, n, r, hl, e⟩ := I.lstM hH
    obtain ⟨its2, r2, ⟨⟨c2, d2, dt2, sl2⟩, e2, hc2, n2, hd2⟩, z2⟩ := I.tuple hB
    dsimp only at hc2 hd2
    subst hc2 hd2
    have hl2 := r2.length
    have hsz : its.toArray.size + its2.toArray.size ≤ sizeLine := by simp; omega
    have hlong : ¬ (!its.toArray.isEmpty && Builtin.List.listTooLong (its.toArray.size + its2.toArray.size)) = true := by
      rw [notLongL hsz]; simp
    refine call_meets F.slot_list_extend ⟨_, e, rfl⟩ F.entry_list_extend (F.args_list_extend_2 _ _) (extend_tup l its.toArray n b its2.toArray n2 d2 sl2 hlong (by simp; omega) (by omega)) ⟨e, e2, ?_⟩
    refine ⟨.non, _, I.lset (its' := its ++ its2) hH e (by simp) (r.append r2) ?_, rfl, q⟩
    simp; omega
def fExt (i : Nat) (f : F OV) : F Fl := fun d => if isOL d i = true then (f d).bind fun p => ((fzO p.1).bind seqOf).bind fun ys => putL i ys p.2 else none
theorem ok_extend {te : TE} {f : F OV} (i : Nat) (h : EOk M te f) : SOk M (tDrop (tBM M.K "list" (rExtS M.K) (tVar i) (tCons te tNil))) (fExt i f) := by
  refine ok_lmeth (M := M) (r := rExtS M.K) (G := fun o _ => (fzO o).bind seqOf) i h ?_
  intro Z H s d o ys v a vs xs Q S ro e h1 h2 hz q
  rw [Option.bind_eq_some_iff] at e
  obtain ⟨y, e1, e2⟩ := e
  have p := (ro.fz e1).plain (seq_nd e2).1
  unfold seqOf at e2
  split at e2 <;> cases e2
  · obtain ⟨b, ws, rfl, p1, p2⟩ := p.lst_inv
    exact ⟨a, b, vs, ws, rfl, rfl, h1, .inl (S.fz _ _ p1), by rw [h2.length, p2.length]; exact hz, q ws p2⟩
  · obtain ⟨b, ws, rfl, p1, p2⟩ := p.tup_inv
    exact ⟨a, b, vs, ws, rfl, rfl, h1, .inr (SqT.of (S.fz _ _ p1)), by rw [h2.length, p2.length]; exact hz, q ws p2⟩
theorem ds_extend (i : Nat) {X : Cx} {x : Str} {e : Expr} {te : TE} {f : F OV} {p p2 p3 pos : Pos} (h : DE M k X e te f) (hN : X.N[i]? = some x := by rfl) (hv : Vis X.env.scope x := by first | exact Or.inl rfl | exact Or.inr (Or.inl rfl) | exact Or.inr (Or.inr rfl)) (hd : (x == ("__debug__" : Str)) = false := by decide)
    (hcd : (x == ("__classdict__" : Str)) = false := by decide) (hpe : PE X (.Name x p) (tVar i) → PA X [e] (tCons te tNil) → PE X (.Call (.Attribute (.Name x p) "extend" p2) [e] [] p3) (tBM X.K "list" (rExtS X.K) (tVar i) (tCons te tNil)) := by intro h1 h2; exact pe_bm PySem.F.plainAttrs_list PySem.F.slot_list_extend PySem.F.type_list_extend mt_extS h1 h2)
    (he : starEach [e] X.env = (false, eval e X.env) :: starEach [] X.env := by rfl) (hs : swapsWith (.Call (.Attribute (.Name x p) "extend" p2) [e] [] p3) none pos.line X.env = pure false := by rfl) :
    DS M k X (.Expr (.Call (.Attribute (.Name x p) "extend" p2) [e] [] p3) pos) (tDrop (tBM M.K "list" (rExtS M.K) (tVar i) (tCons te tNil))) (fExt i f) :=
  ⟨fun G => by rw [← G.K]; exact ps_expr (hpe (pv i hN hv hd hcd) (pa_cons (h.pe G) pa_nil he)) hs, ok_extend i h.ok⟩
/-- x.pop() -/
def fPop (i : Nat) : F OV := fun d => match d[i]? with
  | some (some (SV.own (.list xs))) => (xs[xs.length - 1]?).bind fun y => some (.val y, d.set i (some (.own (.list xs.dropLast))))
  | _ => none
theorem PlA.dropLast {Z : Hp} {vs : List V} {xs : List PyData} (q : PlA M Z vs xs) : PlA M Z vs.dropLast xs.dropLast := by
  rw [List.dropLast_eq_take, List.dropLast_eq_take, q.length]
  exact q.take _
theorem ok_pop (i : Nat) : EOk M (tBM0 M.K "list" rPop (tVar i)) (fPop i) := by
  intro Z H s d ov d' Q S e q
  unfold fPop at e
  split at e
  case h_2 => cases e
  rename_i xs hx
  rw [Option.bind_eq_some_iff] at e
  obtain ⟨y, e1, e2⟩ := e
  cases e2
  obtain ⟨a, vs, r1, r2, r3, r4⟩ := S.ownL hx
  obtain ⟨v, e3, e4⟩ := r4.get e1
  rw [← r4.length] at e3
  refine ⟨.ref a, r1, .inl ⟨rfl, vs, SqL.of r3⟩, a, vs, v, rfl, rfl, r3, e3, ?_⟩
  obtain ⟨t2, S2, k2⟩ := S.wr hx r1 r2 (OwnAt.lst upd_same r4.dropLast)
  exact q v Z _ t2 S2 k2 (.val (.pl e4))
theorem de_pop (i : Nat) {X : Cx} {x : Str} {p p2 p3 : Pos} (hN : X.N[i]? = some x := by rfl) (hv : Vis X.env.scope x := by first | exact Or.inl rfl | exact Or.inr (Or.inl rfl) | exact Or.inr (Or.inr rfl)) (hd : (x == ("__debug__" : Str)) = false := by decide)
    (hcd : (x == ("__classdict__" : Str)) = false := by decide) (hpe : PE X (.Name x p) (tVar i) → PE X (.Call (.Attribute (.Name x p) "pop" p2) [] [] p3) (tBM0 X.K "list" rPop (tVar i)) := by intro h1; exact pe_bm0 PySem.F.plainAttrs_list PySem.F.slot_list_pop PySem.F.type_list_pop mt_pop h1) :
    DE M k X (.Call (.Attribute (.Name x p) "pop" p2) [] [] p3) (tBM0 M.K "list" rPop (tVar i)) (fPop i) := ⟨fun G => by rw [← G.K]; exact hpe (pv i hN hv hd hcd), ok_pop i⟩
/-! ### owned displays -/
/-- an expression that makes a new object, to be owned -/
def OOk (M : Me) (t : TE) (f : F PyData) : Prop := ∀ Z H s d x d' Q, Sl M Z H s d → f d = some (x, d') →
  (∀ a Z' H', Step M.T Z H Z' H' (Ows s d) → Sl M Z' H' s d' → SameO d d' → H a = none → Z' a = none → OwnAt M Z' H' a x → ¬ Ows s d' a → Q (.ref a) H') → t s H Q
structure DO (M : Me) (k : Nat) (X : Cx) (e : Expr) (t : TE) (f : F PyData) : Prop where
  pe : Good M k X → PE X e t
  ok : OOk M t f
theorem Sl.notO {Z H : Hp} {s : Sg} {d : SD} {a : Addr} (S : Sl M Z H s d) (h : H a = none) : ¬ Ows s d a := by
  rintro ⟨i, x, e1, e2⟩
  obtain ⟨b, r1, _, r3⟩ := S.own i x e1
  rw [e2] at r1
  cases r1
  obtain ⟨o, r4⟩ := r3.ex
  rw [h] at r4
  cases r4
theorem Sl.noZ {Z H : Hp} {s : Sg} {d : SD} {a : Addr} (S : Sl M Z H s d) (h : H a = none) : Z a = none := by
  cases z : Z a with
  | none => rfl
  | some o => rw [S.fz _ _ z] at h; cases h
/-- a new object as such -/
theorem own_new {Z H Z1 H1 : Hp} {s : Sg} {d d1 : SD} {p : Addr} {o : HO} {x : PyData} {Q : VK} (t1 : Step M.T Z H Z1 H1 (Ows s d)) (S1 : Sl M Z1 H1 s d1) (k1 : SameO d d1) (hp : H1 p = none) (q : OwnAt M Z1 (upd H1 p o) p x)
    (h : ∀ a Z' H', Step M.T Z H Z' H' (Ows s d) → Sl M Z' H' s d1 → SameO d d1 → H a = none → Z' a = none → OwnAt M Z' H' a x → ¬ Ows s d1 a → Q (.ref a) H') : Q (.ref p) (upd H1 p o) := by
  have z := S1.noZ hp
  have n := S1.notO hp
  refine h p Z1 _ (t1.trans (Step.newOwn hp)) (S1.updO z n (no_tab hp)) k1 ?_ z q n
  cases e : H p with
  | none => rfl
  | some u =>
    obtain ⟨o', e'⟩ := t1.he p u e
    rw [hp] at e'; cases e'
def fOLst (f : F (List OV)) : F PyData := fun d => (f d).bind fun p => (plOs p.1).bind fun xs => some (.list xs, p.2)
theorem do_lst {X : Cx} {es : List Expr} {pos : Pos} {t : TA} {f : F (List OV)} (h : DA M k X es t f) (hn : es.length ≤ 1000 := by decide) : DO M k X (.List es pos) (tLst t) (fOLst f) := by
  refine ⟨fun G => pe_lst (h.pa G), ?_⟩
  intro Z H s d x d' Q S e q
  simp only [fOLst, Option.bind_eq_some_iff] at e
  obtain ⟨⟨os, d1⟩, e1, xs, e2, e3⟩ := e
  cases e3
  refine h.ok Z H s d os _ _ S e1 fun vs Z1 H1 t1 S1 k1 r1 => ?_
  have pl := r1.pl e2
  refine ⟨?_, fun p hp => own_new t1 S1 k1 hp (.lst upd_same pl) q⟩
  rw [pl.length, plOs_length e2, h.len _ _ _ e1]; exact Nat.le_of_lt (small1000 hn)
/-- name = a new object -/
def fOwn (i : Nat) (f : F PyData) : F Fl := fun d => (f d).bind fun p => some (.nx, p.2.set i (some (.own p.1)))
theorem Ent.own {Z0 H0 Z H : Hp} {P0 : Addr → Prop} {s : Sg} {d : SD} {a : Addr} {x : PyData} (e : Ent M Z0 H0 P0 Z H s d) (hz : Z a = none) (q : OwnAt M Z H a x) (n : ¬ Ows s d a) (hn : H0 a = none) (i : Nat) (h0 : i ≠ 0) :
    Ent M Z0 H0 P0 Z H (s.set i (some (.ref a))) (d.set i (some (.own x))) := by
  have g : ∀ (j : Nat) y, (d.set i (some (SV.own x)))[j]? = some (some (SV.own y)) → (j = i ∧ y = x) ∨ (j ≠ i ∧ d[j]? = some (some (SV.own y))) := by
    intro j y h
    by_cases c : j = i
    · subst c
      rw [List.getElem?_set] at h
      simp only [if_true] at h
      split at h
      · cases h; exact .inl ⟨rfl, rfl⟩
      · cases h
    · rw [set_ne c] at h; exact .inr ⟨c, h⟩
  have gs : ∀ (y : PyData), (d.set i (some (SV.own x)))[i]? = some (some (SV.own y)) → (s.set i (some (V.ref a)))[i]? = some (some (V.ref a)) := by
    intro y h
    have hl : i < s.length := by
      rw [e.sl.len]
      have := (List.getElem?_eq_some_iff.mp h).1
      simpa using this
    rw [List.getElem?_set]; simp [hl]
  refine ⟨⟨e.sl.fz, e.sl.nt, e.sl.tb, by simp [e.sl.len], fun j y h => ?_, fun j y h => ?_, fun j l y z b h1 h2 h3 h4 => ?_⟩, e.st, fun j y b h h2 => ?_, fun b h => ?_⟩
  · by_cases c : j = i
    · subst c
      rw [List.getElem?_set] at h
      simp only [if_true] at h
      split at h <;> cases h
    · rw [set_ne c] at h ⊢
      exact e.sl.fr j y h
  · rcases g j y h with ⟨rfl, rfl⟩ | ⟨c, h'⟩
    · exact ⟨a, gs _ h, hz, q⟩
    · rw [set_ne c]
      exact e.sl.own j y h'
  · rcases g j y h1 with ⟨rfl, rfl⟩ | ⟨c, h1'⟩
    · rcases g l z h2 with ⟨rfl, rfl⟩ | ⟨c', h2'⟩
      · rfl
      · rw [gs _ h1] at h3
        cases h3
        rw [set_ne c'] at h4
        exact absurd ⟨l, z, h2', h4⟩ n
    · rcases g l z h2 with ⟨rfl, rfl⟩ | ⟨c', h2'⟩
      · rw [gs _ h2] at h4
        cases h4
        rw [set_ne c] at h3
        exact absurd ⟨j, y, h1', h3⟩ n
      · rw [set_ne c] at h3
        rw [set_ne c'] at h4
        exact e.sl.dis j l y z b h1' h2' h3 h4
  · rcases g j y h with ⟨rfl, rfl⟩ | ⟨c, h'⟩
    · rw [gs _ h] at h2
      cases h2
      exact .inl hn
    · rw [set_ne c] at h2
      exact e.nw j y b h' h2
  · rw [set_ne h0.symm, set_ne h0.symm]
    exact e.pt b h
theorem Ent.fresh0 {Z0 H0 Z H : Hp} {P0 : Addr → Prop} {s : Sg} {d : SD} {a : Addr} (e : Ent M Z0 H0 P0 Z H s d) (h : H a = none) : H0 a = none := by
  cases z : H0 a with
  | none => rfl
  | some o =>
    obtain ⟨o', e'⟩ := e.st.he a o z
    rw [h] at e'; cases e'
theorem ds_own (i : Nat) {X : Cx} {x : Str} {e : Expr} {te : TE} {f : F PyData} {pos pos' : Pos} (h : DO M k X e te f) (h0 : i ≠ 0 := by decide) (hi : X.N[i]? = some x := by rfl) (hx : Loc X.env.scope x := by first | exact Or.inl rfl | exact Or.inr rfl)
    (hs : swapsWith e (some (.Name x pos')) pos.line X.env = pure false := by rfl) (hf : X.fn x = true ∨ X.env.scope.names.lookup x = some .local := by first | exact .inl rfl | exact .inr rfl) :
    DS M k X (.Assign [.Name x pos'] e pos) (tAsg te (gName i)) (fOwn i f) := by
  refine ⟨fun G => ps_set G.nd hi hx (h.pe G) hs hf, ?_⟩
  intro Z0 H0 P0 Z H s d fl d' D E r q
  simp only [fOwn, Option.bind_eq_some_iff] at r
  obtain ⟨⟨y, d1⟩, e1, e2⟩ := r
  cases e2
  refine h.ok Z H s d y d1 _ E.sl e1 fun a Z1 H1 t1 S1 k1 hn hz ho no => ?_
  exact q Z1 H1 _ t1.zz ((E.exp t1 S1 k1).own hz ho no (E.fresh0 hn) i h0)
/-- return of a new object, owned by the caller -/
def fRO (f : F PyData) : F Fl := fun d => (f d).bind fun p => some (.ro p.1, p.2)
theorem ds_retN {X : Cx} {e : Expr} {te : TE} {f : F PyData} {pos : Pos} (h : DO M k X e te f) : DS M k X (.Return (some e) pos) (tRet te) (fRO f) := by
  refine ⟨fun G => ps_ret (h.pe G), ?_⟩
  intro Z0 H0 P0 Z H s d fl d' D E r q
  simp only [fRO, Option.bind_eq_some_iff] at r
  obtain ⟨⟨y, d1⟩, e1, e2⟩ := r
  cases e2
  exact h.ok Z H s d y _ _ E.sl e1 fun a Z1 H1 t1 S1 k1 hn hz ho no => q Z1 H1 s a t1.zz (E.exp t1 S1 k1) hz (E.fresh0 hn) ho
/-- a call whose answer the caller owns -/
theorem do_call {X : Cx} {x : Str} {ps : List Str} {n : Nat} {f : List PyData → Option PyData} {e : Expr} {es : List Expr} {p pos : Pos} {t : TA} {fa : F (List OV)} (C : Callee M k x ps (spO M n f)) (ha : DA M k X (e :: es) t fa) (hn : (e :: es).length = n := by rfl) (hg : Gl X x := by rfl)
    (hdb : (x == ("__debug__" : Str)) = false := by decide) (he : starEach (e :: es) X.env = (false, eval e X.env) :: starEach es X.env := by rfl) (hpl : (backTo pos (starEach es X.env)).any (·.1) = false := by rfl) :
    DO M k X (.Call (.Name x p) (e :: es) [] pos) (tCall (spO M n f) [] E0 t) (fun d => (fa d).bind fun p => (fzOs p.1).bind fun xs => (f xs).bind fun z => some (z, p.2)) := by
  refine ⟨fun G => ?_, ?_⟩
  · obtain ⟨fa, fd, F, m, kp, b⟩ := C.ex
    have F' : FnOk X.prog X.w X.K X.mg X.base CX0 k fa fd ps (spO M n f) := by rw [G.prog, G.w, G.K, G.mg, G.base]; exact F
    exact pe_call F' G.room hg (by rw [G.mg]; exact m) (by rw [G.K]; exact kp) (by rw [G.K]; exact b) .nil pass0 (ha.pa G) hdb he hpl
  · intro Z H s d y d' Q S r q
    simp only [Option.bind_eq_some_iff] at r
    obtain ⟨⟨os, d1⟩, e1, xs, e2, z, e3, e4⟩ := r
    cases e4
    refine ha.ok Z H s d os _ _ S e1 fun vs Z1 H1 t1 S1 k1 r1 => ?_
    refine ⟨Z1, xs, _, by rw [List.append_nil, r1.length, ha.len _ _ _ e1, hn], S1.F, by rw [List.append_nil]; exact r1.fz e2, e3, fun a Z' H' t2 f2 hn hz ho => ?_⟩
    have S2 := S1.no t2 f2
    refine q a Z' H' (t1.trans t2.no) S2 k1 ?_ hz ho fun w => ?_
    · cases c : H a with
      | none => rfl
      | some u =>
        obtain ⟨o', e'⟩ := t1.he a u c
        rw [hn] at e'; cases e'
    · obtain ⟨i, x, w1, w2⟩ := w
      obtain ⟨b, c1, _, c3⟩ := S1.own i x w1
      rw [w2] at c1
      cases c1
      obtain ⟨o', c4⟩ := c3.ex
      rw [hn] at c4; cases c4
/-! ### an item of an owned list stored -/
def fSetI (fo : F OV) (fi : F OV) (fv : F OV) : F Fl := fun d => (fv d).bind fun p => (plO p.1).bind fun y => (fo p.2).bind fun q => (fi q.2).bind fun r => match q.1, r.1 with
  | .slot j, .val (.int n) => (match (r.2)[j]? with
    | some (some (SV.own (.list xs))) => (ixN xs.length n).bind fun m => some (.nx, r.2.set j (some (.own (.list (xs.set m y)))))
    | _ => none)
  | _, _ => none
theorem PlA.set {Z : Hp} : ∀ {vs : List V} {xs : List PyData} (m : Nat) {v : V} {y : PyData}, PlA M Z vs xs → Pl M Z v y → PlA M Z (vs.set m v) (xs.set m y)
  | _, [], m, _, _, q, _ => by rw [q.nil_inv]; simp; exact .nil
  | _, x :: xs, m, v, y, q, h => by
    obtain ⟨u, r, rfl, a, b⟩ := q.cons_inv
    cases m with
    | zero => exact .cons h b
    | succ m => exact .cons a (b.set m h)
theorem ds_setI {X : Cx} {o i v : Expr} {pos pos' : Pos} {to ti tv : TE} {fo fi fv : F OV} (ho : DE M k X o to fo) (hi : DE M k X i ti fi) (hv : DE M k X v tv fv)
    (ha : ∀ v, assign (.Subscript o i pos') X.env v = (do
      let ov ← holding [v] (eval o X.env)
      let iv ← holding [v, ov] (eval i X.env)
      standAt pos'
      holding [v, ov, iv] (setItem ov iv v)
      release [v, ov, iv] []) := by intro _; rfl) (hs : swapsWithSole [.Subscript o i pos'] v pos.line X.env = pure false := by rfl) (hw : swappedStores [.Subscript o i pos'] v X.env = pure none := by rfl)
    (h1 : (assignEach [.Subscript o i pos'] X.env).map (·.2) = [assign (.Subscript o i pos') X.env] := by rfl) : DS M k X (.Assign [.Subscript o i pos'] v pos) (tAsg tv (gSub to ti rSetL)) (fSetI fo fi fv) := by
  refine ⟨fun G => ps_asg (hv.pe G) (pg_sub (ho.pe G) (hi.pe G) set_list ha) hs hw h1, ?_⟩
  intro Z0 H0 P0 Z H s d fl d' D E r q
  simp only [fSetI, Option.bind_eq_some_iff] at r
  obtain ⟨⟨ov, d1⟩, e1, y, e2, ⟨oo, d2⟩, e3, ⟨oi, d3⟩, e4, e5⟩ := r
  dsimp only at e5
  split at e5
  case h_2 => cases e5
  rename_i j n
  split at e5
  case h_2 => cases e5
  rename_i xs hx
  rw [Option.bind_eq_some_iff] at e5
  obtain ⟨m, e6, e7⟩ := e5
  cases e7
  refine hv.ok Z H s d _ d1 _ E.sl e1 fun v1 Z1 H1 t1 S1 k1 r1 => ?_
  refine ho.ok Z1 H1 s d1 _ d2 _ S1 e3 fun v2 Z2 H2 t2 S2 k2 r2 => ?_
  refine hi.ok Z2 H2 s d2 _ d3 _ S2 e4 fun v3 Z3 H3 t3 S3 k3 r3 => ?_
  obtain ⟨a, vs, s1, s2, s3, s4⟩ := S3.ownL hx
  cases r2 with
  | slot r2 =>
    rw [s1] at r2
    cases r2
    cases r3 with
    | val r3 =>
      have e3' := (r3.plain fun _ z => by cases z).int_inv
      subst e3'
      have pv1 := (r1.pl e2).mono (t2.zz.trans t3.zz)
      refine ⟨a, vs, n, m, rfl, rfl, s3, by rw [s4.length]; exact e6, ?_⟩
      obtain ⟨t4, S4, k4⟩ := S3.wr hx s1 s2 (OwnAt.lst upd_same (s4.set m pv1))
      exact q Z3 _ s ((t1.zz.trans t2.zz).trans t3.zz) ((((E.exp t1 S1 k1).exp t2 S2 k2).exp t3 S3 k3).exp t4 S4 k4)
end
end DL

set_option maxRecDepth 100000
set_option linter.all false
/-! DL8: dicts whose keys are texts, and dicts whose keys are tuples. -/
namespace DL
open PySem L2
/-! ### lists of pairs as data -/
def valD (kvs : List (PyData × PyData)) (k : PyData) : Option PyData := (kvs.find? fun kv => PyData.eqv kv.1 k).map (·.2)
def putD (kvs : List (PyData × PyData)) (k v : PyData) : List (PyData × PyData) :=
  if (kvs.any fun kv => PyData.eqv kv.1 k) = true then kvs.map (fun kv => if PyData.eqv kv.1 k = true then (kv.1, v) else kv) else kvs ++ [(k, v)]
theorem eqv_str (x y : Str) : PyData.eqv (.str x) (.str y) = decide ((Sum.inr x : Key) = Sum.inr y) := by
  rw [PyData.eqv, key_rr]
  by_cases h : x = y
  · subst h; simp
  · rw [decide_eq_false h]
    exact beq_eq_false_iff_ne.mpr h
theorem paired_map2 {α β γ δ : Type} {F : α → β → Prop} {G : γ → δ → Prop} {f : α → γ} {g : β → δ} {l : List α} {m : List β} (q : Paired F l m) (h : ∀ a b, F a b → G (f a) (g b)) : Paired G (l.map f) (m.map g) := by
  induction q with
  | nil => exact .nil
  | cons r _ ih => exact .cons (h _ _ r) ih
theorem paired_snoc {α β : Type} {F : α → β → Prop} {l : List α} {m : List β} {a : α} {b : β} (q : Paired F l m) (h : F a b) : Paired F (l ++ [a]) (m ++ [b]) := by
  induction q with
  | nil => exact .cons h .nil
  | cons r _ ih => exact .cons r ih
theorem paired_len {α β : Type} {F : α → β → Prop} {l : List α} {m : List β} (q : Paired F l m) : l.length = m.length := by
  induction q with
  | nil => rfl
  | cons _ _ ih => simp [ih]
theorem paired_getR {α β : Type} {F : α → β → Prop} {l : List α} {m : List β} (q : Paired F l m) : ∀ {i : Nat} {b : β}, m[i]? = some b → ∃ a, l[i]? = some a ∧ F a b := by
  induction q with
  | nil => intro i b h; simp at h
  | cons r _ ih =>
    intro i b h
    cases i with
    | zero => simp only [List.getElem?_cons_zero, Option.some.injEq] at h; subst h; exact ⟨_, rfl, r⟩
    | succ i => simp only [List.getElem?_cons_succ] at h ⊢; exact ih h
theorem paired_getL {α β : Type} {F : α → β → Prop} {l : List α} {m : List β} (q : Paired F l m) : ∀ {i : Nat} {a : α}, l[i]? = some a → ∃ b, m[i]? = some b ∧ F a b := by
  induction q with
  | nil => intro i b h; simp at h
  | cons r _ ih =>
    intro i b h
    cases i with
    | zero => simp only [List.getElem?_cons_zero, Option.some.injEq] at h; subst h; exact ⟨_, rfl, r⟩
    | succ i => simp only [List.getElem?_cons_succ] at h ⊢; exact ih h
section
variable {M : Me} {Z : Hp}
theorem SKV.any {ks : List (Key × V)} {kvs : List (PyData × PyData)} (q : SKV M Z ks kvs) (x : Str) : (ks.any fun kv => decide (kv.1 = Sum.inr x)) = kvs.any fun kv => PyData.eqv kv.1 (.str x) := by
  induction q with
  | nil => rfl
  | cons r _ ih =>
    obtain ⟨y, e1, e2, _⟩ := r
    rw [List.any_cons, List.any_cons, ih, e1, e2, eqv_str]
theorem valD_cons (p : PyData × PyData) (r : List (PyData × PyData)) (k : PyData) : valD (p :: r) k = if PyData.eqv p.1 k = true then some p.2 else valD r k := by
  simp only [valD, List.find?_cons]
  cases PyData.eqv p.1 k <;> rfl
theorem SKV.val {ks : List (Key × V)} {kvs : List (PyData × PyData)} (q : SKV M Z ks kvs) (x : Str) : (valV ks (Sum.inr x) = none ∧ valD kvs (.str x) = none) ∨ ∃ v d, valV ks (Sum.inr x) = some v ∧ valD kvs (.str x) = some d ∧ Pl M Z v d := by
  induction q with
  | nil => exact .inl ⟨rfl, rfl⟩
  | cons r _ ih =>
    obtain ⟨y, e1, e2, _, p⟩ := r
    rw [valD_cons, e2, eqv_str]
    by_cases c : (Sum.inr y : Key) = Sum.inr x
    · refine .inr ⟨_, _, valV_pos (e1.trans c), ?_, p⟩
      rw [if_pos (decide_eq_true c)]
    · rw [valV_neg (by rw [e1]; exact c), if_neg (by simpa using c)]
      exact ih
theorem SKV.put {ks : List (Key × V)} {kvs : List (PyData × PyData)} (q : SKV M Z ks kvs) {x : Str} (hx : PyData.strOk x = true) {v : V} {d : PyData} (p : Pl M Z v d) : SKV M Z (putK ks (Sum.inr x) v) (putD kvs (.str x) d) := by
  unfold putK putD
  rw [q.any x]
  split
  · refine paired_map2 q fun a b r => ?_
    obtain ⟨z, r1, r2, r3, r4⟩ := r
    rw [r2, eqv_str]
    by_cases c : (Sum.inr z : Key) = Sum.inr x
    · rw [if_pos (r1.trans c), if_pos (decide_eq_true c)]
      exact ⟨z, r1, rfl, r3, p⟩
    · rw [if_neg (by rw [r1]; exact c), if_neg (by simpa using c)]
      exact ⟨z, r1, r2, r3, r4⟩
  · exact paired_snoc q ⟨x, rfl, rfl, hx, p⟩
end
/-! ### keys that are tuples -/
mutual
theorem nk_eqv : ∀ a b : PyData, isKey a = true → isKey b = true → PyData.eqv a b = NestedKey.beq (nk a) (nk b)
  | .str x, .str y, _, _ => by
    rw [PyData.eqv, nk, nk, NestedKey.beq]
    by_cases h : x = y
    · subst h; simp
    · rw [decide_eq_false h]; exact beq_eq_false_iff_ne.mpr h
  | .tuple xs, .tuple ys, h, h' => by
    rw [PyData.eqv, nk, nk, NestedKey.beq]
    exact nks_eqv xs ys (by simpa [isKey] using h) (by simpa [isKey] using h')
  | .str _, .tuple _, _, _ => by rw [PyData.eqv, nk, nk, NestedKey.beq]
  | .tuple _, .str _, _, _ => by rw [PyData.eqv, nk, nk, NestedKey.beq]
  | .none, _, h, _ => by simp [isKey] at h
  | .int _, _, h, _ => by simp [isKey] at h
  | .bool _, _, h, _ => by simp [isKey] at h
  | .list _, _, h, _ => by simp [isKey] at h
  | .dict _, _, h, _ => by simp [isKey] at h
  | .str _, .none, _, h => by simp [isKey] at h
  | .str _, .int _, _, h => by simp [isKey] at h
  | .str _, .bool _, _, h => by simp [isKey] at h
  | .str _, .list _, _, h => by simp [isKey] at h
  | .str _, .dict _, _, h => by simp [isKey] at h
  | .tuple _, .none, _, h => by simp [isKey] at h
  | .tuple _, .int _, _, h => by simp [isKey] at h
  | .tuple _, .bool _, _, h => by simp [isKey] at h
  | .tuple _, .list _, _, h => by simp [isKey] at h
  | .tuple _, .dict _, _, h => by simp [isKey] at h
theorem nks_eqv : ∀ a b : List PyData, areKeys a = true → areKeys b = true → PyData.eqvAll a b = NestedKey.beqAll (nks a) (nks b)
  | [], [], _, _ => by rw [PyData.eqvAll, nks, NestedKey.beqAll]
  | [], _ :: _, _, _ => by rw [PyData.eqvAll, nks, nks, NestedKey.beqAll]
  | _ :: _, [], _, _ => by rw [PyData.eqvAll, nks, nks, NestedKey.beqAll]
  | x :: xs, y :: ys, h, h' => by
    simp only [areKeys, Bool.and_eq_true] at h h'
    rw [PyData.eqvAll, nks, nks, NestedKey.beqAll, nk_eqv x y h.1 h'.1, nks_eqv xs ys h.2 h'.2]
end
mutual
theorem nk_depth : ∀ a : PyData, isKey a = true → (nk a).depth = a.depth
  | .str x, _ => by rw [nk, NestedKey.depth, PyData.depth]
  | .tuple xs, h => by rw [nk, NestedKey.depth, PyData.depth, nks_depth xs (by simpa [isKey] using h)]
  | .none, h => by simp [isKey] at h
  | .int _, h => by simp [isKey] at h
  | .bool _, h => by simp [isKey] at h
  | .list _, h => by simp [isKey] at h
  | .dict _, h => by simp [isKey] at h
theorem nks_depth : ∀ a : List PyData, areKeys a = true → NestedKey.depthAll (nks a) = PyData.depthAll a
  | [], _ => by rw [nks, NestedKey.depthAll, PyData.depthAll]
  | x :: xs, h => by
    simp only [areKeys, Bool.and_eq_true] at h
    rw [nks, NestedKey.depthAll, PyData.depthAll, nk_depth x h.1, nks_depth xs h.2]
end
mutual
theorem nk_is {P : Program} {w : World} {Z H : Hp} {h : Heap} (f : Le Z H) (ok : HOk P w H h) : ∀ (d : PyData) (v : V) (u : Value), isKey d = true → Pd Z v d → RelV v u → NestedIs h (nk d) u
  | .str x, _, _, _, q, r => by
    cases q
    obtain ⟨t, rfl⟩ := r
    rw [nk]; exact .text x t
  | .tuple ds, _, _, k, q, r => by
    cases q with
    | tup s a =>
      cases r
      obtain ⟨_, its, rv, ⟨o, ho, hc, n, hd⟩⟩ := ok _ _ (f _ _ s)
      rw [nk]
      exact .tup ho hc hd (nks_is f ok ds _ _ (by simpa [isKey] using k) a (by simpa using rv))
  | .none, _, _, h, _, _ => by simp [isKey] at h
  | .int _, _, _, h, _, _ => by simp [isKey] at h
  | .bool _, _, _, h, _, _ => by simp [isKey] at h
  | .list _, _, _, h, _, _ => by simp [isKey] at h
  | .dict _, _, _, h, _, _ => by simp [isKey] at h
theorem nks_is {P : Program} {w : World} {Z H : Hp} {h : Heap} (f : Le Z H) (ok : HOk P w H h) : ∀ (ds : List PyData) (vs : List V) (us : List Value), areKeys ds = true → PdAll Z vs ds → Vals vs us → NestedAll h (nks ds) us
  | [], _, _, _, q, r => by
    cases q
    cases r
    rw [nks]; exact .nil
  | d :: ds, _, _, k, q, r => by
    simp only [areKeys, Bool.and_eq_true] at k
    cases q with
    | cons q1 q2 =>
      cases r with
      | cons r1 r2 =>
        rw [nks]
        exact .cons (nk_is f ok d _ _ k.1 q1 r1) (nks_is f ok ds _ _ k.2 q2 r2)
end
theorem tupKey_key {d : PyData} (h : tupKey d = true) : isKey d = true ∧ (nk d).depth ≤ 8 := by
  unfold tupKey at h
  split at h
  · rename_i ds
    simp only [Bool.and_eq_true, decide_eq_true_eq] at h
    have k : isKey (.tuple ds) = true := by simpa [isKey] using h.1
    refine ⟨k, ?_⟩
    rw [nk_depth _ k, PyData.depth]
    omega
  · cases h
section
variable {M : Me} {Z H : Hp} {h : Heap}
/-- the library's table of a dict's entries -/
def XRel (M : Me) (Z : Hp) (x : NestedKey × Addr × Value) (kv : PyData × PyData) : Prop :=
  x.1 = nk kv.1 ∧ Pl M Z (.ref x.2.1) kv.1 ∧ tupKey kv.1 = true ∧ ∃ v, RelV v x.2.2 ∧ (Pl M Z v kv.2 ∨ SDc M Z v kv.2)
theorem tobj_ents : ∀ {es : List DictEntry} {kvs : List (PyData × PyData)}, Paired (TEnt M Z) es kvs → ∃ xs : List (NestedKey × Addr × Value), es = xs.map (entryOfKey (nestedKind M.P M.w)) ∧ Paired (XRel M Z) xs kvs
  | _, _, .nil => ⟨[], rfl, .nil⟩
  | e :: es, kv :: kvs, .cons r t => by
    obtain ⟨xs, e1, e2⟩ := tobj_ents t
    obtain ⟨b, v, r1, r2, r3, r4, r5, r6⟩ := r
    refine ⟨(nk kv.1, b, e.val) :: xs, ?_, .cons ⟨rfl, r3, r4, v, r5, r6⟩ e2⟩
    rw [List.map_cons, ← e1]
    congr 1
    obtain ⟨eh, ek, ev⟩ := e
    dsimp only at r1 r2
    subst r1 r2
    rfl
theorem xrel_keys {xs : List (NestedKey × Addr × Value)} {kvs : List (PyData × PyData)} (q : Paired (XRel M Z) xs kvs) : xs.map (·.1) = kvs.map fun kv => nk kv.1 := by
  induction q with
  | nil => rfl
  | cons r _ ih => rw [List.map_cons, List.map_cons, ih, r.1]
theorem tobj_H {a : Addr} {o : Obj} {kvs : List (PyData × PyData)} (f : Le Z H) (ok : HOk M.P M.w H h) (e : h.get? a = some o) (q : TObj M Z o kvs) : ∃ xs, h.DictOfH (nestedKind M.P M.w) a xs ∧ Paired (XRel M Z) xs kvs := by
  obtain ⟨ex, es, ep, hd, pr, nd, hl⟩ := q
  obtain ⟨xs, e1, e2⟩ := tobj_ents pr
  refine ⟨xs, ⟨o, es, ep, e, ex, hd, e1, fun x hx => ?_, by rw [xrel_keys e2]; exact nd⟩, e2⟩
  obtain ⟨i, hi⟩ := List.mem_iff_getElem?.mp hx
  obtain ⟨kv, _, r1, r2, r3, _⟩ := paired_getL e2 hi
  obtain ⟨k1, k2⟩ := tupKey_key r3
  rw [r1]
  exact ⟨nk_is f ok kv.1 _ _ k1 r2.1 rfl, k2⟩
theorem xrel_at {xs : List (NestedKey × Addr × Value)} {kvs : List (PyData × PyData)} (q : Paired (XRel M Z) xs kvs) {k : PyData} (hk : tupKey k = true) :
    (atKey xs (nk k) = none ∧ valD kvs k = none) ∨ ∃ p v d, atKey xs (nk k) = some p ∧ valD kvs k = some d ∧ RelV v p.2 ∧ (Pl M Z v d ∨ SDc M Z v d) := by
  induction q with
  | nil => exact .inl ⟨rfl, rfl⟩
  | @cons x kv xs kvs r _ ih =>
    obtain ⟨r1, r2, r3, v, r4, r5⟩ := r
    have ek : PyData.eqv kv.1 k = decide (x.1 = nk k) := by
      rw [r1, NestedKey.decide_eq, nk_eqv _ _ (tupKey_key r3).1 (tupKey_key hk).1]
    rw [valD_cons, ek]
    by_cases c : x.1 = nk k
    · refine .inr ⟨x.2, v, kv.2, ?_, ?_, r4, r5⟩
      · simp [atKey, List.find?_cons, c]
      · rw [if_pos (decide_eq_true c)]
    · rw [if_neg (by simpa using c)]
      have : atKey (x :: xs) (nk k) = atKey xs (nk k) := by simp [atKey, List.find?_cons, c]
      rw [this]
      exact ih
theorem xrel_any {xs : List (NestedKey × Addr × Value)} {kvs : List (PyData × PyData)} (q : Paired (XRel M Z) xs kvs) {k : PyData} (hk : tupKey k = true) : (atKey xs (nk k)).isSome = kvs.any fun kv => PyData.eqv kv.1 k := by
  induction q with
  | nil => rfl
  | @cons x kv xs kvs r _ ih =>
    obtain ⟨r1, r2, r3, v, r4, r5⟩ := r
    have ek : PyData.eqv kv.1 k = decide (x.1 = nk k) := by
      rw [r1, NestedKey.decide_eq, nk_eqv _ _ (tupKey_key r3).1 (tupKey_key hk).1]
    rw [List.any_cons, ek]
    by_cases c : x.1 = nk k
    · simp [atKey, List.find?_cons, c]
    · have : atKey (x :: xs) (nk k) = atKey xs (nk k) := by simp [atKey, List.find?_cons, c]
      rw [this, ih]
      simp [c]
theorem xrel_put {xs : List (NestedKey × Addr × Value)} {kvs : List (PyData × PyData)} (q : Paired (XRel M Z) xs kvs) {k d : PyData} {b : Addr} {v : V} {u : Value} (hk : tupKey k = true) (pk : Pl M Z (.ref b) k) (r : RelV v u) (pv : Pl M Z v d ∨ SDc M Z v d) :
    Paired (XRel M Z) (storedH xs (nk k) b u) (putD kvs k d) := by
  unfold storedH putD
  rw [xrel_any q hk]
  split
  · refine paired_map2 q fun x kv rr => ?_
    obtain ⟨r1, r2, r3, v', r4, r5⟩ := rr
    have ek : PyData.eqv kv.1 k = decide (x.1 = nk k) := by
      rw [r1, NestedKey.decide_eq, nk_eqv _ _ (tupKey_key r3).1 (tupKey_key hk).1]
    rw [ek, putAt]
    by_cases c : x.1 = nk k
    · rw [if_pos c, if_pos (decide_eq_true c)]
      exact ⟨r1, r2, r3, v, r, pv⟩
    · rw [if_neg c, if_neg (by simpa using c)]
      exact ⟨r1, r2, r3, v', r4, r5⟩
  · exact paired_snoc q ⟨rfl, pk, hk, v, r, pv⟩
theorem tobj_of {a : Addr} {xs : List (NestedKey × Addr × Value)} {kvs : List (PyData × PyData)} (q : h.DictOfH (nestedKind M.P M.w) a xs) (r : Paired (XRel M Z) xs kvs) (hl : kvs.length ≤ sizeLine) : ∃ o, h.get? a = some o ∧ TObj M Z o kvs := by
  obtain ⟨o, es, ep, h1, h2, h3, h4, h5, h6⟩ := q
  refine ⟨o, h1, h2, es, ep, h3, ?_, by rw [← xrel_keys r]; exact h6, hl⟩
  rw [h4]
  clear h4 h5 h6 h1
  induction r with
  | nil => exact .nil
  | @cons x kv xs kvs rr _ ih =>
    obtain ⟨r1, r2, r3, v, r4, r5⟩ := rr
    refine .cons ⟨x.2.1, v, rfl, ?_, r2, r3, r4, r5⟩ (ih (by simp at hl; omega))
    show x.1.hash M.w = _
    rw [r1]
theorem putD_len (kvs : List (PyData × PyData)) (k d : PyData) : (putD kvs k d).length ≤ kvs.length + 1 := by
  unfold putD
  split <;> simp
end
end DL

set_option maxRecDepth 100000
set_option linter.all false
/-! DL9: the rules of dicts over slots of data. -/
namespace DL
open PySem L2
/-! ### a datum that is a dict -/
def textK (kvs : List (PyData × PyData)) : Bool := kvs.all fun kv => match kv.1 with
  | .str _ => true
  | _ => false
section
variable {M : Me} {k : Nat} {Z H : Hp} {v : V}
theorem RD.sdict {kvs : List (PyData × PyData)} (q : RD M Z H v (.dict kvs)) (f : Le Z H) (ht : textK kvs = true) : ∃ a ks, v = .ref a ∧ H a = some (.dK ks) ∧ SKV M Z ks kvs := by
  rcases q with q | ⟨a, rfl, _, q⟩
  · have gen : ∀ x, FD M Z v x → x = .dict kvs → ∃ a ks, v = .ref a ∧ H a = some (.dK ks) ∧ SKV M Z ks kvs := by
      intro x q e
      cases q with
      | pl q => subst e; obtain ⟨q, _⟩ := q; cases q
      | ds q =>
        obtain ⟨a, ks, kvs', e1, e2, e3, e4⟩ := q
        rw [e2] at e; cases e
        exact ⟨a, ks, e1, f _ _ e3, e4⟩
      | dt _ _ =>
        cases e
        simp [textK] at ht
      | li _ _ _ _ =>
        cases e
        simp [textK] at ht
      | sc _ =>
        cases e
        simp [textK] at ht
    exact gen _ q rfl
  · have gen : ∀ x, OwnAt M Z H a x → x = .dict kvs → ∃ b ks, V.ref a = .ref b ∧ H b = some (.dK ks) ∧ SKV M Z ks kvs := by
      intro x q e
      cases q with
      | lst _ _ => cases e
      | ds h1 h2 => cases e; exact ⟨a, _, rfl, h1, h2⟩
      | dt _ _ =>
        cases e
        simp [textK] at ht
    exact gen _ q rfl
theorem RD.tdict {kvs : List (PyData × PyData)} (q : RD M Z H v (tdic kvs)) (f : Le Z H) : ∃ a o, v = .ref a ∧ H a = some (exD a o) ∧ TObj M Z o kvs ∧ (Z a = some (exD a o) ∨ Z a = none) := by
  rcases q with q | ⟨a, rfl, hz, q⟩
  · have gen : ∀ x, FD M Z v x → x = tdic kvs → ∃ a o, v = .ref a ∧ H a = some (exD a o) ∧ TObj M Z o kvs ∧ (Z a = some (exD a o) ∨ Z a = none) := by
      intro x q e
      cases q with
      | pl q => subst e; obtain ⟨q, _⟩ := q; cases q
      | ds q =>
        obtain ⟨a, ks, kvs', e1, e2, e3, e4⟩ := q
        rw [e2] at e; cases e
        cases e4 with
        | cons r _ => obtain ⟨x, _, z, _⟩ := r; cases z
      | dt h1 h2 =>
        simp only [tdic, PyData.dict.injEq, List.cons.injEq, true_and] at e
        subst e
        exact ⟨_, _, rfl, f _ _ h1, h2, .inl h1⟩
      | li _ _ _ _ => simp [tdic, lis] at e
      | sc _ => simp [tdic, scr] at e
    exact gen _ q rfl
  · have gen : ∀ x, OwnAt M Z H a x → x = tdic kvs → ∃ o, H a = some (exD a o) ∧ TObj M Z o kvs := by
      intro x q e
      cases q with
      | lst _ _ => cases e
      | ds h1 h2 =>
        cases e
        cases h2 with
        | cons r _ => obtain ⟨x, _, z, _⟩ := r; cases z
      | dt h1 h2 =>
        simp only [tdic, PyData.dict.injEq, List.cons.injEq, true_and] at e
        subst e
        exact ⟨_, h1, h2⟩
    obtain ⟨o, h1, h2⟩ := gen _ q rfl
    exact ⟨a, o, rfl, h1, h2, .inr hz⟩
theorem exD_get {P : Program} {w : World} {h : Heap} {a : Addr} {o : Obj} (ok : HOk P w H h) (e : H a = some (exD a o)) : h.get? a = some o ∧ (a == sysModules) = false := by
  have q := ok a _ e
  exact q.1
theorem exD_ok {P : Program} {w : World} {h : Heap} {a : Addr} {o : Obj} (e : h.get? a = some o) (n : (a == sysModules) = false) : ObjOk P w H h a (exD a o) :=
  ⟨⟨e, n⟩, ⟨o, e⟩, fun _ _ q k => ⟨k _ q.1, q.2⟩⟩
/-- the object at a told otherwise -/
theorem redesc {X : Cx} {pins : List (Addr × Obj)} {σ : L2.St} {s : Shared} {a : Addr} {o : HO} (I : Inv X pins σ H s) (m : Mut (H a)) (new : ObjOk X.prog X.w (upd H a o) s.heap a o) : Inv X pins σ (upd H a o) s := by
  have hs : ∃ u, s.heap.get? a = some u := by
    cases e : H a with
    | none => rw [e] at m; exact m.elim
    | some u =>
      have lt := (I.hok a u e)
      rw [e] at m
      cases u with
      | lst xs => obtain ⟨_, _, _, _, q⟩ := lt; exact ⟨_, q⟩
      | dK ks => obtain ⟨_, _, _, _, o, _, _, q, _⟩ := lt; exact ⟨o, q⟩
      | dT ks => obtain ⟨_, _, _, _, o, _, _, q, _⟩ := lt; exact ⟨o, q⟩
      | set _ _ => obtain ⟨o, _, _, _, q, _⟩ := lt; exact ⟨o, q⟩
      | ins _ _ _ => obtain ⟨_, _, _, q, _⟩ := lt; exact ⟨_, q⟩
      | ext _ => exact lt.2.1
      | tup _ => exact m.elim
      | own _ => exact m.elim
      | xd _ => exact m.elim
      | met _ _ => exact m.elim
      | rng _ _ => exact m.elim
      | frz _ _ => exact m.elim
      | tbl _ => exact m.elim
  exact I.write (t' := s.toks) m (.inl rfl) (fun _ _ _ q => q) hs new
/-! ### {} -/
def fONewS : F PyData := fun d => some (.dict [], d)
def fONewT : F PyData := fun d => some (tdic [], d)
theorem do_newS {X : Cx} {pos : Pos} : DO M k X (.Dict [] [] pos) tDNewK fONewS := by
  refine ⟨fun _ => pe_dnewK, ?_⟩
  intro Z H s d x d' Q S e q
  cases e
  exact fun p hp => own_new Step.refl S (SameO.refl _) hp (.ds upd_same .nil) q
/-- {} whose keys will be tuples -/
def tDNewX (M : Me) : TE := fun _ H Q => ∀ p o, H p = none → TObj M (fun _ => none) o [] → Q (.ref p) (upd H p (exD p o))
theorem pe_dnewX {X : Cx} {pos : Pos} : PE X (.Dict [] [] pos) (tDNewX M) := by
  refine ⟨fun pins s σ H Q I h => ?_⟩
  refine thn ((pe_dnewK (X := X) (pos := pos)).run pins s σ H (fun v H' => ∃ p, H p = none ∧ v = .ref p ∧ H' = upd H p (.dK [])) I fun p hp => ⟨p, hp, rfl, rfl⟩) fun u s1 end1 => ?_
  obtain ⟨v, H', I1, r1, p, hp, rfl, rfl⟩ := end1
  obtain ⟨_, hs, vs, kv, o, es, ep, g1, g2, g3, _, g5, _⟩ := I1.hok p _ upd_same
  have ees : es = #[] := by
    cases kv
    cases hes : es.toList with
    | nil => exact Array.toList_eq_nil_iff.mp hes
    | cons a b => rw [hes] at g5; cases g5
  subst ees
  have I2 := redesc (o := exD p o) I1 (by rw [upd_same]; trivial) (exD_ok g1 hs)
  rw [upd_upd] at I2
  exact ⟨.ref p, _, I2, r1, h p o hp ⟨g2, #[], ep, g3, .nil, .nil, Nat.zero_le _⟩⟩
theorem do_newT {X : Cx} {pos : Pos} : DO M k X (.Dict [] [] pos) (tDNewX M) fONewT := by
  refine ⟨fun _ => pe_dnewX, ?_⟩
  intro Z H s d x d' Q S e q
  cases e
  exact fun p o hp t => own_new Step.refl S (SameO.refl _) hp (.dt upd_same (t.mono fun _ _ z => by cases z)) q
/-! ### key in dict -/
def fInS (s : Bool) (fy fd : F OV) : F OV := fun d => (fy d).bind fun p => (fd p.2).bind fun q => match fzO p.1, rdO q.1 q.2 with
  | some (.str x), some (.dict kvs) => if textK kvs = true then some (.val (.bool (if s = true then (valD kvs (.str x)).isSome else !(valD kvs (.str x)).isSome)), q.2) else none
  | _, _ => none
theorem fInS_inv {s : Bool} {fy fd : F OV} {d d' : SD} {ov : OV} (e : fInS s fy fd d = some (ov, d')) :
    ∃ o1 d1 o2 x kvs, fy d = some (o1, d1) ∧ fd d1 = some (o2, d') ∧ fzO o1 = some (.str x) ∧ rdO o2 d' = some (.dict kvs) ∧ textK kvs = true ∧ ov = .val (.bool (if s = true then (valD kvs (.str x)).isSome else !(valD kvs (.str x)).isSome)) := by
  simp only [fInS, Option.bind_eq_some_iff] at e
  obtain ⟨⟨o1, d1⟩, e1, ⟨o2, d2⟩, e2, e3⟩ := e
  dsimp only at e3
  split at e3
  · split at e3
    · rename_i x kvs h1 h2 h3
      cases e3
      exact ⟨o1, d1, o2, x, kvs, e1, e2, h1, h2, h3, rfl⟩
    · cases e3
  · cases e3
theorem ok_inS {ty td : TE} {fy fd : F OV} (hy : EOk M ty fy) (hd : EOk M td fd) : EOk M (tDIn ty td) (fInS true fy fd) ∧ EOk M (tDNotIn ty td) (fInS false fy fd) := by
  have core : ∀ (b : Bool) Z H s d ov d' Q, Sl M Z H s d → fInS b fy fd d = some (ov, d') → Ret M Z H s d ov d' Q → ty s H fun y H1 => td s H1 fun x H2 => ∃ a o, x = .ref a ∧ DGet H2 a y o ∧ Q (.bl (if b = true then o.isSome else !o.isSome)) H2 := by
    intro b Z H s d ov d' Q S e q
    obtain ⟨o1, d1, o2, x, kvs, e1, e2, e3, e4, e5, rfl⟩ := fInS_inv e
    refine hy Z H s d o1 d1 _ S e1 fun y Z1 H1 t1 S1 k1 r1 => ?_
    refine hd Z1 H1 s d1 o2 d' _ S1 e2 fun w Z2 H2 t2 S2 k2 r2 => ?_
    obtain ⟨rfl, _⟩ := ((r1.fz e3).plain fun _ z => by cases z).str_inv
    obtain ⟨a, ks, rfl, h1, h2⟩ := (r2.rd S2 e4).sdict S2.fz e5
    refine ⟨a, valV ks (Sum.inr x), rfl, DGet.k (k := Sum.inr x) h1, ?_⟩
    have hv : (valV ks (Sum.inr x)).isSome = (valD kvs (.str x)).isSome := by
      rcases h2.val x with ⟨z1, z2⟩ | ⟨u, w, z1, z2, _⟩
      · rw [z1, z2]; rfl
      · rw [z1, z2]; rfl
    rw [hv]
    exact q _ Z2 H2 (two t1 k1 t2) S2 (k1.trans k2) (.val (.pl Pl.bl))
  exact ⟨fun Z H s d ov d' Q S e q => core true Z H s d ov d' Q S e q, fun Z H s d ov d' Q S e q => core false Z H s d ov d' Q S e q⟩
theorem de_inS {X : Cx} {a b : Expr} {pos : Pos} {ty td : TE} {fy fd : F OV} (hy : DE M k X a ty fy) (hd : DE M k X b td fd) (hm : behindInMarks .In b = false := by with_unfolding_all rfl) : DE M k X (.Compare a [.In] [b] pos) (tDIn ty td) (fInS true fy fd) :=
  ⟨fun G => pe_cmp (pc_din (hu_of G.room) (hy.pe G) (hd.pe G)) hm, (ok_inS hy.ok hd.ok).1⟩
theorem dt_inS {X : Cx} {a b : Expr} {pos : Pos} {ty td : TE} {fy fd : F OV} (hy : DE M k X a ty fy) (hd : DE M k X b td fd) (hm : behindInMarks .In b = false := by with_unfolding_all rfl) : DT M k X (.Compare a [.In] [b] pos) (tB (tDIn ty td)) (fB (fInS true fy fd)) :=
  ⟨fun G => pt_cmp (pc_din (hu_of G.room) (hy.pe G) (hd.pe G)) hm, ok_test (ok_inS hy.ok hd.ok).1⟩
theorem dt_notInS {X : Cx} {a b : Expr} {pos : Pos} {ty td : TE} {fy fd : F OV} (hy : DE M k X a ty fy) (hd : DE M k X b td fd) (hm : behindInMarks .NotIn b = false := by with_unfolding_all rfl) : DT M k X (.Compare a [.NotIn] [b] pos) (tB (tDNotIn ty td)) (fB (fInS false fy fd)) :=
  ⟨fun G => pt_cmp (pc_dnotin (hu_of G.room) (hy.pe G) (hd.pe G)) hm, ok_test (ok_inS hy.ok hd.ok).2⟩
/-- a tuple in a dict whose keys are tuples -/
def rInT (M : Me) : R2 := fun x y H Q => ∃ Z b a o kvs key, Le Z H ∧ x = .ref b ∧ y = .ref a ∧ H a = some (exD a o) ∧ TObj M Z o kvs ∧ Pl M Z (.ref b) key ∧ tupKey key = true ∧ Q (.bl (valD kvs key).isSome) H
def gInT (a b : PyData) : Option PyData := match b with
  | .dict ((.int 0, .none) :: kvs) => if tupKey a = true then some (.bool (valD kvs a).isSome) else none
  | _ => none
theorem tup_ref {key : PyData} (h : tupKey key = true) : ∃ ds, key = .tuple ds := by
  unfold tupKey at h
  split at h
  · exact ⟨_, rfl⟩
  · cases h
theorem nest_room {X : Cx} (G : Good M k X) : (nestedKind X.prog X.w).room X.A := by
  show X.A.units + 8 < cLine
  have := G.room.units; omega
theorem nest_room1 {X : Cx} (G : Good M k X) : (nestedKind X.prog X.w).room X.A.in1 := by
  show X.A.in1.units + 8 < cLine
  have := G.room.units
  have e : X.A.in1.units = X.A.units + 1 := rfl
  omega
theorem o_inT : OpD M k (compareOp .In) (rInT M) gInT := by
  refine ⟨fun X G => ?_, ?_⟩
  · intro pins s σ H x y v u Q I rx ry h
    obtain ⟨Z, b, a, o, kvs, key, f, rfl, rfl, h1, h2, h3, h4, q⟩ := h
    cases rx
    cases ry
    have ok := I.hok
    rw [G.prog, G.w] at ok
    obtain ⟨g1, g2⟩ := exD_get ok h1
    obtain ⟨xs, e1, e2⟩ := tobj_H f ok g1 h2
    obtain ⟨k1, k2⟩ := tupKey_key h4
    have key_is : (nestedKind M.P M.w).is s.heap (nk key) b := ⟨nk_is f ok key _ _ k1 h3.1 rfl, k2⟩
    have hu := nest_room1 G
    rw [G.prog, G.w] at hu ⊢
    refine wpAny_in_heap hu key_is g2 e1 ?_
    refine ⟨.bl _, H, I.tok _, rfl, ?_⟩
    rw [xrel_any e2 h4]
    have : (valD kvs key).isSome = kvs.any fun kv => PyData.eqv kv.1 key := by
      rw [← xrel_any e2 h4]
      rcases xrel_at e2 h4 with ⟨z1, z2⟩ | ⟨p, w, d, z1, z2, _⟩
      · rw [z1, z2]; rfl
      · rw [z1, z2]; rfl
    rw [← this]
    exact q
  · intro Z H x y a b z Q f hx hy e q
    unfold gInT at e
    split at e
    · split at e
      · rename_i kvs ht
        cases e
        obtain ⟨ad, o, rfl, h1, h2, _⟩ := RD.tdict (kvs := kvs) hy f
        obtain ⟨ds, rfl⟩ := tup_ref ht
        obtain ⟨b, xs, rfl, h3, h4⟩ := hx.tup
        exact ⟨Z, b, ad, o, kvs, _, f, rfl, rfl, h1, h2, Pl.tup h3 h4, ht, q _ Z H Step.refl f (.pl Pl.bl)⟩
      · cases e
    · cases e
/-! ### dict[key] -/
def fGetS (fd fy : F OV) : F OV := fun d => (fd d).bind fun p => (fy p.2).bind fun q => match rdO p.1 q.2, fzO q.1 with
  | some (.dict kvs), some (.str x) => if textK kvs = true then (valD kvs (.str x)).bind fun z => some (.val z, q.2) else none
  | _, _ => none
theorem de_getS {X : Cx} {a b : Expr} {pos : Pos} {td ty : TE} {fd fy : F OV} (hd : DE M k X a td fd) (hy : DE M k X b ty fy) (hs : NoSl b := by exact fun _ _ => rfl) : DE M k X (.Subscript a b pos) (tDGet td ty) (fGetS fd fy) := by
  refine ⟨fun G => pe_dget (hu_of G.room) (hd.pe G) (hy.pe G) hs, ?_⟩
  intro Z H s d ov d' Q S e q
  simp only [fGetS, Option.bind_eq_some_iff] at e
  obtain ⟨⟨o1, d1⟩, e1, ⟨o2, d2⟩, e2, e3⟩ := e
  dsimp only at e3
  split at e3
  case h_2 => cases e3
  rename_i kvs x h1 h2
  split at e3
  case isFalse => cases e3
  rename_i ht
  rw [Option.bind_eq_some_iff] at e3
  obtain ⟨z, e4, e5⟩ := e3
  cases e5
  refine hd.ok Z H s d o1 d1 _ S e1 fun w Z1 H1 t1 S1 k1 r1 => ?_
  refine hy.ok Z1 H1 s d1 o2 _ _ S1 e2 fun y Z2 H2 t2 S2 k2 r2 => ?_
  obtain ⟨rfl, _⟩ := ((r2.fz h2).plain fun _ z => by cases z).str_inv
  obtain ⟨a, ks, rfl, g1, g2⟩ := ((r1.mono t2.zz).rd S2 h1).sdict S2.fz ht
  rcases g2.val x with ⟨_, z2⟩ | ⟨u, w, z1, z2, z3⟩
  · rw [e4] at z2; cases z2
  · rw [e4] at z2
    cases z2
    exact ⟨a, u, rfl, by have := DGet.k (k := Sum.inr x) g1; rw [z1] at this; exact this, q u Z2 H2 (two t1 k1 t2) S2 (k1.trans k2) (.val (.pl z3))⟩
/-- .. whose keys are tuples -/
def tGetT (M : Me) (td ty : TE) : TE := fun σ H Q => td σ H fun x H1 => ty σ H1 fun y H2 => ∃ Z b a o kvs key d, Le Z H2 ∧ y = .ref b ∧ x = .ref a ∧ H2 a = some (exD a o) ∧ TObj M Z o kvs ∧ Pl M Z (.ref b) key ∧ tupKey key = true ∧ valD kvs key = some d ∧ ∀ v, Pl M Z v d ∨ SDc M Z v d → Q v H2
theorem pe_getT {X : Cx} {a b : Expr} {pos : Pos} {td ty : TE} (G : Good M k X) (hd : PE X a td) (hy : PE X b ty) (hs : NoSl b) : PE X (.Subscript a b pos) (tGetT M td ty) := by
  refine ⟨fun pins s σ H Q I h => ?_⟩
  refine subD_of PySem.F.slot_dict_getitem.lookup hs (thn (hd.run pins s σ H _ I h) fun u s1 end1 => ?_)
  obtain ⟨x, H1, I1, rx, q1⟩ := end1
  refine thn (hy.run pins s1 σ H1 _ I1 q1) fun iv s2 end2 => ?_
  obtain ⟨y, H2, I2, ry, Z, c, a, o, kvs, key, d, f, rfl, rfl, h1, h2, h3, h4, h5, q⟩ := end2
  cases rx
  cases ry
  have ok := I2.hok
  rw [G.prog, G.w] at ok
  obtain ⟨g1, g2⟩ := exD_get ok h1
  obtain ⟨xs, e1, e2⟩ := tobj_H f ok g1 h2
  obtain ⟨k1, k2⟩ := tupKey_key h4
  have key_is : (nestedKind M.P M.w).is s2.heap (nk key) c := ⟨nk_is f ok key _ _ k1 h3.1 rfl, k2⟩
  refine ⟨e1.typeIs, ?_⟩
  rcases xrel_at e2 h4 with ⟨_, z2⟩ | ⟨p, w, d', z1, z2, z3, z4⟩
  · rw [h5] at z2; cases z2
  · rw [h5] at z2
    cases z2
    have hu := nest_room1 G
    rw [G.prog, G.w] at hu ⊢
    exact wpAny_getItem_heap hu key_is e1 z1 ⟨w, H2, I2.tok _, z3, q w z4⟩
def fGetT (fd fy : F OV) : F OV := fun d => (fd d).bind fun p => (fy p.2).bind fun q => match rdO p.1 q.2, fzO q.1 with
  | some (.dict ((.int 0, .none) :: kvs)), some x => if tupKey x = true then (valD kvs x).bind fun z => some (.val z, q.2) else none
  | _, _ => none
theorem de_getT {X : Cx} {a b : Expr} {pos : Pos} {td ty : TE} {fd fy : F OV} (hd : DE M k X a td fd) (hy : DE M k X b ty fy) (hs : NoSl b := by exact fun _ _ => rfl) : DE M k X (.Subscript a b pos) (tGetT M td ty) (fGetT fd fy) := by
  refine ⟨fun G => pe_getT G (hd.pe G) (hy.pe G) hs, ?_⟩
  intro Z H s d ov d' Q S e q
  simp only [fGetT, Option.bind_eq_some_iff] at e
  obtain ⟨⟨o1, d1⟩, e1, ⟨o2, d2⟩, e2, e3⟩ := e
  dsimp only at e3
  split at e3
  case h_2 => cases e3
  rename_i kvs x h1 h2
  split at e3
  case isFalse => cases e3
  rename_i ht
  rw [Option.bind_eq_some_iff] at e3
  obtain ⟨z, e4, e5⟩ := e3
  cases e5
  refine hd.ok Z H s d o1 d1 _ S e1 fun w Z1 H1 t1 S1 k1 r1 => ?_
  refine hy.ok Z1 H1 s d1 o2 _ _ S1 e2 fun y Z2 H2 t2 S2 k2 r2 => ?_
  obtain ⟨ad, o, rfl, g1, g2, _⟩ := RD.tdict (kvs := kvs) ((r1.mono t2.zz).rd S2 h1) S2.fz
  obtain ⟨ds, rfl⟩ := tup_ref ht
  obtain ⟨b, xs, rfl, g3, g4⟩ := ((r2.fz h2).plain fun _ z => by cases z).tup_inv
  refine ⟨Z2, b, ad, o, kvs, _, z, S2.fz, rfl, rfl, g1, g2, Pl.tup g3 g4, ht, e4, fun v hv => ?_⟩
  refine q v Z2 H2 (two t1 k1 t2) S2 (k1.trans k2) (.val ?_)
  rcases hv with hv | hv
  · exact .pl hv
  · exact .ds hv
/-! ### dict[key] = value -/
def isOS (d : SD) (i : Nat) : Option (List (PyData × PyData)) := match d[i]? with
  | some (some (SV.own (.dict kvs))) => if textK kvs = true ∧ kvs.length < sizeLine then some kvs else none
  | _ => none
theorem Sl.ownS {s : Sg} {d : SD} {i : Nat} {kvs : List (PyData × PyData)} (S : Sl M Z H s d) (h : isOS d i = some kvs) : d[i]? = some (some (SV.own (.dict kvs))) ∧ kvs.length < sizeLine ∧ ∃ a ks, s[i]? = some (some (V.ref a)) ∧ Z a = none ∧ H a = some (.dK ks) ∧ SKV M Z ks kvs := by
  unfold isOS at h
  split at h
  · rename_i kvs' e
    split at h
    · rename_i ht
      cases h
      obtain ⟨a, e1, e2, e3⟩ := S.own i _ e
      obtain ⟨b, ks, r1, r2, r3⟩ := RD.sdict (v := .ref a) (.inr ⟨a, rfl, e2, e3⟩) S.fz ht.1
      cases r1
      exact ⟨e, ht.2, a, ks, e1, e2, r2, r3⟩
    · cases h
  · cases h
def fPutS (i : Nat) (fy fv : F OV) : F Fl := fun d => (fv d).bind fun p => (plO p.1).bind fun w => (isOS p.2 i).bind fun _ => (fy p.2).bind fun q => match fzO q.1 with
  | some (.str x) => (isOS q.2 i).bind fun kvs => some (.nx, q.2.set i (some (.own (.dict (putD kvs (.str x) w)))))
  | _ => none
theorem ds_putS (i : Nat) {X : Cx} {x : Str} {ey ev : Expr} {p pos' pos : Pos} {ty tv : TE} {fy fv : F OV} (hy : DE M k X ey ty fy) (hv : DE M k X ev tv fv) (hN : X.N[i]? = some x := by rfl) (hvx : Vis X.env.scope x := by first | exact Or.inl rfl | exact Or.inr (Or.inl rfl) | exact Or.inr (Or.inr rfl)) (hd : (x == ("__debug__" : Str)) = false := by decide)
    (hcd : (x == ("__classdict__" : Str)) = false := by decide) (hs : swapsWith ev (some (.Subscript (.Name x p) ey pos')) pos.line X.env = pure false := by rfl) : DS M k X (.Assign [.Subscript (.Name x p) ey pos'] ev pos) (sDPut (tVar i) ty tv) (fPutS i fy fv) := by
  refine ⟨fun G => ps_dput (hu_of G.room) (pv i hN hvx hd hcd) (hy.pe G) (hv.pe G) hs, ?_⟩
  intro Z0 H0 P0 Z H s d fl d' D E r q
  simp only [fPutS, Option.bind_eq_some_iff] at r
  obtain ⟨⟨o1, d1⟩, e1, w, e2, kv0, e0, ⟨o2, d2⟩, e3, e4⟩ := r
  dsimp only at e4
  split at e4
  case h_2 => cases e4
  rename_i z hz
  rw [Option.bind_eq_some_iff] at e4
  obtain ⟨kvs, e5, e6⟩ := e4
  cases e6
  refine hv.ok Z H s d o1 d1 _ E.sl e1 fun v Z1 H1 t1 S1 k1 r1 => ?_
  obtain ⟨_, _, a, _, ha, _⟩ := S1.ownS e0
  refine ⟨.ref a, ha, ?_⟩
  refine hy.ok Z1 H1 s d1 o2 d2 _ S1 e3 fun y Z2 H2 t2 S2 k2 r2 => ?_
  obtain ⟨hi, hl, a', ks, g1, g2, g3, g4⟩ := S2.ownS e5
  rw [ha] at g1
  cases g1
  obtain ⟨rfl, hok⟩ := ((r2.fz hz).plain fun _ z => by cases z).str_inv
  have pw := (r1.pl e2).mono t2.zz
  refine ⟨a, _, rfl, DPut.k (k := Sum.inr z) g3 (by rw [paired_len g4]; exact hl), ?_⟩
  obtain ⟨t3, S3, k3⟩ := S2.wr hi ha g2 (OwnAt.ds upd_same (g4.put hok pw))
  exact q Z2 _ s (t1.zz.trans t2.zz) (((E.exp t1 S1 k1).exp t2 S2 k2).exp t3 S3 k3)
end
end DL

set_option maxRecDepth 100000
set_option linter.all false
/-! DL10: sorting of texts, of tuples of texts, of tuples that begin with different texts. -/
namespace DL
open PySem L2 PySem.W PySem.SeqAt PyProof.Rows
/-! ### orders -/
def isTx (d : PyData) : Bool := match d with
  | .str _ => true
  | _ => false
/-- a tuple of texts -/
def isPa (d : PyData) : Bool := match d with
  | .tuple xs => xs.all isTx
  | _ => false
/-- a tuple that begins with a text -/
def isHd (d : PyData) : Bool := match d with
  | .tuple (.str _ :: _) => true
  | _ => false
def cmpD (a b : PyData) : Bool := alike a b || (match a, b with
  | .tuple (.str f :: _), .tuple (.str g :: _) => !decide (f = g)
  | _, _ => false)
def cmpAll (ds : List PyData) : Bool := ds.all fun a => ds.all fun b => cmpD a b
/-- what can be sorted -/
def srtOk (ds : List PyData) : Bool := decide (ds.length ≤ sizeLine) && ((ds.all isTx) || (ds.all isPa) || (ds.all isHd && cmpAll ds && ds.all fun d => decide (d.depth ≤ 60)))
theorem alike_txs : ∀ {xs ys : List PyData}, xs.all isTx = true → ys.all isTx = true → alikeAll xs ys = true
  | [], _, _, _ => by simp [alikeAll]
  | _ :: _, [], _, _ => by simp [alikeAll]
  | x :: xs, y :: ys, h, h' => by
    simp only [List.all_cons, Bool.and_eq_true] at h h'
    rw [alikeAll, alike_txs h.2 h'.2, Bool.and_true]
    cases x <;> simp [isTx] at h
    cases y <;> simp [isTx] at h'
    rfl
theorem depth_txs : ∀ {xs : List PyData}, xs.all isTx = true → PyData.depthAll xs ≤ 1
  | [], _ => by simp [PyData.depthAll]
  | x :: xs, h => by
    simp only [List.all_cons, Bool.and_eq_true] at h
    have := depth_txs h.2
    rw [PyData.depthAll]
    cases x <;> simp [isTx] at h
    simp [PyData.depth]; omega
theorem pa_alike {a b : PyData} (h : isPa a = true) (h' : isPa b = true) : alike a b = true := by
  unfold isPa at h h'
  split at h <;> try cases h
  split at h' <;> try cases h'
  rw [alike]; exact alike_txs h h'
theorem pa_depth {a : PyData} (h : isPa a = true) : a.depth ≤ 2 := by
  unfold isPa at h
  split at h <;> try cases h
  rw [PyData.depth]
  have := depth_txs h
  omega
theorem tx_alike {a b : PyData} (h : isTx a = true) (h' : isTx b = true) : alike a b = true := by
  cases a <;> simp [isTx] at h
  cases b <;> simp [isTx] at h'
  rfl
section
variable {prog : Program} {w : World} {A : Around} {E : Value → Shared → Prop} {s : Shared}
/-! ### the kind of keys of data of which two differ before they are unlike -/
theorem cmp_unique {h : Heap} {d d' : PyData} {v : Value} {as as' : List Addr} (c : cmpD d d' = true) (r : Reads h v d as) (r' : Reads h v d' as') : d = d' := by
  unfold cmpD at c
  rw [Bool.or_eq_true] at c
  rcases c with c | c
  · exact alike_unique d d' v as as' c r r'
  · split at c
    · rename_i f xs g ys
      cases r with
      | tuple h1 h2 h3 h4 =>
        cases r' with
        | tuple k1 k2 k3 k4 =>
          rw [h1] at k1; cases k1
          rw [h3] at k3; cases k3
          generalize hz : Array.toList _ = l at h4
          rw [hz] at k4
          cases h4 with
          | cons a b =>
            cases k4 with
            | cons a' b' =>
              cases a; cases a'
              simp at c
    · cases c
theorem kind_some {h : Heap} {ds : List PyData} (hal : ∀ d, d ∈ ds → ∀ d', d' ∈ ds → cmpD d d' = true) {v : Value} {d : PyData} {as : List Addr} (hd : d ∈ ds) (r : Reads h v d as) : (dataKind h ds).keyOf v = some (keyToks d) := by
  have q : ∃ d, d ∈ ds ∧ ∃ as, Reads h v d as := ⟨d, hd, as, r⟩
  obtain ⟨h1, as', h2⟩ := q.choose_spec
  have e := cmp_unique (hal _ h1 _ hd) h2 r
  refine (dif_pos q).trans ?_
  exact congrArg (fun z => some (keyToks z)) e
/-! ### the kinds of sorting -/
theorem lookT {M : Model} {h : Heap} {a : Addr} {o : Obj} (ho : h.get? a = some o) (hc : o.cls = .type "tuple") : Looks M h (typeOf (.ref a)) (.type "tuple") := hc ▸ (Looks.ld ho).andThen .now
/-- the first items of the tuples vs (none: an empty tuple) -/
inductive Firsts (h : Heap) : List Value → List (Option Value) → Prop
  | nil : Firsts h [] []
  | cons {a : Addr} {o : Obj} {xs : Array Value} {n : Nat} {vs : List Value} {fs : List (Option Value)} : h.get? a = some o → o.cls = .type "tuple" → o.data = .seq xs n → Firsts h vs fs → Firsts h (.ref a :: vs) (xs[0]? :: fs)
theorem firsts_mapM {M : Model} {A : Around} {E : Value → Shared → Prop} {s : Shared} : ∀ {vs : List Value} {fs : List (Option Value)} {Q : List (Option Value) → Shared → Prop}, Firsts s.heap vs fs → Q fs s → wpAny M A (vs.mapM firstOfTuple') Q E s
  | _, _, _, .nil, h => by rw [List.mapM_nil]; exact wpAny_pure h
  | _, _, Q, .cons (xs := xs) ho hc hd t, h => by
    rw [List.mapM_cons]
    refine wpAny_bind ?_
    rw [kas_first_eq]
    refine wpAny_bind (Looks.here (show Looks M s.heap (typeOf (.ref _)) _ from (Looks.ld ho).andThen .now) ?_)
    rw [hc, if_neg (by first | decide | simp)]
    refine wpAny_bind (listItems_at ho hd (wpAny_pure ?_))
    exact wpAny_bind (firsts_mapM (Q := fun bs s' => wpAny M A (pure (_ :: bs)) Q E s') t (wpAny_pure h))
theorem firsts_types {M : Model} {A : Around} {E : Value → Shared → Prop} {s : Shared} : ∀ {vs : List Value} {fs : List (Option Value)} {Q : List Value → Shared → Prop}, Firsts s.heap vs fs → Q (vs.map fun _ => .type "tuple") s → wpAny M A (vs.mapM typeOf) Q E s
  | _, _, _, .nil, h => by rw [List.mapM_nil]; exact wpAny_pure h
  | _, _, Q, .cons (xs := xs) ho hc hd t, h => by
    rw [List.mapM_cons]
    exact wpAny_bind ((lookT ho hc).here (wpAny_bind (firsts_types (Q := fun bs s' => wpAny M A (pure (_ :: bs)) Q E s') t (wpAny_pure h))))
/-- not all with a first item -/
theorem kind_mixed {vs : List Value} {fs : List (Option Value)} (t : Firsts s.heap vs fs) (h2 : 2 ≤ vs.length) (hn : none ∈ fs) : ∃ kd, (kd = oneType' ∨ kd = general') ∧ ∀ (E : Value → Shared → Prop) {Q : SortKind → Shared → Prop}, Q kd s → wpAny (model prog w) A (keyKind' vs.toArray) Q E s := by
  have hall : (fs.toArray.all fun x => x.isSome) = false := by
    rw [Bool.eq_false_iff]
    intro z
    rw [List.all_toArray, List.all_eq_true] at z
    exact absurd (z _ hn) (by simp)
  cases t with
  | nil => simp at h2
  | @cons a o xs n vs fs ho hc hd t =>
    cases c : xs[0]? with
    | none =>
      refine ⟨oneType', .inl rfl, fun E Q q => ?_⟩
      rw [kat_kind_eq, List.mapM_toArray, map_eq_pure_bind]
      refine wpAny_bind (wpAny_bind (firsts_mapM (.cons ho hc hd t) (wpAny_pure ?_)))
      rw [c] at hall ⊢
      rw [if_neg (by rw [hall]; simp), if_neg (by simp)]
      rw [oneTypeOnly'_eq, List.mapM_toArray, map_eq_pure_bind]
      refine wpAny_bind (wpAny_bind (wpAny_bind (firsts_types (.cons ho hc hd t) (wpAny_pure ?_))))
      have e1 : ((List.map (fun _ => Value.type "tuple") (Value.ref a :: vs)).toArray.all fun x => x == .type "tuple") = true := by
        simp only [List.all_toArray, List.all_map, List.all_eq_true]
        intro _ _
        rfl
      have e0 : (List.map (fun _ => Value.type "tuple") (Value.ref a :: vs)).toArray[0]? = some (.type "tuple") := by simp
      rw [e0]
      simp only [e1, if_true]
      exact wpAny_pure (wpAny_pure q)
    | some y =>
      refine ⟨general', .inr rfl, fun E Q q => ?_⟩
      rw [kat_kind_eq, List.mapM_toArray, map_eq_pure_bind]
      refine wpAny_bind (wpAny_bind (firsts_mapM (.cons ho hc hd t) (wpAny_pure ?_)))
      rw [c] at hall ⊢
      rw [if_neg (by rw [hall]; simp), if_pos (by simp)]
      exact wpAny_pure q
/-- tuple's own < as sorting calls it -/
theorem one_tuples {f : Bool} {x y : List PyData} {a b : Value} {as bs : List Addr} {Q : Bool → Shared → Prop} (ra : Reads s.heap a (.tuple x) as) (rb : Reads s.heap b (.tuple y) bs) (h : alike (.tuple x) (.tuple y) = true)
    (hu : A.units + min (PyData.tuple x).depth (PyData.tuple y).depth < cLine) (hq : Q (dataLt (.tuple x) (.tuple y)) s) : wpAny (model prog w) A (oneLt' f a b) Q E s := by
  cases f with
  | false =>
    rw [oneLt'_eq]
    simp only [Bool.false_eq_true, if_false]
    exact wpAny_bind (rcLt_alike _ _ A s a b as bs ra rb h (fun z => by cases z) hu prog w E _ (wpAny_truthy_bool hq))
  | true =>
    have hal : alikeAll x y = true := by simpa [alike] using h
    cases ra with
    | @tuple l o vs n _ as₁ h1 h2 h3 h4 =>
      cases rb with
      | @tuple l' o' vs' n' _ bs₁ k1 k2 k3 k4 =>
        have n1 : vs.size = x.length := by simpa using ReadsAll.length _ _ _ h4
        have n2 : vs'.size = y.length := by simpa using ReadsAll.length _ _ _ k4
        rw [dataLt_tuple, ← firstLt_toks x y hal, ← n1, ← n2] at hq
        rw [oneLt'_eq]
        simp only [if_true]
        refine wpAny_bind (wpAny_cRoomFor (room_here hu) ?_)
        obtain ⟨cls, dd, data, sl⟩ := o
        obtain ⟨cls2, dd2, data2, sl2⟩ := o'
        simp only at h2 h3 k2 k3
        subst h2 h3 k2 k3
        refine wpAny_bind (wpAny_callSpecialIfBound?_slot (T := "tuple") ⟨_, h1, rfl⟩ PySem.F.slot_tuple_lt (call_meets PySem.F.slot_tuple_lt ⟨_, h1, rfl⟩ PySem.F.entry_tuple_lt (PySem.F.args_tuple_lt_2 _ _) (tuple_ltAt l l' vs vs' n n' dd dd2 sl sl2 (pairEq x y) (fun j => dataLt (x.getD j .none) (y.getD j .none))) ⟨h1, k1, fun j j1 j2 => ?_, fun j j1 j2 hj => ?_, ?_⟩))
        · have := eqAt_alikeAll x y A.in1 s vs.toList vs'.toList _ _ h4 k4 hal (room_in hu) j (by simpa using j1) (by simpa using j2)
          simpa using this
        · have := rcLt_alikeAll x y A.in1 s vs.toList vs'.toList _ _ h4 k4 hal (room_in hu) j (by simpa using j1) (by simpa using j2) hj
          simpa using this
        · exact wpAny_truthy_bool hq
/-! ### what can be sorted -/
theorem firsts_pa {h : Heap} : ∀ {vs : List Value} {ds : List PyData}, EachIs (fun v d => ∃ as, Reads h v d as) vs ds → ds.all isPa = true → ∃ fs, Firsts h vs fs ∧ (.tuple [] ∈ ds → none ∈ fs)
  | _, _, .nil, _ => ⟨[], .nil, fun z => by cases z⟩
  | _, _, .cons (b := d) ⟨as, r⟩ t, k => by
    simp only [List.all_cons, Bool.and_eq_true] at k
    obtain ⟨fs, f1, f2⟩ := firsts_pa t k.2
    have k1 := k.1
    unfold isPa at k1
    split at k1 <;> try cases k1
    cases r with
    | @tuple _ _ vs' n _ _ h1 h2 h3 h4 =>
      refine ⟨_, .cons h1 h2 h3 f1, fun z => ?_⟩
      rcases List.mem_cons.mp z with z | z
      · cases z
        generalize hz : vs'.toList = l at h4
        cases h4
        have : vs' = #[] := Array.toList_eq_nil_iff.mp hz
        subst this
        exact List.mem_cons_self ..
      · exact List.mem_cons_of_mem _ (f2 z)
theorem katTups_hd {h : Heap} : ∀ {vs : List Value} {ds : List PyData}, EachIs (fun v d => ∃ as, Reads h v d as) vs ds → ds.all isHd = true → ∃ fs, KatTups h vs fs ∧ fs.length = vs.length ∧ ∀ f, f ∈ fs → ∃ x t, f = .str x t
  | _, _, .nil, _ => ⟨[], KatTups.nil, rfl, fun f hf => absurd hf (by simp)⟩
  | _, _, .cons (b := d) ⟨as, r⟩ t, k => by
    simp only [List.all_cons, Bool.and_eq_true] at k
    obtain ⟨fs, h1, h2, h3⟩ := katTups_hd t k.2
    have k1 := k.1
    unfold isHd at k1
    split at k1 <;> try cases k1
    cases r with
    | @tuple a o xs n _ _ ho hc hd hr =>
      cases q : xs.toList with
      | nil =>
        rw [q] at hr
        cases hr
      | cons f fr =>
        rw [q] at hr
        cases hr with
        | cons r1 r2 =>
          have hf : xs[0]? = some f := by rw [← Array.getElem?_toList, q]; rfl
          refine ⟨f :: fs, KatTups.cons ho hc hd hf h1, by rw [List.length_cons, List.length_cons, h2], fun g hg => ?_⟩
          rcases List.mem_cons.mp hg with rfl | hg
          · cases r1; exact ⟨_, _, rfl⟩
          · exact h3 g hg
theorem dataLt_hd {f g : PySem.Str} {xs ys : List PyData} (h : f ≠ g) : dataLt (.tuple (.str f :: xs)) (.tuple (.str g :: ys)) = decide (f.cps.toList < g.cps.toList) := by
  rw [dataLt_tuple, dataLt_all_no (show alike (.str f) (.str g) = true from rfl), dataLt_str]
  rw [eqv_str]
  exact decide_eq_false fun z => h (Sum.inr.inj z)
/-- one tuple of two that begin with texts against the other -/
theorem hd_lt {x y : List PyData} {a b : Value} {as bs : List Addr} {Q : Bool → Shared → Prop} (ra : Reads s.heap a (.tuple x) as) (rb : Reads s.heap b (.tuple y) bs) (hx : isHd (.tuple x) = true) (hy : isHd (.tuple y) = true) (h : cmpD (.tuple x) (.tuple y) = true)
    (hu : A.units + min (PyData.tuple x).depth (PyData.tuple y).depth < cLine) (hq : Q (dataLt (.tuple x) (.tuple y)) s) : wpAny (model prog w) A (keyLt' (tuples' true) a b) Q E s := by
  cases ra with
  | @tuple l o vs n _ as₁ h1 h2 h3 h4 =>
    cases rb with
    | @tuple l' o' vs' n' _ bs₁ k1 k2 k3 k4 =>
      have n1 : vs.size = x.length := by simpa using ReadsAll.length _ _ _ h4
      have n2 : vs'.size = y.length := by simpa using ReadsAll.length _ _ _ k4
      refine kat_lt h1 h3 k1 k3 ?_
      unfold cmpD at h
      rw [Bool.or_eq_true] at h
      rcases h with h | h
      · rw [dataLt_tuple] at hq
        refine katLex_alike x y 0 _ _ _ _ h4 k4 (by simpa [alike] using h) (by have q := SeqAt.room_in hu; omega) (fun _ _ z r t e => ?_) (by rw [n1, n2]) hq
        subst e
        intro e2
        subst e2
        simp [isHd] at hx
      · split at h
        · rename_i f xs g ys e1 e2
          cases e1; cases e2
          have hfg : f ≠ g := by simpa using h
          rw [dataLt_hd hfg] at hq
          generalize vs.toList = l1 at h4 ⊢
          generalize vs'.toList = l2 at k4 ⊢
          cases h4 with
          | cons a1 a2 =>
            cases k4 with
            | cons b1 b2 =>
              cases a1; cases b1
              rw [List.zip_cons_cons]
              refine kat_cons (EqAt.str_str _ _ _ _ prog w _ _ ?_)
              have e : (f == g) = false := beq_eq_false_iff_ne.mpr hfg
              rw [e]
              exact kat_no (oneLt_str hq)
        · cases h
theorem sorts_of {vs : List Value} {ds : List PyData} (e : EachIs (fun v d => ∃ as, Reads s.heap v d as) vs ds) (h : srtOk ds = true) (hu : A.units + 62 < cLine) :
    SortsAt prog w A s (dataKind s.heap ds) vs ∧ (∀ d, d ∈ ds → ∀ d', d' ∈ ds → cmpD d d' = true) := by
  unfold srtOk at h
  simp only [Bool.and_eq_true, Bool.or_eq_true] at h
  rcases h.2 with (h | h) | h
  · have al : AllAlike ds := fun d hd d' hd' => tx_alike (List.all_eq_true.mp h d hd) (List.all_eq_true.mp h d' hd')
    refine ⟨SortsAt.data e al (.inr fun d hd => ?_) fun d hd => ?_, fun d hd d' hd' => by unfold cmpD; rw [al d hd d' hd']; rfl⟩
    · have := List.all_eq_true.mp h d hd
      cases d <;> simp [isTx] at this
      exact ⟨(fun z => by cases z), fun _ z => by cases z⟩
    · have := List.all_eq_true.mp h d hd
      cases d <;> simp [isTx] at this
      simp [PyData.depth]; omega
  · have al : AllAlike ds := fun d hd d' hd' => pa_alike (List.all_eq_true.mp h d hd) (List.all_eq_true.mp h d' hd')
    refine ⟨?_, fun d hd d' hd' => by unfold cmpD; rw [al d hd d' hd']; rfl⟩
    by_cases c : PyData.tuple [] ∈ ds
    · refine ⟨fun v hv => ?_, ?_⟩
      · obtain ⟨d, hd, as, r⟩ := e.left v hv
        exact ⟨_, dataKind_some al hd r⟩
      · obtain ⟨fs, f1, f2⟩ := firsts_pa e h
        have lt : ∀ f (E : Value → Shared → Prop) (x y : Value) (a b : (dataKind s.heap ds).α) {Q : Bool → Shared → Prop}, (dataKind s.heap ds).keyOf x = some a → (dataKind s.heap ds).keyOf y = some b → Q ((dataKind s.heap ds).blt a b) s → wpAny (model prog w) A (oneLt' f x y) Q E s := by
          intro f E x y a b Q ha hb hq
          obtain ⟨d, as, hd, ra, rfl⟩ := dataKind_inv ha
          obtain ⟨d', as', hd', rb, rfl⟩ := dataKind_inv hb
          have p1 := List.all_eq_true.mp h d hd
          have p2 := List.all_eq_true.mp h d' hd'
          have q1 := pa_depth p1
          have hal := al d hd d' hd'
          unfold isPa at p1 p2
          split at p1
          case h_2 => cases p1
          rename_i xs
          split at p2
          case h_2 => cases p2
          rename_i ys
          exact one_tuples ra rb hal (by have := Nat.min_le_left (PyData.tuple xs).depth (PyData.tuple ys).depth; omega) hq
        by_cases h2 : 2 ≤ vs.length
        · obtain ⟨kd, c1, c2⟩ := kind_mixed (prog := prog) (w := w) (A := A) f1 h2 (f2 c)
          refine ⟨kd, ?_, fun _ => c2⟩
          rcases c1 with rfl | rfl
          · exact lt true
          · exact lt false
        · exact ⟨general', lt false, fun z => absurd z h2⟩
    · refine SortsAt.data e al (.inl fun d hd => ?_) fun d hd => ?_
      · have p1 := List.all_eq_true.mp h d hd
        unfold isPa at p1
        split at p1 <;> try cases p1
        rename_i xs
        cases xs with
        | nil => exact absurd hd c
        | cons x r => exact ⟨x, r, rfl⟩
      · have := pa_depth (List.all_eq_true.mp h d hd)
        omega
  · obtain ⟨⟨h3, h4⟩, h5⟩ := h
    have al : ∀ d, d ∈ ds → ∀ d', d' ∈ ds → cmpD d d' = true := fun d hd d' hd' => List.all_eq_true.mp (List.all_eq_true.mp h4 d hd) d' hd'
    refine ⟨⟨fun v hv => ?_, ?_⟩, al⟩
    · obtain ⟨d, hd, as, r⟩ := e.left v hv
      exact ⟨_, kind_some al hd r⟩
    · refine ⟨tuples' true, ?_, fun h2 E Q hq => ?_⟩
      · intro E x y a b Q ha hb hq
        obtain ⟨d, as, hd, ra, rfl⟩ := dataKind_inv ha
        obtain ⟨d', as', hd', rb, rfl⟩ := dataKind_inv hb
        have p1 := List.all_eq_true.mp h3 d hd
        have p2 := List.all_eq_true.mp h3 d' hd'
        have q1 : d.depth ≤ 60 := by simpa using List.all_eq_true.mp h5 d hd
        have hc := al d hd d' hd'
        have e1 : ∃ xs, d = .tuple xs := by
          unfold isHd at p1
          split at p1
          · exact ⟨_, rfl⟩
          · cases p1
        have e2 : ∃ xs, d' = .tuple xs := by
          unfold isHd at p2
          split at p2
          · exact ⟨_, rfl⟩
          · cases p2
        obtain ⟨xs, rfl⟩ := e1
        obtain ⟨ys, rfl⟩ := e2
        exact hd_lt ra rb p1 p2 hc (by have := Nat.min_le_left (PyData.tuple xs).depth (PyData.tuple ys).depth; omega) hq
      · obtain ⟨fs, t1, t2, t3⟩ := katTups_hd e h3
        refine kat_kind (T := .type "str") t1 (by omega) (fun f hm => ?_) (by rfl) ?_
        · obtain ⟨x, t, rfl⟩ := t3 f hm
          exact Looks.now
        · have e : (Value.type "str" != Value.type "tuple") = true := by first | decide +kernel | rfl | decide
          rw [e]
          exact hq
end
end DL

set_option maxRecDepth 100000
set_option linter.all false
/-! DL11: sorted over slots of data. -/
namespace DL
open PySem L2 PySem.W PySem.SeqAt PyProof.Rows
section
variable {M : Me} {k : Nat}
/-- a value that is plain data -/
def IsV (M : Me) (Z : Hp) (u : Value) (d : PyData) : Prop := ∃ x, RelV x u ∧ Pl M Z x d
theorem each_vals {Z : Hp} {us : List Value} {ds : List PyData} (e : EachIs (IsV M Z) us ds) : ∃ vs, Vals vs us ∧ PlA M Z vs ds := by
  induction e with
  | nil => exact ⟨[], .nil, .nil⟩
  | cons r _ ih =>
    obtain ⟨x, r1, r2⟩ := r
    obtain ⟨vs, r3, r4⟩ := ih
    exact ⟨x :: vs, .cons r1 r3, .cons r2 r4⟩
theorem vals_each {Z : Hp} {vs : List V} {us : List Value} (r : Vals vs us) : ∀ {ds : List PyData}, PlA M Z vs ds → EachIs (IsV M Z) us ds := by
  induction r with
  | nil => 
    intro ds q
    cases ds with
    | nil => exact .nil
    | cons d ds => obtain ⟨_, _, z, _⟩ := q.cons_inv; cases z
  | cons a _ ih =>
    intro ds q
    cases ds with
    | nil => have := q.nil_inv; cases this
    | cons d ds =>
      obtain ⟨v, r, e, h1, h2⟩ := q.cons_inv
      cases e
      exact .cons ⟨_, a, h1⟩ (ih h2)
theorem each_reads {X : Cx} {pins : List (Addr × Obj)} {σ : L2.St} {Z H : Hp} {s : Shared} (I : Inv X pins σ H s) (K : X.K = M.K) (f : Le Z H) {us : List Value} {ds : List PyData} (e : EachIs (IsV M Z) us ds) : EachIs (fun u d => ∃ as, Reads s.heap u d as) us ds :=
  e.mono fun u d ⟨x, r1, r2⟩ => Dp.reads I d x u (by rw [K]; exact r2.dp f) r1
def sortD (ds : List PyData) : List PyData := ds.mergeSort (dataLe false id)
theorem each_map_id {α β : Type} {R : α → β → Prop} {as : List α} {bs : List β} (e : EachIs R as bs) : EachIs R as (bs.map id) := by rw [List.map_id]; exact e
theorem sorted_gen {X : Cx} (G : Good M k X) {pins : List (Addr × Obj)} {σ : L2.St} {Z H : Hp} {s : Shared} {v : Value} {ds : List PyData} {Q : VK} (I : Inv X pins σ H s) (f : Le Z H)
    (coll : ∀ (R : List Value → Shared → Prop) (E : Value → Shared → Prop), (∀ s' acc es, Inv X pins σ H s' → EachIs (IsV M Z) acc es → srtOk es = true → sortD es = sortD ds → R acc s') → wpAny (model X.prog X.w) X.A.in1 (collect v) R E s)
    (q : ∀ vs p, PlA M Z vs (sortD ds) → H p = none → Q (.ref p) (upd H p (.lst vs))) : wpAny (model X.prog X.w) X.A (call (.builtin "sorted") [v]) (EP X pins σ Q) X.xe s := by
  refine Calls.call_function_entry PyProof.Rows.kind_sorted PyProof.Rows.plain_sorted PyProof.Rows.entry_sorted (PyProof.Rows.args_sorted1 _) ?_
  unfold Builtin.«sorted»
  refine wpAny_bind (m := checkCount "sorted" 1 1 _) (wpAny_pure ?_)
  refine wpAny_bind (coll _ _ fun s' acc ds' I1 he hs hsame => ?_)
  rw [← hsame] at q
  obtain ⟨h', g', d', tk, o'⟩ := s'
  have hL : acc.length ≤ sizeLine := by
    rw [he.length]
    have := hs
    unfold srtOk at this
    simp only [Bool.and_eq_true, decide_eq_true_eq] at this
    exact this.1
  refine wpAny_bind (wpAny_newList ?_ hL)
  have hoL : (h'.push (seqObj "list" acc.toArray 0)).get? h'.objs.size = some (seqObj "list" acc.toArray 0) := Heap.get?_push_size _ rfl
  have hold : ∀ b o, h'.get? b = some o → (sortingHeap (h'.push (seqObj "list" acc.toArray 0)) h'.objs.size acc).get? b = some o := fun b o e =>
    sortingHeap_old (Nat.ne_of_lt (Heap.lt_size e)) (Heap.get?_push_of_some _ e)
  have I2 : Inv X pins σ H ⟨sortingHeap (h'.push (seqObj "list" acc.toArray 0)) h'.objs.size acc, g', d', tk, o'⟩ := I1.kept (t' := tk) hold
  have hr := G.room.units
  have e1 : X.A.in1.in1.units = X.A.units + 2 := rfl
  obtain ⟨S, al⟩ := sorts_of (prog := X.prog) (w := X.w) (A := X.A.in1.in1) (each_reads I2 G.K f he) hs (by omega)
  show wpAny _ _ _ _ _ ⟨h'.push (seqObj "list" acc.toArray 0), g', d', tk, o'⟩
  refine wpAny_bind (wpAny_holding (wpAny_call_entry PyProof.Rows.slot_list_sort ⟨_, hoL, rfl⟩ PyProof.Rows.entry_list_sort
    (list_sort_vals (s := ⟨h'.push (seqObj "list" acc.toArray 0), g', d', tk, o'⟩) hoL S hL ⟨_, rfl, ?_⟩) (PyProof.Rows.args_list_sort _)))
  have he2 : EachIs (IsV M Z) (sortVals (dataKind (sortingHeap (h'.push (seqObj "list" acc.toArray 0)) h'.objs.size acc) ds') false acc acc) (sortD ds') :=
    sortVals_each (κ := dataKind (sortingHeap (h'.push (seqObj "list" acc.toArray 0)) h'.objs.size acc) ds') (fun b => keyToks b) he ((each_mem (each_reads I2 G.K f he)).mono fun _ _ ⟨⟨_, r⟩, hd⟩ => kind_some al hd r)
  obtain ⟨vs, r1, r2⟩ := each_vals he2
  obtain ⟨e', he'⟩ := PyProof.Rows.sortedHeap_at (vs := acc) (out := (sortVals (dataKind (sortingHeap (h'.push (seqObj "list" acc.toArray 0)) h'.objs.size acc) ds') false acc acc).toArray) hoL
  refine wpAny_pure ⟨_, rfl, .ref h'.objs.size, upd H h'.objs.size (.lst vs), I1.laid (t' := tk) (fun b u e => ?_) (Nat.le_refl _)
    (show ObjOk X.prog X.w _ _ _ (.lst vs) from ⟨?_, _, e', r1, he'⟩), rfl, q vs _ r2 (I1.hok.fresh (Nat.le_refl _))⟩
  · have hb : b < h'.objs.size := Heap.lt_size e
    rw [PyProof.Rows.sortedHeap_old (Nat.ne_of_lt hb) (by rw [size_push']; exact Nat.lt_succ_of_lt hb)]
    exact Heap.get?_push_of_some _ e
  · rw [r1.length, sortVals_length false rfl]; exact hL
/-! ### collecting -/
theorem collS {X : Cx} {b : Bool} {a : Addr} {pins : List (Addr × Obj)} {σ : L2.St} {Z H : Hp} {s : Shared} {vs : List V} {ds : List PyData} (I : Inv X pins σ H s) (hs : Sq b X.K H a vs) (q : PlA M Z vs ds) {A : Around} (R : List Value → Shared → Prop) (E : Value → Shared → Prop)
    (h : ∀ h' tk acc, (∀ b o, s.heap.get? b = some o → h'.get? b = some o) → EachIs (IsV M Z) acc ds → R acc { s with heap := h', toks := tk }) : wpAny (model X.prog X.w) A (collect (.ref a)) R E s := by
  obtain ⟨its, rv, hl, hz⟩ := sq_get I hs
  have hzz : its.length ≤ sizeLine := by rw [← rv.length]; exact hz
  have fin : ∀ h', (∀ b o', s.heap.get? b = some o' → h'.get? b = some o') → R its.toArray.toList { s with heap := h' } := fun h' hk => by
    have := h h' s.toks its hk (vals_each rv q)
    simpa using this
  cases b with
  | false =>
    obtain ⟨o, ho, hc, n, hd⟩ := hl
    exact wpAny_collect_seq a (.inl rfl) ho hc hd fin (by simpa using hzz)
  | true =>
    obtain ⟨o, ho, hc, n, hd⟩ := hl
    exact wpAny_collect_seq a (.inr rfl) ho hc hd fin (by simpa using hzz)
theorem collR {X : Cx} {a : Addr} {es : Array DictEntry} {ep : Nat} {Z : Hp} {s : Shared} {ds : List PyData} (lo : (a == sysModules) = false) (hm : s.heap.DictRaw a es ep) (hn : es.size ≤ sizeLine) (q : EachIs (IsV M Z) (es.toList.map (·.key)) ds) {A : Around} (hh : A.handled = none) (R : List Value → Shared → Prop) (E : Value → Shared → Prop)
    (h : ∀ h' tk acc, (∀ b o, s.heap.get? b = some o → h'.get? b = some o) → EachIs (IsV M Z) acc ds → R acc { s with heap := h', toks := tk }) : wpAny (model X.prog X.w) A (collect (.ref a)) R E s := by
  refine kdu_collect (KdlSrc.rawDict (es := es) (ep := ep) lo) hh hm hn fun h' tk acc hk hacc => h h' tk _ hk ?_
  have e : acc.toList = es.toList.map (·.key) := by
    refine List.ext_getElem? fun i => ?_
    rw [List.getElem?_map, Array.getElem?_toList, Array.getElem?_toList]
    cases c : acc[i]? with
    | some v =>
      obtain ⟨hi, e⟩ := hacc.2 i v c
      subst e
      simp [hi]
    | none =>
      have : acc.size ≤ i := Array.getElem?_eq_none_iff.mp c
      have : es[i]? = none := Array.getElem?_eq_none_iff.mpr (by rw [← hacc.1]; exact this)
      rw [this]; rfl
  rw [e]; exact q
/-- the entries of a text dict -/
theorem dk_ents {P : Program} {w : World} {H : Hp} {h : Heap} {a : Addr} {ks : List (Key × V)} (ok : HOk P w H h) (e : H a = some (.dK ks)) : (a == sysModules) = false ∧ ∃ es ep, h.DictRaw a es ep ∧ es.size ≤ sizeLine ∧ Paired (fun (x : DictEntry) (y : Key × V) => keyIs y.1 x.key = true ∧ RelV y.2 x.val) es.toList ks := by
  obtain ⟨z, hs, vs, kv, o, es, ep, g1, g2, g3, g4, g5, _⟩ := ok a _ e
  have pr : ∀ {es : List DictEntry} {vs : List (Key × Value)} {ks : List (Key × V)}, KV ks vs → Pairs (mixKind P w) es vs → Paired (fun (x : DictEntry) (y : Key × V) => keyIs y.1 x.key = true ∧ RelV y.2 x.val) es ks := by
    intro es vs ks kv
    induction kv generalizing es with
    | nil => intro p; cases p; exact .nil
    | cons r1 r2 ih =>
      intro p
      cases p with
      | cons p1 p2 p3 =>
        refine .cons ⟨?_, ?_⟩ (ih p3)
        · rw [r1.1]; exact p1
        · rw [p2]; exact r1.2
  have p := pr kv g5
  exact ⟨hs, es, ep, ⟨o, g1, g2, g3⟩, by rw [← Array.length_toList, paired_len p]; exact z, p⟩
/-- what can be walked: a list, a tuple, a dict's keys -/
inductive Src (M : Me) (Z H : Hp) : V → List PyData → Prop
  | sq {b a vs ds} : Sq b M.K H a vs → PlA M Z vs ds → Src M Z H (.ref a) ds
  | dk {a ks kvs} : H a = some (.dK ks) → SKV M Z ks kvs → Src M Z H (.ref a) (kvs.map (·.1))
  | dt {a o kvs} : H a = some (exD a o) → TObj M Z o kvs → Src M Z H (.ref a) (kvs.map (·.1))
def keysOf (d : PyData) : Option (List PyData) := match d with
  | .list ds => some ds
  | .tuple ds => some ds
  | .dict ((.int 0, .none) :: kvs) => some (kvs.map (·.1))
  | .dict kvs => if textK kvs = true then some (kvs.map (·.1)) else none
  | _ => none
theorem RD.src {Z H : Hp} {v : V} {d : PyData} {ds : List PyData} (q : RD M Z H v d) (f : Le Z H) (e : keysOf d = some ds) : Src M Z H v ds := by
  unfold keysOf at e
  split at e
  · cases e
    obtain ⟨a, xs, rfl, h1, h2⟩ := q.lst f
    exact .sq (b := false) (SqL.of h1) h2
  · cases e
    obtain ⟨a, xs, rfl, h1, h2⟩ := q.tup
    exact .sq (b := true) (SqT.of (f _ _ h1)) h2
  · cases e
    rename_i kvs
    obtain ⟨a, o, rfl, h1, h2, _⟩ := RD.tdict (kvs := kvs) q f
    exact .dt h1 h2
  · rename_i kvs _
    split at e
    · rename_i ht
      cases e
      obtain ⟨a, ks, rfl, h1, h2⟩ := q.sdict f ht
      exact .dk h1 h2
    · cases e
  · cases e
theorem coll_src {X : Cx} (G : Good M k X) {v : V} {u : Value} {pins : List (Addr × Obj)} {σ : L2.St} {Z H : Hp} {s : Shared} {ds : List PyData} (I : Inv X pins σ H s) (f : Le Z H) (ru : RelV v u) (hs : Src M Z H v ds) {A : Around} (hh : A.handled = none) (R : List Value → Shared → Prop) (E : Value → Shared → Prop)
    (h : ∀ h' tk acc, (∀ b o, s.heap.get? b = some o → h'.get? b = some o) → EachIs (IsV M Z) acc ds → R acc { s with heap := h', toks := tk }) : wpAny (model X.prog X.w) A (collect u) R E s := by
  cases hs with
  | sq h1 h2 =>
    cases ru
    rw [← G.K] at h1
    exact collS I h1 h2 R E h
  | dk h1 h2 =>
    cases ru
    obtain ⟨lo, es, ep, g1, g2, g3⟩ := dk_ents I.hok h1
    refine collR lo g1 g2 ?_ hh R E h
    clear g1 g2
    generalize es.toList = l at g3
    clear es h1 h
    induction h2 generalizing l with
    | nil => cases g3; exact .nil
    | cons r _ ih =>
      cases g3 with
      | cons p1 p2 =>
        obtain ⟨x, r1, r2, r3, _⟩ := r
        refine .cons ⟨.str x, ?_, ?_⟩ (ih _ p2)
        · have := p1.1
          rw [r1] at this
          rcases keyIs_shape this with ⟨i, t, z, _⟩ | ⟨y, t, z, e⟩
          · cases z
          · cases z; exact ⟨t, e⟩
        · show Pl M Z (.str x) (Prod.fst _)
          rw [r2]; exact Pl.str r3
  | dt h1 h2 =>
    cases ru
    have ok := I.hok
    rw [G.prog, G.w] at ok
    obtain ⟨g1, g2⟩ := exD_get ok h1
    obtain ⟨e1, es, ep, e2, e3, nd, e4⟩ := h2
    clear nd
    refine collR g2 ⟨_, g1, e1, e2⟩ (by rw [← Array.length_toList, paired_len e3]; exact e4) ?_ hh R E h
    clear e2 e4
    generalize es.toList = l at e3
    clear es h1 h g1
    induction e3 with
    | nil => exact .nil
    | cons r _ ih =>
      obtain ⟨b, x, r1, r2, r3, _⟩ := r
      exact .cons ⟨.ref b, r1, r3⟩ ih
/-! ### sorted(x) -/
def gSorted : List PyData → Option PyData := fun xs => match xs with
  | [d] => (keysOf d).bind fun ds => if srtOk ds = true then some (.list (sortD ds)) else none
  | _ => none
theorem c_sorted : CalD M k (.builtin "sorted") (fun xs H Q => ∃ v Z ds, xs = [v] ∧ Le Z H ∧ Src M Z H v ds ∧ srtOk ds = true ∧ ∀ vs p, PlA M Z vs (sortD ds) → H p = none → Q (.ref p) (upd H p (.lst vs))) gSorted := by
  refine ⟨fun X G => ?_, ?_⟩
  · intro pins s σ H xs us Q I r h
    obtain ⟨v, Z, ds, rfl, f, h1, h2, q⟩ := h
    obtain ⟨u, rfl, ru⟩ := vals1 r
    exact sorted_gen G I f (fun R E h => coll_src G I f ru h1 (show X.A.in1.handled = none from I.ok.hd G.calm) R E fun h' tk acc hk he => h _ acc ds (I.kept (t' := tk) hk) he h2 rfl) q
  · intro Z H vs xs z Q f h e q
    unfold gSorted at e
    split at e
    · simp only [Option.bind_eq_some_iff] at e
      obtain ⟨ds, e1, e2⟩ := e
      split at e2
      · rename_i hs
        cases e2
        cases h with
        | cons h h' =>
          cases h'
          refine ⟨_, Z, ds, rfl, f, h.src f e1, hs, fun ws p hw hp => ?_⟩
          obtain ⟨t, g, d⟩ := new_lst f hp hw
          exact q _ _ _ t g d
      · cases e2
    · cases e
end
end DL

set_option maxRecDepth 100000
set_option linter.all false
/-! DL12: a dict of tuple keys walked and counted; the order of tuples that begin with texts. -/
namespace DL
open PySem L2 PySem.W PySem.SeqAt
/-! ### for key in dict -/
def ItX (a : Addr) (o : Obj) (es : Array DictEntry) : It :=
  ⟨fun i H => H a = some (exD a o) ∧ i < es.size, fun i H v H' => H' = H ∧ ∃ en, es[i]? = some en ∧ RelV v en.key, fun i H => H a = some (exD a o) ∧ es.size ≤ i⟩
theorem turn_X {P : Program} {w : World} {K : PySem.W.Frag} {tg : Expr} {a : Addr} {o : Obj} {es : Array DictEntry} {ep : Nat} (it : Addr) (hod : o.data = .dict es ep) (hk : ∀ (i : Nat) (en : DictEntry), es[i]? = some en → ∃ v, RelV v en.key) : Turn P w K tg (ItX a o es) [it] it (fun i h => h.IsKeyIter it a i es.size ep) where
  mem := by simp
  obj := fun i h st b hb => by
    have e : b = it := by simpa using hb
    subst e
    obtain ⟨oi, e, c, dd⟩ := st
    exact ⟨oi, e, fun v z => by rw [dd] at z; cases z⟩
  keep := fun i h h' st k => st.at fun oi e => k it (by simp) oi e
  item := by
    intro X hP hw hK hc i pins s σ H E I hf st hg
    subst hP hw hK
    obtain ⟨hd, hi⟩ := hg
    obtain ⟨f0, f1, f2, f3, f4, f5⟩ := hf it (by simp)
    obtain ⟨g1, g2⟩ := exD_get I.hok hd
    have hen : es[i]? = some es[i] := Array.getElem?_eq_getElem hi
    obtain ⟨v, rv⟩ := hk i _ hen
    refine next_key_item st g1 hod rfl hen fun h' st' sb => ?_
    have I1 : Inv X pins σ H { s with heap := h' } := I.turned (t' := s.toks) (fun b ob hb e => (sb.2 b hb).trans e) f0 f1 f3 f4 f5
    obtain ⟨oi, e, c, dd⟩ := id st'
    exact ⟨_, rfl, go_of (s := { s with heap := h' }) e c dd (by decide) ⟨v, H, I1, rv, ⟨rfl, _, hen, rv⟩, st', fun b hb => (hf b hb).1⟩⟩
  done := by
    intro X hP hw hK hc i pins s σ H E I hf st hg
    subst hP hw hK
    obtain ⟨hd, hi⟩ := hg
    obtain ⟨f0, f1, f2, f3, f4, f5⟩ := hf it (by simp)
    obtain ⟨g1, g2⟩ := exD_get I.hok hd
    exact next_key_end (I.ok.hd hc) st g1 hod rfl hi fun h' eb => ⟨rfl, I.turned (t' := s.toks) (fun b ob hb e => eb b ob hb e) f0 f1 f3 f4 f5⟩
  self := fun A i s Q E st h => by
    refine wpAny_pyIter_slot st.typeIs PySem.F.slot_dict_keyiterator_iter (wpAny_call_entry PySem.F.slot_dict_keyiterator_iter st.typeIs PySem.F.entry_dict_keyiterator_iter ?_ (PySem.F.args_dict_keyiterator_iter_1 _))
    show wpAny _ _ (ret (.ref it)) _ _ s
    exact wpAny_pure ⟨_, rfl, "dict_keyiterator", _, st.typeIs, PySem.F.slot_dict_keyiterator_next.lookup, h⟩
section
variable {M : Me} {k : Nat}
def iKeysX (M : Me) (td : TE) : TI := fun σ H R => td σ H fun x H1 => ∃ Z a o kvs, Le Z H1 ∧ x = .ref a ∧ H1 a = some (exD a o) ∧ TObj M Z o kvs ∧ ∀ es ep, o.data = .dict es ep → Paired (TEnt M Z) es.toList kvs → R (ItX a o es) H1
theorem pi_keysX {X : Cx} {tg e : Expr} {td : TE} (he : PE X e td) : PI X tg e (iKeysX M td) := by
  refine ⟨fun pins s σ H R I h => ?_⟩
  refine thn (he.run pins s σ H _ I h) fun u s1 ⟨x, H1, I1, rx, Z, a, o, kvs, f, ex, hd, T, q⟩ => ?_
  subst ex
  obtain rfl : u = Value.ref a := rx
  obtain ⟨g1, g2⟩ := exD_get I1.hok hd
  obtain ⟨e1, es, ep, e2, e3, _⟩ := T
  refine iter_keys g2 g1 e1 e2 (pi_one (tk := s1.toks) I1 _ (turn_X _ e2 fun i en he => ?_) ⟨_, Heap.get?_push_size _ rfl, rfl, rfl⟩ (q es ep e2 e3))
  rw [← Array.getElem?_toList] at he
  obtain ⟨kv, _, b, v, r1, _⟩ := paired_getL e3 he
  exact ⟨.ref b, r1⟩
def fKeysT (f : F OV) : F (List PyData) := fun d => (f d).bind fun p => match rdO p.1 p.2 with
  | some (.dict ((.int 0, .none) :: kvs)) => some (kvs.map (·.1), p.2)
  | _ => none
theorem di_keysT {X : Cx} {tg e : Expr} {te : TE} {j : Nat} (h : DE M k X e te (fVar j)) : DI M k X tg e (iKeysX M te) (fun d => match d[j]? with
    | some (some (.fr (.dict ((.int 0, .none) :: kvs)))) => some (kvs.map (·.1), d)
    | _ => none) := by
  refine ⟨fun G => pi_keysX (h.pe G), ?_⟩
  intro Z H s d xs d' R S e q
  dsimp only at e
  split at e
  case h_2 => cases e
  rename_i kvs hj
  cases e
  have e1 : fVar j d = some (.val (tdic kvs), d) := by simp [fVar, hj, tdic]
  refine h.ok Z H s d _ d _ S e1 fun v Z' H' t1 S1 k1 r1 => ?_
  cases r1 with
  | val r1 =>
    have gen : ∀ y, FD M Z' v y → y = tdic kvs → ∃ a o, v = .ref a ∧ Z' a = some (exD a o) ∧ TObj M Z' o kvs := by
      intro y r1 e
      cases r1 with
      | pl r1 => subst e; obtain ⟨r1, _⟩ := r1; cases r1
      | ds r1 =>
        obtain ⟨a, ks, kvs', z1, z2, z3, z4⟩ := r1
        rw [z2] at e
        cases e
        cases z4 with
        | cons z _ => obtain ⟨_, _, z, _⟩ := z; cases z
      | dt h1 h2 => cases e; exact ⟨_, _, rfl, h1, h2⟩
      | li _ _ _ _ => cases e
      | sc _ => cases e
    obtain ⟨a, o, rfl, z1, T⟩ := gen _ r1 rfl
    refine ⟨Z', a, o, kvs, S1.fz, rfl, S1.fz _ _ z1, T, fun es ep hd hp => q _ Z' H' t1 S1 k1 ?_⟩
    intro Z2 H2 l1 l2
    have hsz : es.size = kvs.length := by rw [← Array.length_toList, paired_len hp]
    have ha := l2 _ _ (l1 _ _ z1)
    rw [List.length_map]
    refine ⟨fun i hi => ⟨ha, by omega⟩, ⟨ha, by omega⟩, fun i u H3 hi y => ?_⟩
    obtain ⟨rfl, en, he, ru⟩ := y
    rw [← Array.getElem?_toList] at he
    obtain ⟨kv, c, b, w, r1, _, r3, _⟩ := paired_getL hp he
    refine ⟨Z2, kv.1, by rw [List.getElem?_map, c]; rfl, ?_, Step.refl, l2⟩
    rw [r1] at ru
    have : u = .ref b := RelV.inj ru (show RelV (.ref b) (.ref b) from rfl)
    subst this
    exact .pl (r3.mono l1)
/-! ### len(dict) -/
def gLenT : List PyData → Option PyData := fun xs => match xs with
  | [.dict ((.int 0, .none) :: kvs)] => some (.int (kvs.length : Nat))
  | _ => none
theorem c_lenT : CalD M k (.builtin "len") (fun xs H Q => ∃ Z a o kvs, xs = [.ref a] ∧ Le Z H ∧ H a = some (exD a o) ∧ TObj M Z o kvs ∧ Q (.int (kvs.length : Nat)) H) gLenT := by
  refine ⟨fun X G => ?_, ?_⟩
  · intro pins s σ H xs us Q I r h
    obtain ⟨Z, a, o, kvs, rfl, f, h1, h2, q⟩ := h
    obtain ⟨u, rfl, rx⟩ := vals1 r
    cases rx
    have ok := I.hok
    rw [G.prog, G.w] at ok
    obtain ⟨g1, g2⟩ := exD_get ok h1
    obtain ⟨xs, e1, e2⟩ := tobj_H f ok g1 h2
    have hl := paired_len e2
    obtain ⟨_, _, _, _, _, _, hz⟩ := h2
    rw [← G.prog, ← G.w] at e1
    refine call_len_dictH g2 e1 (by rw [hl]; rw [sizeLine_eq] at hz; omega) ?_
    rw [hl]
    exact ⟨.int ((kvs.length : Nat) : Int), H, I.tok _, ⟨_, rfl⟩, q⟩
  · intro Z H vs xs z Q f h e q
    unfold gLenT at e
    split at e
    · cases e
      rename_i kvs
      cases h with
      | cons h h' =>
        cases h'
        obtain ⟨a, o, rfl, h1, h2, _⟩ := RD.tdict (kvs := kvs) h f
        exact ⟨Z, a, o, kvs, rfl, f, h1, h2, q _ Z H Step.refl f (.pl Pl.int)⟩
    · cases e
end
end DL

set_option maxRecDepth 100000
set_option linter.all false
/-! DL13: the order of tuples that begin with texts. -/
namespace PySem.SeqAt
open AutoSeq1 (wpAny_loadPart')
open MeetsSeq MeetsSeq2 MeetsSeq3 SeqRoads2
/-- the first items differ -/
theorem tuple_lt0 (l b : Addr) (items items2 : Array Value) (n n2 : Nat) (dd dd2 : Option Addr) (sl sl2 : Array (Option Value)) (r : Bool) :
    Meets (Builtin.«tuple.__lt__» ⟨[.ref l, .ref b], []⟩)
      (fun A R s => s.heap.get? l = some { cls := .type "tuple", dict := dd, data := .seq items n, slots := sl } ∧ s.heap.get? b = some { cls := .type "tuple", dict := dd2, data := .seq items2 n2, slots := sl2 } ∧
        0 < items.size ∧ 0 < items2.size ∧ (∀ j (h1 : j < items.size) (h2 : j < items2.size), j = 0 → EqAt A.in1 s items[j] items2[j] false) ∧ (∀ j (h1 : j < items.size) (h2 : j < items2.size), j = 0 → RcLt A.in1 s items[j] items2[j] r) ∧
        R (.ok (.ret (.bool r))) s) :=
  .of_wp fun prog w A R s h => by
    obtain ⟨hp, g, d, tk, os⟩ := s; obtain ⟨hl, hb, m1, m2, he, hr, h⟩ := h
    have f2 := AutoSeq1.sub_tuple_tuple
    have hZ : (items.toList.zip items2.toList).length = min items.size items2.size := by simp
    wp_walk using wpAny_loadPart' hl, wpAny_loadPart' hb, wpAny_forIn_list _ (fun rest b s' => b.1 = none ∧ s' = ⟨hp, g, d, tk, os⟩ ∧ ∃ i, i = 0 ∧ rest = (items.toList.zip items2.toList).drop i ∧
      R (.ok (.ret (.bool r))) ⟨hp, g, d, tk, os⟩) _
    case turn =>
      rintro ⟨y, x⟩ rest b s' ⟨hb', rfl, i, h0, hz, hR⟩
      have hlt : i < (items.toList.zip items2.toList).length := by
        rcases Nat.lt_or_ge i (items.toList.zip items2.toList).length with h' | h'
        · exact h'
        · rw [List.drop_of_length_le h'] at hz; cases hz
      have hm : i < min items.size items2.size := hZ ▸ hlt
      have h1 : i < items.size := Nat.lt_of_lt_of_le hm (Nat.min_le_left _ _)
      have h2 : i < items2.size := Nat.lt_of_lt_of_le hm (Nat.min_le_right _ _)
      rw [List.drop_eq_getElem_cons hlt] at hz
      injection hz with hyx hrest
      have hy : y = items[i] := by have := congrArg Prod.fst hyx; simpa using this
      have hx : x = items2[i] := by have := congrArg Prod.snd hyx; simpa using this
      subst hy hx
      refine wpAny_bind (he i h1 h2 h0 prog w _ _ ?_)
      rw [if_pos (by rfl)]
      refine wpAny_bind (wpAny_rule ?_)
      refine wpAny_bind ?_
      refine hr i h1 h2 h0 prog w _ _ ?_
      wp_walk
      exact ⟨_, rfl, hR⟩
    case fin =>
      rintro ⟨b1, b2⟩ s' ⟨hb', rfl, i, h0, hz, hR⟩
      subst h0
      rw [List.drop_zero] at hz
      have := congrArg List.length hz
      rw [hZ] at this
      simp at this
      omega
    case h =>
      exact ⟨rfl, rfl, 0, rfl, rfl, h⟩
end PySem.SeqAt
namespace DL
open PySem L2 PySem.W PySem.SeqAt
theorem rcLt_hd {A : Around} {s : Shared} {x y : List PyData} {a b : Value} {as bs : List Addr} (ra : Reads s.heap a (.tuple x) as) (rb : Reads s.heap b (.tuple y) bs) (h : cmpD (.tuple x) (.tuple y) = true)
    (hu : A.units + min (PyData.tuple x).depth (PyData.tuple y).depth < cLine) : RcLt A s a b (dataLt (.tuple x) (.tuple y)) := by
  unfold cmpD at h
  rw [Bool.or_eq_true] at h
  rcases h with h | h
  · exact rcLt_alike _ _ A s a b as bs ra rb h (fun z => by cases z) hu
  · split at h
    · rename_i f xs g ys e1 e2
      cases e1; cases e2
      have hfg : f ≠ g := by simpa using h
      rw [dataLt_hd hfg]
      cases ra with
      | @tuple l o vs n _ as₁ h1 h2 h3 h4 =>
        cases rb with
        | @tuple l' o' vs' n' _ bs₁ k1 k2 k3 k4 =>
          obtain ⟨cls, dd, data, sl⟩ := o
          obtain ⟨cls2, dd2, data2, sl2⟩ := o'
          simp only at h2 h3 k2 k3
          subst h2 h3 k2 k3
          intro prog w E Q hq
          have n1 : 0 < vs.size := by have := ReadsAll.length _ _ _ h4; simp at this; omega
          have n2 : 0 < vs'.size := by have := ReadsAll.length _ _ _ k4; simp at this; omega
          have i1 : ∃ t, vs[0] = .str f t := by
            have : vs.toList[0]? = some vs[0] := by rw [Array.getElem?_toList, Array.getElem?_eq_getElem n1]
            generalize vs.toList = l1 at h4 this
            cases h4 with
            | cons a1 a2 =>
              cases a1
              exact ⟨_, (Option.some.inj this).symm⟩
          have i2 : ∃ t, vs'[0] = .str g t := by
            have : vs'.toList[0]? = some vs'[0] := by rw [Array.getElem?_toList, Array.getElem?_eq_getElem n2]
            generalize vs'.toList = l1 at k4 this
            cases k4 with
            | cons a1 a2 =>
              cases a1
              exact ⟨_, (Option.some.inj this).symm⟩
          obtain ⟨t, i1⟩ := i1
          obtain ⟨t', i2⟩ := i2
          refine richCompare_meets_room (op := .Lt) ⟨_, h1, rfl⟩ ⟨_, k1, rfl⟩ PySem.F.slot_tuple_lt PySem.F.entry_tuple_lt (PySem.F.args_tuple_lt_2 _ _) (tuple_lt0 l l' vs vs' n n' dd dd2 sl sl2 (decide (f.cps.toList < g.cps.toList)))
            ⟨h1, k1, n1, n2, fun j j1 j2 j0 => ?_, fun j j1 j2 j0 => ?_, show Value.bool (decide (f.cps.toList < g.cps.toList)) ≠ Value.notImplemented ∧ Q (.bool (decide (f.cps.toList < g.cps.toList))) s from ⟨(fun x => nomatch x), hq⟩⟩ (room_here hu)
          · subst j0
            rw [i1, i2]
            have e : (f == g) = false := beq_eq_false_iff_ne.mpr hfg
            rw [← e]
            exact EqAt.str_str _ _ _ _
          · subst j0
            rw [i1, i2]
            exact fun prog w E Q hq => P.lt_str hq
    · cases h
section
variable {M : Me} {k : Nat}
def gLtH (a b : PyData) : Option PyData := if isHd a = true ∧ isHd b = true ∧ cmpD a b = true ∧ min a.depth b.depth ≤ 60 then some (.bool (dataLt a b)) else none
theorem hd_tup {a : PyData} (h : isHd a = true) : ∃ xs, a = .tuple xs := by
  unfold isHd at h
  split at h
  · exact ⟨_, rfl⟩
  · cases h
theorem o_ltH : OpD M k (compareOp .Lt) (fun x y H Q => ∃ d e, Dp M.K H x d ∧ Dp M.K H y e ∧ isHd d = true ∧ isHd e = true ∧ cmpD d e = true ∧ min d.depth e.depth ≤ 60 ∧ Q (.bl (dataLt d e)) H) gLtH := by
  refine ⟨fun X G => ?_, ?_⟩
  · intro pins s σ H x y v u Q I rx ry h
    obtain ⟨d, e, h1, h2, c1, c2, c3, h3, q⟩ := h
    rw [← G.K] at h1 h2
    obtain ⟨as, r1⟩ := Dp.reads I d x v h1 rx
    obtain ⟨bs, r2⟩ := Dp.reads I e y u h2 ry
    obtain ⟨xs, rfl⟩ := hd_tup c1
    obtain ⟨ys, rfl⟩ := hd_tup c2
    have hr := G.room.units
    exact rcLt_hd r1 r2 c3 (by omega) X.prog X.w _ _ ⟨.bl _, H, I, rfl, q⟩
  · intro Z H x y a b z Q f hx hy e q
    unfold gLtH at e
    split at e
    · rename_i h
      cases e
      obtain ⟨h1, h2, h3, h4⟩ := h
      obtain ⟨xs, rfl⟩ := hd_tup h1
      obtain ⟨ys, rfl⟩ := hd_tup h2
      obtain ⟨d1, _⟩ := hx.dp f (fun _ z => by cases z)
      obtain ⟨d2, _⟩ := hy.dp f (fun _ z => by cases z)
      exact ⟨_, _, d1, d2, h1, h2, h3, h4, q _ Z H Step.refl f (.pl Pl.bl)⟩
    · cases e
end
end DL

set_option maxRecDepth 100000
set_option linter.all false
/-! DL14: stores into a dict of tuple keys. -/
namespace DL
open PySem L2
section
variable {M : Me} {k : Nat}
def sPutX (M : Me) (td ty tv : TE) : TS := fun D σ H => tv σ H fun v H1 => td σ H1 fun x H2 => ty σ H2 fun y H3 => ∃ Z a b o kvs key d, Le Z H3 ∧ x = .ref a ∧ y = .ref b ∧ H3 a = some (exD a o) ∧ TObj M Z o kvs ∧ Pl M Z (.ref b) key ∧ tupKey key = true ∧ (Pl M Z v d ∨ SDc M Z v d) ∧ kvs.length < sizeLine ∧
  ∀ o', TObj M Z o' (putD kvs key d) → D.nx σ (upd H3 a (exD a o'))
theorem ps_putX {X : Cx} {o i value : Expr} {pos pos' : Pos} {td ty tv : TE} (G : Good M k X) (ho : PE X o td) (hi : PE X i ty) (hv : PE X value tv) (hs : swapsWith value (some (.Subscript o i pos')) pos.line X.env = pure false) :
    PS X (.Assign [.Subscript o i pos'] value pos) (sPutX M td ty tv) := by
  refine ⟨fun pins s σ H D I h => ?_⟩
  refine wpAny_Assign_Subscript (thn (hv.run pins s σ H _ I h) fun r s1 ⟨v, H1, I1, rv, q1⟩ => thn (ho.run pins s1 σ H1 _ I1 q1) fun u s2 ⟨x, H2, I2, rx, q2⟩ => thn (hi.run pins s2 σ H2 _ I2 q2) fun iv s3 ⟨y, H3, I3, ry, Z, a, b, o, kvs, key, d, f, ex, ey, h1, h2, h3, h4, h5, hl, q3⟩ => ?_) hs
  subst ex ey
  obtain rfl : u = Value.ref a := rx
  obtain rfl : iv = Value.ref b := ry
  have ok := I3.hok
  rw [G.prog, G.w] at ok
  obtain ⟨g1, g2⟩ := exD_get ok h1
  obtain ⟨xs, e1, e2⟩ := tobj_H f ok g1 h2
  obtain ⟨k1, k2⟩ := tupKey_key h4
  have key_is : (nestedKind M.P M.w).is s3.heap (nk key) b := ⟨nk_is f ok key _ _ k1 h3.1 rfl, k2⟩
  have hu := nest_room1 G
  have hlx := paired_len e2
  rw [← G.prog, ← G.w] at e1 key_is
  refine wpAny_setItem_heap (hsz := by rw [hlx]; exact Nat.le_of_lt hl) hu key_is e1 fun h' dd' hs' => ?_
  have r2 := xrel_put e2 h4 h3 rv h5
  rw [G.prog, G.w] at dd'
  have hlen := putD_len kvs key d
  obtain ⟨o', g3, t3⟩ := tobj_of dd' r2 (by omega)
  have mu : Mut (H3 a) := by rw [h1]; trivial
  exact ⟨σ, _, d_write (t' := s3.toks + (nestedKind X.prog X.w).draws (nk key)) I3 mu hs' ⟨_, g3⟩ (exD_ok g3 g2), q3 o' t3⟩
/-- the datum of a value that may stand in a dict of tuple keys -/
def isOT (d : SD) (i : Nat) : Option (List (PyData × PyData)) := match d[i]? with
  | some (some (SV.own (.dict ((.int 0, .none) :: kvs)))) => if kvs.length < sizeLine then some kvs else none
  | _ => none
theorem Sl.ownT {Z H : Hp} {s : Sg} {d : SD} {i : Nat} {kvs : List (PyData × PyData)} (S : Sl M Z H s d) (h : isOT d i = some kvs) : d[i]? = some (some (SV.own (tdic kvs))) ∧ kvs.length < sizeLine ∧ ∃ a o, s[i]? = some (some (V.ref a)) ∧ Z a = none ∧ H a = some (exD a o) ∧ TObj M Z o kvs := by
  unfold isOT at h
  split at h
  · rename_i kvs' e
    split at h
    · rename_i ht
      cases h
      obtain ⟨a, e1, e2, e3⟩ := S.own i _ e
      obtain ⟨b, o, r1, r2, r3, _⟩ := RD.tdict (v := .ref a) (kvs := kvs) (.inr ⟨a, rfl, e2, e3⟩) S.fz
      cases r1
      exact ⟨e, ht, a, o, e1, e2, r2, r3⟩
    · cases h
  · cases h
/-- plain data, or a text dict -/
def valO (o : OV) : Option PyData := match o with
  | .val (.dict kvs) => if textK kvs = true then some (.dict kvs) else none
  | .val x => some x
  | .slot _ => none
theorem RO.valO {Z : Hp} {s : Sg} {v : V} {o : OV} {x : PyData} (q : RO M Z s v o) (e : valO o = some x) : Pl M Z v x ∨ SDc M Z v x := by
  cases q with
  | slot q => cases e
  | val q =>
    unfold DL.valO at e
    split at e
    · rename_i kvs e1
      cases e1
      split at e
      · rename_i ht
        cases e
        have gen : ∀ y, FD M Z v y → y = .dict kvs → SDc M Z v y := by
          intro y q e
          cases q with
          | pl q => subst e; obtain ⟨q, _⟩ := q; cases q
          | ds q => exact q
          | dt _ _ => cases e; simp [textK] at ht
          | li _ _ _ _ => cases e; simp [textK] at ht
          | sc _ => cases e; simp [textK] at ht
        exact .inr (gen _ q rfl)
      · cases e
    · rename_i y hn e1
      cases e1
      cases e
      exact .inl (q.plain hn)
    · rename_i e1; cases e1
def fPutT (i : Nat) (fy fv : F OV) : F Fl := fun d => (fv d).bind fun p => (valO p.1).bind fun w => (isOT p.2 i).bind fun _ => (fy p.2).bind fun q => (fzO q.1).bind fun key => if tupKey key = true then
  (isOT q.2 i).bind fun kvs => some (.nx, q.2.set i (some (.own (tdic (putD kvs key w))))) else none
theorem ds_putT (i : Nat) {X : Cx} {x : Str} {ey ev : Expr} {p pos' pos : Pos} {ty tv : TE} {fy fv : F OV} (hy : DE M k X ey ty fy) (hv : DE M k X ev tv fv) (hN : X.N[i]? = some x := by rfl) (hvx : Vis X.env.scope x := by first | exact Or.inl rfl | exact Or.inr (Or.inl rfl) | exact Or.inr (Or.inr rfl)) (hd : (x == ("__debug__" : Str)) = false := by decide)
    (hcd : (x == ("__classdict__" : Str)) = false := by decide) (hs : swapsWith ev (some (.Subscript (.Name x p) ey pos')) pos.line X.env = pure false := by rfl) : DS M k X (.Assign [.Subscript (.Name x p) ey pos'] ev pos) (sPutX M (tVar i) ty tv) (fPutT i fy fv) := by
  refine ⟨fun G => ps_putX G (pv i hN hvx hd hcd) (hy.pe G) (hv.pe G) hs, ?_⟩
  intro Z0 H0 P0 Z H s d fl d' D E r q
  simp only [fPutT, Option.bind_eq_some_iff] at r
  obtain ⟨⟨o1, d1⟩, e1, w, e2, kv0, e0, ⟨o2, d2⟩, e3, key, hk, e4⟩ := r
  dsimp only at e4 e0 e3 hk
  split at e4
  case isFalse => cases e4
  rename_i ht
  rw [Option.bind_eq_some_iff] at e4
  obtain ⟨kvs, e5, e6⟩ := e4
  cases e6
  refine hv.ok Z H s d o1 d1 _ E.sl e1 fun v Z1 H1 t1 S1 k1 r1 => ?_
  obtain ⟨_, _, a, _, ha, _⟩ := S1.ownT e0
  refine ⟨.ref a, ha, ?_⟩
  refine hy.ok Z1 H1 s d1 o2 d2 _ S1 e3 fun y Z2 H2 t2 S2 k2 r2 => ?_
  obtain ⟨hi, hl, a', o, g1, g2, g3, g4⟩ := S2.ownT e5
  rw [ha] at g1
  cases g1
  obtain ⟨ds, rfl⟩ := tup_ref ht
  have pk := (r2.fz hk).plain fun _ z => by cases z
  obtain ⟨b, xs, rfl, p3, p4⟩ := pk.tup_inv
  have pw : Pl M Z2 v w ∨ SDc M Z2 v w := (r1.valO e2).imp (fun z => z.mono t2.zz) fun z => z.mono t2.zz
  refine ⟨Z2, a, b, o, kvs, _, w, S2.fz, rfl, rfl, g3, g4, pk, ht, pw, hl, fun o' T => ?_⟩
  obtain ⟨t3, S3, k3⟩ := S2.wr hi ha g2 (OwnAt.dt upd_same T)
  exact q Z2 _ s (t1.zz.trans t2.zz) (((E.exp t1 S1 k1).exp t2 S2 k2).exp t3 S3 k3)
end
end DL

set_option maxRecDepth 100000
set_option linter.all false
/-! DL15: dicts of texts written out, made of pairs, updated. -/
namespace DL
open PySem L2
section
variable {M : Me} {k : Nat}
def mergeD (kvs more : List (PyData × PyData)) : List (PyData × PyData) := more.foldl (fun acc kv => putD acc kv.1 kv.2) kvs
theorem SKV.merge {Z : Hp} : ∀ {ks2 : List (Key × V)} {more : List (PyData × PyData)} {ks : List (Key × V)} {kvs : List (PyData × PyData)}, SKV M Z ks2 more → SKV M Z ks kvs → SKV M Z (mergeK ks ks2) (mergeD kvs more) := by
  intro ks2 more ks kvs q
  unfold SKV at q
  induction q generalizing ks kvs with
  | nil => intro r; exact r
  | cons a _ ih =>
    intro r
    obtain ⟨x, e1, e2, e3, e4⟩ := a
    show SKV M Z (mergeK (putK ks _ _) _) (mergeD (putD kvs _ _) _)
    rw [e1, e2]
    exact ih (r.put e3 e4)
/-! ### a display -/
theorem pairs_ok1 {tk tv : TE} {fk fv : F OV} (hk : EOk M tk fk) (hv : EOk M tv fv) {Z H : Hp} {s : Sg} {d d' : SD} {x : PySem.Str} {y : PyData} {d1 : SD} {o1 o2 : OV} {Q : List (V × V) → Hp → Prop} (S : Sl M Z H s d) (e1 : fk d = some (o1, d1)) (e2 : fzO o1 = some (.str x)) (e3 : fv d1 = some (o2, d')) (e4 : plO o2 = some y)
    {r : List (TE × TE)} (q : ∀ v Z' H', Step M.T Z H Z' H' (Ows s d) → Sl M Z' H' s d' → SameO d d' → PyData.strOk x = true → Pl M Z' v y → tPairs r s H' fun ps H3 => Q ((.str x, v) :: ps) H3) : tPairs ((tk, tv) :: r) s H Q := by
  refine hk Z H s d o1 d1 _ S e1 fun u Z1 H1 t1 S1 k1 r1 => ?_
  refine hv Z1 H1 s d1 o2 d' _ S1 e3 fun v Z2 H2 t2 S2 k2 r2 => ?_
  obtain ⟨rfl, hx⟩ := ((r1.fz e2).plain fun _ z => by cases z).str_inv
  exact q v Z2 H2 (two t1 k1 t2) S2 (k1.trans k2) hx (r2.pl e4)
def fPair (fk fv : F OV) : F (PySem.Str × PyData) := fun d => (fk d).bind fun p => match fzO p.1 with
  | some (.str x) => (fv p.2).bind fun q => (plO q.1).bind fun y => some ((x, y), q.2)
  | _ => none
theorem fPair_inv {fk fv : F OV} {d d' : SD} {x : PySem.Str} {y : PyData} (e : fPair fk fv d = some ((x, y), d')) : ∃ o1 d1 o2, fk d = some (o1, d1) ∧ fzO o1 = some (.str x) ∧ fv d1 = some (o2, d') ∧ plO o2 = some y := by
  simp only [fPair, Option.bind_eq_some_iff] at e
  obtain ⟨⟨o1, d1⟩, e1, e2⟩ := e
  dsimp only at e2
  split at e2
  · rename_i x' hx
    simp only [Option.bind_eq_some_iff] at e2
    obtain ⟨⟨o2, d2⟩, e3, y', e4, e5⟩ := e2
    cases e5
    exact ⟨o1, d1, o2, e1, hx, e3, e4⟩
  · cases e2
def fDisp1 (f : F (PySem.Str × PyData)) : F PyData := fun d => (f d).bind fun p => some (.dict [(.str p.1.1, p.1.2)], p.2)
theorem Ows_no {Z H : Hp} {s : Sg} {d : SD} {p : Addr} (S : Sl M Z H s d) (h : H p = none) : Z p = none ∧ ¬ Ows s d p := ⟨S.noZ h, S.notO h⟩
theorem disp_end {Z H Z1 H1 : Hp} {s : Sg} {d d1 : SD} {p : Addr} {ks : List (Key × V)} {kvs : List (PyData × PyData)} {Q : VK} (hp : H p = none) (zp : Z p = none) (np : ¬ Ows s d p) (t1 : Step M.T Z (upd H p (.dK [])) Z1 H1 (Ows s d)) (S1 : Sl M Z1 H1 s d1) (k1 : SameO d d1) (pr : SKV M Z1 ks kvs)
    (q : ∀ a Z' H', Step M.T Z H Z' H' (Ows s d) → Sl M Z' H' s d1 → SameO d d1 → H a = none → Z' a = none → OwnAt M Z' H' a (.dict kvs) → ¬ Ows s d1 a → Q (.ref a) H') : H1 p = some (.dK []) ∧ Q (.ref p) (upd H1 p (.dK ks)) := by
  have hp1 : H1 p = some (.dK []) := t1.hh p _ upd_same np
  have zp1 : Z1 p = none := by rw [t1.zn p _ upd_same]; exact zp
  have np1 : ¬ Ows s d1 p := fun w => np ((k1.ows p).mp w)
  have t2 : Step M.T Z H Z1 (upd H1 p (.dK ks)) (Ows s d) := by
    refine ⟨t1.zz, fun b o e => ?_, fun b o e n m => ?_, fun b o e => ?_, t1.nt, fun w p' hp' => tabs_upd (fun u e => by rw [hp1] at e; cases e; exact ⟨(fun _ z => by cases z), fun _ z => by unfold LamX.CodeO at z; cases z⟩) p'.1 p'.2 (t1.tb (fun r hr => tabs_new hp r.1 r.2 (w r hr)) p' hp')⟩
    · exact t1.zn b o (by rw [upd_ne (ne_of_none e hp)]; exact e)
    · rw [upd_ne (ne_of_none e hp)]
      exact t1.h0 b o (by rw [upd_ne (ne_of_none e hp)]; exact e) n m
    · rw [upd_ne (ne_of_none e hp)]
      exact t1.he b o (by rw [upd_ne (ne_of_none e hp)]; exact e)
  exact ⟨hp1, q p Z1 _ t2 (S1.updO zp1 np1 (fun u e => by rw [hp1] at e; cases e; exact ⟨(fun _ z => by cases z), fun _ z => by unfold LamX.CodeO at z; cases z⟩)) k1 hp zp1 (.ds upd_same pr) np1⟩
theorem do_disp1 {X : Cx} {ek ev : Expr} {pos : Pos} {tk tv : TE} {fk fv : F OV} (hk : DE M k X ek tk fk) (hv : DE M k X ev tv fv) : DO M k X (.Dict [some ek] [ev] pos) (tDisp [(tk, tv)]) (fDisp1 (fPair fk fv)) := by
  refine ⟨fun G => pe_disp (pps_cons (hk.pe G) (hv.pe G) pps_nil) rfl rfl (by simp) (by simp), ?_⟩
  intro Z H s d x d' Q S e q
  simp only [fDisp1, Option.bind_eq_some_iff] at e
  obtain ⟨⟨⟨a, y⟩, d1⟩, e1, e2⟩ := e
  cases e2
  obtain ⟨o1, d1, o2, z1, z2, z3, z4⟩ := fPair_inv e1
  intro p hp
  obtain ⟨zp, np⟩ := Ows_no S hp
  refine pairs_ok1 hk.ok hv.ok (S.updO zp np (no_tab hp)) z1 z2 z3 z4 fun v Z1 H1 t1 S1 k1 hx pv => ?_
  obtain ⟨g1, g2⟩ := disp_end (ks := mergeK [] [(Sum.inr a, v)]) (kvs := [(.str a, y)]) hp zp np t1 S1 k1 (.cons ⟨a, rfl, rfl, hx, pv⟩ .nil) q
  exact ⟨g1, [(Sum.inr a, v)], rfl, by simp, g2⟩
def fDisp2 (f g : F (PySem.Str × PyData)) : F PyData := fun d => (f d).bind fun p => (g p.2).bind fun q => some (.dict (putD [(.str p.1.1, p.1.2)] (.str q.1.1) q.1.2), q.2)
theorem do_disp2 {X : Cx} {ek ev ek2 ev2 : Expr} {pos : Pos} {tk tv tk2 tv2 : TE} {fk fv fk2 fv2 : F OV} (hk : DE M k X ek tk fk) (hv : DE M k X ev tv fv) (hk2 : DE M k X ek2 tk2 fk2) (hv2 : DE M k X ev2 tv2 fv2) :
    DO M k X (.Dict [some ek, some ek2] [ev, ev2] pos) (tDisp [(tk, tv), (tk2, tv2)]) (fDisp2 (fPair fk fv) (fPair fk2 fv2)) := by
  refine ⟨fun G => pe_disp (pps_cons (hk.pe G) (hv.pe G) (pps_cons (hk2.pe G) (hv2.pe G) pps_nil)) rfl rfl (by simp) (by simp), ?_⟩
  intro Z H s d x d' Q S e q
  simp only [fDisp2, Option.bind_eq_some_iff] at e
  obtain ⟨⟨⟨a, y⟩, d1⟩, e1, ⟨⟨a2, y2⟩, d2⟩, e1', e2⟩ := e
  cases e2
  obtain ⟨o1, dd1, o2, z1, z2, z3, z4⟩ := fPair_inv e1
  obtain ⟨o1', dd1', o2', z1', z2', z3', z4'⟩ := fPair_inv e1'
  intro p hp
  obtain ⟨zp, np⟩ := Ows_no S hp
  refine pairs_ok1 hk.ok hv.ok (S.updO zp np (no_tab hp)) z1 z2 z3 z4 fun v Z1 H1 t1 S1 k1 hx pv => ?_
  refine pairs_ok1 hk2.ok hv2.ok S1 z1' z2' z3' z4' fun v2 Z2 H2 t2 S2 k2 hx2 pv2 => ?_
  have pr : SKV M Z2 (putK [(Sum.inr a, v)] (Sum.inr a2) v2) (putD [(.str a, y)] (.str a2) y2) := SKV.put (M := M) (Z := Z2) (ks := [(Sum.inr a, v)]) (kvs := [(.str a, y)]) (.cons ⟨a, rfl, rfl, hx, pv.mono t2.zz⟩ .nil) hx2 pv2
  obtain ⟨g1, g2⟩ := disp_end (ks := mergeK [] [(Sum.inr a, v), (Sum.inr a2, v2)]) hp zp np (two t1 k1 t2) S2 (k1.trans k2) pr q
  exact ⟨g1, [(Sum.inr a, v), (Sum.inr a2, v2)], rfl, by simp, g2⟩
/-! ### a new object frozen at once -/
def fFz (f : F PyData) : F OV := fun d => (f d).bind fun p => some (.val p.1, p.2)
theorem de_fz {X : Cx} {e : Expr} {t : TE} {f : F PyData} (h : DO M k X e t f) : DE M k X e t (fFz f) := by
  refine ⟨h.pe, ?_⟩
  intro Z H s d ov d' Q S e q
  simp only [fFz, Option.bind_eq_some_iff] at e
  obtain ⟨⟨x, d1⟩, e1, e2⟩ := e
  simp only [Option.some.injEq, Prod.mk.injEq] at e2
  obtain ⟨rfl, rfl⟩ := e2
  refine h.ok Z H s d x d1 Q S e1 fun a Z1 H1 t1 S1 k1 hn hz ho no => ?_
  obtain ⟨o, hao⟩ := ho.ex
  have le1 : Le Z1 (upd Z1 a o) := fun b u e => by rw [upd_ne (ne_of_none e hz)]; exact e
  have le2 : Le (upd Z1 a o) H1 := fun b u e => by
    by_cases c : b = a
    · subst c; rw [upd_same] at e; cases e; exact hao
    · rw [upd_ne c] at e; exact S1.fz _ _ e
  have ntA : NT (upd Z1 a o) := fun b ps => by
    by_cases c : b = a
    · subst c; rw [upd_same]; exact fun w => (ho.nt hao).1 ps (Option.some.inj w)
    · rw [upd_ne c]; exact S1.nt b ps
  have S2 : Sl M (upd Z1 a o) H1 s d1 := by
    refine ⟨le2, ntA, S1.tb, S1.len, fun i y e => ?_, fun i y e => ?_, S1.dis⟩
    · obtain ⟨v, r1, r2⟩ := S1.fr i y e
      exact ⟨v, r1, r2.mono le1⟩
    · obtain ⟨b, r1, r2, r3⟩ := S1.own i y e
      have nb : b ≠ a := fun z => no ⟨i, y, e, by rw [r1, z]⟩
      exact ⟨b, r1, by rw [upd_ne nb]; exact r2, r3.mono le1 fun _ z _ => z⟩
  have t2 : Step M.T Z H (upd Z1 a o) H1 (Ows s d) := by
    refine ⟨t1.zz.trans le1, fun b u e => ?_, t1.h0, t1.he, fun _ => ntA, t1.tb⟩
    rw [upd_ne (ne_of_none e hn)]
    exact t1.zn b u e
  refine q (.ref a) _ H1 t2 S2 k1 (.val ?_)
  cases ho with
  | lst h1 h2 =>
    rw [h1] at hao; cases hao
    exact .pl (Pl.lst upd_same (h2.mono le1))
  | ds h1 h2 =>
    rw [h1] at hao; cases hao
    exact .ds ⟨a, _, _, rfl, rfl, upd_same, h2.mono le1⟩
  | dt h1 h2 =>
    rw [h1] at hao; cases hao
    exact .dt upd_same (h2.mono le1)
/-! ### dict of pairs -/
def pairsD : List PyData → Option (List (PyData × PyData))
  | [] => some []
  | .tuple [.str x, y] :: r => (pairsD r).bind fun ps => some ((.str x, y) :: ps)
  | _ :: _ => none
theorem pairs_at {Z : Hp} : ∀ {ds : List PyData} {ps : List (PyData × PyData)} {vs : List V}, pairsD ds = some ps → PlA M Z vs ds → ∃ (as : List Addr) (ks : List (Key × V)), vs = as.map V.ref ∧ Paired (fun p kv => Z p = some (.tup [kV kv.1, kv.2])) as ks ∧ SKV M Z ks ps
  | [], _, _, e, h => by cases e; cases h.nil_inv; exact ⟨[], [], rfl, .nil, .nil⟩
  | .tuple [.str x, y] :: r, _, _, e, h => by
    simp only [pairsD, Option.bind_eq_some_iff] at e
    obtain ⟨ps, e1, e2⟩ := e
    cases e2
    obtain ⟨v, vr, rfl, h1, h2⟩ := h.cons_inv
    obtain ⟨as, ks, rfl, g2, g3⟩ := pairs_at e1 h2
    obtain ⟨a, xs, rfl, h3, h4⟩ := h1.tup_inv
    obtain ⟨v1, vr, rfl, h5, h6⟩ := h4.cons_inv
    obtain ⟨v2, vr, rfl, h7, h8⟩ := h6.cons_inv
    cases h8.nil_inv
    obtain ⟨rfl, hx⟩ := h5.str_inv
    exact ⟨a :: as, (Sum.inr x, v2) :: ks, rfl, .cons h3 g2, .cons ⟨x, rfl, rfl, hx, h7⟩ g3⟩
  | .none :: _, _, _, e, _ => by simp [pairsD] at e
  | .int _ :: _, _, _, e, _ => by simp [pairsD] at e
  | .bool _ :: _, _, _, e, _ => by simp [pairsD] at e
  | .str _ :: _, _, _, e, _ => by simp [pairsD] at e
  | .list _ :: _, _, _, e, _ => by simp [pairsD] at e
  | .dict _ :: _, _, _, e, _ => by simp [pairsD] at e
  | .tuple [] :: _, _, _, e, _ => by simp [pairsD] at e
  | .tuple [_] :: _, _, _, e, _ => by simp [pairsD] at e
  | .tuple (_ :: _ :: _ :: _) :: _, _, _, e, _ => by simp [pairsD] at e
  | .tuple [.none, _] :: _, _, _, e, _ => by simp [pairsD] at e
  | .tuple [.int _, _] :: _, _, _, e, _ => by simp [pairsD] at e
  | .tuple [.bool _, _] :: _, _, _, e, _ => by simp [pairsD] at e
  | .tuple [.list _, _] :: _, _, _, e, _ => by simp [pairsD] at e
  | .tuple [.tuple _, _] :: _, _, _, e, _ => by simp [pairsD] at e
  | .tuple [.dict _, _] :: _, _, _, e, _ => by simp [pairsD] at e
def gDictP : List PyData → Option PyData := fun xs => match xs with
  | [.list ds] => (pairsD ds).bind fun ps => some (.dict (mergeD [] ps))
  | _ => none
theorem c_dictP : CalD M k (.type "dict") (fun xs H Q => ∃ (a : Addr) (ps : List Addr) (kvs : List (Key × V)), xs = [.ref a] ∧ SqL M.K H a (ps.map V.ref) ∧ Paired (fun p kv => SqT M.K H p [kV kv.1, kv.2]) ps kvs ∧
    ∀ p, H p = none → Q (.ref p) (upd H p (.dK (mergeK [] kvs)))) gDictP := by
  refine ⟨fun X G => by rw [← G.K]; exact call_dictP G.calm, ?_⟩
  intro Z H vs xs z Q f h e q
  unfold gDictP at e
  split at e
  · rename_i ds
    rw [Option.bind_eq_some_iff] at e
    obtain ⟨ps, e1, e2⟩ := e
    cases e2
    cases h with
    | cons h h' =>
      cases h'
      obtain ⟨a, ws, rfl, h1, h2⟩ := h.lst f
      obtain ⟨as, ks, rfl, g2, g3⟩ := pairs_at e1 h2
      refine ⟨a, as, ks, rfl, SqL.of h1, paired_mono g2 (fun p kv z => SqT.of (f _ _ z)), fun p hp => ?_⟩
      have zp : Z p = none := by
        cases c : Z p with
        | none => rfl
        | some o => rw [f _ _ c] at hp; cases hp
      have le1 : Le Z (upd Z p (.dK (mergeK [] ks))) := fun b u e => by rw [upd_ne (ne_of_none e zp)]; exact e
      exact q _ _ _ (Step.new f hp) (le_upd f) (.ds ⟨p, _, _, rfl, rfl, upd_same, (SKV.merge g3 .nil).mono le1⟩)
  · cases e
/-! ### update -/
def rUpd : V → List V → Hp → VK → Prop := fun x xs H Q => ∃ (a b : Addr) (ks ks2 : List (Key × V)), x = .ref a ∧ xs = [.ref b] ∧ a ≠ b ∧ H a = some (.dK ks) ∧ H b = some (.dK ks2) ∧ ks.length + ks2.length ≤ sizeLine ∧ Q .non (upd H a (.dK (mergeK ks ks2)))
theorem mt_upd {X : Cx} : MtR X "dict.update" rUpd := by
  intro pins s σ H x xs v us Q I rx rv h
  obtain ⟨a, b, ks, ks2, rfl, rfl, hne, h1, h2, hz, q⟩ := h
  cases rx
  obtain ⟨u, rfl, ru⟩ := vals1 rv
  cases ru
  obtain ⟨z1, lo1, vs1, r1, d1⟩ := dk_of I.hok h1
  obtain ⟨z2, lo2, vs2, r2, d2⟩ := dk_of I.hok h2
  refine call_meetsIn PySem.F.slot_dict_update d1.typeIs PySem.F.entry_dict_update (PySem.F.args_dict_update_2 _ _) (meets_dict_update (mixKind X.prog X.w) a b hne lo2)
    ⟨vs1, vs2, d1, d2, by rw [← r1.length, ← r2.length]; exact hz, fun h' hm _ hs => ?_⟩
  have he : ∃ q, h'.get? a = some q := let ⟨q, _, _, hq, _⟩ := hm; ⟨q, hq⟩
  have hl := length_mergeK ks2 ks
  exact ⟨.non, _, d_write (t' := s.toks) I (by rw [h1]; trivial) hs he (dk_new (by omega) lo1 (r2.merge r1) hm), rfl, q⟩
def fUpd (i : Nat) (f : F OV) : F Fl := fun d => (isOS d i).bind fun _ => (f d).bind fun p => match fzO p.1 with
  | some (.dict more) => if textK more = true then (isOS p.2 i).bind fun kvs => if kvs.length + more.length ≤ sizeLine then some (.nx, p.2.set i (some (.own (.dict (mergeD kvs more))))) else none else none
  | _ => none
theorem ok_update {te : TE} {f : F OV} (i : Nat) (h : EOk M te f) : SOk M (tDrop (tBM M.K "dict" rUpd (tVar i) (tCons te tNil))) (fUpd i f) := by
  intro Z0 H0 P0 Z H s d fl d' D E e q
  simp only [fUpd, Option.bind_eq_some_iff] at e
  obtain ⟨kv0, e0, ⟨o, d1⟩, e1, e2⟩ := e
  dsimp only at e2
  split at e2
  case h_2 => cases e2
  rename_i more hm
  split at e2
  case isFalse => cases e2
  rename_i ht
  rw [Option.bind_eq_some_iff] at e2
  obtain ⟨kvs, e3, e4⟩ := e2
  split at e4
  case isFalse => cases e4
  rename_i hz
  cases e4
  obtain ⟨hi0, _, a, ks0, r1, r2, r3, r4⟩ := E.sl.ownS e0
  refine ⟨.ref a, r1, .inr (.inr (.inl ⟨rfl, .inl ⟨ks0, r3⟩⟩)), ?_⟩
  refine h Z H s d o d1 _ E.sl e1 fun v Z1 H1 t1 S1 k1 ro => ?_
  obtain ⟨hi, _, a', ks, s1, s2, s3, s4⟩ := S1.ownS e3
  rw [r1] at s1
  cases s1
  obtain ⟨b, ks2, rfl, g1, g2⟩ := RD.sdict (.inl (ro.fz hm)) S1.fz ht
  have hne : a ≠ b := by
    rintro rfl
    have gen : ∀ x, FD M Z1 (.ref a) x → x = .dict more → ∃ o, Z1 a = some o := by
      intro x q e
      cases q with
      | pl q => subst e; obtain ⟨q, _⟩ := q; cases q
      | ds q => obtain ⟨a', ks', kvs', e1, e2, e3, e4⟩ := q; cases e1; exact ⟨_, e3⟩
      | dt h1 _ => exact ⟨_, h1⟩
      | li h1 _ _ _ => exact ⟨_, h1⟩
      | sc h1 => cases e; simp [textK] at ht
    obtain ⟨o', z⟩ := gen _ (ro.fz hm) rfl
    rw [s2] at z; cases z
  refine ⟨a, b, ks, ks2, rfl, rfl, hne, s3, g1, by rw [paired_len s4, paired_len g2]; exact hz, ?_⟩
  obtain ⟨t2, S2, k2⟩ := S1.wr hi r1 s2 (OwnAt.ds upd_same (SKV.merge g2 s4))
  exact q Z1 _ s t1.zz ((E.exp t1 S1 k1).exp t2 S2 k2)
theorem ds_update (i : Nat) {X : Cx} {x : Str} {e : Expr} {te : TE} {f : F OV} {p p2 p3 pos : Pos} (h : DE M k X e te f) (hN : X.N[i]? = some x := by rfl) (hv : Vis X.env.scope x := by first | exact Or.inl rfl | exact Or.inr (Or.inl rfl) | exact Or.inr (Or.inr rfl)) (hd : (x == ("__debug__" : Str)) = false := by decide)
    (hcd : (x == ("__classdict__" : Str)) = false := by decide) (hpe : PE X (.Name x p) (tVar i) → PA X [e] (tCons te tNil) → PE X (.Call (.Attribute (.Name x p) "update" p2) [e] [] p3) (tBM X.K "dict" rUpd (tVar i) (tCons te tNil)) := by intro h1 h2; exact pe_bm PySem.F.plainAttrs_dict PySem.F.slot_dict_update PySem.F.type_dict_update mt_upd h1 h2)
    (he : starEach [e] X.env = (false, eval e X.env) :: starEach [] X.env := by rfl) (hs : swapsWith (.Call (.Attribute (.Name x p) "update" p2) [e] [] p3) none pos.line X.env = pure false := by rfl) :
    DS M k X (.Expr (.Call (.Attribute (.Name x p) "update" p2) [e] [] p3) pos) (tDrop (tBM M.K "dict" rUpd (tVar i) (tCons te tNil))) (fUpd i f) :=
  ⟨fun G => by rw [← G.K]; exact ps_expr (hpe (pv i hN hv hd hcd) (pa_cons (h.pe G) pa_nil he)) hs, ok_update i h.ok⟩
end
end DL

set_option maxRecDepth 100000
set_option linter.all false
/-! DL16: sorted(set(xs)) of texts. -/
namespace DL
open PySem L2 PySem.W PySem.Froz PyProof.Rows
/-- at a stands a set of the texts l, however laid -/
def SetL (P : Program) (w : World) (h : Heap) (a : Addr) (l : List PySem.Str) : Prop :=
  ∃ D : PySem.Froz.SD, h.get? a = some (sObj "set" D) ∧ TxOk P w D l ∧ l.Nodup ∧ Ris D.2.2.place.toList ∧ (w.params.followText "set-order" = true ∨ D.2.2.led = true)
theorem tailTx_ok {ep : Nat} {es1 : Array (Int × Value)} {t2 : SetTable} {d : Bool} (r : Ris t2.place.toList) : Ris (tailTx ep es1 t2 d).2.2.place.toList ∧ (tailTx ep es1 t2 d).2.2.led = t2.led := by
  unfold tailTx
  split
  · exact ⟨relayAll_ris _ _ _, relayAll_led _ _ _⟩
  · exact ⟨r, rfl⟩
theorem addTx_keep {h : Int} {v : Value} {D : PySem.Froz.SD} (r : Ris D.2.2.place.toList) : Ris (addTx h v D).2.2.place.toList ∧ (addTx h v D).2.2.led = D.2.2.led := by
  have r1 := layNew_ris D.2.2 D.1 h v r
  have l1 := layNew_led D.2.2 D.1 h v
  unfold addTx
  by_cases c : (layNew D.2.2 D.1 h v).2.1.plain = true
  · rw [if_pos c]
    obtain ⟨a, b⟩ := tailTx_ok (ep := D.2.1) (es1 := (layNew D.2.2 D.1 h v).1) (t2 := { (layNew D.2.2 D.1 h v).2.1 with plain := false }) (d := (layNew D.2.2 D.1 h v).2.2.1) r1
    exact ⟨a, b.trans l1⟩
  · rw [if_neg c]
    obtain ⟨a, b⟩ := tailTx_ok (ep := D.2.1) (es1 := (layNew D.2.2 D.1 h v).1) (t2 := (layNew D.2.2 D.1 h v).2.1) (d := (layNew D.2.2 D.1 h v).2.2.1) r1
    exact ⟨a, b.trans l1⟩
section
variable {P : Program} {w : World} {A : Around} {E : Value → Shared → Prop} {s : Shared}
/-- a text that is in it already -/
theorem old_x {a : Addr} {T : String} {D : PySem.Froz.SD} {l : List PySem.Str} {k : PySem.Str} {u : Tok} {Q : Bool → Shared → Prop} (ho : s.heap.get? a = some (sObj T D)) (F : TxOk P w D l) (hk : k ∈ l) (hb : l.length < scanBound)
    (h : Q false s) : wpAny (model P w) A (setAddHashed a (.str k u) (hashStr w k)) Q E s := by
  obtain ⟨es, ep, t⟩ := D
  have hd : (sObj T (es, ep, t)).data = .set es ep t := rfl
  have fit : t.fits es.size = true := F.fit
  have els : ElemsOf (strKind P w) es.toList := F.el
  have sz : es.size < scanBound := by have := F.sz; dsimp only at this; omega
  obtain ⟨e, he, hi⟩ := (F.mem k).mp hk
  have some1 : ∃ j, List.findIdx? (fun e => (strKind P w).is k e.2) es.toList = some j := by
    cases c : List.findIdx? (fun e => (strKind P w).is k e.2) es.toList with
    | some j => exact ⟨j, rfl⟩
    | none =>
      have := List.findIdx?_eq_none_iff.mp c e he
      rw [hi] at this; cases this
  obtain ⟨j, hj⟩ := some1
  unfold setAddHashed setAddHashedIn
  refine wpAny_holding (wpAny_bind (wpAny_setState_of ho hd fit ?_))
  dsimp only
  rw [byScan_of rfl sz els, if_pos rfl]
  unfold setAddByScan
  refine wpAny_bind (wpAny_bind (wpAny_rule (wpAny_bind (wpAny_setScan_of (knd := strKind P w) (k := k) (is_str k u) ho hd fit els ?_))))
  rw [hj]
  exact wpAny_pure (wpAny_pure h)
theorem setL_add {a : Addr} {l : List PySem.Str} {k : PySem.Str} {u : Tok} {Q : Bool → Shared → Prop} (S : SetL P w s.heap a l) (hb : l.length + 1 < scanBound)
    (h : ∀ b h' l', Heap.SameBut a s.heap h' → SetL P w h' a l' → (∀ x, x ∈ l' ↔ x ∈ l ∨ x = k) → l'.length ≤ l.length + 1 → Q b { s with heap := h' }) : wpAny (model P w) A (setAddHashed a (.str k u) (hashStr w k)) Q E s := by
  obtain ⟨D, g1, g2, g3, g4, g5⟩ := S
  by_cases c : k ∈ l
  · refine old_x g1 g2 c (by omega) ?_
    exact h false s.heap l (Heap.SameBut.refl a s.heap) ⟨D, g1, g2, g3, g4, g5⟩ (fun x => ⟨.inl, fun z => z.elim id fun e => by rw [e]; exact c⟩) (Nat.le_succ _)
  · refine add_x g1 g2 c hb ?_
    refine h true _ (k :: l) (Heap.SameBut.update s.heap a _) ⟨addTx (hashStr w k) (.str k u) D, get_upd (sObj "set" (addTx (hashStr w k) (.str k u) D)) g1 rfl, add_ok u g2, List.nodup_cons.mpr ⟨c, g3⟩, (addTx_keep g4).1, ?_⟩ (fun x => ?_) (by simp)
    · rw [(addTx_keep g4).2]; exact g5
    · rw [List.mem_cons]; exact Or.comm
theorem setL_loop {I : Addr} {fp wr : List Addr} {G : Array GenState → Array GenState → Prop} {n : Nat} {Pv : Nat → Value → Prop} {St : Nat → Shared → Prop} {R : Result → Shared → Prop}
    (W : WalksS P w A.in1 I fp wr G n Pv St) (S : Addr) (no : S ∉ fp) (xs : List PySem.Str) (hn : n = xs.length) (hb : xs.length + 1 < scanBound) (hv : ∀ i v, Pv i v → ∃ x t, xs[i]? = some x ∧ v = .str x t) :
    ∀ (k i : Nat) (s : Shared), n - i = k → i ≤ n → St i s → (∃ l, SetL P w s.heap S l ∧ l.length ≤ i ∧ ∀ x, x ∈ l ↔ x ∈ xs.take i) →
      (∀ s' l, Moved (S :: wr) G s s' → SetL P w s'.heap S l → (∀ x, x ∈ l ↔ x ∈ xs) → R (.ok (.ret .none)) s') → codeAny (model P w) A (.builtin "set.update.loop" ⟨[.ref S, .ref I], []⟩) R s := by
  have nw : S ∉ wr := fun h => no (W.sub _ h)
  have sub : ∀ b ∈ wr, b ∈ S :: wr := fun b h => List.mem_cons_of_mem _ h
  have keepS : ∀ {s s' : Shared} {l : List PySem.Str}, SetL P w s.heap S l → (∀ o, s.heap.get? S = some o → s'.heap.get? S = some o) → SetL P w s'.heap S l := fun ⟨D, g, r⟩ k => ⟨D, k _ g, r⟩
  intro k
  induction k with
  | zero =>
    intro i s e hi st ⟨l, L, l1, l2⟩ hR
    have ei : i = n := by omega
    subst ei
    refine codeAny_builtin PyProof.Rows.F.entry_set_update_loop ?_
    rw [Around.under_plainId PyProof.Rows.F.plain_set_update_loop _]
    show wpAny _ A.in1 (pyNext (.ref I) >>= _) _ _ s
    refine wpAny_bind (W.done s _ _ st fun s' mv => ?_)
    show wpAny _ A.in1 (ret Value.none) _ _ s'
    refine wpAny_pure (hR s' l (mv.mono sub) (keepS L fun o z => mv.heap S o nw z) ?_)
    rw [List.take_of_length_le (by omega)] at l2
    exact l2
  | succ k ih =>
    intro i s e hi st ⟨l, L, l1, l2⟩ hR
    have lt : i < n := by omega
    refine codeAny_builtin PyProof.Rows.F.entry_set_update_loop ?_
    rw [Around.under_plainId PyProof.Rows.F.plain_set_update_loop _]
    show wpAny _ A.in1 (pyNext (.ref I) >>= _) _ _ s
    refine wpAny_bind (W.item i s _ _ lt st fun v s' hP st' mv => ?_)
    obtain ⟨z, t, hz, rfl⟩ := hv i v hP
    have L' := keepS (s' := s') L fun o z => mv.heap S o nw z
    show wpAny _ A.in1 (holding [Value.str z t] (setAdd S (.str z t)) >>= _) _ _ s'
    refine wpAny_bind (wpAny_holding ?_)
    unfold setAdd
    refine wpAny_holding (wpAny_bind ((strKind P w).pyHash (k := z) (is_str z t) ?_))
    refine setL_add (s := { s' with toks := s'.toks + 1 }) L' (by omega) fun b h' l' sb L2 m2 n2 => ?_
    refine wpAny_pure ⟨plainId_quiet PyProof.Rows.F.plain_set_update_loop _, ih (i + 1) _ (by omega) lt (W.frame _ s' _ _ st' (Nat.le_succ _) fun c hc o q => ?_) ⟨l', L2, by omega, fun x => ?_⟩ fun s'' l3 mv' L3 m3 => ?_⟩
    · rw [sb.2 c fun z : c = S => no (by rw [← z]; exact hc)]; exact q
    · rw [m2, l2, List.take_add_one, hz]; simp
    · refine hR s'' l3 (Moved.trans W.gtrans ((mv.mono sub).then_heap (Nat.le_succ _) fun c o hc q => ?_) mv') L3 m3
      rw [sb.2 c fun z : c = S => hc (by rw [z]; exact List.mem_cons_self)]; exact q
end
end DL

set_option maxRecDepth 100000
set_option linter.all false
/-! DL17: set(xs) of a list of texts, sorted. -/
namespace DL
open PySem L2 PySem.W PySem.Froz PyProof.Rows
section
variable {P : Program} {w : World} {A : Around} {E : Value → Shared → Prop} {s : Shared}
theorem setL_new {h : Heap} {a : Addr} (ho : h.get? a = some { cls := .type "set", dict := none, data := .set #[] 0 (.fresh 0 0 (!w.params.followText "set-order")) }) : SetL P w h a [] := by
  refine ⟨(#[], 0, .fresh 0 0 (!w.params.followText "set-order")), ho, TxOk.nil rfl, List.nodup_nil, List.Pairwise.nil, ?_⟩
  show _ ∨ (!w.params.followText "set-order") = true
  cases w.params.followText "set-order"
  · exact .inr rfl
  · exact .inl rfl
set_option maxHeartbeats 3200000 in
theorem setL_call {l : Addr} {its : Array Value} (xs : List PySem.Str) {Q : Value → Shared → Prop} (hA : A.handled = none) (hL : s.heap.IsList l its) (hv : ∀ (i : Nat) (v : Value), its[i]? = some v → ∃ x t, xs[i]? = some x ∧ v = Value.str x t) (hn : its.size = xs.length) (hb : xs.length + 1 < scanBound)
    (h : ∀ (h' : Heap) (tk : Nat) (m : List PySem.Str), SetL P w h' s.heap.objs.size m → (∀ x, x ∈ m ↔ x ∈ xs) → (∀ b o, s.heap.get? b = some o → h'.get? b = some o) → Q (.ref s.heap.objs.size) { s with heap := h', toks := tk }) :
    wpAny (model P w) A (call (.type "set") [.ref l]) Q E s := by
  obtain ⟨c0, tl0, mro0⟩ := PySem.F.called_set.mro
  have made0 := PySem.F.called_set.made
  have sub0 := PySem.F.called_set.sub
  refine wpAny_call (codeAny_of_tree ?_)
  show wpAny _ _ (callAny (.type "set") _) _ _ _
  refine wpAny_pure ⟨Code.quiet_builtin _ (by decide +kernel), codeAny_builtin PySem.F.entry_type_call ?_⟩
  rw [Around.under_plain (weight_type_call_type "set" [.ref l] []) rfl]
  have no0 := PySem.F.called_set.notType
  have can0 := PySem.F.called_set.canCreate
  have tc0 := PySem.F.typeCall_set_1 (.ref l)
  repeat (any_goals (first | assumption | wp_step))
  refine codeAny_mono (code_set_led1 (.ref l) (E := E) (Q₁ := fun obj s₁ => obj = .ref s.heap.objs.size ∧ s₁ = { s with heap := s.heap.push { cls := .type "set", dict := none, data := .set #[] 0 (.fresh 0 0 (!w.params.followText "set-order")) } }) ⟨rfl, rfl⟩) fun r s₁ hr => ?_
  cases r with
  | error e => exact hr
  | ok fl =>
    cases fl with
    | ret obj =>
      obtain ⟨rfl, rfl⟩ := hr
      have hS : (s.heap.push { cls := .type "set", dict := none, data := .set #[] 0 (.fresh 0 0 (!w.params.followText "set-order")) }).get? s.heap.objs.size = some { cls := .type "set", dict := none, data := .set #[] 0 (.fresh 0 0 (!w.params.followText "set-order")) } := Heap.get?_push_size _ rfl
      have hT : Shared.TypeIs { s with heap := s.heap.push { cls := .type "set", dict := none, data := .set #[] 0 (.fresh 0 0 (!w.params.followText "set-order")) } } (.ref s.heap.objs.size) "set" := ⟨_, hS, rfl⟩
      have li0 := PySem.F.called_set.init.lookup
      have bi0 := PySem.F.called_set.init.bind (.ref s.heap.objs.size)
      repeat (any_goals (first | assumption | wp_step))
      refine codeAny_mono (codeAny_call_builtin (R := wants (fun r s₂ => r = .none ∧ ∃ h' tk m, s₂ = { s with heap := h', toks := tk } ∧ SetL P w h' s.heap.objs.size m ∧ (∀ x, x ∈ m ↔ x ∈ xs) ∧
          (∀ b o, s.heap.get? b = some o → h'.get? b = some o)) E) PySem.F.called_set.init.plain PySem.F.entry_set_init (check_set_init_1 hT ?_)) fun r₂ s₂ hr₂ => ?_
      · obtain ⟨⟨ocls, odict, odata, oslots⟩, hol, hcl, nl, hdl⟩ := hL
        simp only at hcl hdl
        subst hcl; subst hdl
        have hol' : (s.heap.push { cls := .type "set", dict := none, data := .set #[] 0 (.fresh 0 0 (!w.params.followText "set-order")) }).get? l = some { cls := .type "list", dict := odict, data := .seq its nl, slots := oslots } := Heap.get?_push_of_some _ hol
        have f1 := PySem.F.sub_list_set
        have f2 := PySem.F.sub_list_frozenset
        have f3 : (Value.type "list" == Value.type "dict") = false := by decide
        have hl1 : (s.heap.push { cls := .type "set", dict := none, data := .set #[] 0 (.fresh 0 0 (!w.params.followText "set-order")) }).IsList l its := ⟨_, hol', rfl, nl, rfl⟩
        unfold Builtin.«set.__init__» noKeywords Builtin.Frozenset.updateFrom
        generalize hPI : pyIter = PI
        wp_walk
        subst hPI
        refine wpAny_pyIter_list hl1 ?_
        refine wpAny_bind (wpAny_runValue ?_)
        have lS : l < s.heap.objs.size := Heap.lt_size hol
        have hA3 : A.in1.in1.in1.handled = none := by simp [hA]
        have z1 : (s.heap.push { cls := .type "set", dict := none, data := .set #[] 0 (.fresh 0 0 (!w.params.followText "set-order")) }).objs.size = s.heap.objs.size + 1 := Heap.size_push ..
        have neI : l ≠ (s.heap.push { cls := .type "set", dict := none, data := .set #[] 0 (.fresh 0 0 (!w.params.followText "set-order")) }).objs.size := by rw [z1]; exact Nat.ne_of_lt (Nat.lt_succ_of_lt lS)
        have noS : s.heap.objs.size ∉ [(s.heap.push { cls := .type "set", dict := none, data := .set #[] 0 (.fresh 0 0 (!w.params.followText "set-order")) }).objs.size, l] := by
          rw [z1]; simp only [List.mem_cons, List.not_mem_nil, or_false, not_or]
          exact ⟨Nat.ne_of_lt (Nat.lt_succ_self _), Nat.ne_of_gt lS⟩
        refine setL_loop ((Walks.list hA3 _ l neI its).toS) s.heap.objs.size noS xs hn hb hv (its.size - 0) 0 _ (by omega) (Nat.zero_le _) ⟨⟨_, Heap.get?_push_size _ rfl, rfl, rfl⟩, hl1.push _⟩ ⟨[], setL_new ?_, Nat.le_refl 0, fun x => by simp⟩ fun s' m mv hm m2 => ?_
        · exact Heap.get?_push_of_some _ hS
        · obtain ⟨h', g2, d', tk', os'⟩ := s'
          have eg : g2 = s.gens := mv.gens
          have ed : d' = s.drawn := mv.drawn
          have eo : os' = s.os := mv.os
          subst eg; subst ed; subst eo
          show wpAny _ _ _ _ _ _
          refine wpAny_pure ?_
          show wpAny _ _ (ret Value.none) _ _ _
          refine wpAny_pure ⟨rfl, h', tk', m, rfl, hm, m2, fun b o e => ?_⟩
          have b0 : b < s.heap.objs.size := Heap.lt_size e
          refine mv.heap b o ?_ (Heap.get?_push_of_some _ (Heap.get?_push_of_some _ e))
          rw [z1]; simp only [List.mem_cons, List.not_mem_nil, or_false, not_or]
          exact ⟨Nat.ne_of_lt b0, Nat.ne_of_lt (Nat.lt_succ_of_lt b0)⟩
      · cases r₂ with
        | error e => exact hr₂
        | ok fl₂ =>
          cases fl₂ with
          | ret r =>
            obtain ⟨rfl, h', tk, m, rfl, hm, m2, hk'⟩ := hr₂
            repeat (any_goals (first | assumption | wp_step))
            exact h _ _ m hm m2 hk'
          | _ => exact hr₂.elim
    | _ => exact hr.elim
end
end DL

set_option maxRecDepth 100000
set_option linter.all false
/-! DL18: sorted(set(xs)) over slots of data. -/
namespace DL
open PySem L2 PySem.W PySem.SeqAt PyProof.Rows
/-! ### texts, each once -/
def addU (l : List PyData) (x : PyData) : List PyData := if (l.any fun y => PyData.eqv y x) = true then l else l ++ [x]
def uniqD (l : List PyData) : List PyData := l.foldl addU []
theorem tx_eqv {a b : PyData} (h : isTx a = true) (h' : isTx b = true) : PyData.eqv a b = true ↔ a = b := by
  cases a <;> simp [isTx] at h
  cases b <;> simp [isTx] at h'
  rw [eqv_str]
  simp
theorem addU_ok {l : List PyData} {x : PyData} (h : l.all isTx = true) (n : l.Nodup) (hx : isTx x = true) : (addU l x).all isTx = true ∧ (addU l x).Nodup ∧ ∀ y, y ∈ addU l x ↔ y ∈ l ∨ y = x := by
  have hm : (l.any fun y => PyData.eqv y x) = true ↔ x ∈ l := by
    rw [List.any_eq_true]
    constructor
    · rintro ⟨y, hy, e⟩
      rw [tx_eqv (List.all_eq_true.mp h y hy) hx] at e
      rw [← e]; exact hy
    · intro hy
      exact ⟨x, hy, (tx_eqv hx hx).mpr rfl⟩
  unfold addU
  split
  · rename_i c
    exact ⟨h, n, fun y => ⟨.inl, fun z => z.elim id fun e => by rw [e]; exact hm.mp c⟩⟩
  · rename_i c
    have c' : x ∉ l := fun z => c (hm.mpr z)
    refine ⟨by rw [List.all_append, h]; simp [hx], ?_, fun y => by simp [List.mem_append]⟩
    rw [List.nodup_append]
    exact ⟨n, by simp, fun a ha b hb => by rw [List.mem_singleton] at hb; rw [hb]; exact fun z => c' (by rw [← z]; exact ha)⟩
theorem uniq_go : ∀ (xs l : List PyData), l.all isTx = true → l.Nodup → xs.all isTx = true → (xs.foldl addU l).all isTx = true ∧ (xs.foldl addU l).Nodup ∧ ∀ y, y ∈ xs.foldl addU l ↔ y ∈ l ∨ y ∈ xs
  | [], l, h, n, _ => ⟨h, n, fun y => by simp⟩
  | x :: xs, l, h, n, hx => by
    simp only [List.all_cons, Bool.and_eq_true] at hx
    obtain ⟨a, b, c⟩ := addU_ok h n hx.1
    obtain ⟨d, e, f⟩ := uniq_go xs (addU l x) a b hx.2
    exact ⟨d, e, fun y => by rw [List.foldl_cons, f, c, List.mem_cons]; exact or_assoc⟩
theorem uniq_ok {xs : List PyData} (h : xs.all isTx = true) : (uniqD xs).all isTx = true ∧ (uniqD xs).Nodup ∧ ∀ y, y ∈ uniqD xs ↔ y ∈ xs := by
  obtain ⟨a, b, c⟩ := uniq_go xs [] rfl List.nodup_nil h
  exact ⟨a, b, fun y => by rw [uniqD, c]; simp⟩
theorem tx_le {a b : PyData} (h : isTx a = true) (h' : isTx b = true) (e : dataLe false id a b = true) (e' : dataLe false id b a = true) : a = b := by
  cases a <;> simp [isTx] at h
  cases b <;> simp [isTx] at h'
  rename_i x y
  rw [dataLe_eq] at e e'
  simp only [id, cond_false, dataLt_str, Bool.not_eq_true', decide_eq_false_iff_not] at e e'
  have : x.cps.toList = y.cps.toList := by
    rcases Nat.lt_trichotomy 0 0 with _ | _ | _
    · omega
    · exact List.le_antisymm (List.not_lt.mp e) (List.not_lt.mp e')
    · omega
  rw [str_of_cps this]
theorem sortD_perm (xs : List PyData) : (sortD xs).Perm xs := List.mergeSort_perm _ _
theorem sortD_sorted (xs : List PyData) : (sortD xs).Pairwise fun a b => dataLe false id a b = true := sort_pairwise (sortLe_total (listOrd itemOrd) false fun b : PyData => keyToks b) xs
theorem sorted_eq : ∀ {l m : List PyData}, l.Perm m → l.all isTx = true → l.Pairwise (fun a b => dataLe false id a b = true) → m.Pairwise (fun a b => dataLe false id a b = true) → l = m
  | [], m, p, _, _, _ => (List.Perm.eq_nil p.symm).symm
  | x :: l, [], p, _, _, _ => absurd p.length_eq (by simp)
  | x :: l, y :: m, p, h, hl, hm => by
    have hm' : (y :: m).all isTx = true := List.all_eq_true.mpr fun z hz => List.all_eq_true.mp h z (p.mem_iff.mpr hz)
    have refl : ∀ z : PyData, dataLe false id z z = true := fun z => (sortLe_total (listOrd itemOrd) false fun b : PyData => keyToks b).refl z
    have e1 : dataLe false id x y = true := by
      rcases List.mem_cons.mp (p.mem_iff.mpr (List.mem_cons_self (a := y) (l := m))) with e | hy
      · rw [e]; exact refl x
      · exact (List.pairwise_cons.mp hl).1 y hy
    have e2 : dataLe false id y x = true := by
      rcases List.mem_cons.mp (p.mem_iff.mp (List.mem_cons_self (a := x) (l := l))) with e | hy
      · rw [e]; exact refl y
      · exact (List.pairwise_cons.mp hm).1 x hy
    simp only [List.all_cons, Bool.and_eq_true] at h hm'
    have e := tx_le h.1 hm'.1 e1 e2
    subst e
    rw [sorted_eq p.cons_inv h.2 (List.pairwise_cons.mp hl).2 (List.pairwise_cons.mp hm).2]
theorem sortD_same {xs ys : List PyData} (h : xs.all isTx = true) (p : xs.Perm ys) : sortD xs = sortD ys :=
  sorted_eq ((sortD_perm xs).trans (p.trans (sortD_perm ys).symm)) (List.all_eq_true.mpr fun z hz => List.all_eq_true.mp h z ((sortD_perm xs).mem_iff.mp hz)) (sortD_sorted xs) (sortD_sorted ys)
theorem perm_of {α : Type} [DecidableEq α] : ∀ {l m : List α}, l.Nodup → (∀ x ∈ l, x ∈ m) → m.length ≤ l.length → l.Perm m
  | [], m, _, _, h => by
    have : m = [] := List.eq_nil_of_length_eq_zero (by simpa using h)
    rw [this]
  | x :: l, m, n, s, h => by
    have hx := s x (List.mem_cons_self ..)
    have p := List.perm_cons_erase hx
    rw [List.nodup_cons] at n
    refine (List.Perm.cons x (perm_of n.2 (fun y hy => ?_) ?_)).trans p.symm
    · have ne : y ≠ x := fun z => n.1 (by rw [← z]; exact hy)
      exact (List.mem_erase_of_ne ne).mpr (s y (List.mem_cons_of_mem _ hy))
    · have := p.length_eq
      simp only [List.length_cons] at this h
      omega
def txt : Value → PySem.Str
  | .str x _ => x
  | _ => Str.empty
section
variable {M : Me} {k : Nat}
def setS (M : Me) (a : Addr) (m : List PySem.Str) : HO := .ext fun h => SetL M.P M.w h a m
def rSetS (M : Me) : List V → Hp → VK → Prop := fun vs H Q => ∃ (a : Addr) (xs : List PySem.Str), vs = [.ref a] ∧ SqL M.K H a (xs.map V.str) ∧ xs.length + 1 < scanBound ∧ ∀ (p : Addr) (m : List PySem.Str), H p = none → m.Nodup → (∀ x, x ∈ m ↔ x ∈ xs) → Q (.ref p) (upd H p (setS M p m))
theorem cr_setS {X : Cx} (G : Good M k X) : CallR X (.type "set") (rSetS M) := by
  intro pins s σ H vs us Q I r h
  obtain ⟨a, xs, rfl, h1, hb, q⟩ := h
  obtain ⟨u, rfl, ru⟩ := vals1 r
  cases ru
  rw [← G.K] at h1
  obtain ⟨its, rv, hl, hz⟩ := I.list h1
  have hL : its.toArray.size = xs.length := by rw [List.size_toArray, ← rv.length, List.length_map]
  refine setL_call (P := X.prog) (w := X.w) xs (I.ok.hd G.calm) hl.isList (fun i v e => ?_) hL hb fun h' tk m hm m2 hk => ?_
  · have e' : its[i]? = some v := by simpa using e
    have hi : i < xs.length := by
      have := (List.getElem?_eq_some_iff.mp e').1
      rw [← rv.length, List.length_map] at this; exact this
    obtain ⟨u, e2, t, e3⟩ := Vals.get rv (show (xs.map V.str)[i]? = some (V.str xs[i]) by rw [List.getElem?_map, List.getElem?_eq_getElem hi]; rfl)
    rw [e'] at e2; cases e2
    exact ⟨_, t, List.getElem?_eq_getElem hi, e3⟩
  · have hn := I.hok.fresh (Nat.le_refl s.heap.objs.size)
    rw [G.prog, G.w] at hm
    obtain ⟨D, g1, _, g2, _⟩ := id hm
    refine ⟨.ref s.heap.objs.size, _, I.laid (t' := tk) (o := setS M s.heap.objs.size m) hk (Nat.le_refl _) ⟨hm, ⟨_, g1⟩, fun h1 h2 q' k' => ?_⟩, rfl, q _ m hn g2 m2⟩
    obtain ⟨D', g1', g2'⟩ := q'
    exact ⟨D', k' _ g1', g2'⟩
def rSortL (M : Me) : List V → Hp → VK → Prop := fun vs H Q => ∃ (a : Addr) (m : List PySem.Str) (Z : Hp), vs = [.ref a] ∧ H a = some (setS M a m) ∧ Le Z H ∧ m.length < scanBound ∧ (∀ x ∈ m, PyData.strOk x = true) ∧ ∀ ws p, PlA M Z ws (sortD (m.map .str)) → H p = none → Q (.ref p) (upd H p (.lst ws))
theorem cr_sortL {X : Cx} (G : Good M k X) : CallR X (.builtin "sorted") (rSortL M) := by
  intro pins s σ H vs us Q I r h
  obtain ⟨a, m, Z, rfl, h1, f, hb, hs, q⟩ := h
  obtain ⟨u, rfl, ru⟩ := vals1 r
  cases ru
  have S0 : SetL M.P M.w s.heap a m := (I.hok a _ h1).1
  obtain ⟨⟨es, ep, t⟩, g1, g2, g3, g4, g5⟩ := S0
  have sz : es.size = m.length := g2.sz
  -- the texts of the entries
  have tex : ∀ v ∈ es.toList.map (·.2), ∃ x u, v = .str x u ∧ x ∈ m := fun v hv => by
    obtain ⟨e, he, rfl⟩ := List.mem_map.mp hv
    obtain ⟨⟨y, hy, _⟩, _⟩ := g2.el e he
    obtain ⟨t, ht⟩ := Value.isStrOf_shape hy
    exact ⟨y, t, ht, (g2.mem y).mpr ⟨e, he, hy⟩⟩
  have cover : ∀ x ∈ m, x ∈ (es.toList.map (·.2)).map txt := fun x hx => by
    obtain ⟨e, he, hy⟩ := (g2.mem x).mp hx
    obtain ⟨t, ht⟩ := Value.isStrOf_shape hy
    exact List.mem_map.mpr ⟨e.2, List.mem_map.mpr ⟨e, he, rfl⟩, by rw [ht]; rfl⟩
  have pm : m.Perm ((es.toList.map (·.2)).map txt) := perm_of g3 cover (by simp [sz])
  refine sorted_gen (ds := m.map .str) G I f (fun R E h => ?_) q
  refine collect_set (P := X.prog) (w := X.w) (A := X.A.in1) (I.ok.hd G.calm) ⟨_, g1, rfl, rfl⟩ g2.fit (by rw [sz]; exact hb) g4 (by rw [G.w]; exact g5) fun s' out k1 _ k2 k3 po => ?_
  have J : Inv X pins σ H s' := I.call' (ch := []) k3 (Un.kept k1) (I.hok.kept k1) (by rw [k2]; exact I.bare) (fun _ z => nomatch z)
  have tx : ∀ v ∈ out, ∃ x u, v = .str x u ∧ x ∈ m := fun v hv => tex v (po.mem_iff.mp hv)
  have p1 : ((out.map txt).map PyData.str).Perm (m.map .str) := (((po.map txt).trans pm.symm).map PyData.str)
  have all1 : ((out.map txt).map PyData.str).all isTx = true := by
    rw [List.all_eq_true]
    intro z hz
    obtain ⟨x, _, rfl⟩ := List.mem_map.mp hz
    rfl
  refine h s' out ((out.map txt).map PyData.str) J ?_ ?_ (sortD_same all1 p1)
  · clear p1 all1 po
    revert tx
    induction out with
    | nil => intro _; exact .nil
    | cons v out ih =>
      intro tx
      obtain ⟨x, u, rfl, hx⟩ := tx _ (List.mem_cons_self ..)
      exact .cons ⟨.str x, ⟨u, rfl⟩, Pl.str (hs x hx)⟩ (ih fun v hv => tx v (List.mem_cons_of_mem _ hv))
  · unfold srtOk
    rw [all1, p1.length_eq, List.length_map]
    have : m.length ≤ sizeLine := by unfold scanBound at hb; rw [sizeLine_eq]; omega
    simp [this]
/-! ### the rule -/
theorem perm_len {α : Type} [DecidableEq α] : ∀ {l m : List α}, l.Nodup → (∀ x ∈ l, x ∈ m) → l.length ≤ m.length
  | [], _, _, _ => Nat.zero_le _
  | x :: l, m, n, s => by
    have hx := s x (List.mem_cons_self ..)
    rw [List.nodup_cons] at n
    have := perm_len (m := m.erase x) n.2 fun y hy => by
      have ne : y ≠ x := fun z => n.1 (by rw [← z]; exact hy)
      exact (List.mem_erase_of_ne ne).mpr (s y (List.mem_cons_of_mem _ hy))
    rw [List.length_erase_of_mem hx] at this
    have : 0 < m.length := List.length_pos_of_mem hx
    rw [List.length_cons]; omega
def txtD : PyData → PySem.Str
  | .str x => x
  | _ => Str.empty
theorem txts {Z : Hp} : ∀ {xs : List PyData} {vs : List V}, xs.all isTx = true → PlA M Z vs xs → vs = (xs.map txtD).map V.str ∧ (∀ x ∈ xs.map txtD, PyData.strOk x = true) ∧ xs = (xs.map txtD).map .str
  | [], _, _, q => by cases q.nil_inv; simp
  | x :: xs, _, h, q => by
    simp only [List.all_cons, Bool.and_eq_true] at h
    obtain ⟨v, r, rfl, a, b⟩ := q.cons_inv
    obtain ⟨e1, e2, e3⟩ := txts h.2 b
    cases x <;> simp [isTx] at h
    obtain ⟨rfl, hx⟩ := a.str_inv
    refine ⟨by rw [e1]; simp [txtD], fun y hy => ?_, by simp only [List.map_cons]; rw [← e3]; rfl⟩
    rcases List.mem_cons.mp hy with e | e
    · rw [e]; exact hx
    · exact e2 y e
def gSortSet (d : PyData) : Option PyData := match d with
  | .list xs => if xs.all isTx = true ∧ xs.length + 2 < scanBound then some (.list (sortD (uniqD xs))) else none
  | _ => none
def fSortSet (f : F OV) : F OV := fun d => (f d).bind fun p => (rdO p.1 p.2).bind fun x => (gSortSet x).bind fun z => some (.val z, p.2)
theorem de_sortSet {X : Cx} {p p2 pos pos2 : Pos} {e : Expr} {te : TE} {f : F OV} (hm : M.mg "sorted" = none) (hm2 : M.mg "set" = none) (h : DE M k X e te f) (hg : Gl X "sorted" := by rfl) (hg2 : Gl X "set" := by rfl)
    (he : starEach [e] X.env = (false, eval e X.env) :: starEach [] X.env := by rfl) (hpl : (backTo pos2 (starEach [] X.env)).any (·.1) = false := by rfl)
    (he2 : starEach [.Call (.Name "set" p2) [e] [] pos2] X.env = (false, eval (.Call (.Name "set" p2) [e] [] pos2) X.env) :: starEach [] X.env := by rfl) (hpl2 : (backTo pos (starEach [] X.env)).any (·.1) = false := by rfl) :
    DE M k X (.Call (.Name "sorted" p) [.Call (.Name "set" p2) [e] [] pos2] [] pos) (tCB (rSortL M) (tCons (tCB (rSetS M) (tCons te tNil)) tNil)) (fSortSet f) := by
  refine ⟨fun G => pe_callB (cr_sortL G) hg (by rw [G.mg]; exact hm) (by decide +kernel) (pa_cons (pe_callTy (cr_setS G) hg2 (by rw [G.mg]; exact hm2) (by decide +kernel) (pa_cons (h.pe G) pa_nil he) (by decide) (by decide) he hpl) pa_nil he2) (by decide) (by decide) he2 hpl2, ?_⟩
  intro Z H s d ov d' Q S e q
  simp only [fSortSet, Option.bind_eq_some_iff] at e
  obtain ⟨⟨o, d1⟩, e1, x, e2, z, e3, e4⟩ := e
  cases e4
  unfold gSortSet at e3
  split at e3
  case h_2 => cases e3
  rename_i xs
  split at e3
  case isFalse => cases e3
  rename_i hx
  cases e3
  refine h.ok Z H s d o _ _ S e1 fun v Z1 H1 t1 S1 k1 r1 => ?_
  obtain ⟨a, vs, rfl, h1, h2⟩ := (r1.rd S1 e2).lst S1.fz
  obtain ⟨rfl, hs, ex⟩ := txts hx.1 h2
  refine ⟨a, xs.map txtD, rfl, SqL.of h1, by rw [List.length_map]; have := hx.2; omega, fun p m hp nd hm => ?_⟩
  have hl := perm_len nd fun x hx => (hm x).mp hx
  rw [List.length_map] at hl
  have zp := S1.noZ hp
  have le1 : Le Z1 (upd H1 p (setS M p m)) := le_updH S1.fz zp
  refine ⟨p, m, Z1, rfl, upd_same, le1, by have := hx.2; omega, fun x hx => hs x ((hm x).mp hx), fun ws p' hw hp' => ?_⟩
  have S2 : Sl M Z1 (upd H1 p (setS M p m)) s _ := S1.updO zp (S1.notO hp) (no_tab hp)
  have same : sortD (m.map PyData.str) = sortD (uniqD xs) := by
    obtain ⟨u1, u2, u3⟩ := uniq_ok hx.1
    have am : (m.map PyData.str).all isTx = true := List.all_eq_true.mpr fun z hz => by
      obtain ⟨y, _, rfl⟩ := List.mem_map.mp hz
      rfl
    have nm : (m.map PyData.str).Nodup := List.Pairwise.map PyData.str (fun a b e z => e (by cases z; rfl)) nd
    have mem : ∀ z, z ∈ m.map PyData.str ↔ z ∈ uniqD xs := fun z => by
      rw [u3 z]
      constructor
      · intro h
        obtain ⟨y, hy, rfl⟩ := List.mem_map.mp h
        rw [ex]
        exact List.mem_map.mpr ⟨y, (hm y).mp hy, rfl⟩
      · intro h
        rw [ex] at h
        obtain ⟨y, hy, rfl⟩ := List.mem_map.mp h
        exact List.mem_map.mpr ⟨y, (hm y).mpr hy, rfl⟩
    haveI : DecidableEq PyData := fun a b => Classical.propDecidable (a = b)
    have l1 := perm_len nm fun z hz => (mem z).mp hz
    have l2 := perm_len u2 fun z hz => (mem z).mpr hz
    exact sortD_same am (perm_of nm (fun z hz => (mem z).mp hz) l2)
  rw [same] at hw
  obtain ⟨t3, g3, d3⟩ := new_lst S2.fz hp' hw
  exact q _ _ _ ((t1.trans (Step.newOwn hp)).trans t3.no) (S2.no t3 g3) k1 (.val d3)
end
end DL

set_option maxRecDepth 100000
set_option linter.all false
/-! DL19: texts: times, upper, join; int of a long text. -/
namespace DL
open PySem L2 PySem.Calls PySem.NumText PyProof.Rows
theorem static_none {K : PySem.W.Frag} {h : Heap} {n : PySem.Str} (X : K.In h) (G : h.NoLimit) (e : PySem.W.nsIn K cStatics n = some none) : ∃ mc, h.Ns cStatics mc ∧ mc n = none := by
  obtain ⟨mc, G, _⟩ := G
  refine ⟨mc, G, ?_⟩
  obtain ⟨o, es, ep, ho, hd, _, hf⟩ := G
  unfold PySem.W.nsIn at e
  split at e
  · rename_i c d es' n' sl q
    have t := X _ _ q
    rw [ho] at t
    cases t
    cases hd
    split at e
    · cases e
    · rename_i he
      rw [← hf]
      unfold nsFind findBy
      rw [← Array.find?_toList, he]
      rfl
  · cases e
theorem wp_long {M : Model} {A : Around} {E : Value → Shared → Prop} {s : Shared} {Q : Value → Shared → Prop} {v : Value} {text : List Nat} {n : Int} {mc : PySem.Str → Option Value} (hn : s.heap.Ns cStatics mc) (hm : mc "sys.int_max_str_digits" = none)
    (hs : ¬ (text.takeWhile (· != 0)).length ≤ 640) (hr : (int_private% "readNumeral") 4300 10 (text.takeWhile (· != 0)) = (int_private% "Numeral.value") n)
    (ha : ((text.takeWhile (· != 0)).length == text.length) = true) (h : Q (.int n s.toks) { s with toks := s.toks + 1 }) :
    wpAny M A ((int_private% "intFromText") v text 10) Q E s := by
  have lim : ∀ {Q' : Nat → Shared → Prop}, Q' 4300 s → wpAny M A Builtin.intMaxStrDigits Q' E s := by
    intro Q' q
    unfold Builtin.intMaxStrDigits
    refine wpAny_bind (wpAny_nsGet hn ?_)
    rw [hm]
    exact wpAny_pure q
  obtain ⟨hp, g, d, tk, os⟩ := s
  repeat (any_goals (first
    | assumption
    | (with_reducible refine wpAny_ite_false (decide_eq_false hs) ?_)
    | (with_reducible refine wpAny_ite_true (decide_eq_true ha) ?_)
    | (with_reducible refine lim ?_)
    | wp_step))
  all_goals (try rw [hr])
  all_goals (try dsimp only)
  repeat (any_goals (first
    | assumption
    | (with_reducible refine wpAny_ite_true (decide_eq_true ha) ?_)
    | wp_step))
structure Hold2 (p : Prop) : Prop where
  out : p
set_option maxHeartbeats 4000000 in
theorem meets_long {x : PySem.Str} {u : Tok} {n : Int} (hn : PySem.intText? x = some n) (hz : x.length ≤ 4300) (h6 : ¬ (numSeenOf x).length ≤ 640) :
    Meets (Builtin.«int.__new__» ⟨[.type "int", .str x u], []⟩) (fun _ R s => (∃ mc, s.heap.Ns cStatics mc ∧ mc "sys.int_max_str_digits" = none) ∧ R (.ok (.ret (.int n s.toks))) { s with toks := s.toks + 1 }) :=
  .of_wp fun prog w A R s h => by
    obtain ⟨⟨mc, h1, h2⟩, h⟩ := h
    obtain ⟨hp, g, d, tk, os⟩ := s
    have f1 := PySem.F.conv_sub_int
    have f2 := PySem.F.madeHere_int
    have f3 := PySem.W.KIN.str_int
    have f4 := PySem.W.KIN.str_idx
    have f5 := PySem.W.KIN.str_trunc
    have f6 : typeOf (.str x u) = pure (.type "str") := rfl
    have hr : (int_private% "readNumeral") 4300 10 (numSeenOf x) = (int_private% "Numeral.value") n ∧ ((numSeenOf x).length == (numTextOf x).length) = true := by
      rcases read4300 x (by rw [sizeLine_eq]; omega) with ⟨m, q1, q2, q3⟩ | ⟨q1, _⟩
      · rw [hn] at q1
        injection q1 with q1
        subst q1
        exact ⟨q3, q2⟩
      · rw [hn] at q1
        cases q1
    have hk := Hold2.mk (And.intro h6 hr)
    clear hr hz hn h6
    repeat (any_goals (first
      | assumption
      | ((with_reducible show wpAny _ _ ((int_private% "intFromText") _ _ _) _ _ _); refine wp_long h1 h2 hk.out.1 hk.out.2.1 hk.out.2.2 ?_)
      | wp_step))
    all_goals first | exact ⟨_, rfl, h⟩ | skip
section
variable {M : Me} {k : Nat}
def rIntT : List V → Hp → VK → Prop := fun xs H Q => ∃ a n, xs = [.str a] ∧ PySem.intText? a = some n ∧ 640 < (numSeenOf a).length ∧ a.length ≤ 4300 ∧ Q (.int n) H
theorem cr_intT {X : Cx} (hd : PySem.W.nsIn X.K cStatics "sys.int_max_str_digits" = some none) : CallR X (.type "int") rIntT := by
  intro pins s σ H xs us Q I r h
  obtain ⟨a, n, rfl, hn, c2, hz, q⟩ := h
  obtain ⟨u, rfl, ru⟩ := vals1 r
  obtain ⟨t, rfl⟩ := ru
  exact call_int_1 (meets_long hn hz (by omega)) ⟨static_none I.kIn I.nolimit hd, typeIs_int _ _ _, ⟨.int n, H, I.tok _, ⟨_, rfl⟩, q⟩⟩
def gIntT : List PyData → Option PyData := fun xs => match xs with
  | [.str a] => if 640 < (numSeenOf a).length ∧ a.length ≤ 4300 then (PySem.intText? a).bind fun n => some (.int n) else none
  | _ => none
theorem c_intT (hd : PySem.W.nsIn M.K cStatics "sys.int_max_str_digits" = some none) : CalD M k (.type "int") rIntT gIntT := by
  refine ⟨fun X G => cr_intT (by rw [G.K]; exact hd), ?_⟩
  intro Z H vs xs z Q f h e q
  unfold gIntT at e
  split at e
  · split at e
    · rename_i a hc
      rw [Option.bind_eq_some_iff] at e
      obtain ⟨n, e1, e2⟩ := e
      cases e2
      cases h with
      | cons h h' =>
        cases h'
        obtain ⟨rfl, _⟩ := h.str
        exact ⟨a, n, rfl, e1, hc.1, hc.2, q _ Z H Step.refl f (.pl Pl.int)⟩
    · cases e
  · cases e
/-! ### text * number -/
def timesS (x : PySem.Str) (n : Int) : PySem.Str := ⟨(List.replicate n.toNat x.cps).foldl (· ++ ·) #[]⟩
def gMulS (a b : PyData) : Option PyData := match a, b with
  | .str x, .int n => if 2 ≤ n ∧ n ≤ 10000 ∧ x.length = 1 ∧ (timesS x n).length ≤ 16777216 ∧ PyData.strOk (timesS x n) = true then some (.str (timesS x n)) else none
  | _, _ => none
theorem o_mulS : OpD M k (binaryOp .Mult) (fun x y H Q => ∃ (a : PySem.Str) (n : Int), x = .str a ∧ y = .int n ∧ 2 ≤ n ∧ n ≤ 10000 ∧ a.length = 1 ∧ (timesS a n).length ≤ 16777216 ∧ Q (.str (timesS a n)) H) gMulS := by
  refine ⟨fun X G => ?_, ?_⟩
  · intro pins s σ H x y v u Q I rx ry h
    obtain ⟨a, n, rfl, rfl, h1, h2, h3, h4, q⟩ := h
    obtain ⟨t, rfl⟩ := rx
    obtain ⟨t', rfl⟩ := ry
    have c : (n == 1 || a.length == 0) = false := by
      rw [Bool.or_eq_false_iff]
      exact ⟨beq_eq_false_iff_ne.mpr (by omega), beq_eq_false_iff_ne.mpr (by omega)⟩
    refine P.mul_str (by rw [Bool.or_eq_false_iff]; exact ⟨decide_eq_false (by omega), decide_eq_false (by omega)⟩) (fun _ _ => ?_) (fun _ _ => ?_) ?_
    · rw [h3]
      have : (2 ^ 63 - 1 : Int) / n ≥ 1 := (Int.le_ediv_iff_mul_le (by omega)).mpr (by omega)
      omega
    · rw [h3]
      exact short24 (by omega)
    · rw [if_neg (by omega), if_neg (by rw [c]; simp)]
      exact ⟨by rw [sizeLine_eq]; exact h4, ⟨.str (timesS a n), H, I.tok _, ⟨_, rfl⟩, q⟩⟩
  · intro Z H x y a b z Q f hx hy e q
    unfold gMulS at e
    split at e
    · split at e
      · rename_i x' n hc
        cases e
        obtain ⟨rfl, _⟩ := hx.str
        cases hy.int
        exact ⟨x', n, rfl, rfl, hc.1, hc.2.1, hc.2.2.1, hc.2.2.2.1, q _ Z H Step.refl f (.pl (Pl.str hc.2.2.2.2))⟩
      · cases e
    · cases e
/-! ### upper, join -/
def fUpper (f : F OV) : F OV := fun d => (f d).bind fun p => match fzO p.1 with
  | some (.str a) => if a.length ≤ 5592405 ∧ PyData.strOk (Txt.upper a) = true then some (.val (.str (Txt.upper a)), p.2) else none
  | _ => none
theorem de_upper {X : Cx} {e : Expr} {te : TE} {f : F OV} {apos pos : Pos} (h : DE M k X e te f) (hbase : attributeBase e "upper" X.env (eval e X.env) = eval e X.env := by rfl) (hline : (apos.endLine == pos.line) = true := by rfl) :
    DE M k X (.Call (.Attribute e "upper" apos) [] [] pos) (tM0 (fun x xs H Q => ∃ a, x = .str a ∧ xs = [] ∧ a.length ≤ 5592405 ∧ Q (.str (Txt.upper a)) H) te) (fUpper f) := by
  refine ⟨fun G => pe_upper (h.pe G) hbase hline, ?_⟩
  intro Z H s d ov d' Q S e q
  simp only [fUpper, Option.bind_eq_some_iff] at e
  obtain ⟨⟨o, d1⟩, e1, e2⟩ := e
  dsimp only at e2
  split at e2
  · split at e2
    · rename_i a ha hc
      cases e2
      refine h.ok Z H s d o _ _ S e1 fun v Z1 H1 t1 S1 k1 r1 => ?_
      obtain ⟨rfl, _⟩ := ((r1.fz ha).plain fun _ z => by cases z).str_inv
      exact ⟨⟨a, rfl⟩, a, rfl, rfl, hc.1, q _ Z1 H1 t1 S1 k1 (.val (.pl (Pl.str hc.2)))⟩
    · cases e2
  · cases e2
def joinD (a : PySem.Str) (xs : List PyData) : PySem.Str := Txt.join a (xs.map txtD)
def fJoin (f g : F OV) : F OV := fun d => (f d).bind fun p => (g p.2).bind fun q => match fzO p.1, rdO q.1 q.2 with
  | some (.str a), some (.list xs) => if xs.all isTx = true ∧ ((xs.map txtD).map (·.length)).sum + xs.length * a.length ≤ 16777216 ∧ PyData.strOk (joinD a xs) = true then some (.val (.str (joinD a xs)), q.2) else none
  | _, _ => none
theorem de_join {X : Cx} {o e : Expr} {to te : TE} {f g : F OV} {apos pos : Pos} (ho : DE M k X o to f) (he : DE M k X e te g) (hs : starEach [e] X.env = [(false, eval e X.env)] := by rfl) (hbase : attributeBase o "join" X.env (eval o X.env) = eval o X.env := by rfl) (hline : (apos.endLine == pos.line) = true := by rfl) :
    DE M k X (.Call (.Attribute o "join" apos) [e] [] pos) (tM1 (fun x xs H Q => ∃ a p, ∃ ys : List PySem.Str, x = .str a ∧ xs = [.ref p] ∧ (SqL M.K H p (ys.map V.str) ∨ SqT M.K H p (ys.map V.str)) ∧
      (ys.map (·.length)).sum + ys.length * a.length ≤ 16777216 ∧ Q (.str (Txt.join a ys)) H) to te) (fJoin f g) := by
  refine ⟨fun G => by rw [← G.K]; exact pe_join (ho.pe G) (he.pe G) hs hbase hline, ?_⟩
  intro Z H s d ov d' Q S e q
  simp only [fJoin, Option.bind_eq_some_iff] at e
  obtain ⟨⟨o1, d1⟩, e1, ⟨o2, d2⟩, e2, e3⟩ := e
  dsimp only at e3
  split at e3
  case h_2 => cases e3
  rename_i a xs ha hx
  split at e3
  case isFalse => cases e3
  rename_i hc
  cases e3
  refine ho.ok Z H s d o1 d1 _ S e1 fun v Z1 H1 t1 S1 k1 r1 => ?_
  obtain ⟨rfl, _⟩ := ((r1.fz ha).plain fun _ z => by cases z).str_inv
  refine ⟨⟨a, rfl⟩, he.ok Z1 H1 s d1 o2 _ _ S1 e2 fun w Z2 H2 t2 S2 k2 r2 => ?_⟩
  obtain ⟨p, vs, rfl, h1, h2⟩ := (r2.rd S2 hx).lst S2.fz
  obtain ⟨rfl, _, _⟩ := txts hc.1 h2
  exact ⟨a, p, xs.map txtD, rfl, rfl, .inl (SqL.of h1), by rw [List.length_map]; exact hc.2.1, q _ Z2 H2 (two t1 k1 t2) S2 (k1.trans k2) (.val (.pl (Pl.str hc.2.2)))⟩
end
end DL

set_option maxRecDepth 100000
set_option linter.all false
/-! DL20: instances of the one class; two new objects at once; a chain of comparisons. -/
namespace DL
open PySem L2 PyProof.Rows
section
variable {M : Me} {k : Nat} {X : Cx}
/-! ### a field -/
def lisOf (d : PyData) : Option (PyData × PyData × PyData) := match d with
  | .dict [(.int 1, a), (.int 2, b), (.int 3, c)] => some (a, b, c)
  | _ => none
theorem FD.lis {Z : Hp} {v : V} {d : PyData} {t : PyData × PyData × PyData} (q : FD M Z v d) (e : lisOf d = some t) : ∃ a dx f p r, v = .ref a ∧ Z a = some (.ins M.LC dx (lisF f p r)) ∧ Pl M Z f t.1 ∧ Pl M Z p t.2.1 ∧ Pl M Z r t.2.2 := by
  unfold lisOf at e
  split at e
  · rename_i a b c
    cases e
    have gen : ∀ x, FD M Z v x → x = .dict [(.int 1, a), (.int 2, b), (.int 3, c)] → ∃ ad dx f p r, v = .ref ad ∧ Z ad = some (.ins M.LC dx (lisF f p r)) ∧ Pl M Z f a ∧ Pl M Z p b ∧ Pl M Z r c := by
      intro x q e
      cases q with
      | pl q => subst e; obtain ⟨q, _⟩ := q; cases q
      | ds q =>
        obtain ⟨_, _, kvs, _, z2, _, z4⟩ := q
        rw [z2] at e; cases e
        cases z4 with
        | cons z _ => obtain ⟨_, _, z, _⟩ := z; cases z
      | dt _ _ => cases e
      | li h1 h2 h3 h4 =>
        cases e
        exact ⟨_, _, _, _, _, rfl, h1, h2, h3, h4⟩
      | sc _ => cases e
    exact gen _ q rfl
  · cases e
inductive Fi where
  | folders | pages | pairs
def Fi.nm : Fi → PySem.Str
  | .folders => "folders"
  | .pages => "pages"
  | .pairs => "pairs"
def Fi.pick {α : Type} (i : Fi) (t : α × α × α) : α := match i with
  | .folders => t.1
  | .pages => t.2.1
  | .pairs => t.2.2
theorem lk_ne {x y : PySem.Str} {v : V} {r : List (PySem.Str × V)} (h : (x == y) = false) : List.lookup x ((y, v) :: r) = List.lookup x r := by
  simp only [List.lookup, h]
theorem lk_eq {x : PySem.Str} {v : V} {r : List (PySem.Str × V)} : List.lookup x ((x, v) :: r) = some v := by
  simp only [List.lookup, beq_self_eq_true]
theorem fi_look (i : Fi) (f p r : V) : (lisF f p r).lookup i.nm = some (i.pick (f, p, r)) := by
  cases i
  · exact lk_eq
  · exact (lk_ne (by decide +kernel)).trans lk_eq
  · exact (lk_ne (by decide +kernel)).trans ((lk_ne (by decide +kernel)).trans lk_eq)
def fFld (i : Fi) (f : F OV) : F OV := fun d => (f d).bind fun p => (fzO p.1).bind fun x => (lisOf x).bind fun t => some (.val (i.pick t), p.2)
theorem de_fld (i : Fi) {e : Expr} {te : TE} {f : F OV} {x : PySem.Str} {pos : Pos} (hC : Cls M.K M.LC) (hA : NoAttr M.K M.LC x) (h : DE M k X e te f) (hx : x = i.nm := by rfl) (hb : attributeBase e x X.env (eval e X.env) = eval e X.env := by rfl) : DE M k X (.Attribute e x pos) (tFld M.K te x) (fFld i f) := by
  refine ⟨fun G => by rw [← G.K]; exact pe_fld (h.pe G) hb, ?_⟩
  intro Z H s d ov d' Q S e q
  simp only [fFld, Option.bind_eq_some_iff] at e
  obtain ⟨⟨o, d1⟩, e1, y, e2, t, e3, e4⟩ := e
  cases e4
  refine h.ok Z H s d o _ _ S e1 fun v Z1 H1 t1 S1 k1 r1 => ?_
  obtain ⟨a, dx, f', p, r, rfl, g1, g2, g3, g4⟩ := (r1.fz e2).lis e3
  refine ⟨a, M.LC, dx, _, _, rfl, S1.fz _ _ g1, hC, hA, by rw [hx]; exact fi_look i f' p r, q _ Z1 H1 t1 S1 k1 (.val (.pl ?_))⟩
  cases i
  · exact g2
  · exact g3
  · exact g4
/-! ### a method -/
structure CalleeM (M : Me) (k : Nat) (m : PySem.Str) (ps : List PySem.Str) (sp : Sp) : Prop where
  ex : ∃ f fd, FnOk M.P M.w M.K M.mg M.base CX0 k f fd ps sp ∧ Meth M.K M.LC m f ∧ Binds M.K fd ps []
  no : ∀ f p r : V, (lisF f p r).lookup m = none
  cl : Cls M.K M.LC
theorem CalleeM.mono {j : Nat} {m : PySem.Str} {ps : List PySem.Str} {sp : Sp} (c : CalleeM M j m ps sp) (h : j ≤ k) : CalleeM M k m ps sp := by
  obtain ⟨f, fd, a, b⟩ := c.ex
  exact ⟨⟨f, fd, a.mono h, b⟩, c.no, c.cl⟩
def fMeth (F : List PyData → Option PyData) (fo : DL.F OV) (fa : DL.F (List OV)) : DL.F OV := fun d => (fo d).bind fun p => (fzO p.1).bind fun x => (lisOf x).bind fun _ => (fa p.2).bind fun q => (fzOs q.1).bind fun xs => (F (x :: xs)).bind fun z => some (.val z, q.2)
theorem FDs.cons' {Z : Hp} {v : V} {x : PyData} {vs : List V} {xs : List PyData} (a : FD M Z v x) (b : FDs M Z vs xs) : FDs M Z (v :: vs) (x :: xs) := .cons a b
theorem de_meth {m : PySem.Str} {ps : List PySem.Str} {n : Nat} {F : List PyData → Option PyData} {o e : Expr} {es : List Expr} {to : TE} {t : TA} {fo : DL.F OV} {fa : DL.F (List OV)} {apos pos : Pos} {pl : Sem Bool} (C : CalleeM M k m ps (spD M n F)) (ho : DE M k X o to fo) (ha : DA M k X (e :: es) t fa) (hn : (e :: es).length + 1 = n := by rfl)
    (hst : starEach (e :: es) X.env = (false, eval e X.env) :: starEach es X.env := by rfl) (hpl : (backTo pos (starEach es X.env)).any (·.1) = false := by rfl)
    (ht : eval (.Call (.Attribute o m apos) (e :: es) [] pos) X.env = (do
      let ov ← eval o X.env
      standAt apos.atName
      let (f, first) ← holding [ov] (getMethod ov m pl)
      callWith pos f first (backTo pos (starEach (e :: es) X.env)) (backToKw pos (keywordEach [] X.env))) := by rfl) :
    DE M k X (.Call (.Attribute o m apos) (e :: es) [] pos) (tMeth M.LC m (spD M n F) [] E0 to t) (fMeth F fo fa) := by
  refine ⟨fun G => ?_, ?_⟩
  · obtain ⟨f, fd, F', me, b⟩ := C.ex
    have F2 : FnOk X.prog X.w X.K X.mg X.base CX0 k f fd ps (spD M n F) := by rw [G.prog, G.w, G.K, G.mg, G.base]; exact F'
    exact pe_meth (ho.pe G) (by rw [G.K]; exact C.cl) (by rw [G.K]; exact me) F2 G.room (by rw [G.K]; exact b) .nil pass0 (ha.pa G) hst hpl ht
  · intro Z H s d ov d' Q S e q
    simp only [fMeth, Option.bind_eq_some_iff] at e
    obtain ⟨⟨o1, d1⟩, e1, x, e2, tl, e3, ⟨os, d2⟩, e4, xs, e5, z, e6, e7⟩ := e
    cases e7
    refine ho.ok Z H s d o1 d1 _ S e1 fun v Z1 H1 t1 S1 k1 r1 => ?_
    have fx := r1.fz e2
    obtain ⟨a, dx, f', p, r, rfl, g1, _⟩ := fx.lis e3
    refine ⟨a, dx, _, rfl, S1.fz _ _ g1, C.no f' p r, ?_⟩
    refine ha.ok Z1 H1 s d1 os _ _ S1 e4 fun vs Z2 H2 t2 S2 k2 r2 => ?_
    rw [List.append_nil]
    refine ⟨Z2, x :: xs, z, by rw [List.length_cons, r2.length, ha.len _ _ _ e4, hn], S2.F, .cons (fx.mono t2.zz) (r2.fz e5), e6, fun v Z' H' t3 f3 q3 => ?_⟩
    exact q v Z' H' ((two t1 k1 t2).trans t3.no) (S2.no t3 f3) (k1.trans k2) (.val q3)
theorem de_meth0 {m : PySem.Str} {ps : List PySem.Str} {F : List PyData → Option PyData} {o : Expr} {to : TE} {fo : DL.F OV} {apos pos : Pos} {pl : Sem Bool} (C : CalleeM M k m ps (spD M 1 F)) (ho : DE M k X o to fo)
    (ht : eval (.Call (.Attribute o m apos) [] [] pos) X.env = (do
      let ov ← eval o X.env
      standAt apos.atName
      let (f, first) ← holding [ov] (getMethod ov m pl)
      callWith pos f first (backTo pos (starEach [] X.env)) (backToKw pos (keywordEach [] X.env))) := by rfl) :
    DE M k X (.Call (.Attribute o m apos) [] [] pos) (tMeth M.LC m (spD M 1 F) [] E0 to tNil) (fMeth F fo fNil) := by
  refine ⟨fun G => ?_, ?_⟩
  · obtain ⟨f, fd, F', me, b⟩ := C.ex
    have F2 : FnOk X.prog X.w X.K X.mg X.base CX0 k f fd ps (spD M 1 F) := by rw [G.prog, G.w, G.K, G.mg, G.base]; exact F'
    exact pe_meth0 (ho.pe G) (by rw [G.K]; exact C.cl) (by rw [G.K]; exact me) F2 G.room (by rw [G.K]; exact b) .nil pass0 ht
  · intro Z H s d ov d' Q S e q
    simp only [fMeth, Option.bind_eq_some_iff] at e
    obtain ⟨⟨o1, d1⟩, e1, x, e2, tl, e3, ⟨os, d2⟩, e4, xs, e5, z, e6, e7⟩ := e
    cases e7
    cases e4
    cases e5
    refine ho.ok Z H s d o1 _ _ S e1 fun v Z1 H1 t1 S1 k1 r1 => ?_
    have fx := r1.fz e2
    obtain ⟨a, dx, f', p, r, rfl, g1, _⟩ := fx.lis e3
    refine ⟨a, dx, _, rfl, S1.fz _ _ g1, C.no f' p r, ?_⟩
    exact ⟨Z1, [x], z, rfl, S1.F, .cons fx .nil, e6, fun v Z' H' t3 f3 q3 => q v Z' H' (t1.trans t3.no) (S1.no t3 f3) k1 (.val q3)⟩
/-! ### len of one -/
/-- a def of ours, called from a built-in -/
theorem own_run {pins : List (Addr × Obj)} {σ : L2.St} {H : Hp} {s : Shared} {g : Addr} {j : Nat} {sp : Sp} {A : Around} {Q : VK} {us : List Value} {ws : List V} (F : FnR X.prog X.w X.K X.mg X.base CX0 j g sp) (hr : Room j A) (e0 : Env0 X.prog X.w X.K X.mg X.base A X.stack s H) (I : Inv X pins σ H s) (r : Vals ws us) (h : sp ws H Q E0) :
    codeAny (model X.prog X.w) A (.call (.ref g) ⟨us, []⟩) (fun r s' => match r with | .ok (.ret v) => EP X pins σ Q v s' | .ok _ => False | .error e => X.xe e s') s := by
  refine codeAny_mono (F A X.stack s H us ws Q E0 hr e0 r h) fun r s' hq => ?_
  cases r with
  | error e => exact False.elim hq
  | ok fl =>
    cases fl with
    | ret u => exact I.after hq
    | next => exact False.elim hq
    | brk => exact False.elim hq
    | cont => exact False.elim hq
def rLenL (M : Me) (F : List PyData → Option PyData) : List V → Hp → VK → Prop := fun xs H Q => ∃ a dx fs, xs = [.ref a] ∧ H a = some (.ins M.LC dx fs) ∧ spD M 1 F [.ref a] H (fun z H' => ∃ n : Int, z = .int n ∧ 0 ≤ n ∧ n < 2 ^ 63 ∧ Q (.int n) H') E0
theorem cr_lenL {F : List PyData → Option PyData} {j : Nat} (C : CalleeM M j "__len__" ["self"] (spD M 1 F)) (hj : j + 1 ≤ k) {X : Cx} (G : Good M k X) : CallR X (.builtin "len") (rLenL M F) := by
  intro pins s σ H xs us Q I r h
  obtain ⟨a, dx, fs, rfl, h1, hs⟩ := h
  obtain ⟨u, rfl, ru⟩ := vals1 r
  cases ru
  obtain ⟨f, fd, F', me, b⟩ := C.ex
  have F2 : FnOk X.prog X.w X.K X.mg X.base CX0 j f fd ["self"] (spD M 1 F) := by rw [G.prog, G.w, G.K, G.mg, G.base]; exact F'
  have me' : Meth X.K M.LC "__len__" f := by rw [G.K]; exact me
  have b' : Binds X.K fd ["self"] [] := by rw [G.K]; exact b
  obtain ⟨mA, O, _⟩ := ins_get I.hok h1
  obtain ⟨od, IA, _⟩ := O.look
  have hr : Room j X.A.in1 := Room.in1 (G.room.mono hj)
  refine Calls.call_function_entry kind_len plain_len entry_len (args_len1 _) ?_
  unfold Builtin.«len»
  refine wpAny_bind (m := oneArg "len" _) (wpAny_pure ?_)
  refine wpAny_bind (m := callSpecial? (.ref a) (Str.ofString "__len__")) (PySem.W.special_fn I.kIn IA me'.at_ (beq_iff_eq.mp me'.fn) ?_)
  have FR := F2.raw b' (dvs := []) .nil
  refine wpAny_mono (wpAny_call (own_run FR hr I.env0.in1 (us := [.ref a]) (ws := [.ref a]) I (.cons rfl .nil) (by simpa using hs))) (fun w s' z => ?_) fun _ _ x => x
  obtain ⟨z', H', I', rz, n, e1, e2, e3, qz⟩ := z
  subst e1
  obtain ⟨t, rfl⟩ := (show ∃ t, w = Value.int n t from rz)
  refine wpAny_bind (wpAny_holding (wpAny_pure ?_))
  refine wpAny_bind (wpAny_letGo ?_)
  show wpAny _ _ (if n < 0 then _ else _) _ _ _
  rw [if_neg (by omega)]
  show wpAny _ _ (if n ≥ 2 ^ 63 then _ else _) _ _ _
  rw [if_neg (by omega)]
  exact wpAny_bind (wpAny_mkInt (wpAny_pure ⟨_, rfl, ⟨.int n, H', I'.tok _, ⟨_, rfl⟩, qz⟩⟩))
def fLenL (F : List PyData → Option PyData) (f : DL.F OV) : DL.F OV := fun d => (f d).bind fun p => (fzO p.1).bind fun x => (lisOf x).bind fun _ => (F [x]).bind fun z => match z with
  | .int n => if 0 ≤ n ∧ n < 2 ^ 63 then some (.val (.int n), p.2) else none
  | _ => none
theorem de_lenL {F : List PyData → Option PyData} {j : Nat} {e : Expr} {te : TE} {f : DL.F OV} {p pos : Pos} (C : CalleeM M j "__len__" ["self"] (spD M 1 F)) (hj : j + 1 ≤ k) (hm : M.mg "len" = none) (h : DE M k X e te f) (hg : Gl X "len" := by rfl)
    (he : starEach [e] X.env = (false, eval e X.env) :: starEach [] X.env := by rfl) (hpl : (backTo pos (starEach [] X.env)).any (·.1) = false := by rfl) : DE M k X (.Call (.Name "len" p) [e] [] pos) (tCB (rLenL M F) (tCons te tNil)) (fLenL F f) := by
  refine ⟨fun G => pe_callB (cr_lenL C hj G) hg (by rw [G.mg]; exact hm) (by decide +kernel) (pa_cons (h.pe G) pa_nil he) (by decide) (by decide) he hpl, ?_⟩
  intro Z H s d ov d' Q S e q
  simp only [fLenL, Option.bind_eq_some_iff] at e
  obtain ⟨⟨o, d1⟩, e1, x, e2, t, e3, z, e4, e5⟩ := e
  split at e5
  case h_2 => cases e5
  rename_i n
  split at e5
  case isFalse => cases e5
  rename_i hn
  cases e5
  refine h.ok Z H s d o _ _ S e1 fun v Z1 H1 t1 S1 k1 r1 => ?_
  have fx := r1.fz e2
  obtain ⟨a, dx, f', p', r, rfl, g1, _⟩ := fx.lis e3
  refine ⟨a, dx, _, rfl, S1.fz _ _ g1, Z1, [x], .int n, rfl, S1.F, .cons fx .nil, e4, fun v Z' H' t f' q' => ?_⟩
  have ei := (q'.plain fun _ z => by cases z).int_inv
  subst ei
  exact ⟨n, rfl, hn.1, hn.2, q _ Z' H' (t1.trans t.no) (S1.no t f') k1 (.val (.pl Pl.int))⟩
/-! ### a new instance -/
def spI (C : Addr) : Sp := fun vs H Q _ => ∃ p dx f q r, vs = [.ref p, f, q, r] ∧ H p = some (.ins C dx []) ∧ Q .non (upd H p (.ins C dx (lisF f q r)))
def pf1 (f : V) : List (PySem.Str × V) := [("folders", f)]
def pf2 (f q : V) : List (PySem.Str × V) := [("folders", f), ("pages", q)]
theorem putF_ne {x y : PySem.Str} {u v : V} {r : List (PySem.Str × V)} (h : ¬ x = y) : putF y v ((x, u) :: r) = (x, u) :: putF y v r := by
  show (if x = y then _ else _) = _
  rw [if_neg h]
theorem put1 (f : V) : putF "folders" f [] = pf1 f := rfl
theorem put2 (f q : V) : putF "pages" q (pf1 f) = pf2 f q := putF_ne (by decide +kernel)
theorem put3 (f q r : V) : putF "pairs" r (pf2 f q) = lisF f q r := by
  unfold pf2 lisF
  rw [putF_ne (by decide +kernel), putF_ne (by decide +kernel)]
  rfl
theorem fn_I {qual : PySem.Str} {st : Stmt} {f C : Addr} {fd : FuncData} {p1 p2 p3 p4 p5 p6 p7 p8 p9 p10 p11 p12 : Pos} (F : Fun M.K "__init__" qual st f fd) (S : FnScope ["self", "folders", "pages", "pairs"] ["self", "folders", "pages", "pairs"] (defScope st)) (hC : Cls M.K C) (h1 : NoAttr M.K C "folders") (h2 : NoAttr M.K C "pages") (h3 : NoAttr M.K C "pairs")
    (hb : defBody st = [.Assign [.Attribute (.Name "self" p1) "folders" p2] (.Name "folders" p3) p4, .Assign [.Attribute (.Name "self" p5) "pages" p6] (.Name "pages" p7) p8, .Assign [.Attribute (.Name "self" p9) "pairs" p10] (.Name "pairs" p11) p12])
    (hv : ∀ x ∈ (["self", "folders", "pages", "pairs"] : List PySem.Str), (defScope st).names.lookup x = some .local) : FnOk M.P M.w M.K M.mg M.base CX0 (k + 1) f fd ["self", "folders", "pages", "pairs"] (spI C) := by
  refine F.ok S (fun vs H Q E h => ?_) (fun cdv A outer s H vs Q E hr hh => ?_)
  · obtain ⟨p, dx, f, q, r, rfl, _⟩ := h; rfl
  · obtain ⟨p, dx, f', q, r, rfl, hp, hq⟩ := hh
    rw [hb]
    have v0 : Vis (defScope st) "self" := .inl (hv _ (by simp))
    have v1 : Vis (defScope st) "folders" := .inl (hv _ (by simp))
    have v2 : Vis (defScope st) "pages" := .inl (hv _ (by simp))
    have v3 : Vis (defScope st) "pairs" := .inl (hv _ (by simp))
    refine ⟨_, pss_cons (ps_fld (pv 0 rfl v0) (pv 1 rfl v1) rfl) (pss_cons (ps_fld (pv 0 rfl v0) (pv 2 rfl v2) rfl) (pss_one (ps_fld (pv 0 rfl v0) (pv 3 rfl v3) rfl))), ?_⟩
    refine ⟨_, rfl, _, rfl, p, C, dx, [], rfl, hp, hC, h1, by decide, ?_⟩
    refine ⟨_, rfl, _, rfl, p, C, dx, _, rfl, upd_same, hC, h2, by rw [put1]; show 1 < 1000; decide, ?_⟩
    refine ⟨_, rfl, _, rfl, p, C, dx, _, rfl, upd_same, hC, h3, by rw [put1, put2]; show 2 < 1000; decide, ?_⟩
    rw [upd_upd, upd_upd, put1, put2, put3]
    exact hq
structure CalleeI (M : Me) (k : Nat) : Prop where
  ex : ∃ f fd, FnOk M.P M.w M.K M.mg M.base CX0 k f fd ["self", "folders", "pages", "pairs"] (spI M.LC) ∧ Mk M.K M.LC f ∧ Binds M.K fd ["self", "folders", "pages", "pairs"] []
def fMake (f : F (List OV)) : F OV := fun d => (f d).bind fun p => match plOs p.1 with
  | some [a, b, c] => some (.val (lis a b c), p.2)
  | _ => none
theorem de_make {j : Nat} {x : PySem.Str} {e1 e2 e3 : Expr} {p pos : Pos} {t : TA} {fa : F (List OV)} (C : CalleeI M j) (hj : j + 1 ≤ k) (hm : M.mg x = some (.ref M.LC)) (ha : DA M k X [e1, e2, e3] t fa) (hg : Gl X x := by rfl) (hdb : (x == ("__debug__" : Str)) = false := by decide)
    (he : starEach [e1, e2, e3] X.env = (false, eval e1 X.env) :: starEach [e2, e3] X.env := by rfl) (hpl : (backTo pos (starEach [e2, e3] X.env)).any (·.1) = false := by rfl) : DE M k X (.Call (.Name x p) [e1, e2, e3] [] pos) (tMake M.LC (spI M.LC) [] E0 t) (fMake fa) := by
  refine ⟨fun G => ?_, ?_⟩
  · obtain ⟨f, fd, F', mk, b⟩ := C.ex
    have F2 : FnOk X.prog X.w X.K X.mg X.base CX0 j f fd ["self", "folders", "pages", "pairs"] (spI M.LC) := by rw [G.prog, G.w, G.K, G.mg, G.base]; exact F'
    exact pe_make (by rw [G.K]; exact mk) F2 (G.room.mono hj) hg (by rw [G.mg]; exact hm) (by rw [G.K]; exact b) .nil pass0 (ha.pa G) hdb he hpl
  · intro Z H s d ov d' Q S e q
    simp only [fMake, Option.bind_eq_some_iff] at e
    obtain ⟨⟨os, d1⟩, q1, q2⟩ := e
    dsimp only at q2
    split at q2
    case h_2 => cases q2
    rename_i a b c hp
    cases q2
    refine ha.ok Z H s d os _ _ S q1 fun vs Z1 H1 t1 S1 k1 r1 => ?_
    have pl := r1.pl hp
    obtain ⟨v1, r, rfl, a1, pl⟩ := pl.cons_inv
    obtain ⟨v2, r, rfl, a2, pl⟩ := pl.cons_inv
    obtain ⟨v3, r, rfl, a3, pl⟩ := pl.cons_inv
    cases pl.nil_inv
    intro x dx hx hdx hne
    have hx' : upd H1 dx (.own x) x = none := by rw [upd_ne (Ne.symm hne)]; exact hx
    have zx := S1.noZ hx
    refine ⟨x, dx, v1, v2, v3, rfl, upd_same, rfl, ?_⟩
    rw [upd_upd]
    have S2 : Sl M Z1 (upd H1 dx (.own x)) s _ := S1.updO (S1.noZ hdx) (S1.notO hdx) (no_tab hdx)
    have t3 : Step M.T Z1 (upd H1 dx (.own x)) (upd Z1 x (.ins M.LC dx (lisF v1 v2 v3))) (upd (upd H1 dx (.own x)) x (.ins M.LC dx (lisF v1 v2 v3))) (fun _ => False) := Step.new S2.fz hx'
    have le1 : Le Z1 (upd Z1 x (.ins M.LC dx (lisF v1 v2 v3))) := t3.zz
    exact q _ _ _ ((t1.trans (Step.newOwn hdx)).trans t3.no) (S2.no t3 (le_upd S2.fz)) k1 (.val (.li upd_same (a1.mono le1) (a2.mono le1) (a3.mono le1)))
/-! ### two new objects at once -/
def fParO (i j : Nat) (f g : F PyData) : F Fl := fun d => (f d).bind fun p => (g p.2).bind fun q => some (.nx, (q.2.set i (some (.own p.1))).set j (some (.own q.1)))
theorem ds_parO (i j : Nat) {x y : Str} {a b : Expr} {pos px py pt : Pos} {kt k2 : Nat} {pt2 : Pos} {t1 t2 : TE} {f g : F PyData} (h : DO M k X a t1 f) (h' : DO M k X b t2 g) (hij : i ≠ j := by decide) (hi0 : i ≠ 0 := by decide) (hj0 : j ≠ 0 := by decide) (hi : X.N[i]? = some x := by rfl) (hj : X.N[j]? = some y := by rfl)
    (hx : X.env.scope.names.lookup x = some .local := by rfl) (hy : X.env.scope.names.lookup y = some .local := by rfl) (hst : starEach [a, b] X.env = (false, eval a X.env) :: starEach [b] X.env := by rfl) (hst2 : starEach [b] X.env = (false, eval b X.env) :: starEach [] X.env := by rfl)
    (hw : swappedStores [.Tuple [.Name x px, .Name y py] kt pt] (.Tuple [a, b] k2 pt2) X.env = pure (some [x, y]) := by rfl)
    (hs : swapsWithSole [.Tuple [.Name x px, .Name y py] kt pt] (.Tuple [a, b] k2 pt2) pos.line X.env = pure false := by rfl) :
    DS M k X (.Assign [.Tuple [.Name x px, .Name y py] kt pt] (.Tuple [a, b] k2 pt2) pos) (tPar i j (tCons t1 (tCons t2 tNil))) (fParO i j f g) := by
  refine ⟨fun G => ps_par G.calm G.nd hi hj hij hx hy (pa_cons (h.pe G) (pa_cons (h'.pe G) pa_nil hst2) hst) hw hs, ?_⟩
  intro Z0 H0 P0 Z H s d fl d' D E r q
  simp only [fParO, Option.bind_eq_some_iff] at r
  obtain ⟨⟨y1, d1⟩, e1, ⟨y2, d2⟩, e2, e3⟩ := r
  cases e3
  refine h.ok Z H s d y1 d1 _ E.sl e1 fun a1 Z1 H1 st1 S1 k1 hn1 hz1 ho1 no1 => ?_
  refine h'.ok Z1 H1 s d1 y2 d2 _ S1 e2 fun a2 Z2 H2 st2 S2 k2 hn2 hz2 ho2 no2 => ?_
  obtain ⟨u1, hu1⟩ := ho1.ex
  have E1 := (E.exp st1 S1 k1).exp st2 S2 k2
  have z1 : Z2 a1 = none := by rw [st2.zn a1 u1 hu1]; exact hz1
  have o1 : OwnAt M Z2 H2 a1 y1 := ho1.mono st2.zz fun o e m => st2.h0 a1 o e no1 m
  have n1 : ¬ Ows s d2 a1 := fun w => no1 ((k2.ows a1).mp w)
  have E2 := E1.own z1 o1 n1 (E.fresh0 hn1) i hi0
  have ne : a2 ≠ a1 := fun z => by rw [z, hu1] at hn2; cases hn2
  have f2 : H a2 = none := by
    cases c : H a2 with
    | none => rfl
    | some u =>
      obtain ⟨o', e'⟩ := st1.he a2 u c
      rw [hn2] at e'; cases e'
  have n2 : ¬ Ows (s.set i (some (.ref a1))) (d2.set i (some (.own y1))) a2 := by
    rintro ⟨l, w, w1, w2⟩
    by_cases c : l = i
    · subst c
      rw [List.getElem?_set] at w2
      simp only [if_true] at w2
      split at w2
      · cases w2; exact ne rfl
      · cases w2
    · rw [set_ne c] at w1 w2
      exact no2 ⟨l, w, w1, w2⟩
  exact ⟨_, _, rfl, q Z2 H2 _ (st1.zz.trans st2.zz) (E2.own hz2 ho2 n2 (E.fresh0 f2) j hj0)⟩
/-! ### a < b < c -/
def fChain (g g' : PyData → PyData → Option PyData) (fa fb fc : F OV) : F OV := fun d => (fa d).bind fun p => (fb p.2).bind fun q => (fzO p.1).bind fun x => (fzO q.1).bind fun y => (g x y).bind fun z => match z with
  | .bool true => (fc q.2).bind fun r => (fzO r.1).bind fun w => (g' y w).bind fun z' => some (.val z', r.2)
  | .bool false => some (.val (.bool false), q.2)
  | _ => none
theorem de_chain {op op' : CmpOp} {r r' : R2} {g g' : PyData → PyData → Option PyData} {a b c : Expr} {ta tb tc : TE} {fa fb fc : F OV} {pos : Pos} (ho : OpD M k (compareOp op) r g) (ho' : OpD M k (compareOp op') r' g') (ha : DE M k X a ta fa) (hb : DE M k X b tb fb) (hc : DE M k X c tc fc)
    (hm : lastMarks [op, op'] [b, c] = false := by with_unfolding_all rfl) : DE M k X (.Compare a [op, op'] [b, c] pos) (tChain r r' ta tb tc) (fChain g g' fa fb fc) := by
  refine ⟨fun G => pe_chain (ho.run X G) (ho'.run X G) (ha.pe G) (hb.pe G) (hc.pe G) hm, ?_⟩
  intro Z H s d ov d' Q S e q
  simp only [fChain, Option.bind_eq_some_iff] at e
  obtain ⟨⟨o1, d1⟩, e1, ⟨o2, d2⟩, e2, x, e3, y, e4, z, e5, e6⟩ := e
  refine ha.ok Z H s d o1 d1 _ S e1 fun v Z1 H1 t1 S1 k1 r1 => ?_
  refine hb.ok Z1 H1 s d1 o2 d2 _ S1 e2 fun u Z2 H2 t2 S2 k2 r2 => ?_
  have fx := (r1.mono t2.zz).fz e3
  have fy := r2.fz e4
  refine ho.ok Z2 H2 v u x y z _ S2.fz (.inl fx) (.inl fy) e5 fun v' Z3 H3 t3 f3 q3 => ?_
  have S3 := S2.no t3 f3
  split at e6
  · simp only [Option.bind_eq_some_iff] at e6
    obtain ⟨⟨o3, d3⟩, e7, w, e8, z', e9, e10⟩ := e6
    cases e10
    have eb := (q3.plain fun _ z => by cases z).bl_inv
    refine ⟨true, eb, ?_⟩
    rw [if_pos rfl]
    refine hc.ok Z3 H3 s d2 o3 _ _ S3 e7 fun w' Z4 H4 t4 S4 k4 r4 => ?_
    refine ho'.ok Z4 H4 u w' y w z' Q S4.fz (.inl (fy.mono (t3.zz.trans t4.zz))) (.inl (r4.fz e8)) e9 fun v5 Z5 H5 t5 f5 q5 => ?_
    exact q v5 Z5 H5 ((((two t1 k1 t2).trans t3.no).trans (t4.mono fun a w => ((k1.trans k2).ows a).mp w)).trans t5.no) (S4.no t5 f5) ((k1.trans k2).trans k4) (.val q5)
  · cases e6
    have eb := (q3.plain fun _ z => by cases z).bl_inv
    refine ⟨false, eb, ?_⟩
    rw [if_neg (by simp)]
    exact q _ Z3 H3 ((two t1 k1 t2).trans t3.no) S3 (k1.trans k2) (.val (.pl Pl.bl))
  · cases e6
end
end DL

set_option maxRecDepth 100000
set_option linter.all false
set_option maxHeartbeats 2000000
/-! DL21: a lambda of one parameter: made, called. -/
namespace DL
open PySem L2 PySem.Spec PyProof.Rows LamX
abbrev lamQ (X : Cx) : PySem.Str := X.env.qual ++ "<lambda>"
abbrev lamO (q : PySem.Str) (params : Arguments) (body : Expr) (scope : Scope) (pm : Value) (c' : Addr) (ctv : Value) : Obj := PySem.W.kla_obj "<lambda>" q params body scope [] pm c' ctv
/-- the object at f is o -/
def FunO (f : Addr) (o : Obj) : HO := .ext fun h => h.get? f = some o
theorem clo_nil {cells : List (PySem.Str × Addr)} : ∀ {names : List (PySem.Str × NameKind)}, (names.all fun y => !decide (y.2 = .free)) = true → cloFrom cells names [] = []
  | [], _ => rfl
  | (x, k) :: r, h => by
    simp only [List.all_cons, Bool.and_eq_true] at h
    cases k with
    | free => simp at h
    | _ => exact clo_nil (names := r) h.2
section
variable {X : Cx} {pins : List (Addr × Obj)} {σ : L2.St} {H : Hp} {s : Shared}
theorem lam_make3 {T : List (Addr × PySem.Str)} {c P : Addr} {params : Arguments} {body : Expr} {scope : Scope} {pos : Pos} {E : Value → Shared → Prop} {Q : Value → Shared → Prop} (I : Inv X pins σ H s) (TB : TabB X.base X.mg c P) (hcode : X.env.code = .ref c)
    (hm : (P, lamQ X) ∈ T) (hu : ∀ p ∈ T, p.1 = P → p.2 = lamQ X) (hT : Tabs T H) (hdef : defaultsOf params X.env = ([], [])) (hfree : (scope.names.all fun y => !decide (y.2 = .free)) = true)
    (h : ∀ (f c' : Addr) (pm ctv : Value) (H1 : Hp) (s' : Shared), Inv X pins σ H1 s' → ExtN H H1 → (∀ b o, H b = some o → ∃ o', H1 b = some o') → Tabs T H1 → H f = none → H1 f = some (FunO f (lamO (lamQ X) params body scope pm c' ctv)) → H1 c' = some (CodeO c' (lamQ X)) → Q (.ref f) s') :
    wpAny (model X.prog X.w) X.A (eval (.Lambda params body scope pos) X.env) Q E s := by
  obtain ⟨ps, hP, ht, ha⟩ := hT _ hm
  refine PySem.W.kla_eval hdef ?_
  have bP : s.heap.BuiltinsAt X.mg P := TB.bm.keeps I.bk
  have hP' : s.heap.get? P = some { cls := .none, data := .fields ps } := I.hok P _ hP
  have hcl : closureFor scope X.env = pure [] := by
    have e := closure_ok (scope := scope) (env := X.env) fun y hy e => by
      have := List.all_eq_true.mp hfree y hy
      rw [e] at this; simp at this
    rw [clo_nil hfree] at e
    exact e
  -- the function object laid over a heap
  have lay : ∀ {H1 : Hp} {s1 : Shared} (I1 : Inv X pins σ H1 s1) (c' : Addr) (pm ctv : Value), Inv X pins σ (upd H1 s1.heap.objs.size (FunO s1.heap.objs.size (lamO (lamQ X) params body scope pm c' ctv))) { s1 with heap := s1.heap.push (lamO (lamQ X) params body scope pm c' ctv) } := fun {H1 s1} I1 c' pm ctv =>
    I1.laid (t' := s1.toks) (fun b o e => Heap.get?_push_of_some _ e) (Nat.le_refl _) ⟨Heap.get?_push_size _ rfl, ⟨_, Heap.get?_push_size _ rfl⟩, fun h1 h2 q k => k _ q⟩
  cases hc : codeAmong pos ps.toList with
  | none =>
    refine PySem.W.kla_makeFunction (mg := X.mg) (c := c) (P := P) (ps := ps) hcl I.ok.glob (I.mod.glob.keeps I.bk) hcode (TB.code.keeps I.bk) hP' ht hc TB.gP bP fun c' ctv h' tk hx hge hlt hrec htb => ?_
    obtain ⟨c2, oc, vs, t, e2, hoc, hd, hv⟩ := hrec
    cases e2
    have nC : H c' = none := I.hok.fresh hge
    have I1 := inv_table (t' := tk) (more := #[rawInt pos.line, rawInt pos.col, .ref c']) (h' := h') I hP (fun b o hb e => hx b o hb e) htb hge ⟨oc, vs, t, hoc, hd, hv⟩
    have I2 := lay I1 c' ((X.mg "__name__").getD .none) ctv
    have nF : upd (upd H P (.tbl (ps ++ #[rawInt pos.line, rawInt pos.col, .ref c']))) c' (CodeO c' (lamQ X)) h'.objs.size = none := I1.hok.fresh (Nat.le_refl _)
    have nF0 : H h'.objs.size = none := by
      have n1 : h'.objs.size ≠ c' := Nat.ne_of_gt hlt
      rw [upd_ne n1] at nF
      by_cases z : h'.objs.size = P
      · rw [z, upd_same] at nF; cases nF
      · rw [upd_ne z] at nF; exact nF
    have keep1 : ∀ b o, H b = some o → (∀ ps, o ≠ .tbl ps) → upd (upd H P (.tbl (ps ++ #[rawInt pos.line, rawInt pos.col, .ref c']))) c' (CodeO c' (lamQ X)) b = some o := fun b o e n => by
      rw [upd_ne (ne_of_none e nC), upd_ne (fun z => n ps (Option.some.inj (e.symm.trans (by rw [z]; exact hP))))]
      exact e
    have some1 : ∀ b o, H b = some o → ∃ o', upd (upd H P (.tbl (ps ++ #[rawInt pos.line, rawInt pos.col, .ref c']))) c' (CodeO c' (lamQ X)) b = some o' := fun b o e => by
      rw [upd_ne (ne_of_none e nC)]
      by_cases z : b = P
      · rw [z, upd_same]; exact ⟨_, rfl⟩
      · rw [upd_ne z]; exact ⟨o, e⟩
    have eL : (ps ++ #[rawInt pos.line, rawInt pos.col, .ref c']).toList = ps.toList ++ [rawInt pos.line, rawInt pos.col, .ref c'] := by simp
    have T1 : Tabs T (upd (upd H P (.tbl (ps ++ #[rawInt pos.line, rawInt pos.col, .ref c']))) c' (CodeO c' (lamQ X))) := fun p hp => by
      by_cases hb : p.1 = P
      · rw [hu p hp hb, hb]
        refine ⟨_, by rw [upd_ne (ne_of_none hP nC), upd_same], by rw [eL]; exact PySem.TriplesOk_snoc _ _ _ _ ht, fun p' cv hcv => ?_⟩
        rw [eL] at hcv
        rcases among_app _ ht hcv with z | z
        · obtain ⟨c0, e1, e2⟩ := ha p' cv z
          exact ⟨c0, e1, keep1 _ _ e2 codeO_ne⟩
        · exact ⟨c', z, upd_same⟩
      · obtain ⟨ps', a1, a2, a3⟩ := hT p hp
        refine ⟨ps', by rw [upd_ne (ne_of_none a1 nC), upd_ne hb]; exact a1, a2, fun p' cv hcv => ?_⟩
        obtain ⟨c0, e1, e2⟩ := a3 p' cv hcv
        exact ⟨c0, e1, keep1 _ _ e2 codeO_ne⟩
    refine h h'.objs.size c' ((X.mg "__name__").getD .none) ctv _ _ I2 (fun b o e n => ?_) (fun b o e => ?_) (T1.ext fun b o e => ?_) nF0 upd_same ?_
    · rw [upd_ne (ne_of_none (keep1 b o e n) nF)]; exact keep1 b o e n
    · obtain ⟨o', e'⟩ := some1 b o e
      exact ⟨o', by rw [upd_ne (ne_of_none e' nF)]; exact e'⟩
    · rw [upd_ne (ne_of_none e nF)]; exact e
    · rw [upd_ne (Nat.ne_of_lt hlt), upd_same]
  | some cv =>
    obtain ⟨c', e, hco⟩ := ha pos cv hc
    subst e
    refine PySem.W.kla_makeFunctionHit (mg := X.mg) (c := c) (P := P) (ps := ps) hcl I.ok.glob (I.mod.glob.keeps I.bk) hcode (TB.code.keeps I.bk) hP' ht hc bP fun ctv h' tk hx hsz => ?_
    have I1 : Inv X pins σ H { s with heap := h', toks := tk } := I.kept hx
    have I2 := lay I1 c' ((X.mg "__name__").getD .none) ctv
    have nF : H h'.objs.size = none := I1.hok.fresh (Nat.le_refl _)
    have up : ∀ b o, H b = some o → upd H h'.objs.size (FunO h'.objs.size (lamO (lamQ X) params body scope ((X.mg "__name__").getD .none) c' ctv)) b = some o := fun b o e => by rw [upd_ne (ne_of_none e nF)]; exact e
    exact h h'.objs.size c' ((X.mg "__name__").getD .none) ctv _ _ I2 (ExtN.of up) (fun b o e => ⟨o, up b o e⟩) (hT.ext up) nF upd_same (up _ _ hco)
end
/-! ### a lambda called -/
def lamSc (x : PySem.Str) (scope : Scope) : Bool := decide (scope.kind = .function) && !scope.isCoroutine && !scope.isGenerator && (scope.names.all fun y => !decide (y.2 = .cell)) && decide (scope.names.lookup x = some .local)
theorem lamc_call {prog : Program} {w : World} {A : Around} {s : Shared} {f c' : Addr} {q x : PySem.Str} {params : Arguments} {body : Expr} {scope : Scope} {pm ctv v : Value} {Q : Value → Shared → Prop} (hroom : A.depth < recursionLimit) (ho : s.heap.get? f = some (lamO q params body scope pm c' ctv))
    (hrec : ∃ (oc : Obj) (vs : Array Value) (t : Tok), s.heap.get? c' = some oc ∧ oc.data = .fields vs ∧ vs[1]? = some (.str q t)) (hlim : s.heap.NoLimit) (hsc : lamSc x scope = true)
    (hbind : bindArgs (PySem.W.kla_fn "<lambda>" q params body scope [] pm (.ref c') ctv) ⟨[v], []⟩ = pure [(x, v)])
    (hbody : ∀ (h₁ : Heap) (tk : Nat), h₁.Ns s.heap.objs.size (fun y => [(x, v)].lookup y) → (∀ b o, s.heap.get? b = some o → h₁.get? b = some o) → s.toks ≤ tk →
      wpAny (model prog w) (A.deeper (PySem.W.envX q scope s.heap.objs.size f (.ref c') [])) (eval body (PySem.W.envX q scope s.heap.objs.size f (.ref c') [])) Q (fun _ _ => False) { s with heap := h₁, toks := tk }) :
    wpAny (model prog w) A (call (.ref f) [v]) Q (fun _ _ => False) s := by
  obtain ⟨oc, vs, t, h1, h2, h3⟩ := hrec
  unfold lamSc at hsc
  simp only [Bool.and_eq_true, Bool.not_eq_true', decide_eq_true_eq] at hsc
  obtain ⟨⟨⟨⟨k1, k2⟩, k3⟩, k4⟩, k5⟩ := hsc
  refine wpAny_call (PySem.W.kla_callFunE hroom ho rfl k2 k3 rfl ⟨c', oc, vs, t, rfl, h1, h2, h3⟩ ?_)
  rw [hbind]
  refine wpAny_pure (wpAny_newFunctionEnv (fun y hy => ?_) (fun y hy => ?_) (fun h₁ hns hsb => ⟨hlim.fresh _ hsb, ?_⟩) k1)
  · have := List.all_eq_true.mp k4 y hy
    simpa using this
  · rw [List.mem_singleton] at hy
    rw [hy]; exact k5
  · show codeAny _ _ (.expr body (PySem.W.envX q scope s.heap.objs.size f (.ref c') [])) _ _
    refine PySem.W.kla_codeExpr (wpAny_mono (hbody h₁ _ hns (fun b o e => hsb.extBut b o (Nat.ne_of_lt (Heap.lt_size e)) (Heap.get?_push_of_some _ e)) (Nat.le_add_right _ _)) (fun v s' hq => ?_) fun e s' hq => hq.elim)
    exact hq
end DL

set_option maxRecDepth 100000
set_option linter.all false
set_option maxHeartbeats 2000000
/-! DL22: min(xs, key=lambda p: len(p[2])). -/
namespace DL
open PySem L2 PySem.Spec PyProof.Rows LamX
section
variable {prog : Program} {w : World} {A : Around} {E : Value → Shared → Prop} {s : Shared}
/-- x[k] in a lambda's body -/
theorem body_ix {q x : PySem.Str} {scope : Scope} {L f : Addr} {cd : Value} {p1 p2 p3 : Pos} {j n : Nat} {k : Int} {t : Addr} {its : Array Value} {u : Value} {m : PySem.Str → Option Value} {Q : Value → Shared → Prop} (hk : scope.kind = .function) (hx : scope.names.lookup x = some .local) (hd : (x == ("__debug__" : Str)) = false)
    (hns : s.heap.Ns L m) (hm : m x = some (.ref t)) (ht : IsTup s.heap t its) (h0 : 0 ≤ k) (hn : k = (n : Nat)) (hu : its[n]? = some u) (hz : its.size ≤ sizeLine) (h : ∀ tk, s.toks ≤ tk → Q u { s with toks := tk }) :
    wpAny (model prog w) A (eval (.Subscript (.Name x p1) (.Constant (.int k) j p2) p3) (PySem.W.envX q scope L f cd [])) Q E s := by
  refine Subscript_ (wpAny_Name (wpAny_loadName_local (env := PySem.W.envX q scope L f cd []) hk hx hns hm ?_) hd)
  refine wpAny_Constant_int ?_
  have hl : n < its.size := (Array.getElem?_eq_some_iff.mp hu).1
  have hn63 := line63
  have hs : sizeLine = 16777216 := sizeLine_eq
  refine subscriptTail_builtinR (s := { s with toks := s.toks + 1 }) (x := u) ht.typeIs PyProof.Rows.slot_tuple_getitem.lookup
    (getItem_tuple (s := { s with toks := s.toks + 1 }) (j := n) (Q := fun r s' => r = u ∧ Q r s') ht (by omega) (by omega) ?_ hu ⟨rfl, h _ (Nat.le_succ _)⟩) (by with_unfolding_all rfl)
  have c1 : ¬ ((n : Nat) : Int) < 0 := by omega
  have c2 : (decide (0 ≤ ((n : Nat) : Int)) && decide (((n : Nat) : Int) < (its.size : Int))) = true := by
    rw [Bool.and_eq_true, decide_eq_true_eq, decide_eq_true_eq]; omega
  unfold seqIndex?
  dsimp only
  rw [hn, if_neg c1, if_pos c2]
  rfl
/-- len(x[k]) in a lambda's body -/
theorem body_len {q x : PySem.Str} {scope : Scope} {L f l : Addr} {cd : Value} {p1 p2 p3 p4 p5 : Pos} {j n : Nat} {k : Int} {t : Addr} {its ys : Array Value} {m mg mb : PySem.Str → Option Value} {Q : Value → Shared → Prop} (hk : scope.kind = .function) (hx : scope.names.lookup x = some .local) (hd : (x == ("__debug__" : Str)) = false)
    (hg : scope.names.lookup ("len" : PySem.Str) = some .globalImplicit) (hG : s.heap.Ns mainGlobals mg) (hB : s.heap.Ns builtinsNs mb) (hm1 : mg "len" = none) (hb1 : mb "len" = some (.builtin "len"))
    (hns : s.heap.Ns L m) (hm : m x = some (.ref t)) (ht : IsTup s.heap t its) (h0 : 0 ≤ k) (hn : k = (n : Nat)) (hu : its[n]? = some (.ref l)) (hz : its.size ≤ sizeLine) (hl : s.heap.IsList l ys) (hz2 : ys.size ≤ sizeLine) (h : ∀ tk t', s.toks ≤ tk → Q (.int (ys.size : Nat) t') { s with toks := tk }) :
    wpAny (model prog w) A (eval (.Call (.Name "len" p4) [.Subscript (.Name x p1) (.Constant (.int k) j p2) p3] [] p5) (PySem.W.envX q scope L f cd [])) Q E s := by
  refine wpAny_Call_Name_kw (Calls.Name_function_global (env := PySem.W.envX q scope L f cd []) hk hg (Calls.loadGlobal_builtin (env := PySem.W.envX q scope L f cd []) hG hm1 hB hb1 ?_) (by decide))
  refine PyProof.Rows.callWith_builtin1 (env := PySem.W.envX q scope L f cd []) ?_ (by rfl) (by rfl)
  show wpAny _ _ (spliced ((false, eval (.Subscript (.Name x p1) (.Constant (.int k) j p2) p3) (PySem.W.envX q scope L f cd [])) :: backTo p5 (starEach [] _))) _ _ _
  refine Calls.spliced_cons (body_ix hk hx hd hns hm ht h0 hn hu hz fun tk htk => ?_)
  refine Calls.spliced_nil ?_
  refine Calls.call_len_list (s := { s with toks := tk }) hl ?_ ?_
  · have hs : sizeLine = 16777216 := sizeLine_eq
    omega
  · exact h _ _ (Nat.le_trans htk (Nat.le_add_right tk 2))
end
/-! ### the rule -/
section
variable {M : Me} {k : Nat}
/-- the lambda's function object, tracked -/
structure LamAt (H : Hp) (f : Addr) (q : PySem.Str) (params : Arguments) (body : Expr) (scope : Scope) : Prop where
  ex : ∃ c' pm ctv, H f = some (FunO f (lamO q params body scope pm c' ctv)) ∧ H c' = some (CodeO c' q)
def tLam (T : List (Addr × PySem.Str)) (q : PySem.Str) (params : Arguments) (body : Expr) (scope : Scope) : TE := fun _ H Q => Tabs T H ∧ ∀ f H1, ExtN H H1 → (∀ b o, H b = some o → ∃ o', H1 b = some o') → Tabs T H1 → H f = none → LamAt H1 f q params body scope → Q (.ref f) H1
theorem pe_lam {X : Cx} {T : List (Addr × PySem.Str)} {c P : Addr} {params : Arguments} {body : Expr} {scope : Scope} {pos : Pos} (TB : TabB X.base X.mg c P) (hcode : X.env.code = .ref c) (hm : (P, lamQ X) ∈ T) (hu : ∀ p ∈ T, p.1 = P → p.2 = lamQ X) (hdef : defaultsOf params X.env = ([], []))
    (hfree : (scope.names.all fun y => !decide (y.2 = .free)) = true) : PE X (.Lambda params body scope pos) (tLam T (lamQ X) params body scope) := by
  refine ⟨fun pins s σ H Q I h => ?_⟩
  obtain ⟨hT, h⟩ := h
  exact lam_make3 I TB hcode hm hu hT hdef hfree fun f c' pm ctv H1 s' I1 eN eS T1 nF h1 h2 => ⟨.ref f, H1, I1, rfl, h f H1 eN eS T1 nF ⟨c', pm, ctv, h1, h2⟩⟩
/-- the third items are lists of so many items -/
def Third (K : PySem.W.Frag) (H : Hp) (x : V) (n : Nat) : Prop := ∃ t a b l ys, x = .ref t ∧ SqT K H t [a, b, .ref l] ∧ SqL K H l ys ∧ ys.length = n
def btN (ns : List Nat) (i j : Nat) : Bool := decide (ns.getD i 0 < ns.getD j 0)
def rMinL (K : PySem.W.Frag) (q : PySem.Str) (params : Arguments) (body : Expr) (scope : Scope) : List V → List V → Hp → VK → Prop := fun vs zs H Q => ∃ a f xs ns, vs = [.ref a] ∧ zs = [.ref f] ∧ LamAt H f q params body scope ∧ SqL K H a xs ∧ 0 < xs.length ∧ Paired (Third K H) xs ns ∧
  ∀ x, xs[argBest (btN ns) (xs.length - 1)]? = some x → Q x H
/-- lambda x: len(x[2]) -/
structure IsLen2 (x : PySem.Str) (params : Arguments) (body : Expr) (scope : Scope) : Prop where
  sc : lamSc x scope = true
  bd : ∃ p1 p2 p3 p4 p5 j, body = .Call (.Name "len" p4) [.Subscript (.Name x p1) (.Constant (.int 2) j p2) p3] [] p5
  gl : scope.names.lookup ("len" : PySem.Str) = some .globalImplicit
  db : (x == ("__debug__" : PySem.Str)) = false
  bind : ∀ (q : PySem.Str) (pm cd ctv v : Value), bindArgs (PySem.W.kla_fn "<lambda>" q params body scope [] pm cd ctv) ⟨[v], []⟩ = pure [(x, v)]
theorem args_room {X : Cx} (G : Good M k X) : X.A.in1.depth < recursionLimit := by
  have := G.room.dp
  show X.A.depth < _
  omega
theorem cr_minL {X : Cx} {q x : PySem.Str} {params : Arguments} {body : Expr} {scope : Scope} (G : Good M k X) (hlen : X.mg "len" = none) (L : IsLen2 x params body scope) : CallRK X (.builtin "min") ["key"] (rMinL X.K q params body scope) := by
  intro pins s σ H vs zs us ws Q I r r2 h
  obtain ⟨a, f, xs, ns, rfl, rfl, ⟨c', pm, ctv, hf, hc⟩, hs, h0, hp, hq⟩ := h
  obtain ⟨u, rfl, ru⟩ := vals1 r
  cases ru
  obtain ⟨u2, rfl, ru2⟩ := vals1 r2
  cases ru2
  obtain ⟨its, rv, hl, hz⟩ := I.list hs
  have e0 : its.toArray.size = xs.length := by rw [List.size_toArray, ← rv.length]
  have hh : X.A.in1.handled = none := I.ok.hd G.calm
  have kf : s.heap.get? f = some (lamO q params body scope pm c' ctv) := (I.hok f _ hf).1
  obtain ⟨oc, cvs, ct, kc⟩ : ∃ (oc : Obj) (vs : Array Value) (t : Tok), s.heap.get? c' = some oc ∧ oc.data = .fields vs ∧ vs[1]? = some (.str q t) := (I.hok c' _ hc).1
  obtain ⟨mb, nb, hb⟩ := I.mod.blt
  have hne : a ≠ s.heap.objs.size := by
    obtain ⟨o, ho, _⟩ := hl.isList
    exact Nat.ne_of_lt (Heap.lt_size ho)
  -- what stays
  let J : Shared → Prop := fun s' => ∃ h tk, s' = { s with heap := h, toks := tk } ∧ ∀ b o, s.heap.get? b = some o → h.get? b = some o
  let W := (Walks.list (prog := X.prog) (w := X.w) (A := X.A.in1) hh s.heap.objs.size a hne its.toArray).toS
  show wpAny _ _ (call (.builtin "min") [.ref a] [(Str.ofString "key", .ref f)]) _ _ s
  refine call_min_walkK (wpAny_pyIter_list hl.isList ?_)
  refine ⟨s.heap.objs.size, _, _, _, its.toArray.size, _, _, J, fun i kv _ => ∃ t, kv = .int ((ns.getD i 0 : Nat) : Int) t, btN ns, rfl, W, ⟨⟨_, Heap.get?_push_size _ rfl, rfl, rfl⟩, hl.isList.push _⟩, fun b hb => ?_, by rw [e0]; exact h0, ?_, ?_, fun v s' hv hJ => ?_⟩
  · rw [Heap.size_push]
    rcases List.mem_cons.mp hb with e | hb
    · rw [e]; exact Nat.lt_succ_self _
    · rw [List.mem_singleton.mp hb]
      obtain ⟨o, ho, _⟩ := hl.isList
      exact Nat.lt_succ_of_lt (Heap.lt_size ho)
  · refine ⟨fun s1 s2 hJ mv => ?_, fun i kv s1 s2 hV _ => hV, fun i v s1 o Q' E' hi hv hJ hst hS hQ => ?_, fun i j ki kj s1 Q' E' hJ hi hj hQ => ?_⟩
    · obtain ⟨h1, tk1, rfl, k1⟩ := hJ
      obtain ⟨h2, g2, d2, tk2, o2⟩ := s2
      have e1 : g2 = s.gens := mv.gens
      have e2 : d2 = s.drawn := mv.drawn
      have e3 : o2 = s.os := mv.os
      subst e1 e2 e3
      refine ⟨h2, tk2, rfl, fun b o e => mv.heap b o ?_ (k1 b o e)⟩
      have hb := Heap.lt_size e
      intro hb2
      rcases List.mem_cons.mp hb2 with z | z
      · have z' : b = s.heap.objs.size + 1 := z.trans (Heap.size_push ..)
        rw [z'] at hb
        exact absurd hb (Nat.not_lt.mpr (Nat.le_succ _))
      · have z' := List.mem_singleton.mp z
        rw [z'] at hb
        exact absurd hb (Nat.lt_irrefl _)
    · obtain ⟨h1, tk1, rfl, k1⟩ := hJ
      have hv' : its[i]? = some v := by simpa using hv
      have hi' : i < xs.length := by rw [← e0]; exact hi
      obtain ⟨z, ez, rz⟩ := Vals.get rv (List.getElem?_eq_getElem hi')
      rw [hv'] at ez
      cases ez
      obtain ⟨n, en, t, xa, xb, l, ys, et, ht, hly, hyn⟩ := paired_getL hp (List.getElem?_eq_getElem hi')
      rw [et] at rz
      cases rz
      obtain ⟨tit, rt, htt, _⟩ := I.tuple ht
      obtain ⟨yit, ry, hyl, hyz⟩ := I.list hly
      obtain ⟨w0, w1, w2, rfl, _, _, rw2⟩ : ∃ w0 w1 w2, tit = [w0, w1, w2] ∧ RelV xa w0 ∧ RelV xb w1 ∧ RelV (.ref l) w2 := by
        cases rt with
        | cons p1 rt => cases rt with
          | cons p2 rt => cases rt with
            | cons p3 rt => cases rt; exact ⟨_, _, _, rfl, p1, p2, p3⟩
      cases rw2
      obtain ⟨p1, p2, p3, p4, p5, j, rfl⟩ := L.bd
      have sc := L.sc
      unfold lamSc at sc
      simp only [Bool.and_eq_true, Bool.not_eq_true', decide_eq_true_eq] at sc
      refine wpAny_mono (lamc_call (q := q) (x := x) (pm := pm) (ctv := ctv) (c' := c') (args_room G) (k1 _ _ kf) ⟨oc, cvs, ct, k1 _ _ kc.1, kc.2⟩ (I.nolimit.keeps k1) L.sc (L.bind q pm (.ref c') ctv _) fun h2 tk2 hns k2 htk2 => ?_) (fun _ _ z => z) fun _ _ z => z.elim
      have kk : ∀ b o, s.heap.get? b = some o → h2.get? b = some o := fun b o e => k2 b o (k1 b o e)
      have ek : [(x, Value.ref t)].lookup x = some (.ref t) := by simp only [List.lookup, beq_self_eq_true]
      have tt : IsTup h2 t [w0, w1, .ref l].toArray := htt.keeps kk
      have yl : h2.IsList l yit.toArray := Heap.IsList.at hyl.isList fun o e => kk _ o e
      refine body_len (s := { s with heap := h2, toks := tk2 }) (n := 2) sc.1.1.1.1 sc.2 L.db L.gl (I.mod.glob.keeps fun b o e => kk b o (I.bk b o e)) (nb.keeps fun b o e => kk b o (I.bk b o e)) hlen ((hb _ (by decide)).trans PySem.boot_len) hns ek tt (by decide) rfl rfl (by show 3 ≤ sizeLine; rw [sizeLine_eq]; decide) yl (by rw [List.size_toArray, ← ry.length]; exact hyz) fun tk3 t' htk3 => ?_
      refine hQ _ _ ⟨h2, tk3, rfl, kk⟩ (W.frame (i + 1) { s with heap := h1, toks := tk1 } h2 tk3 hst (Nat.le_trans htk2 htk3) fun b _ o e => k2 b o e) (k2 _ _ hS) ⟨t', ?_⟩ fun _ _ z => z
      have e1 : yit.toArray.size = ns.getD i 0 := by
        rw [List.size_toArray, ← ry.length, hyn, List.getD_eq_getElem?_getD, en]; rfl
      rw [e1]
    · obtain ⟨t, rfl⟩ := hi
      obtain ⟨t', rfl⟩ := hj
      refine (CmpOf.ints_lt (prog := X.prog) (w := X.w) (A := X.A.in1) (P := fun i v => ∃ t, v = .int ((ns.getD i 0 : Nat) : Int) t) (fun i => ((ns.getD i 0 : Nat) : Int)) (fun i v h => h) i j _ _ s1 Q' E' ⟨t, rfl⟩ ⟨t', rfl⟩ ?_)
      have : decide (((ns.getD i 0 : Nat) : Int) < ((ns.getD j 0 : Nat) : Int)) = btN ns i j := by
        unfold btN; exact decide_eq_decide.mpr (by omega)
      show Q' (.bool (decide (((ns.getD i 0 : Nat) : Int) < ((ns.getD j 0 : Nat) : Int)))) s1
      rw [this]; exact hQ
  · exact ⟨_, s.toks, rfl, fun b o e => Heap.get?_push_of_some _ e⟩
  · obtain ⟨h1, tk1, rfl, k1⟩ := hJ
    have hv' : its[argBest (btN ns) (its.toArray.size - 1)]? = some v := by simpa using hv
    rw [e0] at hv'
    have hi : argBest (btN ns) (xs.length - 1) < xs.length := by
      have := (List.getElem?_eq_some_iff.mp hv').1
      rw [← rv.length] at this; exact this
    obtain ⟨z, ez, rz⟩ := Vals.get rv (List.getElem?_eq_getElem hi)
    rw [hv'] at ez
    cases ez
    exact ⟨_, H, I.kept (t' := tk1) k1, rz, hq _ (List.getElem?_eq_getElem hi)⟩
/-! ### over slots of data -/
def thirds : List PyData → Option (List Nat)
  | [] => some []
  | .tuple [_, _, .list ys] :: r => (thirds r).bind fun ns => some (ys.length :: ns)
  | _ :: _ => none
theorem thirds_at {Z H : Hp} (f : Le Z H) : ∀ {ds : List PyData} {ns : List Nat} {vs : List V}, thirds ds = some ns → PlA M Z vs ds → Paired (Third M.K H) vs ns
  | [], _, _, e, h => by cases e; cases h.nil_inv; exact .nil
  | d :: r, ns, vs, e, h => by
    unfold thirds at e
    split at e
    · rename_i ds' e'
      cases e'
    · rename_i ds' a b ys r' e'
      cases e'
      rw [Option.bind_eq_some_iff] at e
      obtain ⟨ns', e1, e2⟩ := e
      cases e2
      obtain ⟨v, vr, rfl, h1, h2⟩ := h.cons_inv
      obtain ⟨t, xs, rfl, h3, h4⟩ := h1.tup_inv
      obtain ⟨va, _, rfl, _, h4⟩ := h4.cons_inv
      obtain ⟨vb, _, rfl, _, h4⟩ := h4.cons_inv
      obtain ⟨vc, _, rfl, h5, h4⟩ := h4.cons_inv
      cases h4.nil_inv
      obtain ⟨l, ls, rfl, h6, h7⟩ := h5.lst_inv
      exact .cons ⟨t, va, vb, l, ls, rfl, SqT.of (f _ _ h3), SqL.of (f _ _ h6), h7.length⟩ (thirds_at f e1 h2)
    · cases e
def fMinL (f : F OV) : F OV := fun d => (f d).bind fun p => match fzO p.1 with
  | some (.list xs) => (thirds xs).bind fun ns => (xs[argBest (btN ns) (xs.length - 1)]?).bind fun x => some (.val x, p.2)
  | _ => none
/-- the tables stay but for what is added -/
theorem lam_step {Z H H1 : Hp} {s : Sg} {d : SD} {P : Addr → Prop} (S : Sl M Z H s d) (eN : ExtN H H1) (eS : ∀ b o, H b = some o → ∃ o', H1 b = some o') (T1 : Tabs M.T H1) : Step M.T Z H Z H1 P ∧ Le Z H1 :=
  ⟨⟨Le.refl Z, fun _ _ _ => rfl, fun a o e _ n => eN a o e n, eS, id, fun _ => T1⟩, fun a o e => eN a o (S.fz a o e) fun ps z => by rw [z] at e; exact S.nt a ps e⟩
theorem de_minL {X : Cx} {c P : Addr} {q x : PySem.Str} {params : Arguments} {body : Expr} {scope : Scope} {e : Expr} {te : TE} {f : F OV} {p pos lpos kpos : Pos} (TB : TabB M.base M.mg c P) (hcode : X.env.code = .ref c) (hq : lamQ X = q) (hT : (P, q) ∈ M.T) (hu : ∀ p ∈ M.T, p.1 = P → p.2 = q) (L : IsLen2 x params body scope) (hm : M.mg "min" = none) (hm2 : M.mg "len" = none) (h : DE M k X e te f)
    (hdef : defaultsOf params X.env = ([], []) := by rfl) (hfree : (scope.names.all fun y => !decide (y.2 = .free)) = true := by decide +kernel) (hg : Gl X "min" := by rfl) (hst : starEach [e] X.env = (false, eval e X.env) :: starEach [] X.env := by rfl)
    (he : backTo pos (starEach [e] X.env) = (false, eval e X.env) :: backTo pos (starEach [] X.env) := by rfl) (hpl : (backTo pos (starEach [e] X.env)).any (·.1) = false := by rfl)
    (hall : (backToKw pos (keywordEach [⟨some "key", .Lambda params body scope lpos, kpos⟩] X.env)).all (·.1.isSome) = true := by rfl) (hnone : (backToKw pos (keywordEach [⟨some "key", .Lambda params body scope lpos, kpos⟩] X.env)).any (·.1.isNone) = false := by rfl) (hks : (backToKw pos (keywordEach [⟨some "key", .Lambda params body scope lpos, kpos⟩] X.env)).filterMap (·.1) = ([Str.ofString "key"] : List PySem.Str) := by rfl) :
    DE M k X (.Call (.Name "min" p) [e] [⟨some "key", .Lambda params body scope lpos, kpos⟩] pos) (tCKw (rMinL M.K q params body scope) (tCons te tNil) (tCons (tLam M.T q params body scope) tNil)) (fMinL f) := by
  refine ⟨fun G => ?_, ?_⟩
  · rw [← G.K]
    have L' := pe_lam (X := X) (T := M.T) (c := c) (P := P) (params := params) (body := body) (scope := scope) (pos := lpos) (by rw [G.base, G.mg]; exact TB) hcode (by rw [hq]; exact hT) (by rw [hq]; exact hu) hdef hfree
    rw [hq] at L'
    exact pe_callBK (cr_minL G (by rw [G.mg]; exact hm2) L) hg (by rw [G.mg]; exact hm) (by decide +kernel) (pa_cons (h.pe G) pa_nil hst) (pk_cons L' pk_nil) (by decide) (by decide) he hpl hall hnone hks
  · intro Z H s d ov d' Q S e q
    simp only [fMinL, Option.bind_eq_some_iff] at e
    obtain ⟨⟨o, d1⟩, e1, e2⟩ := e
    dsimp only at e2
    split at e2
    case h_2 => cases e2
    rename_i xs hx
    simp only [Option.bind_eq_some_iff] at e2
    obtain ⟨ns, e3, y, e4, e5⟩ := e2
    cases e5
    refine h.ok Z H s d o _ _ S e1 fun v Z1 H1 t1 S1 k1 r1 => ?_
    refine ⟨S1.tb, fun f H2 eN eS T2 nF LA => ?_⟩
    obtain ⟨st, f2⟩ := lam_step (P := Ows s d) S1 eN eS T2
    obtain ⟨st', _⟩ := lam_step (P := fun _ => False) S1 eN eS T2
    have pl := (r1.fz hx).plain fun _ z => by cases z
    obtain ⟨a, vs, rfl, h1, h2⟩ := pl.lst_inv
    have hl := h2.length
    refine ⟨a, f, vs, ns, rfl, rfl, LA, SqL.of (f2 _ _ h1), ?_, thirds_at f2 e3 h2, fun z hz => ?_⟩
    · have := (List.getElem?_eq_some_iff.mp e4).1
      rw [hl]; omega
    · rw [hl] at hz
      obtain ⟨d', w1, w2⟩ := h2.getV hz
      rw [e4] at w1
      cases w1
      exact q z Z1 H2 (t1.trans st) (S1.no st' f2) k1 (.val (.pl w2))
end
end DL

set_option maxRecDepth 100000
set_option linter.all false
set_option maxHeartbeats 2000000
/-! DL23: sorted(xs, key=lambda p: p[0]). -/
namespace DL
open PySem L2 PySem.Spec PySem.W PyProof.Rows LamX
def key0 (d : PyData) : PyData := match d with
  | .tuple (.str x :: _) => .str x
  | _ => .none
/-- lambda x: x[0] -/
structure IsIx0 (x : PySem.Str) (params : Arguments) (body : Expr) (scope : Scope) : Prop where
  sc : lamSc x scope = true
  bd : ∃ p1 p2 p3 j, body = .Subscript (.Name x p1) (.Constant (.int 0) j p2) p3
  db : (x == ("__debug__" : PySem.Str)) = false
  bind : ∀ (q : PySem.Str) (pm cd ctv v : Value), bindArgs (PySem.W.kla_fn "<lambda>" q params body scope [] pm cd ctv) ⟨[v], []⟩ = pure [(x, v)]
section
variable {M : Me} {k : Nat}
theorem key0_alike {ds : List PyData} (h : ds.all isHd = true) : AllAlike (ds.map key0) ∧ Sortable (ds.map key0) ∧ ∀ d, d ∈ ds → ∃ x r, d = .tuple (.str x :: r) := by
  have a : ∀ d, d ∈ ds → ∃ x r, d = .tuple (.str x :: r) := fun d hd => by
    have := List.all_eq_true.mp h d hd
    unfold isHd at this
    split at this
    · exact ⟨_, _, rfl⟩
    · cases this
  refine ⟨fun d hd e he => ?_, .inr fun d hd => ?_, a⟩
  · obtain ⟨x, hx, rfl⟩ := List.mem_map.mp hd
    obtain ⟨y, hy, rfl⟩ := List.mem_map.mp he
    obtain ⟨_, _, rfl⟩ := a _ hx
    obtain ⟨_, _, rfl⟩ := a _ hy
    rfl
  · obtain ⟨x, hx, rfl⟩ := List.mem_map.mp hd
    obtain ⟨_, _, rfl⟩ := a _ hx
    show PyData.str _ ≠ _ ∧ ∀ xs, PyData.str _ ≠ _
    exact ⟨nofun, nofun⟩
def rKey0 (M : Me) (q : PySem.Str) (params : Arguments) (body : Expr) (scope : Scope) : List V → List V → Hp → VK → Prop := fun vs zs H Q => ∃ a b f xs ds Z, vs = [.ref a] ∧ zs = [.ref f] ∧ LamAt H f q params body scope ∧ Sq b M.K H a xs ∧ PlA M Z xs ds ∧ Le Z H ∧ ds.all isHd = true ∧ ds.length ≤ sizeLine ∧
  ∀ vs p, PlA M Z vs (ds.mergeSort (dataLe false key0)) → H p = none → Q (.ref p) (upd H p (.lst vs))
theorem cr_key0 {X : Cx} {q x : PySem.Str} {params : Arguments} {body : Expr} {scope : Scope} (G : Good M k X) (L : IsIx0 x params body scope) : CallRK X (.builtin "sorted") ["key"] (rKey0 M q params body scope) := by
  intro pins s σ H vs zs us ws Q I r r2 h
  obtain ⟨a, b, f, xs, ds, Z, rfl, rfl, ⟨c', pm, ctv, hf, hc⟩, hs, hp, fz, hh, hl, hq⟩ := h
  obtain ⟨u, rfl, ru⟩ := vals1 r
  cases ru
  obtain ⟨u2, rfl, ru2⟩ := vals1 r2
  cases ru2
  have kf : s.heap.get? f = some (lamO q params body scope pm c' ctv) := (I.hok f _ hf).1
  obtain ⟨oc, cvs, ct, kc⟩ : ∃ (oc : Obj) (vs : Array Value) (t : Tok), s.heap.get? c' = some oc ∧ oc.data = .fields vs ∧ vs[1]? = some (.str q t) := (I.hok c' _ hc).1
  obtain ⟨hal, hsk, hform⟩ := key0_alike hh
  rw [← G.K] at hs
  show wpAny _ _ (call (.builtin "sorted") [.ref a] [(Str.ofString "key", .ref f)]) _ _ s
  refine call_function_entry_kw kind_sorted plain_sorted entry_sorted (ksk_s1 _ _) ?_
  unfold Builtin.«sorted»
  refine wpAny_bind (m := checkCount "sorted" 1 1 _) (wpAny_pure ?_)
  refine wpAny_bind (collS I hs hp _ _ fun h1 tk1 acc k1 hacc => ?_)
  have I1 : Inv X pins σ H { s with heap := h1, toks := tk1 } := I.kept (t' := tk1) k1
  have hL : acc.length ≤ sizeLine := by rw [hacc.length]; exact hl
  refine wpAny_bind (wpAny_newList ?_ hL)
  have hoL : (h1.push (seqObj "list" acc.toArray 0)).get? h1.objs.size = some (seqObj "list" acc.toArray 0) := Heap.get?_push_size _ rfl
  have up : ∀ b o, s.heap.get? b = some o → b ≠ h1.objs.size := fun b o e => Nat.ne_of_lt (Heap.lt_size (k1 b o e))
  have k2 : ∀ b o, s.heap.get? b = some o → (h1.push (seqObj "list" acc.toArray 0)).get? b = some o := fun b o e => Heap.get?_push_of_some _ (k1 b o e)
  have hr := G.room.units
  have e1 : X.A.in1.in1.in1.units = X.A.units + 3 := rfl
  have hdp : X.A.in1.in1.in1.depth < recursionLimit := by
    have := G.room.dp
    show X.A.depth < _
    omega
  refine wpAny_bind (wpAny_holding (wpAny_call_entry_kw slot_list_sort ⟨_, hoL, rfl⟩ entry_list_sort ?body (ksk_l1 _ _)))
  case body =>
    rw [ksk_t1]
    refine keyH_tree (kz := ds.map key0) (s := { s with heap := h1.push (seqObj "list" acc.toArray 0), toks := tk1 }) hoL (by rw [List.length_map]; exact hacc.length.symm) hL hal hsk (bound_map fun d hd => ?_)
      (keyH_turns (s := { s with heap := h1.push (seqObj "list" acc.toArray 0), toks := tk1 }) hacc fun v d hv hd h tk kp => ?_) fun h' tk out c kp hD ko => ?_
    · obtain ⟨y, r, rfl⟩ := hform d hd
      show _ + (key0 (.tuple (.str y :: r))).depth < _
      have : (key0 (.tuple (.str y :: r))).depth ≤ 1 := by simp [key0, PyData.depth]
      have e2 : (X.A.in1.in1).units ≤ X.A.units + 3 := by show X.A.units + 2 ≤ _; omega
      have : cLine > 100 := by decide
      omega
    · obtain ⟨y, r, rfl⟩ := hform d hd
      obtain ⟨z, rz, pz⟩ := hv
      obtain ⟨t, ws, rfl, h3, h4⟩ := pz.tup_inv
      cases rz
      have ht : SqT X.K H t ws := by rw [G.K]; exact SqT.of (fz _ _ h3)
      obtain ⟨tit, rt, htt, hz⟩ := I.tuple ht
      obtain ⟨v0, vr, rfl, h5, h6⟩ := h4.cons_inv
      have hz' : tit.toArray.size ≤ sizeLine := by rw [List.size_toArray, ← rt.length]; exact hz
      cases rt with
      | cons p1 rt =>
      have hk : ∀ b o, s.heap.get? b = some o → h.get? b = some o := fun b o e => kp b o (up b o e) (k2 b o e)
      obtain ⟨p1', p2, p3, j, rfl⟩ := L.bd
      have sc := L.sc
      unfold lamSc at sc
      simp only [Bool.and_eq_true, Bool.not_eq_true', decide_eq_true_eq] at sc
      refine wpAny_mono (lamc_call (q := q) (x := x) (pm := pm) (ctv := ctv) (c' := c') (s := { s with heap := h, toks := tk }) hdp (hk _ _ kf) ⟨oc, cvs, ct, hk _ _ kc.1, kc.2⟩ (I.nolimit.keeps hk) L.sc (L.bind q pm (.ref c') ctv _) fun h2 tk2 hns kk htk2 => ?_) (fun _ _ z => z) fun _ _ z => z.elim
      have ek : [(x, Value.ref t)].lookup x = some (.ref t) := by simp only [List.lookup, beq_self_eq_true]
      refine body_ix (s := { s with heap := h2, toks := tk2 }) (n := 0) sc.1.1.1.1 sc.2 L.db hns ek (htt.keeps fun b o e => kk _ _ (hk b o e)) (by decide) rfl rfl hz' fun tk3 htk3 => ⟨h2, tk3, rfl, kk, ?_⟩
      obtain ⟨rfl, _⟩ := h5.str_inv
      obtain ⟨tz, rfl⟩ := p1
      exact .str y tz
    · refine ⟨.none, rfl, ?_⟩
      have he2 : EachIs (IsV M Z) out (ds.mergeSort (dataLe false key0)) := keyedOut_each key0 ko hacc
      obtain ⟨vs, r1, r2⟩ := each_vals he2
      have hlen : out.length = ds.length := by rw [he2.length]; simp
      refine wpAny_pure ⟨_, rfl, .ref h1.objs.size, upd H h1.objs.size (.lst vs), I1.laid (t' := tk) (fun b u e => kp b u (Nat.ne_of_lt (Heap.lt_size e)) (Heap.get?_push_of_some _ e)) (Nat.le_refl _)
        (show ObjOk X.prog X.w _ _ _ (.lst vs) from ⟨?_, _, c, r1, hD⟩), rfl, hq vs _ r2 (I1.hok.fresh (Nat.le_refl _))⟩
      rw [r1.length, hlen]; exact hl
def fKey0 (f : F OV) : F OV := fun d => (f d).bind fun p => match fzO p.1 with
  | some (.tuple ds) => if ds.all isHd = true ∧ ds.length ≤ sizeLine then some (.val (.list (ds.mergeSort (dataLe false key0))), p.2) else none
  | _ => none
theorem de_key0 {X : Cx} {c P : Addr} {q x : PySem.Str} {params : Arguments} {body : Expr} {scope : Scope} {e : Expr} {te : TE} {f : F OV} {p pos lpos kpos : Pos} (TB : TabB M.base M.mg c P) (hcode : X.env.code = .ref c) (hq : lamQ X = q) (hT : (P, q) ∈ M.T) (hu : ∀ p ∈ M.T, p.1 = P → p.2 = q) (L : IsIx0 x params body scope) (hm : M.mg "sorted" = none) (h : DE M k X e te f)
    (hdef : defaultsOf params X.env = ([], []) := by rfl) (hfree : (scope.names.all fun y => !decide (y.2 = .free)) = true := by decide +kernel) (hg : Gl X "sorted" := by rfl) (hst : starEach [e] X.env = (false, eval e X.env) :: starEach [] X.env := by rfl)
    (he : backTo pos (starEach [e] X.env) = (false, eval e X.env) :: backTo pos (starEach [] X.env) := by rfl) (hpl : (backTo pos (starEach [e] X.env)).any (·.1) = false := by rfl)
    (hall : (backToKw pos (keywordEach [⟨some "key", .Lambda params body scope lpos, kpos⟩] X.env)).all (·.1.isSome) = true := by rfl) (hnone : (backToKw pos (keywordEach [⟨some "key", .Lambda params body scope lpos, kpos⟩] X.env)).any (·.1.isNone) = false := by rfl) (hks : (backToKw pos (keywordEach [⟨some "key", .Lambda params body scope lpos, kpos⟩] X.env)).filterMap (·.1) = ([Str.ofString "key"] : List PySem.Str) := by rfl) :
    DE M k X (.Call (.Name "sorted" p) [e] [⟨some "key", .Lambda params body scope lpos, kpos⟩] pos) (tCKw (rKey0 M q params body scope) (tCons te tNil) (tCons (tLam M.T q params body scope) tNil)) (fKey0 f) := by
  refine ⟨fun G => ?_, ?_⟩
  · have L' := pe_lam (X := X) (T := M.T) (c := c) (P := P) (params := params) (body := body) (scope := scope) (pos := lpos) (by rw [G.base, G.mg]; exact TB) hcode (by rw [hq]; exact hT) (by rw [hq]; exact hu) hdef hfree
    rw [hq] at L'
    exact pe_callBK (cr_key0 G L) hg (by rw [G.mg]; exact hm) (by decide +kernel) (pa_cons (h.pe G) pa_nil hst) (pk_cons L' pk_nil) (by decide) (by decide) he hpl hall hnone hks
  · intro Z H s d ov d' Q S e q
    simp only [fKey0, Option.bind_eq_some_iff] at e
    obtain ⟨⟨o, d1⟩, e1, e2⟩ := e
    dsimp only at e2
    split at e2
    case h_2 => cases e2
    rename_i ds hx
    split at e2
    case isFalse => cases e2
    rename_i hc
    cases e2
    refine h.ok Z H s d o _ _ S e1 fun v Z1 H1 t1 S1 k1 r1 => ?_
    refine ⟨S1.tb, fun f H2 eN eS T2 nF LA => ?_⟩
    obtain ⟨st, f2⟩ := lam_step (P := Ows s d) S1 eN eS T2
    obtain ⟨st', _⟩ := lam_step (P := fun _ => False) S1 eN eS T2
    have pl := (r1.fz hx).plain fun _ z => by cases z
    obtain ⟨a, vs, rfl, h1, h2⟩ := pl.tup_inv
    refine ⟨a, true, f, vs, ds, Z1, rfl, rfl, LA, SqT.of (f2 _ _ h1), h2, f2, hc.1, hc.2, fun ws p hw hp => ?_⟩
    obtain ⟨t3, g3, d3⟩ := new_lst f2 hp hw
    exact q _ _ _ ((t1.trans st).trans t3.no) ((S1.no st' f2).no t3 g3) k1 (.val d3)
end
end DL

set_option maxRecDepth 100000
set_option linter.all false
set_option maxHeartbeats 2000000
/-! DL24: a chained comparison as a test; defs whose code object is known. -/
namespace DL
open PySem L2 PySem.Spec PyProof.Rows
section
variable {M : Me} {k : Nat} {X : Cx}
theorem dt_chain {op op' : CmpOp} {r r' : R2} {g g' : PyData → PyData → Option PyData} {a b c : Expr} {ta tb tc : TE} {fa fb fc : F OV} {pos : Pos} (ho : OpD M k (compareOp op) r g) (ho' : OpD M k (compareOp op') r' g') (ha : DE M k X a ta fa) (hb : DE M k X b tb fb) (hc : DE M k X c tc fc)
    (hm : lastMarks [op, op'] [b, c] = false := by with_unfolding_all rfl) : DT M k X (.Compare a [op, op'] [b, c] pos) (tTest (tChain r r' ta tb tc)) (fB (fChain g g' fa fb fc)) :=
  ⟨fun G => pt_chain (ho.run X G) (ho'.run X G) (ha.pe G) (hb.pe G) (hc.pe G) hm, ok_test (de_chain (X := X) (pos := pos) ho ho' ha hb hc hm).ok⟩
end
/-- a def whose code object is c -/
structure FunC (K : PySem.W.Frag) (x qual : PySem.Str) (st : Stmt) (f : Addr) (fd : FuncData) (c : Addr) : Prop where
  ex : ∃ (oc : Value) (od : Option Addr) (kV doc pm : Value) (an : Option Addr) (ct : Value) (osl : Array (Option Value)),
    fd = PySem.W.fnOf x qual (defArgs st) (defBody st) (defScope st) .none kV doc pm an (.ref c) ct ∧ K.lookup f = some ⟨oc, od, .func fd, osl⟩ ∧ PySem.W.codeIn K (.ref c) qual = true
  kp : PySem.W.keepIn K (.ref f) = true
theorem FunC.fun {K : PySem.W.Frag} {x qual : PySem.Str} {st : Stmt} {f c : Addr} {fd : FuncData} (F : FunC K x qual st f fd c) : Fun K x qual st f fd := by
  obtain ⟨oc, od, kV, doc, pm, an, ct, osl, e, lk, hcd⟩ := F.ex
  exact ⟨⟨oc, od, kV, doc, pm, an, .ref c, ct, osl, e, lk, hcd⟩, F.kp⟩
section
variable {P : Program} {w : World} {K : PySem.W.Frag} {mg : PySem.Str → Option Value} {base : Heap}
theorem FunC.ok {x qual : PySem.Str} {st : Stmt} {f c : Addr} {fd : FuncData} {N ps : List PySem.Str} {k : Nat} {sp : Sp} (F : FunC K x qual st f fd c) (S : FnScope N ps (defScope st)) (len : ∀ vs H Q E, sp vs H Q E → vs.length = ps.length)
    (hbody : ∀ (A : Around) (outer : List Env) (s : Shared) (H : Hp) (vs : List V) (Q : VK) (E : XK), Room k (A.deeper (envOfC qual (defScope st) s.heap.objs.size f (.ref c))) → sp vs H Q E →
      ∃ t, PSs (cxOf CX0 P w K mg base N qual (defScope st) f (.ref c) A outer s H E).nox (defBody st) t ∧ t { nx := fun _ H' => Q .non H', rt := Q } (L2.start N vs) H) : FnOk P w K mg base CX0 (k + 1) f fd ps sp := by
  obtain ⟨oc, od, kV, doc, pm, an, ct, osl, rfl, lk, hcd⟩ := F.ex
  refine fn_of lk hcd S len fun A outer s H vs Q E hr hsp => ?_
  obtain ⟨t, h, q⟩ := hbody A outer s H vs Q E hr hsp
  exact ⟨t, h.nox, q⟩
end
section
variable {M : Me} {k : Nat}
theorem fn_DC {x qual : PySem.Str} {st : Stmt} {f c : Addr} {fd : FuncData} {N ps : List PySem.Str} {t : TS} {b : F Fl} (F : FunC M.K x qual st f fd c) (S : FnScope N ps (defScope st))
    (h : ∀ (A : Around) (outer : List Env) (s : Shared) (H : Hp) (E : XK), DSs M k (cxD M N qual st f (.ref c) A outer s H E) (defBody st) t b) : FnOk M.P M.w M.K M.mg M.base CX0 (k + 1) f fd ps (spD M ps.length (runF N b)) := by
  refine F.ok S (fun vs H Q E h => ?_) (fun A outer s H vs Q E hr hh => ?_)
  · obtain ⟨_, _, _, h, _⟩ := h; exact h
  obtain ⟨Z, xs, z, hl, le, q, e, kk⟩ := hh
  refine ⟨t, (h A outer s H E).ps (good_cxD S hr), ?_⟩
  simp only [runF, Option.bind_eq_some_iff] at e
  obtain ⟨⟨fl, d'⟩, e1, e2⟩ := e
  refine (h A outer s H E).ok Z H (fun _ => False) Z H (L2.start N vs) (startD N xs) fl d' _ (ent_start le q) e1 ?_
  cases fl with
  | nx => cases e2; exact fun Z' H' s' _ E' => kk .non Z' H' E'.st E'.sl.fz (.pl Pl.non)
  | rt y => cases e2; exact fun Z' H' s' v _ E' w => kk v Z' H' E'.st E'.sl.fz w
  | bk => cases e2
  | ct => cases e2
  | ro y => cases e2
end
/-! ### the script -/
def scrOf (d : PyData) : Option (List PyData) := match d with
  | .dict [(.int 4, .list ds)] => some ds
  | _ => none
section
variable {M : Me} {k : Nat}
theorem RD.scr {Z H : Hp} {v : V} {d : PyData} {ds : List PyData} (q : RD M Z H v d) (e : scrOf d = some ds) : ∃ (a : Addr) (ns : List Int), v = .ref a ∧ ds = ns.map PyData.int ∧ SqL M.K Z a (ns.map V.int) := by
  unfold scrOf at e
  split at e
  · rename_i ds'
    cases e
    have gen : ∀ x, RD M Z H v x → x = .dict [(.int 4, .list ds)] → ∃ (a : Addr) (ns : List Int), v = .ref a ∧ ds = ns.map PyData.int ∧ SqL M.K Z a (ns.map V.int) := by
      intro x q e
      rcases q with q | ⟨a, rfl, hz, q⟩
      · cases q with
        | pl q => subst e; obtain ⟨q, _⟩ := q; cases q
        | ds q =>
          obtain ⟨_, _, kvs, _, z2, _, z4⟩ := q
          rw [z2] at e; cases e
          cases z4 with
          | cons z _ => obtain ⟨_, _, z, _⟩ := z; cases z
        | dt _ _ => cases e
        | li h1 h2 h3 h4 => cases e
        | sc h => cases e; exact ⟨_, _, rfl, rfl, h⟩
      · cases q with
        | lst _ _ => cases e
        | ds h1 z4 =>
          cases e
          cases z4 with
          | cons z _ => obtain ⟨_, _, z, _⟩ := z; cases z
        | dt _ _ => cases e
    exact gen _ q rfl
  · cases e
theorem ints_pl {Z : Hp} : ∀ (ns : List Int), PlA M Z (ns.map V.int) (ns.map PyData.int)
  | [] => .nil
  | _ :: r => .cons Pl.int (ints_pl r)
def gLenC : List PyData → Option PyData := fun xs => match xs with
  | [d] => (scrOf d).bind fun ds => some (.int (ds.length : Nat))
  | _ => none
theorem c_lenC : CalD M k (.builtin "len") (fun xs H Q => ∃ x n, xs = [x] ∧ LenV M.K x H n ∧ Q (.int (n : Nat)) H) gLenC := by
  refine ⟨fun X G => by rw [← G.K]; exact call_len, ?_⟩
  intro Z H vs xs z Q f h e q
  unfold gLenC at e
  split at e
  · rw [Option.bind_eq_some_iff] at e
    obtain ⟨ds, e1, e2⟩ := e
    cases e2
    cases h with
    | cons h h' =>
      cases h'
      obtain ⟨a, ns, rfl, rfl, h1⟩ := h.scr e1
      exact ⟨_, _, rfl, .inl ⟨_, f.sql h1, by simp⟩, q _ Z H Step.refl f (.pl Pl.int)⟩
  · cases e
def gIxC (a b : PyData) : Option PyData := match b with
  | .int i => (scrOf a).bind fun ds => atI ds i
  | _ => none
theorem rok_ixC : ROk M (rIx M.K) gIxC := by
  intro Z H x y a b z Q f hx hy e q
  unfold gIxC at e
  split at e
  · rw [Option.bind_eq_some_iff] at e
    obtain ⟨ds, e1, e2⟩ := e
    obtain ⟨p, ns, rfl, rfl, h1⟩ := hx.scr e1
    obtain ⟨v, e3, e4⟩ := atI_pl (ints_pl (M := M) (Z := Z) ns) e2
    exact .inl ⟨p, _, _, v, rfl, hy.int, f.sql h1, e3, q _ Z H Step.refl f (.pl e4)⟩
  · cases e
theorem i_scr : IxD M k (rIx M.K) gIxC := ⟨fun X G => by rw [← G.K]; exact ix_seq, rok_ixC⟩
end
end DL

set_option maxRecDepth 100000
set_option linter.all false
set_option maxHeartbeats 4000000
namespace DL
open PySem L2 PyProof.Rows
def top (i : Nat) : Stmt := PySem.Challenge.pw_keptpages_k77_whole_told_apart.main.body.getD i (.Pass ⟨0, 0, 0, 0⟩)
abbrev s_labels_of : Stmt := (top 8)
abbrev s_tells_apart : Stmt := (top 9)
abbrev s_pairs_apart : Stmt := (top 10)
abbrev s_not_told_by : Stmt := (top 11)
abbrev s_some_of : Stmt := (top 12)
abbrev s_fewest_of : Stmt := (top 13)
abbrev s_node_of : Stmt := (top 14)
abbrev s_telling : Stmt := (top 15)
abbrev s_is_label : Stmt := (top 17)
abbrev s_labels_between : Stmt := (top 18)
abbrev s_tell_all : Stmt := (top 19)
abbrev s_is_form_there : Stmt := (top 20)
abbrev s_shows_node : Stmt := (top 21)
abbrev s_shows_telling : Stmt := (top 22)
abbrev s_led_to : Stmt := (top 24)
abbrev s_inside : Stmt := (top 25)
abbrev s__law_pot : Stmt := (top 33)
abbrev s__law_take : Stmt := (top 34)
abbrev s__law_words : Stmt := (top 35)
abbrev s__law_some : Stmt := (top 36)
abbrev s__law_form : Stmt := (top 37)
abbrev s__law_title : Stmt := (top 38)
abbrev s__law_folders : Stmt := (top 39)
abbrev s__law_pairs : Stmt := (top 40)
abbrev s__law_pages : Stmt := (top 41)
abbrev s__law_inside_of : Stmt := (top 42)
abbrev s__law_marked : Stmt := (top 43)
abbrev s__law_labels : Stmt := (top 44)
abbrev s__law_between : Stmt := (top 45)
abbrev s__law_betweens : Stmt := (top 46)
abbrev s__law_tell_all : Stmt := (top 47)
abbrev s__law_set : Stmt := (top 48)
abbrev s__law_pairs_apart : Stmt := (top 49)
abbrev s__law_paper : Stmt := (top 50)
abbrev s__law_like_right : Stmt := (top 51)
abbrev s_law : Stmt := (top 52)
abbrev s___len__ : Stmt := (inClass (top 31) 2)
abbrev s_at : Stmt := (inClass (top 31) 5)
abbrev s_marked : Stmt := (inClass (top 31) 6)
abbrev s_marks : Stmt := (inClass (top 31) 7)
abbrev s___init__ : Stmt := (inClass (top 31) 0)
abbrev gAdd := gI fun i j => i + j
abbrev gSub_ := gI fun i j => i - j
abbrev gMul := gIC cMul fun i j => i * j
abbrev gDiv := gIC cDiv fun i j => i / j
abbrev gMod := gIC (fun _ j => decide (0 < j)) fun i j => i % j
abbrev gPow := gIC cPow fun i j => i ^ j.toNat
abbrev gLt := gIB fun i j => decide (i < j)
abbrev gGt := gIB fun i j => decide (j < i)
abbrev gGe := gIB fun i j => decide (j ≤ i)
abbrev fKeysV (j : Nat) : F (List PyData) := fun d => match d[j]? with
    | some (some (.fr (.dict ((.int 0, .none) :: kvs)))) => some (kvs.map (·.1), d)
    | _ => none
abbrev fCallO (f : List PyData → Option PyData) (fa : F (List OV)) : F PyData := fun d => (fa d).bind fun p => (fzOs p.1).bind fun xs => (f xs).bind fun z => some (z, p.2)
/-- what the module gives -/
structure Txt (M : Me) : Prop where
  n_len : M.mg "len" = none
  n_range : M.mg "range" = none
  n_enumerate : M.mg "enumerate" = none
  n_zip : M.mg "zip" = none
  n_sorted : M.mg "sorted" = none
  n_set : M.mg "set" = none
  n_min : M.mg "min" = none
  n_max : M.mg "max" = none
  n_abs : M.mg "abs" = none
  n_any : M.mg "any" = none
  n_all : M.mg "all" = none
  n_tuple : M.mg "tuple" = none
  n_list : M.mg "list" = none
  n_dict : M.mg "dict" = none
  n_str : M.mg "str" = none
  n_int : M.mg "int" = none
  n_isinstance : M.mg "isinstance" = none
  g_MOST_LABELS : ∃ t, M.mg "MOST_LABELS" = some (.int 7 t)
  g_MOST_PAGES : ∃ t, M.mg "MOST_PAGES" = some (.int 16 t)
  g_FOLDER : ∃ t, M.mg "FOLDER" = some (.str "folder" t)
  g_MARK : ∃ t, M.mg "MARK" = some (.str "mark" t)
  cls : Cls M.K M.LC
  na_folders : NoAttr M.K M.LC "folders"
  na_pages : NoAttr M.K M.LC "pages"
  na_pairs : NoAttr M.K M.LC "pairs"
  c_Listing : M.mg "Listing" = some (.ref M.LC)
  dig : PySem.W.nsIn M.K cStatics "sys.int_max_str_digits" = some none
end DL

set_option maxRecDepth 100000
set_option linter.all false
set_option maxHeartbeats 4000000
namespace DL
open PySem L2 PyProof.Rows
/-! ### tells_apart -/
abbrev N_tells_apart : List PySem.Str := ["bearers", "one", "other"]
abbrev p_tells_apart : List PySem.Str := ["bearers", "one", "other"]
theorem sc_tells_apart : FnScope N_tells_apart p_tells_apart (defScope s_tells_apart) := ⟨rfl, rfl, rfl, by decide +kernel, rfl, by decide +kernel, by decide +kernel⟩
def fb_tells_apart : F Fl :=
    (fRet (fOp (gEq false) (fInS true (fVar 1) (fVar 0)) (fInS true (fVar 2) (fVar 0))))
theorem d_tells_apart {M : Me} {k : Nat} (T : Txt M) (f : Addr) : ∃ t, ∀ (cdv : Value) (A : Around) (outer : List Env) (s : Shared) (H : Hp) (E : XK), DSs M k (cxD M N_tells_apart "tells_apart" s_tells_apart f cdv A outer s H E) (defBody s_tells_apart) t (fb_tells_apart) := by
  exact ⟨_, fun cdv A outer s H E =>
    (dss_one (ds_ret (de_cmp o_ne (de_inS (de_var 1) (de_var 0)) (de_inS (de_var 2) (de_var 0)))))⟩
/-! ### pairs_apart -/
abbrev N_pairs_apart : List PySem.Str := ["labels", "forms", "found", "at", "one", "other", "some", "label"]
abbrev p_pairs_apart : List PySem.Str := ["labels", "forms"]
theorem sc_pairs_apart : FnScope N_pairs_apart p_pairs_apart (defScope s_pairs_apart) := ⟨rfl, rfl, rfl, by decide +kernel, rfl, by decide +kernel, by decide +kernel⟩
def fb_pairs_apart (F_tells_apart : List PyData → Option PyData) : F Fl :=
    (fSeq (fOwn 2 (fOLst fNil))
    (fSeq (fFor (fEnum (fCons (fVar 1) fNil)) (gT (gsC (gN 3) (gsC (gN 4) gsN))) (fFor (fItems (fSl (fVar 1) (fPs (fOp gAdd (fVar 3) (fC (.int 1)))) fPn)) (gN 5) (fSeq (fSet 6 (fLc (fKeysV 0) (gN 7) (fB (fCall F_tells_apart (fCons (fGetT (fVar 0) (fVar 7)) (fCons (fVar 4) (fCons (fVar 5) fNil))))) (fVar 7) [7]))
    (fIf (fB (fOp (gEq false) (fVar 6) (fLst fNil))) (fApp 2 (fTup (fCons (fVar 4) (fCons (fVar 5) (fCons (fVar 6) fNil))))) fNext))))
    (fRetO 2)))
theorem d_pairs_apart {M : Me} {k : Nat} (T : Txt M) (F_tells_apart : List PyData → Option PyData) (C_tells_apart : Callee M k "tells_apart" ["bearers", "one", "other"] (spD M 3 F_tells_apart)) (f : Addr) : ∃ t, ∀ (cdv : Value) (A : Around) (outer : List Env) (s : Shared) (H : Hp) (E : XK), DSs M k (cxD M N_pairs_apart "pairs_apart" s_pairs_apart f cdv A outer s H E) (defBody s_pairs_apart) t (fb_pairs_apart F_tells_apart) := by
  exact ⟨_, fun cdv A outer s H E =>
    (dss_cons (ds_own 2 (do_lst da_nil)) (dss_cons (ds_for (di_enum T.n_enumerate (da_cons (de_var 1) da_nil)) (dg_tup (dgs_cons (dg_name 3) (dgs_cons (dg_name 4) dgs_nil))) (dss_one (ds_for (di_seq (de_slice (de_var 1) (dp_some (de_op o_add (de_var 3) de_int)) dp_none)) (dg_name 5) (dss_cons (ds_setLc (ok := by kernel_rfl) 6 [("label", 7)] (di_keysT (j := 0) (de_var 0)) (fun _ _ _ _ _ => (dg_name 7)) (fun _ _ _ _ _ => (dts_one (dt_val (de_call C_tells_apart (da_cons (de_getT (de_var 0) (de_var 7)) (da_cons (de_var 4) (da_cons (de_var 5) da_nil))))))) (fun _ _ _ _ _ => (de_var 7))) (dss_one (ds_if (dt_cmp o_ne (de_var 6) (de_lst da_nil)) (dss_one (ds_append 2 (de_tup (da_cons (de_var 4) (da_cons (de_var 5) (da_cons (de_var 6) da_nil)))))) dss_nil)))))) (dss_one (ds_retO 2))))⟩
/-! ### not_told_by -/
abbrev N_not_told_by : List PySem.Str := ["pairs", "chosen", "pair", "label"]
abbrev p_not_told_by : List PySem.Str := ["pairs", "chosen"]
theorem sc_not_told_by : FnScope N_not_told_by p_not_told_by (defScope s_not_told_by) := ⟨rfl, rfl, rfl, by decide +kernel, rfl, by decide +kernel, by decide +kernel⟩
def fb_not_told_by : F Fl :=
    (fRet (fLc (fItems (fVar 0)) (gN 2) (fNot (fB (fCB gAny (fCons (fLc (fItems (fOp gIx (fVar 2) (fC (.int 2)))) (gN 3) fYes (fOp (gIn true) (fVar 3) (fVar 1)) [3]) fNil)))) (fVar 2) [2]))
theorem d_not_told_by {M : Me} {k : Nat} (T : Txt M) (f : Addr) : ∃ t, ∀ (cdv : Value) (A : Around) (outer : List Env) (s : Shared) (H : Hp) (E : XK), DSs M k (cxD M N_not_told_by "not_told_by" s_not_told_by f cdv A outer s H E) (defBody s_not_told_by) t (fb_not_told_by) := by
  exact ⟨_, fun cdv A outer s H E =>
    (dss_one (ds_ret (de_lc (ok := by kernel_rfl) [("pair", 2)] (di_seq (de_var 0)) (fun _ _ _ _ _ => (dg_name 2)) (fun _ _ _ _ _ => (dts_one (dt_not (dt_val (de_cb c_any T.n_any (da_cons (de_lc (ok := by kernel_rfl) [("label", 3)] (di_seq (de_ix i_seq (de_var 2) de_int)) (fun _ _ _ _ _ => (dg_name 3)) (fun _ _ _ _ _ => dts_nil) (fun _ _ _ _ _ => (de_cmp o_in (de_var 3) (de_var 1)))) da_nil)))))) (fun _ _ _ _ _ => (de_var 2)))))⟩
/-! ### some_of -/
abbrev N_some_of : List PySem.Str := ["labels", "many", "found", "at", "label", "rest"]
abbrev p_some_of : List PySem.Str := ["labels", "many"]
theorem sc_some_of : FnScope N_some_of p_some_of (defScope s_some_of) := ⟨rfl, rfl, rfl, by decide +kernel, rfl, by decide +kernel, by decide +kernel⟩
def fb_some_of (F_some_of : List PyData → Option PyData) : F Fl :=
    (fSeq (fIf (fB (fOp (gEq true) (fVar 1) (fC (.int 0)))) (fRet (fLst (fCons (fTup fNil) fNil))) fNext)
    (fSeq (fOwn 2 (fOLst fNil))
    (fSeq (fFor (fEnum (fCons (fVar 0) fNil)) (gT (gsC (gN 3) (gsC (gN 4) gsN))) (fExt 2 (fLc (fItems (fCall F_some_of (fCons (fSl (fVar 0) (fPs (fOp gAdd (fVar 3) (fC (.int 1)))) fPn) (fCons (fOp gSub_ (fVar 1) (fC (.int 1))) fNil)))) (gN 5) fYes (fOp gCatT (fTup (fCons (fVar 4) fNil)) (fVar 5)) [5])))
    (fRetO 2))))
theorem d_some_of {M : Me} {k : Nat} (T : Txt M) (F_some_of : List PyData → Option PyData) (C_some_of : Callee M k "some_of" ["labels", "many"] (spD M 2 F_some_of)) (f : Addr) : ∃ t, ∀ (cdv : Value) (A : Around) (outer : List Env) (s : Shared) (H : Hp) (E : XK), DSs M k (cxD M N_some_of "some_of" s_some_of f cdv A outer s H E) (defBody s_some_of) t (fb_some_of F_some_of) := by
  exact ⟨_, fun cdv A outer s H E =>
    (dss_cons (ds_if (dt_cmp o_eq (de_var 1) de_int) (dss_one (ds_ret (de_lst (da_cons (de_tup da_nil) da_nil)))) dss_nil) (dss_cons (ds_own 2 (do_lst da_nil)) (dss_cons (ds_for (di_enum T.n_enumerate (da_cons (de_var 0) da_nil)) (dg_tup (dgs_cons (dg_name 3) (dgs_cons (dg_name 4) dgs_nil))) (dss_one (ds_extend 2 (de_lc (ok := by kernel_rfl) [("rest", 5)] (di_seq (de_call C_some_of (da_cons (de_slice (de_var 0) (dp_some (de_op o_add (de_var 3) de_int)) dp_none) (da_cons (de_op o_sub (de_var 1) de_int) da_nil)))) (fun _ _ _ _ _ => (dg_name 5)) (fun _ _ _ _ _ => dts_nil) (fun _ _ _ _ _ => (de_op o_catT (de_tup (da_cons (de_var 4) da_nil)) (de_var 5))))))) (dss_one (ds_retO 2)))))⟩
/-! ### fewest_of -/
abbrev N_fewest_of : List PySem.Str := ["labels", "pairs", "many", "chosen"]
abbrev p_fewest_of : List PySem.Str := ["labels", "pairs"]
theorem sc_fewest_of : FnScope N_fewest_of p_fewest_of (defScope s_fewest_of) := ⟨rfl, rfl, rfl, by decide +kernel, rfl, by decide +kernel, by decide +kernel⟩
def fb_fewest_of (F_not_told_by : List PyData → Option PyData) (F_some_of : List PyData → Option PyData) : F Fl :=
    (fSeq (fFor (fRange (fCons (fOp gAdd (fCB gLen (fCons (fVar 0) fNil)) (fC (.int 1))) fNil)) (gN 2) (fFor (fItems (fCall F_some_of (fCons (fVar 0) (fCons (fVar 2) fNil)))) (gN 3) (fIf (fB (fOp (gEq true) (fCall F_not_told_by (fCons (fVar 1) (fCons (fVar 3) fNil))) (fLst fNil))) (fRet (fVar 3)) fNext)))
    (fRet (fCB gTuple (fCons (fVar 0) fNil))))
theorem d_fewest_of {M : Me} {k : Nat} (T : Txt M) (F_not_told_by : List PyData → Option PyData) (F_some_of : List PyData → Option PyData) (C_not_told_by : Callee M k "not_told_by" ["pairs", "chosen"] (spD M 2 F_not_told_by)) (C_some_of : Callee M k "some_of" ["labels", "many"] (spD M 2 F_some_of)) (f : Addr) : ∃ t, ∀ (cdv : Value) (A : Around) (outer : List Env) (s : Shared) (H : Hp) (E : XK), DSs M k (cxD M N_fewest_of "fewest_of" s_fewest_of f cdv A outer s H E) (defBody s_fewest_of) t (fb_fewest_of F_not_told_by F_some_of) := by
  exact ⟨_, fun cdv A outer s H E =>
    (dss_cons (ds_for (di_range T.n_range (da_cons (de_op o_add (de_cb c_len T.n_len (da_cons (de_var 0) da_nil)) de_int) da_nil)) (dg_name 2) (dss_one (ds_for (di_seq (de_call C_some_of (da_cons (de_var 0) (da_cons (de_var 2) da_nil)))) (dg_name 3) (dss_one (ds_if (dt_cmp o_eq (de_call C_not_told_by (da_cons (de_var 1) (da_cons (de_var 3) da_nil))) (de_lst da_nil)) (dss_one (ds_ret (de_var 3))) dss_nil))))) (dss_one (ds_ret (de_ct c_tuple T.n_tuple (da_cons (de_var 0) da_nil)))))⟩
/-! ### labels_between -/
abbrev N_labels_between : List PySem.Str := ["labels", "one", "other", "label"]
abbrev p_labels_between : List PySem.Str := ["labels", "one", "other"]
theorem sc_labels_between : FnScope N_labels_between p_labels_between (defScope s_labels_between) := ⟨rfl, rfl, rfl, by decide +kernel, rfl, by decide +kernel, by decide +kernel⟩
def fb_labels_between (F_tells_apart : List PyData → Option PyData) : F Fl :=
    (fRet (fLc (fItems (fCB gSorted (fCons (fVar 0) fNil))) (gN 3) (fB (fCall F_tells_apart (fCons (fGetT (fVar 0) (fVar 3)) (fCons (fVar 1) (fCons (fVar 2) fNil))))) (fVar 3) [3]))
theorem d_labels_between {M : Me} {k : Nat} (T : Txt M) (F_tells_apart : List PyData → Option PyData) (C_tells_apart : Callee M k "tells_apart" ["bearers", "one", "other"] (spD M 3 F_tells_apart)) (f : Addr) : ∃ t, ∀ (cdv : Value) (A : Around) (outer : List Env) (s : Shared) (H : Hp) (E : XK), DSs M k (cxD M N_labels_between "labels_between" s_labels_between f cdv A outer s H E) (defBody s_labels_between) t (fb_labels_between F_tells_apart) := by
  exact ⟨_, fun cdv A outer s H E =>
    (dss_one (ds_ret (de_lc (ok := by kernel_rfl) [("label", 3)] (di_seq (de_cb c_sorted T.n_sorted (da_cons (de_var 0) da_nil))) (fun _ _ _ _ _ => (dg_name 3)) (fun _ _ _ _ _ => (dts_one (dt_val (de_call C_tells_apart (da_cons (de_getT (de_var 0) (de_var 3)) (da_cons (de_var 1) (da_cons (de_var 2) da_nil))))))) (fun _ _ _ _ _ => (de_var 3)))))⟩
/-! ### tell_all -/
abbrev N_tell_all : List PySem.Str := ["labels", "forms", "some", "at", "one", "other", "between", "label"]
abbrev p_tell_all : List PySem.Str := ["labels", "forms", "some"]
theorem sc_tell_all : FnScope N_tell_all p_tell_all (defScope s_tell_all) := ⟨rfl, rfl, rfl, by decide +kernel, rfl, by decide +kernel, by decide +kernel⟩
def fb_tell_all (F_labels_between : List PyData → Option PyData) : F Fl :=
    (fSeq (fFor (fEnum (fCons (fVar 1) fNil)) (gT (gsC (gN 3) (gsC (gN 4) gsN))) (fFor (fItems (fSl (fVar 1) (fPs (fOp gAdd (fVar 3) (fC (.int 1)))) fPn)) (gN 5) (fSeq (fSet 6 (fCall F_labels_between (fCons (fVar 0) (fCons (fVar 4) (fCons (fVar 5) fNil)))))
    (fIf (fAnd (fB (fOp (gEq false) (fVar 6) (fLst fNil))) (fNot (fB (fCB gAny (fCons (fLc (fItems (fVar 6)) (gN 7) fYes (fOp (gIn true) (fVar 7) (fVar 2)) [7]) fNil))))) (fRet (fC (.bool false))) fNext))))
    (fRet (fC (.bool true))))
theorem d_tell_all {M : Me} {k : Nat} (T : Txt M) (F_labels_between : List PyData → Option PyData) (C_labels_between : Callee M k "labels_between" ["labels", "one", "other"] (spD M 3 F_labels_between)) (f : Addr) : ∃ t, ∀ (cdv : Value) (A : Around) (outer : List Env) (s : Shared) (H : Hp) (E : XK), DSs M k (cxD M N_tell_all "tell_all" s_tell_all f cdv A outer s H E) (defBody s_tell_all) t (fb_tell_all F_labels_between) := by
  exact ⟨_, fun cdv A outer s H E =>
    (dss_cons (ds_for (di_enum T.n_enumerate (da_cons (de_var 1) da_nil)) (dg_tup (dgs_cons (dg_name 3) (dgs_cons (dg_name 4) dgs_nil))) (dss_one (ds_for (di_seq (de_slice (de_var 1) (dp_some (de_op o_add (de_var 3) de_int)) dp_none)) (dg_name 5) (dss_cons (ds_set 6 (de_call C_labels_between (da_cons (de_var 0) (da_cons (de_var 4) (da_cons (de_var 5) da_nil))))) (dss_one (ds_if (dw_and (dt_cmp o_ne (de_var 6) (de_lst da_nil)) (dw_and1 (dt_not (dt_val (de_cb c_any T.n_any (da_cons (de_lc (ok := by kernel_rfl) [("label", 7)] (di_seq (de_var 6)) (fun _ _ _ _ _ => (dg_name 7)) (fun _ _ _ _ _ => dts_nil) (fun _ _ _ _ _ => (de_cmp o_in (de_var 7) (de_var 2)))) da_nil)))))).pt (dss_one (ds_ret de_bl)) dss_nil)))))) (dss_one (ds_ret de_bl)))⟩
/-! ### is_form_there -/
abbrev N_is_form_there : List PySem.Str := ["forms", "thing"]
abbrev p_is_form_there : List PySem.Str := ["forms", "thing"]
theorem sc_is_form_there : FnScope N_is_form_there p_is_form_there (defScope s_is_form_there) := ⟨rfl, rfl, rfl, by decide +kernel, rfl, by decide +kernel, by decide +kernel⟩
def fb_is_form_there : F Fl :=
    (fRet (fAndV (fIsi "str" (fVar 1)) (fOp (gIn true) (fVar 1) (fVar 0))))
theorem d_is_form_there {M : Me} {k : Nat} (T : Txt M) (f : Addr) : ∃ t, ∀ (cdv : Value) (A : Around) (outer : List Env) (s : Shared) (H : Hp) (E : XK), DSs M k (cxD M N_is_form_there "is_form_there" s_is_form_there f cdv A outer s H E) (defBody s_is_form_there) t (fb_is_form_there) := by
  exact ⟨_, fun cdv A outer s H E =>
    (dss_one (ds_ret (de_and (de_isi T.n_isinstance T.n_str (de_var 1)) (de_one (de_cmp o_in (de_var 1) (de_var 0))))))⟩
/-! ### led_to -/
abbrev N_led_to : List PySem.Str := ["begun", "links", "met", "waiting", "here", "one", "other"]
abbrev p_led_to : List PySem.Str := ["begun", "links"]
theorem sc_led_to : FnScope N_led_to p_led_to (defScope s_led_to) := ⟨rfl, rfl, rfl, by decide +kernel, rfl, by decide +kernel, by decide +kernel⟩
def fb_led_to (n : Nat) : F Fl :=
    (fSeq (fOwn 2 (fDisp1 (fPair (fVar 0) (fC (.bool true)))))
    (fSeq (fOwn 3 (fOLst (fCons (fVar 0) fNil)))
    (fSeq (whF (fB (fOp (gEq false) (fVar 3) (fLst fNil))) (fSeq (fSet 4 (fPop 3))
    (fFor (fItems (fVar 1)) (gT (gsC (gN 5) (gsC (gN 6) gsN))) (fIf (fAnd (fB (fOp (gEq true) (fVar 5) (fVar 4))) (fB (fInS false (fVar 6) (fVar 2)))) (fSeq (fPutS 2 (fVar 6) (fC (.bool true)))
    (fApp 3 (fVar 6))) fNext))) n)
    (fRet (fCB gTuple (fCons (fCB gSorted (fCons (fVar 2) fNil)) fNil))))))
theorem d_led_to {M : Me} {k : Nat} (T : Txt M) (n : Nat) (f : Addr) : ∃ t, ∀ (cdv : Value) (A : Around) (outer : List Env) (s : Shared) (H : Hp) (E : XK), DSs M k (cxD M N_led_to "led_to" s_led_to f cdv A outer s H E) (defBody s_led_to) t (fb_led_to n) := by
  exact ⟨_, fun cdv A outer s H E =>
    (dss_cons (ds_own 2 (do_disp1 (de_var 0) de_bl)) (dss_cons (ds_own 3 (do_lst (da_cons (de_var 0) da_nil))) (dss_cons (ds_while n (dt_cmp o_ne (de_var 3) (de_lst da_nil)) (dss_cons (ds_set 4 (de_pop 3)) (dss_one (ds_for (di_seq (de_var 1)) (dg_tup (dgs_cons (dg_name 5) (dgs_cons (dg_name 6) dgs_nil))) (dss_one (ds_if (dw_and (dt_cmp o_eq (de_var 5) (de_var 4)) (dw_and1 (dt_notInS (de_var 6) (de_var 2)))).pt (dss_cons (ds_putS 2 (de_var 6) de_bl) (dss_one (ds_append 3 (de_var 6)))) dss_nil)))))) (dss_one (ds_ret (de_ct c_tuple T.n_tuple (da_cons (de_cb c_sorted T.n_sorted (da_cons (de_var 2) da_nil)) da_nil)))))))⟩
/-! ### inside -/
abbrev N_inside : List PySem.Str := ["pairs", "mark", "inner", "outer"]
abbrev p_inside : List PySem.Str := ["pairs", "mark"]
theorem sc_inside : FnScope N_inside p_inside (defScope s_inside) := ⟨rfl, rfl, rfl, by decide +kernel, rfl, by decide +kernel, by decide +kernel⟩
def fb_inside (F_led_to : List PyData → Option PyData) : F Fl :=
    (fRet (fCall F_led_to (fCons (fVar 1) (fCons (fLc (fItems (fVar 0)) (gT (gsC (gN 2) (gsC (gN 3) gsN))) fYes (fTup (fCons (fVar 3) (fCons (fVar 2) fNil))) [2, 3]) fNil))))
theorem d_inside {M : Me} {k : Nat} (T : Txt M) (F_led_to : List PyData → Option PyData) (C_led_to : Callee M k "led_to" ["begun", "links"] (spD M 2 F_led_to)) (f : Addr) : ∃ t, ∀ (cdv : Value) (A : Around) (outer : List Env) (s : Shared) (H : Hp) (E : XK), DSs M k (cxD M N_inside "inside" s_inside f cdv A outer s H E) (defBody s_inside) t (fb_inside F_led_to) := by
  exact ⟨_, fun cdv A outer s H E =>
    (dss_one (ds_ret (de_call C_led_to (da_cons (de_var 1) (da_cons (de_lc (ok := by kernel_rfl) [("inner", 2), ("outer", 3)] (di_seq (de_var 0)) (fun _ _ _ _ _ => (dg_tup (dgs_cons (dg_name 2) (dgs_cons (dg_name 3) dgs_nil)))) (fun _ _ _ _ _ => dts_nil) (fun _ _ _ _ _ => (de_tup (da_cons (de_var 3) (da_cons (de_var 2) da_nil))))) da_nil)))))⟩
/-! ### __len__ -/
abbrev N___len__ : List PySem.Str := ["self"]
abbrev p___len__ : List PySem.Str := ["self"]
theorem sc___len__ : FnScope N___len__ p___len__ (defScope s___len__) := ⟨rfl, rfl, rfl, by decide +kernel, rfl, by decide +kernel, by decide +kernel⟩
def fb___len__ : F Fl :=
    (fRet (fCB gLen (fCons (fFld .pages (fVar 0)) fNil)))
theorem d___len__ {M : Me} {k : Nat} (T : Txt M) (f : Addr) : ∃ t, ∀ (cdv : Value) (A : Around) (outer : List Env) (s : Shared) (H : Hp) (E : XK), DSs M k (cxD M N___len__ "Listing.__len__" s___len__ f cdv A outer s H E) (defBody s___len__) t (fb___len__) := by
  exact ⟨_, fun cdv A outer s H E =>
    (dss_one (ds_ret (de_cb c_len T.n_len (da_cons (de_fld .pages T.cls T.na_pages (de_var 0)) da_nil))))⟩
/-! ### at -/
abbrev N_at : List PySem.Str := ["self", "path", "page"]
abbrev p_at : List PySem.Str := ["self", "path"]
theorem sc_at : FnScope N_at p_at (defScope s_at) := ⟨rfl, rfl, rfl, by decide +kernel, rfl, by decide +kernel, by decide +kernel⟩
def fb_at : F Fl :=
    (fRet (fCB gTuple (fCons (fLc (fItems (fFld .pages (fVar 0))) (gN 2) (fB (fOp (gIn true) (fVar 1) (fOp gIx (fVar 2) (fC (.int 3))))) (fOp gIx (fVar 2) (fC (.int 0))) [2]) fNil)))
theorem d_at {M : Me} {k : Nat} (T : Txt M) (f : Addr) : ∃ t, ∀ (cdv : Value) (A : Around) (outer : List Env) (s : Shared) (H : Hp) (E : XK), DSs M k (cxD M N_at "Listing.at" s_at f cdv A outer s H E) (defBody s_at) t (fb_at) := by
  exact ⟨_, fun cdv A outer s H E =>
    (dss_one (ds_ret (de_ct c_tuple T.n_tuple (da_cons (de_lc (ok := by kernel_rfl) [("page", 2)] (di_seq (de_fld .pages T.cls T.na_pages (de_var 0))) (fun _ _ _ _ _ => (dg_name 2)) (fun _ _ _ _ _ => (dts_one (dt_cmp o_in (de_var 1) (de_ix i_seq (de_var 2) de_int)))) (fun _ _ _ _ _ => (de_ix i_seq (de_var 2) de_int))) da_nil))))⟩
/-! ### marked -/
abbrev N_marked : List PySem.Str := ["self", "mark", "some", "page", "one"]
abbrev p_marked : List PySem.Str := ["self", "mark"]
theorem sc_marked : FnScope N_marked p_marked (defScope s_marked) := ⟨rfl, rfl, rfl, by decide +kernel, rfl, by decide +kernel, by decide +kernel⟩
def fb_marked (F_inside : List PyData → Option PyData) : F Fl :=
    (fSeq (fSet 2 (fCall F_inside (fCons (fFld .pairs (fVar 0)) (fCons (fVar 1) fNil))))
    (fRet (fCB gTuple (fCons (fLc (fItems (fFld .pages (fVar 0))) (gN 3) (fB (fCB gAny (fCons (fLc (fItems (fOp gIx (fVar 3) (fC (.int 2)))) (gN 4) fYes (fOp (gIn true) (fVar 4) (fVar 2)) [4]) fNil))) (fOp gIx (fVar 3) (fC (.int 0))) [3]) fNil))))
theorem d_marked {M : Me} {k : Nat} (T : Txt M) (F_inside : List PyData → Option PyData) (C_inside : Callee M k "inside" ["pairs", "mark"] (spD M 2 F_inside)) (f : Addr) : ∃ t, ∀ (cdv : Value) (A : Around) (outer : List Env) (s : Shared) (H : Hp) (E : XK), DSs M k (cxD M N_marked "Listing.marked" s_marked f cdv A outer s H E) (defBody s_marked) t (fb_marked F_inside) := by
  exact ⟨_, fun cdv A outer s H E =>
    (dss_cons (ds_set 2 (de_call C_inside (da_cons (de_fld .pairs T.cls T.na_pairs (de_var 0)) (da_cons (de_var 1) da_nil)))) (dss_one (ds_ret (de_ct c_tuple T.n_tuple (da_cons (de_lc (ok := by kernel_rfl) [("page", 3)] (di_seq (de_fld .pages T.cls T.na_pages (de_var 0))) (fun _ _ _ _ _ => (dg_name 3)) (fun _ _ _ _ _ => (dts_one (dt_val (de_cb c_any T.n_any (da_cons (de_lc (ok := by kernel_rfl) [("one", 4)] (di_seq (de_ix i_seq (de_var 3) de_int)) (fun _ _ _ _ _ => (dg_name 4)) (fun _ _ _ _ _ => dts_nil) (fun _ _ _ _ _ => (de_cmp o_in (de_var 4) (de_var 2)))) da_nil))))) (fun _ _ _ _ _ => (de_ix i_seq (de_var 3) de_int))) da_nil)))))⟩
/-! ### marks -/
abbrev N_marks : List PySem.Str := ["self", "found", "page", "pair"]
abbrev p_marks : List PySem.Str := ["self"]
theorem sc_marks : FnScope N_marks p_marks (defScope s_marks) := ⟨rfl, rfl, rfl, by decide +kernel, rfl, by decide +kernel, by decide +kernel⟩
def fb_marks : F Fl :=
    (fSeq (fOwn 1 (fOLst fNil))
    (fSeq (fFor (fItems (fFld .pages (fVar 0))) (gN 2) (fExt 1 (fOp gIx (fVar 2) (fC (.int 2)))))
    (fSeq (fFor (fItems (fFld .pairs (fVar 0))) (gN 3) (fExt 1 (fVar 3)))
    (fRet (fCB gTuple (fCons (fSortSet (fVar 1)) fNil))))))
theorem d_marks {M : Me} {k : Nat} (T : Txt M) (f : Addr) : ∃ t, ∀ (cdv : Value) (A : Around) (outer : List Env) (s : Shared) (H : Hp) (E : XK), DSs M k (cxD M N_marks "Listing.marks" s_marks f cdv A outer s H E) (defBody s_marks) t (fb_marks) := by
  exact ⟨_, fun cdv A outer s H E =>
    (dss_cons (ds_own 1 (do_lst da_nil)) (dss_cons (ds_for (di_seq (de_fld .pages T.cls T.na_pages (de_var 0))) (dg_name 2) (dss_one (ds_extend 1 (de_ix i_seq (de_var 2) de_int)))) (dss_cons (ds_for (di_seq (de_fld .pairs T.cls T.na_pairs (de_var 0))) (dg_name 3) (dss_one (ds_extend 1 (de_var 3)))) (dss_one (ds_ret (de_ct c_tuple T.n_tuple (da_cons (de_sortSet T.n_sorted T.n_set (de_var 1)) da_nil)))))))⟩
end DL

set_option maxRecDepth 100000
set_option linter.all false
set_option maxHeartbeats 4000000
namespace DL
open PySem L2 PyProof.Rows
/-! ### labels_of -/
abbrev N_labels_of : List PySem.Str := ["listing", "found", "path", "form", "mark"]
abbrev p_labels_of : List PySem.Str := ["listing"]
theorem sc_labels_of : FnScope N_labels_of p_labels_of (defScope s_labels_of) := ⟨rfl, rfl, rfl, by decide +kernel, rfl, by decide +kernel, by decide +kernel⟩
def fb_labels_of (F_at : List PyData → Option PyData) (F_marked : List PyData → Option PyData) (F_marks : List PyData → Option PyData) : F Fl :=
    (fSeq (fOwn 1 fONewT)
    (fSeq (fFor (fItems (fOp gCatT (fTup (fCons (fTup fNil) fNil)) (fFld .folders (fVar 0)))) (gN 2) (fPutT 1 (fTup (fCons (fC (.str "folder")) (fCons (fVar 2) fNil))) (fCB gDictP (fCons (fLc (fItems (fMeth F_at (fVar 0) (fCons (fVar 2) fNil))) (gN 3) fYes (fTup (fCons (fVar 3) (fCons (fC (.bool true)) fNil))) [3]) fNil))))
    (fSeq (fFor (fItems (fMeth F_marks (fVar 0) fNil)) (gN 4) (fPutT 1 (fTup (fCons (fC (.str "mark")) (fCons (fVar 4) fNil))) (fCB gDictP (fCons (fLc (fItems (fMeth F_marked (fVar 0) (fCons (fVar 4) fNil))) (gN 3) fYes (fTup (fCons (fVar 3) (fCons (fC (.bool true)) fNil))) [3]) fNil))))
    (fRetO 1))))
theorem d_labels_of {M : Me} {k : Nat} (T : Txt M) (F_at : List PyData → Option PyData) (F_marked : List PyData → Option PyData) (F_marks : List PyData → Option PyData) (C_at : CalleeM M k "at" ["self", "path"] (spD M 2 F_at)) (C_marked : CalleeM M k "marked" ["self", "mark"] (spD M 2 F_marked)) (C_marks : CalleeM M k "marks" ["self"] (spD M 1 F_marks)) (f : Addr) : ∃ t, ∀ (cdv : Value) (A : Around) (outer : List Env) (s : Shared) (H : Hp) (E : XK), DSs M k (cxD M N_labels_of "labels_of" s_labels_of f cdv A outer s H E) (defBody s_labels_of) t (fb_labels_of F_at F_marked F_marks) := by
  obtain ⟨tk_FOLDER, h_FOLDER⟩ := T.g_FOLDER
  obtain ⟨tk_MARK, h_MARK⟩ := T.g_MARK
  exact ⟨_, fun cdv A outer s H E =>
    (dss_cons (ds_own 1 do_newT) (dss_cons (ds_for (di_seq (de_op o_catT (de_tup (da_cons (de_tup da_nil) da_nil)) (de_fld .folders T.cls T.na_folders (de_var 0)))) (dg_name 2) (dss_one (ds_putT 1 (de_tup (da_cons (de_glob h_FOLDER) (da_cons (de_var 2) da_nil))) (de_ct c_dictP T.n_dict (da_cons (de_lc (ok := by kernel_rfl) [("form", 3)] (di_seq (de_meth C_at (de_var 0) (da_cons (de_var 2) da_nil))) (fun _ _ _ _ _ => (dg_name 3)) (fun _ _ _ _ _ => dts_nil) (fun _ _ _ _ _ => (de_tup (da_cons (de_var 3) (da_cons de_bl da_nil))))) da_nil))))) (dss_cons (ds_for (di_seq (de_meth0 C_marks (de_var 0))) (dg_name 4) (dss_one (ds_putT 1 (de_tup (da_cons (de_glob h_MARK) (da_cons (de_var 4) da_nil))) (de_ct c_dictP T.n_dict (da_cons (de_lc (ok := by kernel_rfl) [("form", 3)] (di_seq (de_meth C_marked (de_var 0) (da_cons (de_var 4) da_nil))) (fun _ _ _ _ _ => (dg_name 3)) (fun _ _ _ _ _ => dts_nil) (fun _ _ _ _ _ => (de_tup (da_cons (de_var 3) (da_cons de_bl da_nil))))) da_nil))))) (dss_one (ds_retO 1)))))⟩
/-! ### is_label -/
abbrev N_is_label : List PySem.Str := ["labels", "thing", "word"]
abbrev p_is_label : List PySem.Str := ["labels", "thing"]
theorem sc_is_label : FnScope N_is_label p_is_label (defScope s_is_label) := ⟨rfl, rfl, rfl, by decide +kernel, rfl, by decide +kernel, by decide +kernel⟩
def fb_is_label : F Fl :=
    (fSeq (fIf (fOr (fNot (fB (fIsi "tuple" (fVar 1)))) (fOr (fB (fOp (gEq false) (fCB gLen (fCons (fVar 1) fNil)) (fC (.int 2)))) (fNot (fB (fIsi "str" (fOp gIx (fVar 1) (fC (.int 0)))))))) (fRet (fC (.bool false))) fNext)
    (fSeq (fIf (fB (fOp (gEq true) (fOp gIx (fVar 1) (fC (.int 0))) (fC (.str "mark")))) (fRet (fAndV (fIsi "str" (fOp gIx (fVar 1) (fC (.int 1)))) (fOp gInT (fVar 1) (fVar 0)))) fNext)
    (fSeq (fIf (fOr (fB (fOp (gEq false) (fOp gIx (fVar 1) (fC (.int 0))) (fC (.str "folder")))) (fNot (fB (fIsi "tuple" (fOp gIx (fVar 1) (fC (.int 1))))))) (fRet (fC (.bool false))) fNext)
    (fRet (fAndV (fCB gAll (fCons (fLc (fItems (fOp gIx (fVar 1) (fC (.int 1)))) (gN 2) fYes (fIsi "str" (fVar 2)) [2]) fNil)) (fOp gInT (fVar 1) (fVar 0)))))))
theorem d_is_label {M : Me} {k : Nat} (T : Txt M) (f : Addr) : ∃ t, ∀ (cdv : Value) (A : Around) (outer : List Env) (s : Shared) (H : Hp) (E : XK), DSs M k (cxD M N_is_label "is_label" s_is_label f cdv A outer s H E) (defBody s_is_label) t (fb_is_label) := by
  obtain ⟨tk_FOLDER, h_FOLDER⟩ := T.g_FOLDER
  obtain ⟨tk_MARK, h_MARK⟩ := T.g_MARK
  exact ⟨_, fun cdv A outer s H E =>
    (dss_cons (ds_if (dw_or (dt_not (dt_val (de_isi T.n_isinstance T.n_tuple (de_var 1)))) (dw_or (dt_cmp o_ne (de_cb c_len T.n_len (da_cons (de_var 1) da_nil)) de_int) (dw_or1 (dt_not (dt_val (de_isi T.n_isinstance T.n_str (de_ix i_seq (de_var 1) de_int))))))).pt (dss_one (ds_ret de_bl)) dss_nil) (dss_cons (ds_if (dt_cmp o_eq (de_ix i_seq (de_var 1) de_int) (de_glob h_MARK)) (dss_one (ds_ret (de_and (de_isi T.n_isinstance T.n_str (de_ix i_seq (de_var 1) de_int)) (de_one (de_cmp o_inT (de_var 1) (de_var 0)))))) dss_nil) (dss_cons (ds_if (dw_or (dt_cmp o_ne (de_ix i_seq (de_var 1) de_int) (de_glob h_FOLDER)) (dw_or1 (dt_not (dt_val (de_isi T.n_isinstance T.n_tuple (de_ix i_seq (de_var 1) de_int)))))).pt (dss_one (ds_ret de_bl)) dss_nil) (dss_one (ds_ret (de_and (de_cb c_all T.n_all (da_cons (de_lc (ok := by kernel_rfl) [("word", 2)] (di_seq (de_ix i_seq (de_var 1) de_int)) (fun _ _ _ _ _ => (dg_name 2)) (fun _ _ _ _ _ => dts_nil) (fun _ _ _ _ _ => (de_isi T.n_isinstance T.n_str (de_var 2)))) da_nil)) (de_one (de_cmp o_inT (de_var 1) (de_var 0)))))))))⟩
/-! ### shows_node -/
abbrev N_shows_node : List PySem.Str := ["labels", "forms", "chosen", "many", "thing", "one", "other", "nodes", "between", "label", "node"]
abbrev p_shows_node : List PySem.Str := ["labels", "forms", "chosen", "many", "thing"]
theorem sc_shows_node : FnScope N_shows_node p_shows_node (defScope s_shows_node) := ⟨rfl, rfl, rfl, by decide +kernel, rfl, by decide +kernel, by decide +kernel⟩
def fb_shows_node (F_is_form_there : List PyData → Option PyData) (F_labels_between : List PyData → Option PyData) (F_shows_node : List PyData → Option PyData) : F Fl :=
    (fSeq (fIf (fOr (fNot (fB (fIsi "tuple" (fVar 4)))) (fOr (fB (fOp (gEq false) (fCB gLen (fCons (fVar 4) fNil)) (fC (.int 3)))) (fNot (fB (fIsi "tuple" (fOp gIx (fVar 4) (fC (.int 2)))))))) (fRet (fC (.bool false))) fNext)
    (fSeq (fAsg (gT (gsC (gN 5) (gsC (gN 6) (gsC (gN 7) gsN)))) (fVar 4))
    (fSeq (fIf (fOr (fNot (fB (fCall F_is_form_there (fCons (fVar 1) (fCons (fVar 5) fNil))))) (fOr (fNot (fB (fCall F_is_form_there (fCons (fVar 1) (fCons (fVar 6) fNil))))) (fNot (fB (fOp gLtS (fVar 5) (fVar 6)))))) (fRet (fC (.bool false))) fNext)
    (fSeq (fSet 8 (fCall F_labels_between (fCons (fVar 0) (fCons (fVar 5) (fCons (fVar 6) fNil)))))
    (fSeq (fIf (fOr (fB (fOp (gEq true) (fVar 8) (fLst fNil))) (fB (fCB gAny (fCons (fLc (fItems (fVar 8)) (gN 9) fYes (fOp (gIn true) (fVar 9) (fVar 2)) [9]) fNil)))) (fRet (fC (.bool false))) fNext)
    (fSeq (fIf (fB (fOp (gEq true) (fCB gLen (fCons (fVar 2) fNil)) (fVar 3))) (fRet (fOp (gEq true) (fVar 7) (fTup fNil))) fNext)
    (fSeq (fIf (fB (fOp (gEq false) (fCB gLen (fCons (fVar 7) fNil)) (fCB gLen (fCons (fVar 8) fNil)))) (fRet (fC (.bool false))) fNext)
    (fRet (fCB gAll (fCons (fLc (fZip (fCons (fVar 8) (fCons (fVar 7) fNil))) (gT (gsC (gN 9) (gsC (gN 10) gsN))) fYes (fCall F_shows_node (fCons (fVar 0) (fCons (fVar 1) (fCons (fOp gCatT (fVar 2) (fTup (fCons (fVar 9) fNil))) (fCons (fVar 3) (fCons (fVar 10) fNil)))))) [9, 10]) fNil))))))))))
theorem d_shows_node {M : Me} {k : Nat} (T : Txt M) (F_is_form_there : List PyData → Option PyData) (F_labels_between : List PyData → Option PyData) (F_shows_node : List PyData → Option PyData) (C_is_form_there : Callee M k "is_form_there" ["forms", "thing"] (spD M 2 F_is_form_there)) (C_labels_between : Callee M k "labels_between" ["labels", "one", "other"] (spD M 3 F_labels_between)) (C_shows_node : Callee M k "shows_node" ["labels", "forms", "chosen", "many", "thing"] (spD M 5 F_shows_node)) (f : Addr) : ∃ t, ∀ (cdv : Value) (A : Around) (outer : List Env) (s : Shared) (H : Hp) (E : XK), DSs M k (cxD M N_shows_node "shows_node" s_shows_node f cdv A outer s H E) (defBody s_shows_node) t (fb_shows_node F_is_form_there F_labels_between F_shows_node) := by
  exact ⟨_, fun cdv A outer s H E =>
    (dss_cons (ds_if (dw_or (dt_not (dt_val (de_isi T.n_isinstance T.n_tuple (de_var 4)))) (dw_or (dt_cmp o_ne (de_cb c_len T.n_len (da_cons (de_var 4) da_nil)) de_int) (dw_or1 (dt_not (dt_val (de_isi T.n_isinstance T.n_tuple (de_ix i_seq (de_var 4) de_int))))))).pt (dss_one (ds_ret de_bl)) dss_nil) (dss_cons (ds_asg (de_var 4) (dg_tup (dgs_cons (dg_name 5) (dgs_cons (dg_name 6) (dgs_cons (dg_name 7) dgs_nil))))) (dss_cons (ds_if (dw_or (dt_not (dt_val (de_call C_is_form_there (da_cons (de_var 1) (da_cons (de_var 5) da_nil))))) (dw_or (dt_not (dt_val (de_call C_is_form_there (da_cons (de_var 1) (da_cons (de_var 6) da_nil))))) (dw_or1 (dt_not (dt_cmp o_ltS (de_var 5) (de_var 6)))))).pt (dss_one (ds_ret de_bl)) dss_nil) (dss_cons (ds_set 8 (de_call C_labels_between (da_cons (de_var 0) (da_cons (de_var 5) (da_cons (de_var 6) da_nil))))) (dss_cons (ds_if (dw_or (dt_cmp o_eq (de_var 8) (de_lst da_nil)) (dw_or1 (dt_val (de_cb c_any T.n_any (da_cons (de_lc (ok := by kernel_rfl) [("label", 9)] (di_seq (de_var 8)) (fun _ _ _ _ _ => (dg_name 9)) (fun _ _ _ _ _ => dts_nil) (fun _ _ _ _ _ => (de_cmp o_in (de_var 9) (de_var 2)))) da_nil))))).pt (dss_one (ds_ret de_bl)) dss_nil) (dss_cons (ds_if (dt_cmp o_eq (de_cb c_len T.n_len (da_cons (de_var 2) da_nil)) (de_var 3)) (dss_one (ds_ret (de_cmp o_eq (de_var 7) (de_tup da_nil)))) dss_nil) (dss_cons (ds_if (dt_cmp o_ne (de_cb c_len T.n_len (da_cons (de_var 7) da_nil)) (de_cb c_len T.n_len (da_cons (de_var 8) da_nil))) (dss_one (ds_ret de_bl)) dss_nil) (dss_one (ds_ret (de_cb c_all T.n_all (da_cons (de_lc (ok := by kernel_rfl) [("label", 9), ("node", 10)] (di_zip T.n_zip (da_cons (de_var 8) (da_cons (de_var 7) da_nil))) (fun _ _ _ _ _ => (dg_tup (dgs_cons (dg_name 9) (dgs_cons (dg_name 10) dgs_nil)))) (fun _ _ _ _ _ => dts_nil) (fun _ _ _ _ _ => (de_call C_shows_node (da_cons (de_var 0) (da_cons (de_var 1) (da_cons (de_op o_catT (de_var 2) (de_tup (da_cons (de_var 9) da_nil))) (da_cons (de_var 3) (da_cons (de_var 10) da_nil)))))))) da_nil)))))))))))⟩
/-! ### shows_telling -/
abbrev N_shows_telling : List PySem.Str := ["listing", "labels", "paper", "known", "label", "one", "other", "forms", "page"]
abbrev p_shows_telling : List PySem.Str := ["listing", "labels", "paper"]
theorem sc_shows_telling : FnScope N_shows_telling p_shows_telling (defScope s_shows_telling) := ⟨rfl, rfl, rfl, by decide +kernel, rfl, by decide +kernel, by decide +kernel⟩
def fb_shows_telling (F_is_label : List PyData → Option PyData) (F_labels_of : List PyData → Option PyData) (F_shows_node : List PyData → Option PyData) (F_tell_all : List PyData → Option PyData) : F Fl :=
    (fSeq (fSet 3 (fCall F_labels_of (fCons (fVar 0) fNil)))
    (fSeq (fIf (fOr (fNot (fB (fIsi "tuple" (fVar 1)))) (fNot (fB (fCB gAll (fCons (fLc (fItems (fVar 1)) (gN 4) fYes (fCall F_is_label (fCons (fVar 3) (fCons (fVar 4) fNil))) [4]) fNil))))) (fRet (fC (.bool false))) fNext)
    (fSeq (fIf (fNot (fB (fCB gAll (fCons (fLc (fZip (fCons (fVar 1) (fCons (fSl (fVar 1) (fPs (fC (.int 1))) fPn) fNil))) (gT (gsC (gN 5) (gsC (gN 6) gsN))) fYes (fOp gLtH (fVar 5) (fVar 6)) [5, 6]) fNil)))) (fRet (fC (.bool false))) fNext)
    (fSeq (fSet 7 (fLc (fItems (fFld .pages (fVar 0))) (gN 8) fYes (fOp gIx (fVar 8) (fC (.int 0))) [8]))
    (fSeq (fIf (fNot (fB (fCall F_tell_all (fCons (fVar 3) (fCons (fVar 7) (fCons (fVar 1) fNil)))))) (fRet (fC (.bool false))) fNext)
    (fSeq (fIf (fB (fOp (gEq true) (fVar 1) (fTup fNil))) (fRet (fOp gIsN (fVar 2) (fC .none))) fNext)
    (fRet (fCall F_shows_node (fCons (fVar 3) (fCons (fVar 7) (fCons (fTup fNil) (fCons (fOp gSub_ (fCB gLen (fCons (fVar 1) fNil)) (fC (.int 1))) (fCons (fVar 2) fNil)))))))))))))
theorem d_shows_telling {M : Me} {k : Nat} (T : Txt M) (F_is_label : List PyData → Option PyData) (F_labels_of : List PyData → Option PyData) (F_shows_node : List PyData → Option PyData) (F_tell_all : List PyData → Option PyData) (C_is_label : Callee M k "is_label" ["labels", "thing"] (spD M 2 F_is_label)) (C_labels_of : Callee M k "labels_of" ["listing"] (spD M 1 F_labels_of)) (C_shows_node : Callee M k "shows_node" ["labels", "forms", "chosen", "many", "thing"] (spD M 5 F_shows_node)) (C_tell_all : Callee M k "tell_all" ["labels", "forms", "some"] (spD M 3 F_tell_all)) (f : Addr) : ∃ t, ∀ (cdv : Value) (A : Around) (outer : List Env) (s : Shared) (H : Hp) (E : XK), DSs M k (cxD M N_shows_telling "shows_telling" s_shows_telling f cdv A outer s H E) (defBody s_shows_telling) t (fb_shows_telling F_is_label F_labels_of F_shows_node F_tell_all) := by
  exact ⟨_, fun cdv A outer s H E =>
    (dss_cons (ds_set 3 (de_call C_labels_of (da_cons (de_var 0) da_nil))) (dss_cons (ds_if (dw_or (dt_not (dt_val (de_isi T.n_isinstance T.n_tuple (de_var 1)))) (dw_or1 (dt_not (dt_val (de_cb c_all T.n_all (da_cons (de_lc (ok := by kernel_rfl) [("label", 4)] (di_seq (de_var 1)) (fun _ _ _ _ _ => (dg_name 4)) (fun _ _ _ _ _ => dts_nil) (fun _ _ _ _ _ => (de_call C_is_label (da_cons (de_var 3) (da_cons (de_var 4) da_nil))))) da_nil)))))).pt (dss_one (ds_ret de_bl)) dss_nil) (dss_cons (ds_if (dt_not (dt_val (de_cb c_all T.n_all (da_cons (de_lc (ok := by kernel_rfl) [("one", 5), ("other", 6)] (di_zip T.n_zip (da_cons (de_var 1) (da_cons (de_slice (de_var 1) (dp_some de_int) dp_none) da_nil))) (fun _ _ _ _ _ => (dg_tup (dgs_cons (dg_name 5) (dgs_cons (dg_name 6) dgs_nil)))) (fun _ _ _ _ _ => dts_nil) (fun _ _ _ _ _ => (de_cmp o_ltH (de_var 5) (de_var 6)))) da_nil)))) (dss_one (ds_ret de_bl)) dss_nil) (dss_cons (ds_setLc (ok := by kernel_rfl) 7 [("page", 8)] (di_seq (de_fld .pages T.cls T.na_pages (de_var 0))) (fun _ _ _ _ _ => (dg_name 8)) (fun _ _ _ _ _ => dts_nil) (fun _ _ _ _ _ => (de_ix i_seq (de_var 8) de_int))) (dss_cons (ds_if (dt_not (dt_val (de_call C_tell_all (da_cons (de_var 3) (da_cons (de_var 7) (da_cons (de_var 1) da_nil)))))) (dss_one (ds_ret de_bl)) dss_nil) (dss_cons (ds_if (dt_cmp o_eq (de_var 1) (de_tup da_nil)) (dss_one (ds_ret (de_cmp o_isN (de_var 2) de_non))) dss_nil) (dss_one (ds_ret (de_call C_shows_node (da_cons (de_var 3) (da_cons (de_var 7) (da_cons (de_tup da_nil) (da_cons (de_op o_sub (de_cb c_len T.n_len (da_cons (de_var 1) da_nil)) de_int) (da_cons (de_var 2) da_nil))))))))))))))⟩
/-! ### telling -/
abbrev N_telling : List PySem.Str := ["listing", "labels", "pairs", "page", "chosen"]
abbrev p_telling : List PySem.Str := ["listing"]
theorem sc_telling : FnScope N_telling p_telling (defScope s_telling) := ⟨rfl, rfl, rfl, by decide +kernel, rfl, by decide +kernel, by decide +kernel⟩
def fb_telling (F___len__ : List PyData → Option PyData) (F_fewest_of : List PyData → Option PyData) (F_labels_of : List PyData → Option PyData) (F_node_of : List PyData → Option PyData) (F_pairs_apart : List PyData → Option PyData) : F Fl :=
    (fSeq (fSet 1 (fCall F_labels_of (fCons (fVar 0) fNil)))
    (fSeq (fIf (fB (fOp gGt (fCB gLenT (fCons (fVar 1) fNil)) (fC (.int 7)))) fNever fNext)
    (fSeq (fIf (fB (fOp gGt (fLenL F___len__ (fVar 0)) (fC (.int 16)))) fNever fNext)
    (fSeq (fSet 2 (fCall F_pairs_apart (fCons (fVar 1) (fCons (fLc (fItems (fFld .pages (fVar 0))) (gN 3) fYes (fOp gIx (fVar 3) (fC (.int 0))) [3]) fNil))))
    (fSeq (fSet 4 (fCall F_fewest_of (fCons (fCB gSorted (fCons (fVar 1) fNil)) (fCons (fVar 2) fNil))))
    (fSeq (fIf (fB (fOp (gEq true) (fVar 4) (fTup fNil))) (fRet (fTup (fCons (fTup fNil) (fCons (fC .none) fNil)))) fNext)
    (fRet (fTup (fCons (fVar 4) (fCons (fCall F_node_of (fCons (fVar 2) (fCons (fTup fNil) (fCons (fOp gSub_ (fCB gLen (fCons (fVar 4) fNil)) (fC (.int 1))) fNil)))) fNil))))))))))
theorem d_telling {M : Me} {k : Nat} (T : Txt M) (F___len__ : List PyData → Option PyData) (F_fewest_of : List PyData → Option PyData) (F_labels_of : List PyData → Option PyData) (F_node_of : List PyData → Option PyData) (F_pairs_apart : List PyData → Option PyData) {jL : Nat} (C___len__ : CalleeM M jL "__len__" ["self"] (spD M 1 F___len__)) (hL : jL + 1 ≤ k) (C_fewest_of : Callee M k "fewest_of" ["labels", "pairs"] (spD M 2 F_fewest_of)) (C_labels_of : Callee M k "labels_of" ["listing"] (spD M 1 F_labels_of)) (C_node_of : Callee M k "node_of" ["pairs", "chosen", "many"] (spD M 3 F_node_of)) (C_pairs_apart : Callee M k "pairs_apart" ["labels", "forms"] (spD M 2 F_pairs_apart)) (f : Addr) : ∃ t, ∀ (cdv : Value) (A : Around) (outer : List Env) (s : Shared) (H : Hp) (E : XK), DSs M k (cxD M N_telling "telling" s_telling f cdv A outer s H E) (defBody s_telling) t (fb_telling F___len__ F_fewest_of F_labels_of F_node_of F_pairs_apart) := by
  obtain ⟨tk_MOST_LABELS, h_MOST_LABELS⟩ := T.g_MOST_LABELS
  obtain ⟨tk_MOST_PAGES, h_MOST_PAGES⟩ := T.g_MOST_PAGES
  exact ⟨_, fun cdv A outer s H E =>
    (dss_cons (ds_set 1 (de_call C_labels_of (da_cons (de_var 0) da_nil))) (dss_cons (ds_if (dt_cmp o_gt (de_cb c_lenT T.n_len (da_cons (de_var 1) da_nil)) (de_globI h_MOST_LABELS)) (dss_one ds_never) dss_nil) (dss_cons (ds_if (dt_cmp o_gt (de_lenL C___len__ hL T.n_len (de_var 0)) (de_globI h_MOST_PAGES)) (dss_one ds_never) dss_nil) (dss_cons (ds_set 2 (de_call C_pairs_apart (da_cons (de_var 1) (da_cons (de_lc (ok := by kernel_rfl) [("page", 3)] (di_seq (de_fld .pages T.cls T.na_pages (de_var 0))) (fun _ _ _ _ _ => (dg_name 3)) (fun _ _ _ _ _ => dts_nil) (fun _ _ _ _ _ => (de_ix i_seq (de_var 3) de_int))) da_nil)))) (dss_cons (ds_set 4 (de_call C_fewest_of (da_cons (de_cb c_sorted T.n_sorted (da_cons (de_var 1) da_nil)) (da_cons (de_var 2) da_nil)))) (dss_cons (ds_if (dt_cmp o_eq (de_var 4) (de_tup da_nil)) (dss_one (ds_ret (de_tup (da_cons (de_tup da_nil) (da_cons de_non da_nil))))) dss_nil) (dss_one (ds_ret (de_tup (da_cons (de_var 4) (da_cons (de_call C_node_of (da_cons (de_var 2) (da_cons (de_tup da_nil) (da_cons (de_op o_sub (de_cb c_len T.n_len (da_cons (de_var 4) da_nil)) de_int) da_nil)))) da_nil)))))))))))⟩
end DL

set_option maxRecDepth 100000
set_option linter.all false
set_option maxHeartbeats 4000000
namespace DL
open PySem L2 PyProof.Rows
/-! ### _law_pot -/
abbrev N__law_pot : List PySem.Str := ["_law_script", "_law_k", "_law_cell", "_law_great"]
abbrev p__law_pot : List PySem.Str := ["_law_script", "_law_k"]
theorem sc__law_pot : FnScope N__law_pot p__law_pot (defScope s__law_pot) := ⟨rfl, rfl, rfl, by decide +kernel, rfl, by decide +kernel, by decide +kernel⟩
def fb__law_pot : F Fl :=
    (fSeq (fSet 2 (fOp gAdd (fOp gMul (fC (.int 3)) (fVar 1)) (fCB gLenC (fCons (fVar 0) fNil))))
    (fSeq (fIf (fB (fOp gLt (fVar 1) (fCB gLenC (fCons (fVar 0) fNil)))) (fSet 2 (fOp gIxC (fVar 0) (fVar 1))) fNext)
    (fSeq (fSet 3 (fOp gMul (fOp gMod (fCB gAbs (fCons (fVar 2) fNil)) (fCB gIntT (fCons (fOp gCatS (fC (.str "1")) (fOp gMulS (fC (.str "0")) (fC (.int 900)))) fNil))) (fCB gIntB (fCons (fOp gGe (fCB gAbs (fCons (fVar 2) fNil)) (fOp gPow (fC (.int 10)) (fC (.int 18)))) fNil))))
    (fRO (fOLst (fCons (fVar 3) (fCons (fOp gMod (fOp gMul (fOp gAdd (fOp gAdd (fOp gMod (fVar 2) (fC (.int 2305843009213693951))) (fOp gMul (fOp gMul (fC (.int 7919)) (fVar 1)) (fVar 1))) (fC (.int 11))) (fC (.int 48271))) (fC (.int 2305843009213693951))) fNil)))))))
theorem d__law_pot {M : Me} {k : Nat} (T : Txt M) (f : Addr) : ∃ t, ∀ (cdv : Value) (A : Around) (outer : List Env) (s : Shared) (H : Hp) (E : XK), DSs M k (cxD M N__law_pot "_law_pot" s__law_pot f cdv A outer s H E) (defBody s__law_pot) t (fb__law_pot) := by
  exact ⟨_, fun cdv A outer s H E =>
    (dss_cons (ds_set 2 (de_op o_add (de_op o_mul de_int (de_var 1)) (de_cb c_lenC T.n_len (da_cons (de_var 0) da_nil)))) (dss_cons (ds_if (dt_cmp o_lt (de_var 1) (de_cb c_lenC T.n_len (da_cons (de_var 0) da_nil))) (dss_one (ds_set 2 (de_ix i_scr (de_var 0) (de_var 1)))) dss_nil) (dss_cons (ds_set 3 (de_op o_mul (de_op o_mod (de_cb c_abs T.n_abs (da_cons (de_var 2) da_nil)) (de_ct (c_intT T.dig) T.n_int (da_cons (de_op o_catS de_str (de_op o_mulS de_str de_int)) da_nil))) (de_ct c_intB T.n_int (da_cons (de_cmp o_ge (de_cb c_abs T.n_abs (da_cons (de_var 2) da_nil)) (de_op o_pow de_int de_int)) da_nil)))) (dss_one (ds_retN (do_lst (da_cons (de_var 3) (da_cons (de_op o_mod (de_op o_mul (de_op o_add (de_op o_add (de_op o_mod (de_var 2) de_int) (de_op o_mul (de_op o_mul de_int (de_var 1)) (de_var 1))) de_int) de_int) de_int) da_nil))))))))⟩
/-! ### _law_take -/
abbrev N__law_take : List PySem.Str := ["_law_pot_here", "_law_many", "_law_digit"]
abbrev p__law_take : List PySem.Str := ["_law_pot_here", "_law_many"]
theorem sc__law_take : FnScope N__law_take p__law_take (defScope s__law_take) := ⟨rfl, rfl, rfl, by decide +kernel, rfl, by decide +kernel, by decide +kernel⟩
def fb__law_take : F Fl :=
    (fSeq (fIf (fB (fOp gGt (fOp gIx (fVar 0) (fC (.int 0))) (fC (.int 0)))) (fSeq (fSet 2 (fOp gMod (fOp gIx (fVar 0) (fC (.int 0))) (fVar 1)))
    (fSeq (fSetI (fVar 0) (fC (.int 0)) (fOp gDiv (fOp gIx (fVar 0) (fC (.int 0))) (fVar 1)))
    (fRet (fVar 2)))) fNext)
    (fSeq (fSetI (fVar 0) (fC (.int 1)) (fOp gMod (fOp gAdd (fOp gMul (fOp gIx (fVar 0) (fC (.int 1))) (fC (.int 1181783497276652981))) (fC (.int 12345678910987))) (fC (.int 2305843009213693951))))
    (fRet (fOp gMod (fOp gDiv (fOp gMod (fOp gMul (fOp gDiv (fOp gIx (fVar 0) (fC (.int 1))) (fC (.int 65537))) (fOp gAdd (fOp gMod (fOp gIx (fVar 0) (fC (.int 1))) (fC (.int 65537))) (fC (.int 3)))) (fC (.int 2305843009213693921))) (fC (.int 97))) (fVar 1)))))
theorem d__law_take {M : Me} {k : Nat} (T : Txt M) (f : Addr) : ∃ t, ∀ (cdv : Value) (A : Around) (outer : List Env) (s : Shared) (H : Hp) (E : XK), DSs M k (cxD M N__law_take "_law_take" s__law_take f cdv A outer s H E) (defBody s__law_take) t (fb__law_take) := by
  exact ⟨_, fun cdv A outer s H E =>
    (dss_cons (ds_if (dt_cmp o_gt (de_ix i_seq (de_var 0) de_int) de_int) (dss_cons (ds_set 2 (de_op o_mod (de_ix i_seq (de_var 0) de_int) (de_var 1))) (dss_cons (ds_setI (de_var 0) de_int (de_op o_fdiv (de_ix i_seq (de_var 0) de_int) (de_var 1))) (dss_one (ds_ret (de_var 2))))) dss_nil) (dss_cons (ds_setI (de_var 0) de_int (de_op o_mod (de_op o_add (de_op o_mul (de_ix i_seq (de_var 0) de_int) de_int) de_int) de_int)) (dss_one (ds_ret (de_op o_mod (de_op o_fdiv (de_op o_mod (de_op o_mul (de_op o_fdiv (de_ix i_seq (de_var 0) de_int) de_int) (de_op o_add (de_op o_mod (de_ix i_seq (de_var 0) de_int) de_int) de_int)) de_int) de_int) (de_var 1))))))⟩
/-! ### _law_words -/
abbrev N__law_words : List PySem.Str := ["_law_pot_here", "_law_many", "_law_signs", "_law_stem", "_law_k", "_law_at", "_law_first", "_law_step"]
abbrev p__law_words : List PySem.Str := ["_law_pot_here", "_law_many"]
theorem sc__law_words : FnScope N__law_words p__law_words (defScope s__law_words) := ⟨rfl, rfl, rfl, by decide +kernel, rfl, by decide +kernel, by decide +kernel⟩
def fb__law_words (F__law_take : List PyData → Int → Int → Option (PyData × Int × Int)) : F Fl :=
    (fSeq (fAsg (gT (gsC (gN 2) (gsC (gN 3) gsN))) (fTup (fCons (fC (.str "abcdefghijklmnopqrstuvwxyz0123456789-")) (fCons (fC (.str "")) fNil))))
    (fSeq (fFor (fRange (fCons (fCallP F__law_take (fCons (fVar 0) (fCons (fC (.int 12)) fNil))) fNil)) (gN 4) (fSet 3 (fOp gCatS (fVar 3) (fOp gIx (fVar 2) (fCallP F__law_take (fCons (fVar 0) (fCons (fC (.int 37)) fNil)))))))
    (fSeq (fAsg (gT (gsC (gN 5) (gsC (gN 6) (gsC (gN 7) gsN)))) (fTup (fCons (fCallP F__law_take (fCons (fVar 0) (fCons (fOp gAdd (fCB gLen (fCons (fVar 3) fNil)) (fC (.int 1))) fNil))) (fCons (fCallP F__law_take (fCons (fVar 0) (fCons (fC (.int 37)) fNil))) (fCons (fOp gAdd (fC (.int 1)) (fCallP F__law_take (fCons (fVar 0) (fCons (fC (.int 36)) fNil)))) fNil)))))
    (fRet (fLc (fRange (fCons (fVar 1) fNil)) (gN 4) fYes (fOp gCatS (fOp gCatS (fSl (fVar 3) fPn (fPs (fVar 5))) (fOp gIx (fVar 2) (fOp gMod (fOp gAdd (fVar 6) (fOp gMul (fVar 7) (fVar 4))) (fC (.int 37))))) (fSl (fVar 3) (fPs (fVar 5)) fPn)) [4])))))
theorem d__law_words {M : Me} {k : Nat} (T : Txt M) (F__law_take : List PyData → Int → Int → Option (PyData × Int × Int)) (C__law_take : Callee M k "_law_take" ["_law_pot_here", "_law_many"] (spP M 1 F__law_take)) (f : Addr) : ∃ t, ∀ (cdv : Value) (A : Around) (outer : List Env) (s : Shared) (H : Hp) (E : XK), DSs M k (cxD M N__law_words "_law_words" s__law_words f cdv A outer s H E) (defBody s__law_words) t (fb__law_words F__law_take) := by
  exact ⟨_, fun cdv A outer s H E =>
    (dss_cons (ds_asg (de_tup (da_cons de_str (da_cons de_str da_nil))) (dg_tup (dgs_cons (dg_name 2) (dgs_cons (dg_name 3) dgs_nil)))) (dss_cons (ds_for (di_range T.n_range (da_cons (de_callP C__law_take (da_cons (de_var 0) (da_cons de_int da_nil))) da_nil)) (dg_name 4) (dss_one (ds_set 3 (de_op o_catS (de_var 3) (de_ix i_seq (de_var 2) (de_callP C__law_take (da_cons (de_var 0) (da_cons de_int da_nil)))))))) (dss_cons (ds_asg (de_tup (da_cons (de_callP C__law_take (da_cons (de_var 0) (da_cons (de_op o_add (de_cb c_len T.n_len (da_cons (de_var 3) da_nil)) de_int) da_nil))) (da_cons (de_callP C__law_take (da_cons (de_var 0) (da_cons de_int da_nil))) (da_cons (de_op o_add de_int (de_callP C__law_take (da_cons (de_var 0) (da_cons de_int da_nil)))) da_nil)))) (dg_tup (dgs_cons (dg_name 5) (dgs_cons (dg_name 6) (dgs_cons (dg_name 7) dgs_nil))))) (dss_one (ds_ret (de_lc (ok := by kernel_rfl) [("_law_k", 4)] (di_range T.n_range (da_cons (de_var 1) da_nil)) (fun _ _ _ _ _ => (dg_name 4)) (fun _ _ _ _ _ => dts_nil) (fun _ _ _ _ _ => (de_op o_catS (de_op o_catS (de_slice (de_var 3) dp_none (dp_some (de_var 5))) (de_ix i_seq (de_var 2) (de_op o_mod (de_op o_add (de_var 6) (de_op o_mul (de_var 7) (de_var 4))) de_int))) (de_slice (de_var 3) (dp_some (de_var 5)) dp_none)))))))))⟩
/-! ### _law_some -/
abbrev N__law_some : List PySem.Str := ["_law_pot_here", "_law_row", "_law_most", "_law_found", "_law_turn"]
abbrev p__law_some : List PySem.Str := ["_law_pot_here", "_law_row", "_law_most"]
theorem sc__law_some : FnScope N__law_some p__law_some (defScope s__law_some) := ⟨rfl, rfl, rfl, by decide +kernel, rfl, by decide +kernel, by decide +kernel⟩
def fb__law_some (F__law_take : List PyData → Int → Int → Option (PyData × Int × Int)) : F Fl :=
    (fSeq (fOwn 3 fONewS)
    (fSeq (fFor (fRange (fCons (fCallP F__law_take (fCons (fVar 0) (fCons (fOp gAdd (fVar 2) (fC (.int 1))) fNil))) fNil)) (gN 4) (fIf (fB (fOp (gEq false) (fVar 1) (fLst fNil))) (fPutS 3 (fOp gIx (fVar 1) (fCallP F__law_take (fCons (fVar 0) (fCons (fCB gLen (fCons (fVar 1) fNil)) fNil)))) (fC (.bool true))) fNext))
    (fRet (fCB gTuple (fCons (fCB gSorted (fCons (fVar 3) fNil)) fNil)))))
theorem d__law_some {M : Me} {k : Nat} (T : Txt M) (F__law_take : List PyData → Int → Int → Option (PyData × Int × Int)) (C__law_take : Callee M k "_law_take" ["_law_pot_here", "_law_many"] (spP M 1 F__law_take)) (f : Addr) : ∃ t, ∀ (cdv : Value) (A : Around) (outer : List Env) (s : Shared) (H : Hp) (E : XK), DSs M k (cxD M N__law_some "_law_some" s__law_some f cdv A outer s H E) (defBody s__law_some) t (fb__law_some F__law_take) := by
  exact ⟨_, fun cdv A outer s H E =>
    (dss_cons (ds_own 3 do_newS) (dss_cons (ds_for (di_range T.n_range (da_cons (de_callP C__law_take (da_cons (de_var 0) (da_cons (de_op o_add (de_var 2) de_int) da_nil))) da_nil)) (dg_name 4) (dss_one (ds_if (dt_cmp o_ne (de_var 1) (de_lst da_nil)) (dss_one (ds_putS 3 (de_ix i_seq (de_var 1) (de_callP C__law_take (da_cons (de_var 0) (da_cons (de_cb c_len T.n_len (da_cons (de_var 1) da_nil)) da_nil)))) de_bl)) dss_nil))) (dss_one (ds_ret (de_ct c_tuple T.n_tuple (da_cons (de_cb c_sorted T.n_sorted (da_cons (de_var 3) da_nil)) da_nil))))))⟩
/-! ### _law_someT -/
abbrev N__law_someT : List PySem.Str := ["_law_pot_here", "_law_row", "_law_most", "_law_found", "_law_turn"]
abbrev p__law_someT : List PySem.Str := ["_law_pot_here", "_law_row", "_law_most"]
def fb__law_someT (F__law_take : List PyData → Int → Int → Option (PyData × Int × Int)) : F Fl :=
    (fSeq (fOwn 3 fONewT)
    (fSeq (fFor (fRange (fCons (fCallP F__law_take (fCons (fVar 0) (fCons (fOp gAdd (fVar 2) (fC (.int 1))) fNil))) fNil)) (gN 4) (fIf (fB (fOp (gEq false) (fVar 1) (fLst fNil))) (fPutT 3 (fOp gIx (fVar 1) (fCallP F__law_take (fCons (fVar 0) (fCons (fCB gLen (fCons (fVar 1) fNil)) fNil)))) (fC (.bool true))) fNext))
    (fRet (fCB gTuple (fCons (fCB gSorted (fCons (fVar 3) fNil)) fNil)))))
theorem d__law_someT {M : Me} {k : Nat} (T : Txt M) (F__law_take : List PyData → Int → Int → Option (PyData × Int × Int)) (C__law_take : Callee M k "_law_take" ["_law_pot_here", "_law_many"] (spP M 1 F__law_take)) (f : Addr) : ∃ t, ∀ (cdv : Value) (A : Around) (outer : List Env) (s : Shared) (H : Hp) (E : XK), DSs M k (cxD M N__law_someT "_law_some" s__law_some f cdv A outer s H E) (defBody s__law_some) t (fb__law_someT F__law_take) := by
  exact ⟨_, fun cdv A outer s H E =>
    (dss_cons (ds_own 3 do_newT) (dss_cons (ds_for (di_range T.n_range (da_cons (de_callP C__law_take (da_cons (de_var 0) (da_cons (de_op o_add (de_var 2) de_int) da_nil))) da_nil)) (dg_name 4) (dss_one (ds_if (dt_cmp o_ne (de_var 1) (de_lst da_nil)) (dss_one (ds_putT 3 (de_ix i_seq (de_var 1) (de_callP C__law_take (da_cons (de_var 0) (da_cons (de_cb c_len T.n_len (da_cons (de_var 1) da_nil)) da_nil)))) de_bl)) dss_nil))) (dss_one (ds_ret (de_ct c_tuple T.n_tuple (da_cons (de_cb c_sorted T.n_sorted (da_cons (de_var 3) da_nil)) da_nil))))))⟩
/-! ### _law_form -/
abbrev N__law_form : List PySem.Str := ["_law_pot_here", "_law_words_here", "_law_kind", "_law_gate", "_law_form_here", "_law_turn"]
abbrev p__law_form : List PySem.Str := ["_law_pot_here", "_law_words_here"]
theorem sc__law_form : FnScope N__law_form p__law_form (defScope s__law_form) := ⟨rfl, rfl, rfl, by decide +kernel, rfl, by decide +kernel, by decide +kernel⟩
def fb__law_form (F__law_take : List PyData → Int → Int → Option (PyData × Int × Int)) : F Fl :=
    (fSeq (fPar 2 3 (fCons (fOp gIx (fLst (fCons (fC (.str "leaf")) (fCons (fC (.str "seal")) fNil))) (fCallP F__law_take (fCons (fVar 0) (fCons (fC (.int 2)) fNil)))) (fCons (fOp gIx (fLst (fCons (fC (.str "")) (fCons (fOp gCatS (fC (.str ":")) (fCB gStrI (fCons (fOp gAdd (fC (.int 1000)) (fCallP F__law_take (fCons (fVar 0) (fCons (fC (.int 9000)) fNil)))) fNil))) fNil))) (fCallP F__law_take (fCons (fVar 0) (fCons (fC (.int 2)) fNil)))) fNil)))
    (fSeq (fSet 4 (fOp gCatS (fOp gCatS (fOp gCatS (fOp gCatS (fOp gCatS (fVar 2) (fC (.str "://"))) (fOp gIx (fVar 1) (fCallP F__law_take (fCons (fVar 0) (fCons (fCB gLen (fCons (fVar 1) fNil)) fNil))))) (fC (.str "."))) (fOp gIx (fVar 1) (fCallP F__law_take (fCons (fVar 0) (fCons (fCB gLen (fCons (fVar 1) fNil)) fNil))))) (fVar 3)))
    (fSeq (fFor (fRange (fCons (fCallP F__law_take (fCons (fVar 0) (fCons (fC (.int 3)) fNil))) fNil)) (gN 5) (fSet 4 (fOp gCatS (fOp gCatS (fVar 4) (fC (.str "/"))) (fOp gIx (fVar 1) (fCallP F__law_take (fCons (fVar 0) (fCons (fCB gLen (fCons (fVar 1) fNil)) fNil)))))))
    (fSeq (fIf (fB (fOp (gEq true) (fCallP F__law_take (fCons (fVar 0) (fCons (fC (.int 3)) fNil))) (fC (.int 0)))) (fSet 4 (fOp gCatS (fOp gCatS (fVar 4) (fC (.str "?"))) (fOp gIx (fVar 1) (fCallP F__law_take (fCons (fVar 0) (fCons (fCB gLen (fCons (fVar 1) fNil)) fNil)))))) fNext)
    (fRet (fVar 4))))))
theorem d__law_form {M : Me} {k : Nat} (T : Txt M) (F__law_take : List PyData → Int → Int → Option (PyData × Int × Int)) (C__law_take : Callee M k "_law_take" ["_law_pot_here", "_law_many"] (spP M 1 F__law_take)) (f : Addr) : ∃ t, ∀ (cdv : Value) (A : Around) (outer : List Env) (s : Shared) (H : Hp) (E : XK), DSs M k (cxD M N__law_form "_law_form" s__law_form f cdv A outer s H E) (defBody s__law_form) t (fb__law_form F__law_take) := by
  exact ⟨_, fun cdv A outer s H E =>
    (dss_cons (ds_par 2 3 (da_cons (de_ix i_seq (de_lst (da_cons de_str (da_cons de_str da_nil))) (de_callP C__law_take (da_cons (de_var 0) (da_cons de_int da_nil)))) (da_cons (de_ix i_seq (de_lst (da_cons de_str (da_cons (de_op o_catS de_str (de_ct c_strI T.n_str (da_cons (de_op o_add de_int (de_callP C__law_take (da_cons (de_var 0) (da_cons de_int da_nil)))) da_nil))) da_nil))) (de_callP C__law_take (da_cons (de_var 0) (da_cons de_int da_nil)))) da_nil))) (dss_cons (ds_set 4 (de_op o_catS (de_op o_catS (de_op o_catS (de_op o_catS (de_op o_catS (de_var 2) de_str) (de_ix i_seq (de_var 1) (de_callP C__law_take (da_cons (de_var 0) (da_cons (de_cb c_len T.n_len (da_cons (de_var 1) da_nil)) da_nil))))) de_str) (de_ix i_seq (de_var 1) (de_callP C__law_take (da_cons (de_var 0) (da_cons (de_cb c_len T.n_len (da_cons (de_var 1) da_nil)) da_nil))))) (de_var 3))) (dss_cons (ds_for (di_range T.n_range (da_cons (de_callP C__law_take (da_cons (de_var 0) (da_cons de_int da_nil))) da_nil)) (dg_name 5) (dss_one (ds_set 4 (de_op o_catS (de_op o_catS (de_var 4) de_str) (de_ix i_seq (de_var 1) (de_callP C__law_take (da_cons (de_var 0) (da_cons (de_cb c_len T.n_len (da_cons (de_var 1) da_nil)) da_nil)))))))) (dss_cons (ds_if (dt_cmp o_eq (de_callP C__law_take (da_cons (de_var 0) (da_cons de_int da_nil))) de_int) (dss_one (ds_set 4 (de_op o_catS (de_op o_catS (de_var 4) de_str) (de_ix i_seq (de_var 1) (de_callP C__law_take (da_cons (de_var 0) (da_cons (de_cb c_len T.n_len (da_cons (de_var 1) da_nil)) da_nil))))))) dss_nil) (dss_one (ds_ret (de_var 4)))))))⟩
/-! ### _law_title -/
abbrev N__law_title : List PySem.Str := ["_law_pot_here", "_law_words_here", "_law_found", "_law_turn", "_law_word"]
abbrev p__law_title : List PySem.Str := ["_law_pot_here", "_law_words_here"]
theorem sc__law_title : FnScope N__law_title p__law_title (defScope s__law_title) := ⟨rfl, rfl, rfl, by decide +kernel, rfl, by decide +kernel, by decide +kernel⟩
def fb__law_title (F__law_take : List PyData → Int → Int → Option (PyData × Int × Int)) : F Fl :=
    (fSeq (fOwn 2 (fOLst fNil))
    (fSeq (fFor (fRange (fCons (fCallP F__law_take (fCons (fVar 0) (fCons (fC (.int 4)) fNil))) fNil)) (gN 3) (fSeq (fSet 4 (fOp gIx (fVar 1) (fCallP F__law_take (fCons (fVar 0) (fCons (fCB gLen (fCons (fVar 1) fNil)) fNil)))))
    (fApp 2 (fOp gIx (fLst (fCons (fVar 4) (fCons (fUpper (fVar 4)) fNil))) (fCallP F__law_take (fCons (fVar 0) (fCons (fC (.int 2)) fNil)))))))
    (fRet (fIfE (fB (fOp (gEq false) (fVar 2) (fLst fNil))) (fJoin (fC (.str " ")) (fVar 2)) (fC .none)))))
theorem d__law_title {M : Me} {k : Nat} (T : Txt M) (F__law_take : List PyData → Int → Int → Option (PyData × Int × Int)) (C__law_take : Callee M k "_law_take" ["_law_pot_here", "_law_many"] (spP M 1 F__law_take)) (f : Addr) : ∃ t, ∀ (cdv : Value) (A : Around) (outer : List Env) (s : Shared) (H : Hp) (E : XK), DSs M k (cxD M N__law_title "_law_title" s__law_title f cdv A outer s H E) (defBody s__law_title) t (fb__law_title F__law_take) := by
  exact ⟨_, fun cdv A outer s H E =>
    (dss_cons (ds_own 2 (do_lst da_nil)) (dss_cons (ds_for (di_range T.n_range (da_cons (de_callP C__law_take (da_cons (de_var 0) (da_cons de_int da_nil))) da_nil)) (dg_name 3) (dss_cons (ds_set 4 (de_ix i_seq (de_var 1) (de_callP C__law_take (da_cons (de_var 0) (da_cons (de_cb c_len T.n_len (da_cons (de_var 1) da_nil)) da_nil))))) (dss_one (ds_append 2 (de_ix i_seq (de_lst (da_cons (de_var 4) (da_cons (de_upper (de_var 4)) da_nil))) (de_callP C__law_take (da_cons (de_var 0) (da_cons de_int da_nil)))))))) (dss_one (ds_ret (de_if (dt_cmp o_ne (de_var 2) (de_lst da_nil)) (de_join de_str (de_var 2)) de_non)))))⟩
end DL

set_option maxRecDepth 100000
set_option linter.all false
set_option maxHeartbeats 4000000
namespace DL
open PySem L2 PyProof.Rows
/-! ### _law_folders -/
abbrev N__law_folders : List PySem.Str := ["_law_pot_here", "_law_words_here", "_law_most", "_law_found", "_law_turn", "_law_path"]
abbrev p__law_folders : List PySem.Str := ["_law_pot_here", "_law_words_here", "_law_most"]
theorem sc__law_folders : FnScope N__law_folders p__law_folders (defScope s__law_folders) := ⟨rfl, rfl, rfl, by decide +kernel, rfl, by decide +kernel, by decide +kernel⟩
def fb__law_folders (F__law_take : List PyData → Int → Int → Option (PyData × Int × Int)) : F Fl :=
    (fSeq (fOwn 3 (fOLst (fCons (fTup fNil) fNil)))
    (fSeq (fFor (fRange (fCons (fCallP F__law_take (fCons (fVar 0) (fCons (fOp gAdd (fVar 2) (fC (.int 1))) fNil))) fNil)) (gN 4) (fSeq (fSet 5 (fOp gCatT (fOp gIx (fVar 3) (fCallP F__law_take (fCons (fVar 0) (fCons (fCB gLen (fCons (fVar 3) fNil)) fNil)))) (fTup (fCons (fOp gIx (fVar 1) (fCallP F__law_take (fCons (fVar 0) (fCons (fCB gLen (fCons (fVar 1) fNil)) fNil)))) fNil))))
    (fIf (fB (fOp (gIn false) (fVar 5) (fVar 3))) (fApp 3 (fVar 5)) fNext)))
    (fRet (fCB gTuple (fCons (fSl (fCB gSorted (fCons (fVar 3) fNil)) (fPs (fC (.int 1))) fPn) fNil)))))
theorem d__law_folders {M : Me} {k : Nat} (T : Txt M) (F__law_take : List PyData → Int → Int → Option (PyData × Int × Int)) (C__law_take : Callee M k "_law_take" ["_law_pot_here", "_law_many"] (spP M 1 F__law_take)) (f : Addr) : ∃ t, ∀ (cdv : Value) (A : Around) (outer : List Env) (s : Shared) (H : Hp) (E : XK), DSs M k (cxD M N__law_folders "_law_folders" s__law_folders f cdv A outer s H E) (defBody s__law_folders) t (fb__law_folders F__law_take) := by
  exact ⟨_, fun cdv A outer s H E =>
    (dss_cons (ds_own 3 (do_lst (da_cons (de_tup da_nil) da_nil))) (dss_cons (ds_for (di_range T.n_range (da_cons (de_callP C__law_take (da_cons (de_var 0) (da_cons (de_op o_add (de_var 2) de_int) da_nil))) da_nil)) (dg_name 4) (dss_cons (ds_set 5 (de_op o_catT (de_ix i_seq (de_var 3) (de_callP C__law_take (da_cons (de_var 0) (da_cons (de_cb c_len T.n_len (da_cons (de_var 3) da_nil)) da_nil)))) (de_tup (da_cons (de_ix i_seq (de_var 1) (de_callP C__law_take (da_cons (de_var 0) (da_cons (de_cb c_len T.n_len (da_cons (de_var 1) da_nil)) da_nil)))) da_nil)))) (dss_one (ds_if (dt_cmp o_notIn (de_var 5) (de_var 3)) (dss_one (ds_append 3 (de_var 5))) dss_nil)))) (dss_one (ds_ret (de_ct c_tuple T.n_tuple (da_cons (de_slice (de_cb c_sorted T.n_sorted (da_cons (de_var 3) da_nil)) (dp_some de_int) dp_none) da_nil))))))⟩
/-! ### _law_pairs -/
abbrev N__law_pairs : List PySem.Str := ["_law_pot_here", "_law_marks", "_law_most", "_law_found", "_law_turn", "_law_one", "_law_other"]
abbrev p__law_pairs : List PySem.Str := ["_law_pot_here", "_law_marks", "_law_most"]
theorem sc__law_pairs : FnScope N__law_pairs p__law_pairs (defScope s__law_pairs) := ⟨rfl, rfl, rfl, by decide +kernel, rfl, by decide +kernel, by decide +kernel⟩
def fb__law_pairs (F__law_take : List PyData → Int → Int → Option (PyData × Int × Int)) : F Fl :=
    (fSeq (fOwn 3 fONewT)
    (fSeq (fFor (fRange (fCons (fCallP F__law_take (fCons (fVar 0) (fCons (fOp gAdd (fVar 2) (fC (.int 1))) fNil))) fNil)) (gN 4) (fSeq (fPar 5 6 (fCons (fCallP F__law_take (fCons (fVar 0) (fCons (fCB gLen (fCons (fVar 1) fNil)) fNil))) (fCons (fCallP F__law_take (fCons (fVar 0) (fCons (fCB gLen (fCons (fVar 1) fNil)) fNil))) fNil)))
    (fIf (fB (fOp (gEq false) (fVar 5) (fVar 6))) (fPutT 3 (fTup (fCons (fOp gIx (fVar 1) (fCB gMin2 (fCons (fVar 5) (fCons (fVar 6) fNil)))) (fCons (fOp gIx (fVar 1) (fCB gMax2 (fCons (fVar 5) (fCons (fVar 6) fNil)))) fNil))) (fC (.bool true))) fNext)))
    (fRet (fCB gTuple (fCons (fCB gSorted (fCons (fVar 3) fNil)) fNil)))))
theorem d__law_pairs {M : Me} {k : Nat} (T : Txt M) (F__law_take : List PyData → Int → Int → Option (PyData × Int × Int)) (C__law_take : Callee M k "_law_take" ["_law_pot_here", "_law_many"] (spP M 1 F__law_take)) (f : Addr) : ∃ t, ∀ (cdv : Value) (A : Around) (outer : List Env) (s : Shared) (H : Hp) (E : XK), DSs M k (cxD M N__law_pairs "_law_pairs" s__law_pairs f cdv A outer s H E) (defBody s__law_pairs) t (fb__law_pairs F__law_take) := by
  exact ⟨_, fun cdv A outer s H E =>
    (dss_cons (ds_own 3 do_newT) (dss_cons (ds_for (di_range T.n_range (da_cons (de_callP C__law_take (da_cons (de_var 0) (da_cons (de_op o_add (de_var 2) de_int) da_nil))) da_nil)) (dg_name 4) (dss_cons (ds_par 5 6 (da_cons (de_callP C__law_take (da_cons (de_var 0) (da_cons (de_cb c_len T.n_len (da_cons (de_var 1) da_nil)) da_nil))) (da_cons (de_callP C__law_take (da_cons (de_var 0) (da_cons (de_cb c_len T.n_len (da_cons (de_var 1) da_nil)) da_nil))) da_nil))) (dss_one (ds_if (dt_cmp o_ne (de_var 5) (de_var 6)) (dss_one (ds_putT 3 (de_tup (da_cons (de_ix i_seq (de_var 1) (de_cb c_min2 T.n_min (da_cons (de_var 5) (da_cons (de_var 6) da_nil)))) (da_cons (de_ix i_seq (de_var 1) (de_cb c_max2 T.n_max (da_cons (de_var 5) (da_cons (de_var 6) da_nil)))) da_nil))) de_bl)) dss_nil)))) (dss_one (ds_ret (de_ct c_tuple T.n_tuple (da_cons (de_cb c_sorted T.n_sorted (da_cons (de_var 3) da_nil)) da_nil))))))⟩
/-! ### _law_pages -/
abbrev N__law_pages : List PySem.Str := ["_law_pot_here", "_law_words_here", "_law_marks", "_law_folders_here", "_law_most", "_law_found", "_law_turn", "_law_form_here", "_law_title_here", "_law_paths"]
abbrev p__law_pages : List PySem.Str := ["_law_pot_here", "_law_words_here", "_law_marks", "_law_folders_here", "_law_most"]
theorem sc__law_pages : FnScope N__law_pages p__law_pages (defScope s__law_pages) := ⟨rfl, rfl, rfl, by decide +kernel, rfl, by decide +kernel, by decide +kernel⟩
def fb__law_pages (F__law_form : List PyData → Int → Int → Option (PyData × Int × Int)) (F__law_some : List PyData → Int → Int → Option (PyData × Int × Int)) (F__law_someT : List PyData → Int → Int → Option (PyData × Int × Int)) (F__law_take : List PyData → Int → Int → Option (PyData × Int × Int)) (F__law_title : List PyData → Int → Int → Option (PyData × Int × Int)) : F Fl :=
    (fSeq (fOwn 5 fONewS)
    (fSeq (fFor (fRange (fCons (fCallP F__law_take (fCons (fVar 0) (fCons (fOp gAdd (fVar 4) (fC (.int 1))) fNil))) fNil)) (gN 6) (fSeq (fPar 7 8 (fCons (fCallP F__law_form (fCons (fVar 0) (fCons (fVar 1) fNil))) (fCons (fCallP F__law_title (fCons (fVar 0) (fCons (fVar 1) fNil))) fNil)))
    (fSeq (fSet 9 (fCallP F__law_someT (fCons (fVar 0) (fCons (fOp gCatL (fLst (fCons (fTup fNil) fNil)) (fCB gList (fCons (fVar 3) fNil))) (fCons (fC (.int 3)) fNil)))))
    (fPutS 5 (fVar 7) (fTup (fCons (fVar 7) (fCons (fVar 8) (fCons (fCallP F__law_some (fCons (fVar 0) (fCons (fVar 2) (fCons (fC (.int 3)) fNil)))) (fCons (fIfE (fB (fOp (gEq false) (fVar 9) (fTup fNil))) (fVar 9) (fTup (fCons (fTup fNil) fNil))) fNil)))))))))
    (fRet (fCB gTuple (fCons (fLc (fItems (fCB gSorted (fCons (fVar 5) fNil))) (gN 7) fYes (fGetS (fVar 5) (fVar 7)) [7]) fNil)))))
theorem d__law_pages {M : Me} {k : Nat} (T : Txt M) (F__law_form : List PyData → Int → Int → Option (PyData × Int × Int)) (F__law_some : List PyData → Int → Int → Option (PyData × Int × Int)) (F__law_someT : List PyData → Int → Int → Option (PyData × Int × Int)) (F__law_take : List PyData → Int → Int → Option (PyData × Int × Int)) (F__law_title : List PyData → Int → Int → Option (PyData × Int × Int)) (C__law_form : Callee M k "_law_form" ["_law_pot_here", "_law_words_here"] (spP M 1 F__law_form)) (C__law_some : Callee M k "_law_some" ["_law_pot_here", "_law_row", "_law_most"] (spP M 2 F__law_some)) (C__law_someT : Callee M k "_law_some" ["_law_pot_here", "_law_row", "_law_most"] (spP M 2 F__law_someT)) (C__law_take : Callee M k "_law_take" ["_law_pot_here", "_law_many"] (spP M 1 F__law_take)) (C__law_title : Callee M k "_law_title" ["_law_pot_here", "_law_words_here"] (spP M 1 F__law_title)) (f : Addr) : ∃ t, ∀ (cdv : Value) (A : Around) (outer : List Env) (s : Shared) (H : Hp) (E : XK), DSs M k (cxD M N__law_pages "_law_pages" s__law_pages f cdv A outer s H E) (defBody s__law_pages) t (fb__law_pages F__law_form F__law_some F__law_someT F__law_take F__law_title) := by
  exact ⟨_, fun cdv A outer s H E =>
    (dss_cons (ds_own 5 do_newS) (dss_cons (ds_for (di_range T.n_range (da_cons (de_callP C__law_take (da_cons (de_var 0) (da_cons (de_op o_add (de_var 4) de_int) da_nil))) da_nil)) (dg_name 6) (dss_cons (ds_par 7 8 (da_cons (de_callP C__law_form (da_cons (de_var 0) (da_cons (de_var 1) da_nil))) (da_cons (de_callP C__law_title (da_cons (de_var 0) (da_cons (de_var 1) da_nil))) da_nil))) (dss_cons (ds_set 9 (de_callP C__law_someT (da_cons (de_var 0) (da_cons (de_op o_catL (de_lst (da_cons (de_tup da_nil) da_nil)) (de_ct c_list T.n_list (da_cons (de_var 3) da_nil))) (da_cons de_int da_nil))))) (dss_one (ds_putS 5 (de_var 7) (de_tup (da_cons (de_var 7) (da_cons (de_var 8) (da_cons (de_callP C__law_some (da_cons (de_var 0) (da_cons (de_var 2) (da_cons de_int da_nil)))) (da_cons (de_if (dt_cmp o_ne (de_var 9) (de_tup da_nil)) (de_var 9) (de_tup (da_cons (de_tup da_nil) da_nil))) da_nil)))))))))) (dss_one (ds_ret (de_ct c_tuple T.n_tuple (da_cons (de_lc (ok := by kernel_rfl) [("_law_form_here", 7)] (di_seq (de_cb c_sorted T.n_sorted (da_cons (de_var 5) da_nil))) (fun _ _ _ _ _ => (dg_name 7)) (fun _ _ _ _ _ => dts_nil) (fun _ _ _ _ _ => (de_getS (de_var 5) (de_var 7)))) da_nil))))))⟩
/-! ### _law_inside_of -/
abbrev N__law_inside_of : List PySem.Str := ["_law_pairs_here", "_law_mark", "_law_found", "_law_turn", "_law_inner", "_law_outer"]
abbrev p__law_inside_of : List PySem.Str := ["_law_pairs_here", "_law_mark"]
theorem sc__law_inside_of : FnScope N__law_inside_of p__law_inside_of (defScope s__law_inside_of) := ⟨rfl, rfl, rfl, by decide +kernel, rfl, by decide +kernel, by decide +kernel⟩
def fb__law_inside_of : F Fl :=
    (fSeq (fOwn 2 (fOLst (fCons (fVar 1) fNil)))
    (fSeq (fFor (fItems (fVar 0)) (gN 3) (fFor (fItems (fVar 0)) (gT (gsC (gN 4) (gsC (gN 5) gsN))) (fIf (fAnd (fB (fOp (gIn true) (fVar 5) (fVar 2))) (fB (fOp (gIn false) (fVar 4) (fVar 2)))) (fApp 2 (fVar 4)) fNext)))
    (fRetO 2)))
theorem d__law_inside_of {M : Me} {k : Nat} (T : Txt M) (f : Addr) : ∃ t, ∀ (cdv : Value) (A : Around) (outer : List Env) (s : Shared) (H : Hp) (E : XK), DSs M k (cxD M N__law_inside_of "_law_inside_of" s__law_inside_of f cdv A outer s H E) (defBody s__law_inside_of) t (fb__law_inside_of) := by
  exact ⟨_, fun cdv A outer s H E =>
    (dss_cons (ds_own 2 (do_lst (da_cons (de_var 1) da_nil))) (dss_cons (ds_for (di_seq (de_var 0)) (dg_name 3) (dss_one (ds_for (di_seq (de_var 0)) (dg_tup (dgs_cons (dg_name 4) (dgs_cons (dg_name 5) dgs_nil))) (dss_one (ds_if (dw_and (dt_cmp o_in (de_var 5) (de_var 2)) (dw_and1 (dt_cmp o_notIn (de_var 4) (de_var 2)))).pt (dss_one (ds_append 2 (de_var 4))) dss_nil))))) (dss_one (ds_retO 2))))⟩
/-! ### _law_marked -/
abbrev N__law_marked : List PySem.Str := ["_law_pages_here", "_law_pairs_here", "_law_mark", "_law_lower", "_law_page", "_law_one"]
abbrev p__law_marked : List PySem.Str := ["_law_pages_here", "_law_pairs_here", "_law_mark"]
theorem sc__law_marked : FnScope N__law_marked p__law_marked (defScope s__law_marked) := ⟨rfl, rfl, rfl, by decide +kernel, rfl, by decide +kernel, by decide +kernel⟩
def fb__law_marked (F__law_inside_of : List PyData → Option PyData) : F Fl :=
    (fSeq (fSet 3 (fCall F__law_inside_of (fCons (fVar 1) (fCons (fVar 2) fNil))))
    (fRet (fLc (fItems (fVar 0)) (gN 4) (fB (fCB gAny (fCons (fLc (fItems (fOp gIx (fVar 4) (fC (.int 2)))) (gN 5) fYes (fOp (gIn true) (fVar 5) (fVar 3)) [5]) fNil))) (fOp gIx (fVar 4) (fC (.int 0))) [4])))
theorem d__law_marked {M : Me} {k : Nat} (T : Txt M) (F__law_inside_of : List PyData → Option PyData) (C__law_inside_of : Callee M k "_law_inside_of" ["_law_pairs_here", "_law_mark"] (spD M 2 F__law_inside_of)) (f : Addr) : ∃ t, ∀ (cdv : Value) (A : Around) (outer : List Env) (s : Shared) (H : Hp) (E : XK), DSs M k (cxD M N__law_marked "_law_marked" s__law_marked f cdv A outer s H E) (defBody s__law_marked) t (fb__law_marked F__law_inside_of) := by
  exact ⟨_, fun cdv A outer s H E =>
    (dss_cons (ds_set 3 (de_call C__law_inside_of (da_cons (de_var 1) (da_cons (de_var 2) da_nil)))) (dss_one (ds_ret (de_lc (ok := by kernel_rfl) [("_law_page", 4)] (di_seq (de_var 0)) (fun _ _ _ _ _ => (dg_name 4)) (fun _ _ _ _ _ => (dts_one (dt_val (de_cb c_any T.n_any (da_cons (de_lc (ok := by kernel_rfl) [("_law_one", 5)] (di_seq (de_ix i_seq (de_var 4) de_int)) (fun _ _ _ _ _ => (dg_name 5)) (fun _ _ _ _ _ => dts_nil) (fun _ _ _ _ _ => (de_cmp o_in (de_var 5) (de_var 3)))) da_nil))))) (fun _ _ _ _ _ => (de_ix i_seq (de_var 4) de_int))))))⟩
/-! ### _law_labels -/
abbrev N__law_labels : List PySem.Str := ["_law_folders_here", "_law_pages_here", "_law_pairs_here", "_law_found", "_law_marks", "_law_path", "_law_page", "_law_mark", "_law_inner", "_law_outer"]
abbrev p__law_labels : List PySem.Str := ["_law_folders_here", "_law_pages_here", "_law_pairs_here"]
theorem sc__law_labels : FnScope N__law_labels p__law_labels (defScope s__law_labels) := ⟨rfl, rfl, rfl, by decide +kernel, rfl, by decide +kernel, by decide +kernel⟩
def fb__law_labels (F__law_marked : List PyData → Option PyData) : F Fl :=
    (fSeq (fParO 3 4 (fOLst fNil) fONewS)
    (fSeq (fFor (fItems (fOp gCatT (fTup (fCons (fTup fNil) fNil)) (fVar 0))) (gN 5) (fApp 3 (fTup (fCons (fTup (fCons (fC (.str "folder")) (fCons (fVar 5) fNil))) (fCons (fLc (fItems (fVar 1)) (gN 6) (fB (fOp (gIn true) (fVar 5) (fOp gIx (fVar 6) (fC (.int 3))))) (fOp gIx (fVar 6) (fC (.int 0))) [6]) fNil)))))
    (fSeq (fFor (fItems (fVar 1)) (gN 6) (fUpd 4 (fCB gDictP (fCons (fLc (fItems (fOp gIx (fVar 6) (fC (.int 2)))) (gN 7) fYes (fTup (fCons (fVar 7) (fCons (fC (.bool true)) fNil))) [7]) fNil))))
    (fSeq (fFor (fItems (fVar 2)) (gT (gsC (gN 8) (gsC (gN 9) gsN))) (fUpd 4 (fFz (fDisp2 (fPair (fVar 8) (fC (.bool true))) (fPair (fVar 9) (fC (.bool true)))))))
    (fSeq (fFor (fItems (fCB gSorted (fCons (fVar 4) fNil))) (gN 7) (fApp 3 (fTup (fCons (fTup (fCons (fC (.str "mark")) (fCons (fVar 7) fNil))) (fCons (fCall F__law_marked (fCons (fVar 1) (fCons (fVar 2) (fCons (fVar 7) fNil)))) fNil)))))
    (fRetO 3))))))
theorem d__law_labels {M : Me} {k : Nat} (T : Txt M) (F__law_marked : List PyData → Option PyData) (C__law_marked : Callee M k "_law_marked" ["_law_pages_here", "_law_pairs_here", "_law_mark"] (spD M 3 F__law_marked)) (f : Addr) : ∃ t, ∀ (cdv : Value) (A : Around) (outer : List Env) (s : Shared) (H : Hp) (E : XK), DSs M k (cxD M N__law_labels "_law_labels" s__law_labels f cdv A outer s H E) (defBody s__law_labels) t (fb__law_labels F__law_marked) := by
  exact ⟨_, fun cdv A outer s H E =>
    (dss_cons (ds_parO 3 4 (do_lst da_nil) do_newS) (dss_cons (ds_for (di_seq (de_op o_catT (de_tup (da_cons (de_tup da_nil) da_nil)) (de_var 0))) (dg_name 5) (dss_one (ds_append 3 (de_tup (da_cons (de_tup (da_cons de_str (da_cons (de_var 5) da_nil))) (da_cons (de_lc (ok := by kernel_rfl) [("_law_page", 6)] (di_seq (de_var 1)) (fun _ _ _ _ _ => (dg_name 6)) (fun _ _ _ _ _ => (dts_one (dt_cmp o_in (de_var 5) (de_ix i_seq (de_var 6) de_int)))) (fun _ _ _ _ _ => (de_ix i_seq (de_var 6) de_int))) da_nil)))))) (dss_cons (ds_for (di_seq (de_var 1)) (dg_name 6) (dss_one (ds_update 4 (de_ct c_dictP T.n_dict (da_cons (de_lc (ok := by kernel_rfl) [("_law_mark", 7)] (di_seq (de_ix i_seq (de_var 6) de_int)) (fun _ _ _ _ _ => (dg_name 7)) (fun _ _ _ _ _ => dts_nil) (fun _ _ _ _ _ => (de_tup (da_cons (de_var 7) (da_cons de_bl da_nil))))) da_nil))))) (dss_cons (ds_for (di_seq (de_var 2)) (dg_tup (dgs_cons (dg_name 8) (dgs_cons (dg_name 9) dgs_nil))) (dss_one (ds_update 4 (de_fz (do_disp2 (de_var 8) de_bl (de_var 9) de_bl))))) (dss_cons (ds_for (di_seq (de_cb c_sorted T.n_sorted (da_cons (de_var 4) da_nil))) (dg_name 7) (dss_one (ds_append 3 (de_tup (da_cons (de_tup (da_cons de_str (da_cons (de_var 7) da_nil))) (da_cons (de_call C__law_marked (da_cons (de_var 1) (da_cons (de_var 2) (da_cons (de_var 7) da_nil)))) da_nil)))))) (dss_one (ds_retO 3)))))))⟩
end DL

set_option maxRecDepth 100000
set_option linter.all false
set_option maxHeartbeats 4000000
namespace DL
open PySem L2 PyProof.Rows
/-! ### _law_between -/
abbrev N__law_between : List PySem.Str := ["_law_labels_here", "_law_one", "_law_other", "_law_label", "_law_forms"]
abbrev p__law_between : List PySem.Str := ["_law_labels_here", "_law_one", "_law_other"]
theorem sc__law_between : FnScope N__law_between p__law_between (defScope s__law_between) := ⟨rfl, rfl, rfl, by decide +kernel, rfl, by decide +kernel, by decide +kernel⟩
def fb__law_between : F Fl :=
    (fRet (fLc (fItems (fVar 0)) (gT (gsC (gN 3) (gsC (gN 4) gsN))) (fB (fOp (gEq false) (fOp (gIn true) (fVar 1) (fVar 4)) (fOp (gIn true) (fVar 2) (fVar 4)))) (fVar 3) [3, 4]))
theorem d__law_between {M : Me} {k : Nat} (T : Txt M) (f : Addr) : ∃ t, ∀ (cdv : Value) (A : Around) (outer : List Env) (s : Shared) (H : Hp) (E : XK), DSs M k (cxD M N__law_between "_law_between" s__law_between f cdv A outer s H E) (defBody s__law_between) t (fb__law_between) := by
  exact ⟨_, fun cdv A outer s H E =>
    (dss_one (ds_ret (de_lc (ok := by kernel_rfl) [("_law_label", 3), ("_law_forms", 4)] (di_seq (de_var 0)) (fun _ _ _ _ _ => (dg_tup (dgs_cons (dg_name 3) (dgs_cons (dg_name 4) dgs_nil)))) (fun _ _ _ _ _ => (dts_one (dt_cmp o_ne (de_cmp o_in (de_var 1) (de_var 4)) (de_cmp o_in (de_var 2) (de_var 4))))) (fun _ _ _ _ _ => (de_var 3)))))⟩
/-! ### _law_betweens -/
abbrev N__law_betweens : List PySem.Str := ["_law_labels_here", "_law_pages_here", "_law_found", "_law_at", "_law_page", "_law_other", "_law_between_here"]
abbrev p__law_betweens : List PySem.Str := ["_law_labels_here", "_law_pages_here"]
theorem sc__law_betweens : FnScope N__law_betweens p__law_betweens (defScope s__law_betweens) := ⟨rfl, rfl, rfl, by decide +kernel, rfl, by decide +kernel, by decide +kernel⟩
def fb__law_betweens (F__law_between : List PyData → Option PyData) : F Fl :=
    (fSeq (fOwn 2 (fOLst fNil))
    (fSeq (fFor (fEnum (fCons (fVar 1) fNil)) (gT (gsC (gN 3) (gsC (gN 4) gsN))) (fExt 2 (fLc (fItems (fSl (fVar 1) (fPs (fOp gAdd (fVar 3) (fC (.int 1)))) fPn)) (gN 5) fYes (fCall F__law_between (fCons (fVar 0) (fCons (fOp gIx (fVar 4) (fC (.int 0))) (fCons (fOp gIx (fVar 5) (fC (.int 0))) fNil)))) [5])))
    (fFrz 2 (fRet (fLc (fItems (fVar 2)) (gN 6) (fB (fOp (gEq false) (fVar 6) (fLst fNil))) (fVar 6) [6])))))
theorem d__law_betweens {M : Me} {k : Nat} (T : Txt M) (F__law_between : List PyData → Option PyData) (C__law_between : Callee M k "_law_between" ["_law_labels_here", "_law_one", "_law_other"] (spD M 3 F__law_between)) (f : Addr) : ∃ t, ∀ (cdv : Value) (A : Around) (outer : List Env) (s : Shared) (H : Hp) (E : XK), DSs M k (cxD M N__law_betweens "_law_betweens" s__law_betweens f cdv A outer s H E) (defBody s__law_betweens) t (fb__law_betweens F__law_between) := by
  exact ⟨_, fun cdv A outer s H E =>
    (dss_cons (ds_own 2 (do_lst da_nil)) (dss_cons (ds_for (di_enum T.n_enumerate (da_cons (de_var 1) da_nil)) (dg_tup (dgs_cons (dg_name 3) (dgs_cons (dg_name 4) dgs_nil))) (dss_one (ds_extend 2 (de_lc (ok := by kernel_rfl) [("_law_other", 5)] (di_seq (de_slice (de_var 1) (dp_some (de_op o_add (de_var 3) de_int)) dp_none)) (fun _ _ _ _ _ => (dg_name 5)) (fun _ _ _ _ _ => dts_nil) (fun _ _ _ _ _ => (de_call C__law_between (da_cons (de_var 0) (da_cons (de_ix i_seq (de_var 4) de_int) (da_cons (de_ix i_seq (de_var 5) de_int) da_nil))))))))) (dss_frz 2 (dss_one (ds_ret (de_lc (ok := by kernel_rfl) [("_law_between_here", 6)] (di_seq (de_var 2)) (fun _ _ _ _ _ => (dg_name 6)) (fun _ _ _ _ _ => (dts_one (dt_cmp o_ne (de_var 6) (de_lst da_nil)))) (fun _ _ _ _ _ => (de_var 6))))))))⟩
/-! ### _law_tell_all -/
abbrev N__law_tell_all : List PySem.Str := ["_law_betweens_here", "_law_some_here", "_law_label", "_law_between_here"]
abbrev p__law_tell_all : List PySem.Str := ["_law_betweens_here", "_law_some_here"]
theorem sc__law_tell_all : FnScope N__law_tell_all p__law_tell_all (defScope s__law_tell_all) := ⟨rfl, rfl, rfl, by decide +kernel, rfl, by decide +kernel, by decide +kernel⟩
def fb__law_tell_all : F Fl :=
    (fRet (fCB gAll (fCons (fLc (fItems (fVar 0)) (gN 3) fYes (fCB gAny (fCons (fLc (fItems (fVar 3)) (gN 2) fYes (fOp (gIn true) (fVar 2) (fVar 1)) [2]) fNil)) [3]) fNil)))
theorem d__law_tell_all {M : Me} {k : Nat} (T : Txt M) (f : Addr) : ∃ t, ∀ (cdv : Value) (A : Around) (outer : List Env) (s : Shared) (H : Hp) (E : XK), DSs M k (cxD M N__law_tell_all "_law_tell_all" s__law_tell_all f cdv A outer s H E) (defBody s__law_tell_all) t (fb__law_tell_all) := by
  exact ⟨_, fun cdv A outer s H E =>
    (dss_one (ds_ret (de_cb c_all T.n_all (da_cons (de_lc (ok := by kernel_rfl) [("_law_between_here", 3)] (di_seq (de_var 0)) (fun _ _ _ _ _ => (dg_name 3)) (fun _ _ _ _ _ => dts_nil) (fun _ _ _ _ _ => (de_cb c_any T.n_any (da_cons (de_lc (ok := by kernel_rfl) [("_law_label", 2)] (di_seq (de_var 3)) (fun _ _ _ _ _ => (dg_name 2)) (fun _ _ _ _ _ => dts_nil) (fun _ _ _ _ _ => (de_cmp o_in (de_var 2) (de_var 1)))) da_nil)))) da_nil))))⟩
/-! ### _law_set -/
abbrev N__law_set : List PySem.Str := ["_law_pot_here", "_law_words_here", "_law_marks", "_law_folders_here", "_law_pairs_here", "_law_pages_here"]
abbrev p__law_set : List PySem.Str := ["_law_pot_here"]
theorem sc__law_set : FnScope N__law_set p__law_set (defScope s__law_set) := ⟨rfl, rfl, rfl, by decide +kernel, rfl, by decide +kernel, by decide +kernel⟩
def fb__law_set (F__law_folders : List PyData → Int → Int → Option (PyData × Int × Int)) (F__law_pages : List PyData → Int → Int → Option (PyData × Int × Int)) (F__law_pairs : List PyData → Int → Int → Option (PyData × Int × Int)) (F__law_take : List PyData → Int → Int → Option (PyData × Int × Int)) (F__law_words : List PyData → Int → Int → Option (PyData × Int × Int)) : F Fl :=
    (fSeq (fPar 1 2 (fCons (fCallP F__law_words (fCons (fVar 0) (fCons (fC (.int 8)) fNil))) (fCons (fCallP F__law_words (fCons (fVar 0) (fCons (fC (.int 4)) fNil))) fNil)))
    (fSeq (fSet 3 (fCallP F__law_folders (fCons (fVar 0) (fCons (fVar 1) (fCons (fCallP F__law_take (fCons (fVar 0) (fCons (fC (.int 5)) fNil))) fNil)))))
    (fSeq (fSet 2 (fSl (fVar 2) fPn (fPs (fCB gMin2 (fCons (fC (.int 4)) (fCons (fOp gSub_ (fC (.int 6)) (fCB gLen (fCons (fVar 3) fNil))) fNil))))))
    (fSeq (fSet 4 (fIfE (fB (fOp gGt (fCB gLen (fCons (fVar 2) fNil)) (fC (.int 1)))) (fCallP F__law_pairs (fCons (fVar 0) (fCons (fVar 2) (fCons (fC (.int 3)) fNil)))) (fTup fNil)))
    (fSeq (fSet 5 (fCallP F__law_pages (fCons (fVar 0) (fCons (fVar 1) (fCons (fVar 2) (fCons (fVar 3) (fCons (fOp gIx (fLst (fCons (fC (.int 4)) (fCons (fC (.int 8)) (fCons (fC (.int 16)) fNil)))) (fCallP F__law_take (fCons (fVar 0) (fCons (fC (.int 3)) fNil)))) fNil)))))))
    (fRet (fTup (fCons (fVar 3) (fCons (fVar 5) (fCons (fVar 4) fNil))))))))))
theorem d__law_set {M : Me} {k : Nat} (T : Txt M) (F__law_folders : List PyData → Int → Int → Option (PyData × Int × Int)) (F__law_pages : List PyData → Int → Int → Option (PyData × Int × Int)) (F__law_pairs : List PyData → Int → Int → Option (PyData × Int × Int)) (F__law_take : List PyData → Int → Int → Option (PyData × Int × Int)) (F__law_words : List PyData → Int → Int → Option (PyData × Int × Int)) (C__law_folders : Callee M k "_law_folders" ["_law_pot_here", "_law_words_here", "_law_most"] (spP M 2 F__law_folders)) (C__law_pages : Callee M k "_law_pages" ["_law_pot_here", "_law_words_here", "_law_marks", "_law_folders_here", "_law_most"] (spP M 4 F__law_pages)) (C__law_pairs : Callee M k "_law_pairs" ["_law_pot_here", "_law_marks", "_law_most"] (spP M 2 F__law_pairs)) (C__law_take : Callee M k "_law_take" ["_law_pot_here", "_law_many"] (spP M 1 F__law_take)) (C__law_words : Callee M k "_law_words" ["_law_pot_here", "_law_many"] (spP M 1 F__law_words)) (f : Addr) : ∃ t, ∀ (cdv : Value) (A : Around) (outer : List Env) (s : Shared) (H : Hp) (E : XK), DSs M k (cxD M N__law_set "_law_set" s__law_set f cdv A outer s H E) (defBody s__law_set) t (fb__law_set F__law_folders F__law_pages F__law_pairs F__law_take F__law_words) := by
  exact ⟨_, fun cdv A outer s H E =>
    (dss_cons (ds_par 1 2 (da_cons (de_callP C__law_words (da_cons (de_var 0) (da_cons de_int da_nil))) (da_cons (de_callP C__law_words (da_cons (de_var 0) (da_cons de_int da_nil))) da_nil))) (dss_cons (ds_set 3 (de_callP C__law_folders (da_cons (de_var 0) (da_cons (de_var 1) (da_cons (de_callP C__law_take (da_cons (de_var 0) (da_cons de_int da_nil))) da_nil))))) (dss_cons (ds_set 2 (de_slice (de_var 2) dp_none (dp_some (de_cb c_min2 T.n_min (da_cons de_int (da_cons (de_op o_sub de_int (de_cb c_len T.n_len (da_cons (de_var 3) da_nil))) da_nil)))))) (dss_cons (ds_set 4 (de_if (dt_cmp o_gt (de_cb c_len T.n_len (da_cons (de_var 2) da_nil)) de_int) (de_callP C__law_pairs (da_cons (de_var 0) (da_cons (de_var 2) (da_cons de_int da_nil)))) (de_tup da_nil))) (dss_cons (ds_set 5 (de_callP C__law_pages (da_cons (de_var 0) (da_cons (de_var 1) (da_cons (de_var 2) (da_cons (de_var 3) (da_cons (de_ix i_seq (de_lst (da_cons de_int (da_cons de_int (da_cons de_int da_nil)))) (de_callP C__law_take (da_cons (de_var 0) (da_cons de_int da_nil)))) da_nil))))))) (dss_one (ds_ret (de_tup (da_cons (de_var 3) (da_cons (de_var 5) (da_cons (de_var 4) da_nil)))))))))))⟩
/-! ### _law_pairs_apart -/
abbrev N__law_pairs_apart : List PySem.Str := ["_law_labels_here", "_law_forms", "_law_found", "_law_at", "_law_one", "_law_other", "_law_pair"]
abbrev p__law_pairs_apart : List PySem.Str := ["_law_labels_here", "_law_forms"]
theorem sc__law_pairs_apart : FnScope N__law_pairs_apart p__law_pairs_apart (defScope s__law_pairs_apart) := ⟨rfl, rfl, rfl, by decide +kernel, rfl, by decide +kernel, by decide +kernel⟩
def fb__law_pairs_apart (F__law_between : List PyData → Option PyData) : F Fl :=
    (fSeq (fOwn 2 (fOLst fNil))
    (fSeq (fFor (fEnum (fCons (fVar 1) fNil)) (gT (gsC (gN 3) (gsC (gN 4) gsN))) (fExt 2 (fLc (fItems (fSl (fVar 1) (fPs (fOp gAdd (fVar 3) (fC (.int 1)))) fPn)) (gN 5) fYes (fTup (fCons (fVar 4) (fCons (fVar 5) (fCons (fCall F__law_between (fCons (fVar 0) (fCons (fVar 4) (fCons (fVar 5) fNil)))) fNil)))) [5])))
    (fFrz 2 (fRet (fLc (fItems (fVar 2)) (gN 6) (fB (fOp (gEq false) (fOp gIx (fVar 6) (fC (.int 2))) (fLst fNil))) (fVar 6) [6])))))
theorem d__law_pairs_apart {M : Me} {k : Nat} (T : Txt M) (F__law_between : List PyData → Option PyData) (C__law_between : Callee M k "_law_between" ["_law_labels_here", "_law_one", "_law_other"] (spD M 3 F__law_between)) (f : Addr) : ∃ t, ∀ (cdv : Value) (A : Around) (outer : List Env) (s : Shared) (H : Hp) (E : XK), DSs M k (cxD M N__law_pairs_apart "_law_pairs_apart" s__law_pairs_apart f cdv A outer s H E) (defBody s__law_pairs_apart) t (fb__law_pairs_apart F__law_between) := by
  exact ⟨_, fun cdv A outer s H E =>
    (dss_cons (ds_own 2 (do_lst da_nil)) (dss_cons (ds_for (di_enum T.n_enumerate (da_cons (de_var 1) da_nil)) (dg_tup (dgs_cons (dg_name 3) (dgs_cons (dg_name 4) dgs_nil))) (dss_one (ds_extend 2 (de_lc (ok := by kernel_rfl) [("_law_other", 5)] (di_seq (de_slice (de_var 1) (dp_some (de_op o_add (de_var 3) de_int)) dp_none)) (fun _ _ _ _ _ => (dg_name 5)) (fun _ _ _ _ _ => dts_nil) (fun _ _ _ _ _ => (de_tup (da_cons (de_var 4) (da_cons (de_var 5) (da_cons (de_call C__law_between (da_cons (de_var 0) (da_cons (de_var 4) (da_cons (de_var 5) da_nil)))) da_nil))))))))) (dss_frz 2 (dss_one (ds_ret (de_lc (ok := by kernel_rfl) [("_law_pair", 6)] (di_seq (de_var 2)) (fun _ _ _ _ _ => (dg_name 6)) (fun _ _ _ _ _ => (dts_one (dt_cmp o_ne (de_ix i_seq (de_var 6) de_int) (de_lst da_nil)))) (fun _ _ _ _ _ => (de_var 6))))))))⟩
/-! ### _law_paper -/
abbrev N__law_paper : List PySem.Str := ["_law_pot_here", "_law_two", "_law_chosen", "_law_many", "_law_some_here", "_law_pair", "_law_label", "_law_one", "_law_other", "_law_between_here"]
abbrev p__law_paper : List PySem.Str := ["_law_pot_here", "_law_two", "_law_chosen", "_law_many"]
theorem sc__law_paper : FnScope N__law_paper p__law_paper (defScope s__law_paper) := ⟨rfl, rfl, rfl, by decide +kernel, rfl, by decide +kernel, by decide +kernel⟩
def fb__law_paper (F__law_paper : List PyData → Int → Int → Option (PyData × Int × Int)) (F__law_take : List PyData → Int → Int → Option (PyData × Int × Int)) : F Fl :=
    (fSeq (fSet 4 (fLc (fItems (fVar 1)) (gN 5) (fNot (fB (fCB gAny (fCons (fLc (fItems (fOp gIx (fVar 5) (fC (.int 2)))) (gN 6) fYes (fOp (gIn true) (fVar 6) (fVar 2)) [6]) fNil)))) (fVar 5) [5]))
    (fSeq (fIf (fB (fOp (gEq true) (fVar 4) (fLst fNil))) (fRet (fC .none)) fNext)
    (fSeq (fAsg (gT (gsC (gN 7) (gsC (gN 8) (gsC (gN 9) gsN)))) (fOp gIx (fVar 4) (fCallP F__law_take (fCons (fVar 0) (fCons (fCB gLen (fCons (fVar 4) fNil)) fNil)))))
    (fSeq (fIf (fB (fOp (gEq true) (fCB gLen (fCons (fVar 2) fNil)) (fVar 3))) (fRet (fTup (fCons (fVar 7) (fCons (fVar 8) (fCons (fTup fNil) fNil))))) fNext)
    (fRet (fTup (fCons (fVar 7) (fCons (fVar 8) (fCons (fCB gTuple (fCons (fLc (fItems (fVar 9)) (gN 6) fYes (fCallP F__law_paper (fCons (fVar 0) (fCons (fVar 1) (fCons (fOp gCatL (fVar 2) (fLst (fCons (fVar 6) fNil))) (fCons (fVar 3) fNil))))) [6]) fNil)) fNil)))))))))
theorem d__law_paper {M : Me} {k : Nat} (T : Txt M) (F__law_paper : List PyData → Int → Int → Option (PyData × Int × Int)) (F__law_take : List PyData → Int → Int → Option (PyData × Int × Int)) (C__law_paper : Callee M k "_law_paper" ["_law_pot_here", "_law_two", "_law_chosen", "_law_many"] (spP M 3 F__law_paper)) (C__law_take : Callee M k "_law_take" ["_law_pot_here", "_law_many"] (spP M 1 F__law_take)) (f : Addr) : ∃ t, ∀ (cdv : Value) (A : Around) (outer : List Env) (s : Shared) (H : Hp) (E : XK), DSs M k (cxD M N__law_paper "_law_paper" s__law_paper f cdv A outer s H E) (defBody s__law_paper) t (fb__law_paper F__law_paper F__law_take) := by
  exact ⟨_, fun cdv A outer s H E =>
    (dss_cons (ds_setLc (ok := by kernel_rfl) 4 [("_law_pair", 5)] (di_seq (de_var 1)) (fun _ _ _ _ _ => (dg_name 5)) (fun _ _ _ _ _ => (dts_one (dt_not (dt_val (de_cb c_any T.n_any (da_cons (de_lc (ok := by kernel_rfl) [("_law_label", 6)] (di_seq (de_ix i_seq (de_var 5) de_int)) (fun _ _ _ _ _ => (dg_name 6)) (fun _ _ _ _ _ => dts_nil) (fun _ _ _ _ _ => (de_cmp o_in (de_var 6) (de_var 2)))) da_nil)))))) (fun _ _ _ _ _ => (de_var 5))) (dss_cons (ds_if (dt_cmp o_eq (de_var 4) (de_lst da_nil)) (dss_one (ds_ret de_non)) dss_nil) (dss_cons (ds_asg (de_ix i_seq (de_var 4) (de_callP C__law_take (da_cons (de_var 0) (da_cons (de_cb c_len T.n_len (da_cons (de_var 4) da_nil)) da_nil)))) (dg_tup (dgs_cons (dg_name 7) (dgs_cons (dg_name 8) (dgs_cons (dg_name 9) dgs_nil))))) (dss_cons (ds_if (dt_cmp o_eq (de_cb c_len T.n_len (da_cons (de_var 2) da_nil)) (de_var 3)) (dss_one (ds_ret (de_tup (da_cons (de_var 7) (da_cons (de_var 8) (da_cons (de_tup da_nil) da_nil)))))) dss_nil) (dss_one (ds_ret (de_tup (da_cons (de_var 7) (da_cons (de_var 8) (da_cons (de_ct c_tuple T.n_tuple (da_cons (de_lc (ok := by kernel_rfl) [("_law_label", 6)] (di_seq (de_var 9)) (fun _ _ _ _ _ => (dg_name 6)) (fun _ _ _ _ _ => dts_nil) (fun _ _ _ _ _ => (de_callP C__law_paper (da_cons (de_var 0) (da_cons (de_var 1) (da_cons (de_op o_catL (de_var 2) (de_lst (da_cons (de_var 6) da_nil))) (da_cons (de_var 3) da_nil))))))) da_nil)) da_nil))))))))))⟩
end DL

set_option maxRecDepth 100000
set_option linter.all false
set_option maxHeartbeats 4000000
namespace DL
open PySem L2 PyProof.Rows
/-! ### node_of -/
abbrev N_node_of : List PySem.Str := ["pairs", "chosen", "many", "one", "other", "some", "label"]
abbrev p_node_of : List PySem.Str := ["pairs", "chosen", "many"]
theorem sc_node_of : FnScope N_node_of p_node_of (defScope s_node_of) := ⟨rfl, rfl, rfl, by decide +kernel, rfl, by decide +kernel, by decide +kernel⟩
def fb_node_of (F_node_of : List PyData → Option PyData) (F_not_told_by : List PyData → Option PyData) : F Fl :=
    (fSeq (fAsg (gT (gsC (gN 3) (gsC (gN 4) (gsC (gN 5) gsN)))) (fMinL (fCall F_not_told_by (fCons (fVar 0) (fCons (fVar 1) fNil)))))
    (fSeq (fIf (fB (fOp (gEq true) (fCB gLen (fCons (fVar 1) fNil)) (fVar 2))) (fRet (fTup (fCons (fVar 3) (fCons (fVar 4) (fCons (fTup fNil) fNil))))) fNext)
    (fRet (fTup (fCons (fVar 3) (fCons (fVar 4) (fCons (fCB gTuple (fCons (fLc (fItems (fVar 5)) (gN 6) fYes (fCall F_node_of (fCons (fVar 0) (fCons (fOp gCatT (fVar 1) (fTup (fCons (fVar 6) fNil))) (fCons (fVar 2) fNil)))) [6]) fNil)) fNil)))))))
theorem d_node_of {M : Me} {k : Nat} (T : Txt M) (F_node_of : List PyData → Option PyData) (F_not_told_by : List PyData → Option PyData) (C_node_of : Callee M k "node_of" ["pairs", "chosen", "many"] (spD M 3 F_node_of)) (C_not_told_by : Callee M k "not_told_by" ["pairs", "chosen"] (spD M 2 F_not_told_by)) {c P : Addr} (TB : LamX.TabB M.base M.mg c P) (hT : (P, ("node_of.<locals>.<lambda>" : PySem.Str)) ∈ M.T) (hu : ∀ p ∈ M.T, p.1 = P → p.2 = ("node_of.<locals>.<lambda>" : PySem.Str)) (f : Addr) : ∃ t, ∀ (A : Around) (outer : List Env) (s : Shared) (H : Hp) (E : XK), DSs M k (cxD M N_node_of "node_of" s_node_of f (.ref c) A outer s H E) (defBody s_node_of) t (fb_node_of F_node_of F_not_told_by) := by
  exact ⟨_, fun A outer s H E =>
    (dss_cons (ds_asg (de_minL (x := "pair") TB rfl (by kernel_rfl) hT hu (by exact ⟨by kernel_rfl, ⟨_, _, _, _, _, _, rfl⟩, by rfl, by decide, fun _ _ _ _ _ => rfl⟩) T.n_min T.n_len (de_call C_not_told_by (da_cons (de_var 0) (da_cons (de_var 1) da_nil))) (hfree := by kernel_rfl)) (dg_tup (dgs_cons (dg_name 3) (dgs_cons (dg_name 4) (dgs_cons (dg_name 5) dgs_nil))))) (dss_cons (ds_if (dt_cmp o_eq (de_cb c_len T.n_len (da_cons (de_var 1) da_nil)) (de_var 2)) (dss_one (ds_ret (de_tup (da_cons (de_var 3) (da_cons (de_var 4) (da_cons (de_tup da_nil) da_nil)))))) dss_nil) (dss_one (ds_ret (de_tup (da_cons (de_var 3) (da_cons (de_var 4) (da_cons (de_ct c_tuple T.n_tuple (da_cons (de_lc (ok := by kernel_rfl) [("label", 6)] (di_seq (de_var 5)) (fun _ _ _ _ _ => (dg_name 6)) (fun _ _ _ _ _ => dts_nil) (fun _ _ _ _ _ => (de_call C_node_of (da_cons (de_var 0) (da_cons (de_op o_catT (de_var 1) (de_tup (da_cons (de_var 6) da_nil))) (da_cons (de_var 2) da_nil)))))) da_nil)) da_nil))))))))⟩
/-! ### _law_like_right -/
abbrev N__law_like_right : List PySem.Str := ["_law_folders_here", "_law_pages_here", "_law_pairs_here", "_law_some_here", "_law_more"]
abbrev p__law_like_right : List PySem.Str := ["_law_folders_here", "_law_pages_here", "_law_pairs_here", "_law_some_here"]
theorem sc__law_like_right : FnScope N__law_like_right p__law_like_right (defScope s__law_like_right) := ⟨rfl, rfl, rfl, by decide +kernel, rfl, by decide +kernel, by decide +kernel⟩
def fb__law_like_right (F_telling : List PyData → Option PyData) : F Fl :=
    (fSeq (fIf (fOr (fB (fOp (gEq true) (fVar 1) (fTup fNil))) (fB (fOp gGt (fCB gLen (fCons (fVar 1) fNil)) (fC (.int 15))))) (fRet (fC (.bool true))) fNext)
    (fSeq (fSet 4 (fTup (fCons (fOp gCatS (fC (.str "leaf://a.")) (fOp gMulS (fC (.str "b")) (fC (.int 70)))) (fCons (fC .none) (fCons (fOp gIx (fOp gIx (fVar 1) (fC (.int 0))) (fC (.int 2))) (fCons (fOp gIx (fOp gIx (fVar 1) (fC (.int 0))) (fC (.int 3))) fNil))))))
    (fRet (fOp (gEq true) (fOp gIx (fCall F_telling (fCons (fMake (fCons (fVar 0) (fCons (fCB gTuple (fCons (fKey0 (fOp gCatT (fVar 1) (fTup (fCons (fVar 4) fNil)))) fNil)) (fCons (fVar 2) fNil)))) fNil)) (fC (.int 0))) (fVar 3)))))
theorem d__law_like_right {M : Me} {k : Nat} (T : Txt M) (F_telling : List PyData → Option PyData) {jI : Nat} (C___init__ : CalleeI M jI) (hI : jI + 1 ≤ k) (C_telling : Callee M k "telling" ["listing"] (spD M 1 F_telling)) {c P : Addr} (TB : LamX.TabB M.base M.mg c P) (hT : (P, ("_law_like_right.<locals>.<lambda>" : PySem.Str)) ∈ M.T) (hu : ∀ p ∈ M.T, p.1 = P → p.2 = ("_law_like_right.<locals>.<lambda>" : PySem.Str)) (f : Addr) : ∃ t, ∀ (A : Around) (outer : List Env) (s : Shared) (H : Hp) (E : XK), DSs M k (cxD M N__law_like_right "_law_like_right" s__law_like_right f (.ref c) A outer s H E) (defBody s__law_like_right) t (fb__law_like_right F_telling) := by
  exact ⟨_, fun A outer s H E =>
    (dss_cons (ds_if (dw_or (dt_cmp o_eq (de_var 1) (de_tup da_nil)) (dw_or1 (dt_cmp o_gt (de_cb c_len T.n_len (da_cons (de_var 1) da_nil)) de_int))).pt (dss_one (ds_ret de_bl)) dss_nil) (dss_cons (ds_set 4 (de_tup (da_cons (de_op o_catS de_str (de_op o_mulS de_str de_int)) (da_cons de_non (da_cons (de_ix i_seq (de_ix i_seq (de_var 1) de_int) de_int) (da_cons (de_ix i_seq (de_ix i_seq (de_var 1) de_int) de_int) da_nil)))))) (dss_one (ds_ret (de_cmp o_eq (de_ix i_seq (de_call C_telling (da_cons (de_make C___init__ hI T.c_Listing (da_cons (de_var 0) (da_cons (de_ct c_tuple T.n_tuple (da_cons (de_key0 (x := "_law_page") TB rfl (by kernel_rfl) hT hu (by exact ⟨by kernel_rfl, ⟨_, _, _, _, rfl⟩, by decide, fun _ _ _ _ _ => rfl⟩) T.n_sorted (de_op o_catT (de_var 1) (de_tup (da_cons (de_var 4) da_nil))) (hfree := by kernel_rfl)) da_nil)) (da_cons (de_var 2) da_nil)))) da_nil)) de_int) (de_var 3))))))⟩
end DL

set_option maxRecDepth 100000
set_option linter.all false
set_option maxHeartbeats 4000000
namespace DL
open PySem L2 PyProof.Rows
/-! ### law -/
abbrev N_law : List PySem.Str := ["_law_script", "_law_k", "_law_pot_here", "_law_folders_here", "_law_pages_here", "_law_pairs_here", "_law_told", "_law_labels_here", "_law_some_here", "_law_paper_here", "_law_forms", "_law_betweens_here", "_law_page", "_law_two", "_law_turn", "_law_at", "_law_label", "_law_one", "_law_bearers", "_law_wider", "_law_own"]
abbrev p_law : List PySem.Str := ["_law_script"]
theorem sc_law : FnScope N_law p_law (defScope s_law) := ⟨rfl, rfl, rfl, by decide +kernel, rfl, by decide +kernel, by decide +kernel⟩
def fb_law (F__law_betweens : List PyData → Option PyData) (F__law_labels : List PyData → Option PyData) (F__law_like_right : List PyData → Option PyData) (F__law_pairs_apart : List PyData → Option PyData) (F__law_paper : List PyData → Int → Int → Option (PyData × Int × Int)) (F__law_pot : List PyData → Option PyData) (F__law_set : List PyData → Int → Int → Option (PyData × Int × Int)) (F__law_tell_all : List PyData → Option PyData) (F_shows_telling : List PyData → Option PyData) (F_telling : List PyData → Option PyData) : F Fl :=
    (fSeq (fFor (fRange (fCons (fCB gMax2 (fCons (fC (.int 1)) (fCons (fCB gMin2 (fCons (fC (.int 2)) (fCons (fCB gLenC (fCons (fVar 0) fNil)) fNil))) fNil))) fNil)) (gN 1) (fSeq (fOwn 2 (fCallO F__law_pot (fCons (fVar 0) (fCons (fVar 1) fNil))))
    (fSeq (fAsg (gT (gsC (gN 3) (gsC (gN 4) (gsC (gN 5) gsN)))) (fCallP F__law_set (fCons (fVar 2) fNil)))
    (fSeq (fPar 6 7 (fCons (fMake (fCons (fVar 3) (fCons (fVar 4) (fCons (fVar 5) fNil)))) (fCons (fCall F__law_labels (fCons (fVar 3) (fCons (fVar 4) (fCons (fVar 5) fNil)))) fNil)))
    (fSeq (fAsg (gT (gsC (gN 8) (gsC (gN 9) gsN))) (fCall F_telling (fCons (fVar 6) fNil)))
    (fSeq (fAsg (gT (gsC (gN 10) (gsC (gN 11) gsN))) (fTup (fCons (fLc (fItems (fVar 4)) (gN 12) fYes (fOp gIx (fVar 12) (fC (.int 0))) [12]) (fCons (fCall F__law_betweens (fCons (fVar 7) (fCons (fVar 4) fNil))) fNil))))
    (fSeq (fIf (fOr (fB (fOp (gIsB false) (fCall F_shows_telling (fCons (fVar 6) (fCons (fVar 8) (fCons (fVar 9) fNil)))) (fC (.bool true)))) (fNot (fB (fCall F__law_like_right (fCons (fVar 3) (fCons (fVar 4) (fCons (fVar 5) (fCons (fVar 8) fNil)))))))) (fRet (fC (.bool false))) fNext)
    (fSeq (fSet 13 (fCall F__law_pairs_apart (fCons (fVar 7) (fCons (fVar 10) fNil))))
    (fSeq (fFor (fRange (fCons (fOp gMul (fC (.int 2)) (fCB gIntB (fCons (fChain gLt gLt (fC (.int 0)) (fCB gLen (fCons (fVar 8) fNil)) (fC (.int 4))) fNil))) fNil)) (gN 14) (fIf (fB (fOp (gIsB false) (fCall F_shows_telling (fCons (fVar 6) (fCons (fVar 8) (fCons (fCallP F__law_paper (fCons (fVar 2) (fCons (fVar 13) (fCons (fLst fNil) (fCons (fOp gSub_ (fCB gLen (fCons (fVar 8) fNil)) (fC (.int 1))) fNil))))) fNil)))) (fC (.bool true)))) (fRet (fC (.bool false))) fNext))
    (fSeq (fIf (fB (fCB gAny (fCons (fLc (fRange (fCons (fCB gLen (fCons (fVar 8) fNil)) fNil)) (gN 15) fYes (fCall F__law_tell_all (fCons (fVar 11) (fCons (fOp gCatT (fSl (fVar 8) fPn (fPs (fVar 15))) (fSl (fVar 8) (fPs (fOp gAdd (fVar 15) (fC (.int 1)))) fPn)) fNil))) [15]) fNil))) (fRet (fC (.bool false))) fNext)
    (fFor (fItems (fLc (fItems (fVar 7)) (gT (gsC (gN 17) (gsC (gN 18) gsN))) (fB (fOp (gIn false) (fVar 17) (fVar 8))) (fVar 17) [17, 18])) (gN 16) (fSeq (fPar 19 20 (fCons (fCB gTuple (fCons (fCB gSorted (fCons (fOp gCatT (fVar 8) (fTup (fCons (fVar 16) fNil))) fNil)) fNil)) (fCons (fC .none) fNil)))
    (fSeq (fIf (fB (fChain gLt gLt (fC (.int 0)) (fCB gLen (fCons (fVar 8) fNil)) (fC (.int 4)))) (fSet 20 (fCallP F__law_paper (fCons (fVar 2) (fCons (fVar 13) (fCons (fLst fNil) (fCons (fCB gLen (fCons (fVar 8) fNil)) fNil)))))) fNext)
    (fIf (fOr (fB (fOp (gIsB false) (fCall F_shows_telling (fCons (fVar 6) (fCons (fVar 19) (fCons (fVar 20) fNil)))) (fC (.bool false)))) (fB (fOp (gIsB false) (fCall F_shows_telling (fCons (fVar 6) (fCons (fVar 19) (fCons (fVar 9) fNil)))) (fC (.bool false))))) (fRet (fC (.bool false))) fNext))))))))))))))
    (fRet (fC (.bool true))))
theorem d_law {M : Me} {k : Nat} (T : Txt M) (F__law_betweens : List PyData → Option PyData) (F__law_labels : List PyData → Option PyData) (F__law_like_right : List PyData → Option PyData) (F__law_pairs_apart : List PyData → Option PyData) (F__law_paper : List PyData → Int → Int → Option (PyData × Int × Int)) (F__law_pot : List PyData → Option PyData) (F__law_set : List PyData → Int → Int → Option (PyData × Int × Int)) (F__law_tell_all : List PyData → Option PyData) (F_shows_telling : List PyData → Option PyData) (F_telling : List PyData → Option PyData) {jI : Nat} (C___init__ : CalleeI M jI) (hI : jI + 1 ≤ k) (C__law_betweens : Callee M k "_law_betweens" ["_law_labels_here", "_law_pages_here"] (spD M 2 F__law_betweens)) (C__law_labels : Callee M k "_law_labels" ["_law_folders_here", "_law_pages_here", "_law_pairs_here"] (spD M 3 F__law_labels)) (C__law_like_right : Callee M k "_law_like_right" ["_law_folders_here", "_law_pages_here", "_law_pairs_here", "_law_some_here"] (spD M 4 F__law_like_right)) (C__law_pairs_apart : Callee M k "_law_pairs_apart" ["_law_labels_here", "_law_forms"] (spD M 2 F__law_pairs_apart)) (C__law_paper : Callee M k "_law_paper" ["_law_pot_here", "_law_two", "_law_chosen", "_law_many"] (spP M 3 F__law_paper)) (C__law_pot : Callee M k "_law_pot" ["_law_script", "_law_k"] (spO M 2 F__law_pot)) (C__law_set : Callee M k "_law_set" ["_law_pot_here"] (spP M 0 F__law_set)) (C__law_tell_all : Callee M k "_law_tell_all" ["_law_betweens_here", "_law_some_here"] (spD M 2 F__law_tell_all)) (C_shows_telling : Callee M k "shows_telling" ["listing", "labels", "paper"] (spD M 3 F_shows_telling)) (C_telling : Callee M k "telling" ["listing"] (spD M 1 F_telling)) (f : Addr) : ∃ t, ∀ (cdv : Value) (A : Around) (outer : List Env) (s : Shared) (H : Hp) (E : XK), DSs M k (cxD M N_law "law" s_law f cdv A outer s H E) (defBody s_law) t (fb_law F__law_betweens F__law_labels F__law_like_right F__law_pairs_apart F__law_paper F__law_pot F__law_set F__law_tell_all F_shows_telling F_telling) := by
  exact ⟨_, fun cdv A outer s H E =>
    (dss_cons (ds_for (di_range T.n_range (da_cons (de_cb c_max2 T.n_max (da_cons de_int (da_cons (de_cb c_min2 T.n_min (da_cons de_int (da_cons (de_cb c_lenC T.n_len (da_cons (de_var 0) da_nil)) da_nil))) da_nil))) da_nil)) (dg_name 1) (dss_cons (ds_own 2 (do_call C__law_pot (da_cons (de_var 0) (da_cons (de_var 1) da_nil)))) (dss_cons (ds_asg (de_callP C__law_set (da_cons (de_var 2) da_nil)) (dg_tup (dgs_cons (dg_name 3) (dgs_cons (dg_name 4) (dgs_cons (dg_name 5) dgs_nil))))) (dss_cons (ds_par 6 7 (da_cons (de_make C___init__ hI T.c_Listing (da_cons (de_var 3) (da_cons (de_var 4) (da_cons (de_var 5) da_nil)))) (da_cons (de_call C__law_labels (da_cons (de_var 3) (da_cons (de_var 4) (da_cons (de_var 5) da_nil)))) da_nil))) (dss_cons (ds_asg (de_call C_telling (da_cons (de_var 6) da_nil)) (dg_tup (dgs_cons (dg_name 8) (dgs_cons (dg_name 9) dgs_nil)))) (dss_cons (ds_asg (de_tup (da_cons (de_lc (ok := by kernel_rfl) [("_law_page", 12)] (di_seq (de_var 4)) (fun _ _ _ _ _ => (dg_name 12)) (fun _ _ _ _ _ => dts_nil) (fun _ _ _ _ _ => (de_ix i_seq (de_var 12) de_int))) (da_cons (de_call C__law_betweens (da_cons (de_var 7) (da_cons (de_var 4) da_nil))) da_nil))) (dg_tup (dgs_cons (dg_name 10) (dgs_cons (dg_name 11) dgs_nil)))) (dss_cons (ds_if (dw_or (dt_cmp o_isNotB (de_call C_shows_telling (da_cons (de_var 6) (da_cons (de_var 8) (da_cons (de_var 9) da_nil)))) de_bl) (dw_or1 (dt_not (dt_val (de_call C__law_like_right (da_cons (de_var 3) (da_cons (de_var 4) (da_cons (de_var 5) (da_cons (de_var 8) da_nil))))))))).pt (dss_one (ds_ret de_bl)) dss_nil) (dss_cons (ds_set 13 (de_call C__law_pairs_apart (da_cons (de_var 7) (da_cons (de_var 10) da_nil)))) (dss_cons (ds_for (di_range T.n_range (da_cons (de_op o_mul de_int (de_ct c_intB T.n_int (da_cons (de_chain o_lt o_lt de_int (de_cb c_len T.n_len (da_cons (de_var 8) da_nil)) de_int) da_nil))) da_nil)) (dg_name 14) (dss_one (ds_if (dt_cmp o_isNotB (de_call C_shows_telling (da_cons (de_var 6) (da_cons (de_var 8) (da_cons (de_callP C__law_paper (da_cons (de_var 2) (da_cons (de_var 13) (da_cons (de_lst da_nil) (da_cons (de_op o_sub (de_cb c_len T.n_len (da_cons (de_var 8) da_nil)) de_int) da_nil))))) da_nil)))) de_bl) (dss_one (ds_ret de_bl)) dss_nil))) (dss_cons (ds_if (dt_val (de_cb c_any T.n_any (da_cons (de_lc (ok := by kernel_rfl) [("_law_at", 15)] (di_range T.n_range (da_cons (de_cb c_len T.n_len (da_cons (de_var 8) da_nil)) da_nil)) (fun _ _ _ _ _ => (dg_name 15)) (fun _ _ _ _ _ => dts_nil) (fun _ _ _ _ _ => (de_call C__law_tell_all (da_cons (de_var 11) (da_cons (de_op o_catT (de_slice (de_var 8) dp_none (dp_some (de_var 15))) (de_slice (de_var 8) (dp_some (de_op o_add (de_var 15) de_int)) dp_none)) da_nil))))) da_nil))) (dss_one (ds_ret de_bl)) dss_nil) (dss_one (ds_for (di_seq (de_lc (ok := by kernel_rfl) [("_law_one", 17), ("_law_bearers", 18)] (di_seq (de_var 7)) (fun _ _ _ _ _ => (dg_tup (dgs_cons (dg_name 17) (dgs_cons (dg_name 18) dgs_nil)))) (fun _ _ _ _ _ => (dts_one (dt_cmp o_notIn (de_var 17) (de_var 8)))) (fun _ _ _ _ _ => (de_var 17)))) (dg_name 16) (dss_cons (ds_par 19 20 (da_cons (de_ct c_tuple T.n_tuple (da_cons (de_cb c_sorted T.n_sorted (da_cons (de_op o_catT (de_var 8) (de_tup (da_cons (de_var 16) da_nil))) da_nil)) da_nil)) (da_cons de_non da_nil))) (dss_cons (ds_if (dt_chain o_lt o_lt de_int (de_cb c_len T.n_len (da_cons (de_var 8) da_nil)) de_int) (dss_one (ds_set 20 (de_callP C__law_paper (da_cons (de_var 2) (da_cons (de_var 13) (da_cons (de_lst da_nil) (da_cons (de_cb c_len T.n_len (da_cons (de_var 8) da_nil)) da_nil))))))) dss_nil) (dss_one (ds_if (dw_or (dt_cmp o_isNotB (de_call C_shows_telling (da_cons (de_var 6) (da_cons (de_var 19) (da_cons (de_var 20) da_nil)))) de_bl) (dw_or1 (dt_cmp o_isNotB (de_call C_shows_telling (da_cons (de_var 6) (da_cons (de_var 19) (da_cons (de_var 9) da_nil)))) de_bl))).pt (dss_one (ds_ret de_bl)) dss_nil)))))))))))))))) (dss_one (ds_ret de_bl)))⟩
end DL

set_option maxRecDepth 100000
set_option linter.all false
set_option maxHeartbeats 4000000
/-! A0: what each def computes (F_x), and that it does. -/
namespace DL
open PySem L2 PyProof.Rows
/-! ### what each computes -/
def F_at : List PyData → Option PyData := runF N_at (fb_at)
def F_led_to : List PyData → Option PyData := runF N_led_to (fb_led_to 100)
def F_inside : List PyData → Option PyData := runF N_inside (fb_inside F_led_to)
def F_marked : List PyData → Option PyData := runF N_marked (fb_marked F_inside)
def F_marks : List PyData → Option PyData := runF N_marks (fb_marks)
def F_labels_of : List PyData → Option PyData := runF N_labels_of (fb_labels_of F_at F_marked F_marks)
def F_tells_apart : List PyData → Option PyData := runF N_tells_apart (fb_tells_apart)
def F_pairs_apart : List PyData → Option PyData := runF N_pairs_apart (fb_pairs_apart F_tells_apart)
def F_not_told_by : List PyData → Option PyData := runF N_not_told_by (fb_not_told_by)
def R_some_of : Nat → List PyData → Option PyData
  | 0 => fun _ => none
  | n + 1 => runF N_some_of (fb_some_of (R_some_of n))
def F_some_of : List PyData → Option PyData := R_some_of 10
def F_fewest_of : List PyData → Option PyData := runF N_fewest_of (fb_fewest_of F_not_told_by F_some_of)
def R_node_of : Nat → List PyData → Option PyData
  | 0 => fun _ => none
  | n + 1 => runF N_node_of (fb_node_of (R_node_of n) F_not_told_by)
def F_node_of : List PyData → Option PyData := R_node_of 10
def F___len__ : List PyData → Option PyData := runF N___len__ (fb___len__)
def F_telling : List PyData → Option PyData := runF N_telling (fb_telling F___len__ F_fewest_of F_labels_of F_node_of F_pairs_apart)
def F_is_label : List PyData → Option PyData := runF N_is_label (fb_is_label)
def F_labels_between : List PyData → Option PyData := runF N_labels_between (fb_labels_between F_tells_apart)
def F_tell_all : List PyData → Option PyData := runF N_tell_all (fb_tell_all F_labels_between)
def F_is_form_there : List PyData → Option PyData := runF N_is_form_there (fb_is_form_there)
def R_shows_node : Nat → List PyData → Option PyData
  | 0 => fun _ => none
  | n + 1 => runF N_shows_node (fb_shows_node F_is_form_there F_labels_between (R_shows_node n))
def F_shows_node : List PyData → Option PyData := R_shows_node 10
def F_shows_telling : List PyData → Option PyData := runF N_shows_telling (fb_shows_telling F_is_label F_labels_of F_shows_node F_tell_all)
def F__law_pot : List PyData → Option PyData := runO N__law_pot (fb__law_pot)
def F__law_take : List PyData → Int → Int → Option (PyData × Int × Int) := runP N__law_take (fb__law_take)
def F__law_words : List PyData → Int → Int → Option (PyData × Int × Int) := runP N__law_words (fb__law_words F__law_take)
def F__law_some : List PyData → Int → Int → Option (PyData × Int × Int) := runP N__law_some (fb__law_some F__law_take)
def F__law_form : List PyData → Int → Int → Option (PyData × Int × Int) := runP N__law_form (fb__law_form F__law_take)
def F__law_title : List PyData → Int → Int → Option (PyData × Int × Int) := runP N__law_title (fb__law_title F__law_take)
def F__law_folders : List PyData → Int → Int → Option (PyData × Int × Int) := runP N__law_folders (fb__law_folders F__law_take)
def F__law_pairs : List PyData → Int → Int → Option (PyData × Int × Int) := runP N__law_pairs (fb__law_pairs F__law_take)
def F__law_someT : List PyData → Int → Int → Option (PyData × Int × Int) := runP N__law_someT (fb__law_someT F__law_take)
def F__law_pages : List PyData → Int → Int → Option (PyData × Int × Int) := runP N__law_pages (fb__law_pages F__law_form F__law_some F__law_someT F__law_take F__law_title)
def F__law_inside_of : List PyData → Option PyData := runF N__law_inside_of (fb__law_inside_of)
def F__law_marked : List PyData → Option PyData := runF N__law_marked (fb__law_marked F__law_inside_of)
def F__law_labels : List PyData → Option PyData := runF N__law_labels (fb__law_labels F__law_marked)
def F__law_between : List PyData → Option PyData := runF N__law_between (fb__law_between)
def F__law_betweens : List PyData → Option PyData := runF N__law_betweens (fb__law_betweens F__law_between)
def F__law_tell_all : List PyData → Option PyData := runF N__law_tell_all (fb__law_tell_all)
def F__law_set : List PyData → Int → Int → Option (PyData × Int × Int) := runP N__law_set (fb__law_set F__law_folders F__law_pages F__law_pairs F__law_take F__law_words)
def F__law_pairs_apart : List PyData → Option PyData := runF N__law_pairs_apart (fb__law_pairs_apart F__law_between)
def R__law_paper : Nat → List PyData → Int → Int → Option (PyData × Int × Int)
  | 0 => fun _ _ _ => none
  | n + 1 => runP N__law_paper (fb__law_paper (R__law_paper n) F__law_take)
def F__law_paper : List PyData → Int → Int → Option (PyData × Int × Int) := R__law_paper 10
def F__law_like_right : List PyData → Option PyData := runF N__law_like_right (fb__law_like_right F_telling)
def F_law : List PyData → Option PyData := runF N_law (fb_law F__law_betweens F__law_labels F__law_like_right F__law_pairs_apart F__law_paper F__law_pot F__law_set F__law_tell_all F_shows_telling F_telling)
/-! ### the module -/
structure Here (M : Me) (x qual : PySem.Str) (st : Stmt) : Prop where
  ex : ∃ f fd, Fun M.K x qual st f fd ∧ M.mg x = some (.ref f)
structure HereM (M : Me) (x qual : PySem.Str) (st : Stmt) : Prop where
  ex : ∃ f fd, Fun M.K x qual st f fd ∧ Meth M.K M.LC x f
structure HereC (M : Me) (x qual lam : PySem.Str) (st : Stmt) : Prop where
  ex : ∃ f fd c P, FunC M.K x qual st f fd c ∧ M.mg x = some (.ref f) ∧ LamX.TabB M.base M.mg c P ∧ (P, lam) ∈ M.T ∧ ∀ p ∈ M.T, p.1 = P → p.2 = lam
structure HereI (M : Me) (qual : PySem.Str) (st : Stmt) : Prop where
  ex : ∃ f fd, Fun M.K "__init__" qual st f fd ∧ Mk M.K M.LC f
structure Mod (M : Me) : Prop extends Txt M where
  h_at : HereM M "at" "Listing.at" s_at
  h_led_to : Here M "led_to" "led_to" s_led_to
  h_inside : Here M "inside" "inside" s_inside
  h_marked : HereM M "marked" "Listing.marked" s_marked
  h_marks : HereM M "marks" "Listing.marks" s_marks
  h_labels_of : Here M "labels_of" "labels_of" s_labels_of
  h_tells_apart : Here M "tells_apart" "tells_apart" s_tells_apart
  h_pairs_apart : Here M "pairs_apart" "pairs_apart" s_pairs_apart
  h_not_told_by : Here M "not_told_by" "not_told_by" s_not_told_by
  h_some_of : Here M "some_of" "some_of" s_some_of
  h_fewest_of : Here M "fewest_of" "fewest_of" s_fewest_of
  h_node_of : HereC M "node_of" "node_of" "node_of.<locals>.<lambda>" s_node_of
  h___len__ : HereM M "__len__" "Listing.__len__" s___len__
  h_telling : Here M "telling" "telling" s_telling
  h_is_label : Here M "is_label" "is_label" s_is_label
  h_labels_between : Here M "labels_between" "labels_between" s_labels_between
  h_tell_all : Here M "tell_all" "tell_all" s_tell_all
  h_is_form_there : Here M "is_form_there" "is_form_there" s_is_form_there
  h_shows_node : Here M "shows_node" "shows_node" s_shows_node
  h_shows_telling : Here M "shows_telling" "shows_telling" s_shows_telling
  h__law_pot : Here M "_law_pot" "_law_pot" s__law_pot
  h__law_take : Here M "_law_take" "_law_take" s__law_take
  h__law_words : Here M "_law_words" "_law_words" s__law_words
  h__law_some : Here M "_law_some" "_law_some" s__law_some
  h__law_form : Here M "_law_form" "_law_form" s__law_form
  h__law_title : Here M "_law_title" "_law_title" s__law_title
  h__law_folders : Here M "_law_folders" "_law_folders" s__law_folders
  h__law_pairs : Here M "_law_pairs" "_law_pairs" s__law_pairs
  h__law_pages : Here M "_law_pages" "_law_pages" s__law_pages
  h__law_inside_of : Here M "_law_inside_of" "_law_inside_of" s__law_inside_of
  h__law_marked : Here M "_law_marked" "_law_marked" s__law_marked
  h__law_labels : Here M "_law_labels" "_law_labels" s__law_labels
  h__law_between : Here M "_law_between" "_law_between" s__law_between
  h__law_betweens : Here M "_law_betweens" "_law_betweens" s__law_betweens
  h__law_tell_all : Here M "_law_tell_all" "_law_tell_all" s__law_tell_all
  h__law_set : Here M "_law_set" "_law_set" s__law_set
  h__law_pairs_apart : Here M "_law_pairs_apart" "_law_pairs_apart" s__law_pairs_apart
  h__law_paper : Here M "_law_paper" "_law_paper" s__law_paper
  h__law_like_right : HereC M "_law_like_right" "_law_like_right" "_law_like_right.<locals>.<lambda>" s__law_like_right
  h_law : Here M "law" "law" s_law
  h___init__ : HereI M "Listing.__init__" s___init__
/-! ### that it does -/
theorem fnok_D {M : Me} {k n : Nat} {f : Addr} {fd : FuncData} {ps : List PySem.Str} (h : n = ps.length) : FnOk M.P M.w M.K M.mg M.base CX0 k f fd ps (spD M n fun _ => none) :=
  ⟨fun vs H Q E h' => by obtain ⟨_, _, _, h1, _⟩ := h'; rw [h1, h], fun A outer s H args us vs Q E _ _ _ _ h' => by obtain ⟨_, _, _, _, _, _, h1, _⟩ := h'; cases h1⟩
theorem fnok_P {M : Me} {k n : Nat} {f : Addr} {fd : FuncData} {ps : List PySem.Str} (h : n + 1 = ps.length) : FnOk M.P M.w M.K M.mg M.base CX0 k f fd ps (spP M n fun _ _ _ => none) :=
  ⟨fun vs H Q E h' => by obtain ⟨_, _, _, _, _, _, _, rfl, h1, _⟩ := h'; rw [List.length_cons, h1, h], fun A outer s H args us vs Q E _ _ _ _ h' => by obtain ⟨_, _, _, _, _, _, _, _, _, _, _, _, _, h1, _⟩ := h'; cases h1⟩
theorem no_meth {x : PySem.Str} {f p r : V} (h1 : (x == ("folders" : PySem.Str)) = false) (h2 : (x == ("pages" : PySem.Str)) = false) (h3 : (x == ("pairs" : PySem.Str)) = false) : (lisF f p r).lookup x = none := by
  unfold lisF
  simp only [List.lookup, h1, h2, h3]
section
variable {M : Me}
theorem sc___init__ : FnScope ["self", "folders", "pages", "pairs"] ["self", "folders", "pages", "pairs"] (defScope s___init__) := ⟨rfl, rfl, rfl, by decide +kernel, rfl, by decide +kernel, by decide +kernel⟩
theorem k___init__ (m : Mod M) : CalleeI M 1 := by
  obtain ⟨f, fd, F, mk⟩ := m.h___init__.ex
  exact ⟨f, fd, fn_I F sc___init__ m.cls m.na_folders m.na_pages m.na_pairs rfl (by decide +kernel), mk, F.binds (fun _ _ _ _ _ _ us hl => match us, hl with | [_, _, _, _], _ => rfl)⟩
theorem k_at (m : Mod M) : CalleeM M 1 "at" p_at (spD M 2 F_at) := by
  obtain ⟨f, fd, F, hm⟩ := m.h_at.ex
  obtain ⟨t, h⟩ := d_at (k := 0) m.toTxt f
  exact ⟨⟨f, fd, fn_D F sc_at h, hm, F.binds (fun _ _ _ _ _ _ us hl => match us, hl with | [_, _], _ => rfl)⟩, fun _ _ _ => no_meth (by decide +kernel) (by decide +kernel) (by decide +kernel), m.cls⟩
theorem k_led_to (m : Mod M) : Callee M 1 "led_to" p_led_to (spD M 2 F_led_to) := by
  obtain ⟨f, fd, F, hm⟩ := m.h_led_to.ex
  obtain ⟨t, h⟩ := d_led_to (k := 0) m.toTxt 100 f
  exact ⟨f, fd, fn_D F sc_led_to h, hm, F.kp, F.binds (fun _ _ _ _ _ _ us hl => match us, hl with | [_, _], _ => rfl)⟩
theorem k_inside (m : Mod M) : Callee M 2 "inside" p_inside (spD M 2 F_inside) := by
  obtain ⟨f, fd, F, hm⟩ := m.h_inside.ex
  obtain ⟨t, h⟩ := d_inside (k := 1) m.toTxt F_led_to ((k_led_to m).mono (by decide)) f
  exact ⟨f, fd, fn_D F sc_inside h, hm, F.kp, F.binds (fun _ _ _ _ _ _ us hl => match us, hl with | [_, _], _ => rfl)⟩
theorem k_marked (m : Mod M) : CalleeM M 3 "marked" p_marked (spD M 2 F_marked) := by
  obtain ⟨f, fd, F, hm⟩ := m.h_marked.ex
  obtain ⟨t, h⟩ := d_marked (k := 2) m.toTxt F_inside ((k_inside m).mono (by decide)) f
  exact ⟨⟨f, fd, fn_D F sc_marked h, hm, F.binds (fun _ _ _ _ _ _ us hl => match us, hl with | [_, _], _ => rfl)⟩, fun _ _ _ => no_meth (by decide +kernel) (by decide +kernel) (by decide +kernel), m.cls⟩
theorem k_marks (m : Mod M) : CalleeM M 1 "marks" p_marks (spD M 1 F_marks) := by
  obtain ⟨f, fd, F, hm⟩ := m.h_marks.ex
  obtain ⟨t, h⟩ := d_marks (k := 0) m.toTxt f
  exact ⟨⟨f, fd, fn_D F sc_marks h, hm, F.binds (fun _ _ _ _ _ _ us hl => match us, hl with | [_], _ => rfl)⟩, fun _ _ _ => no_meth (by decide +kernel) (by decide +kernel) (by decide +kernel), m.cls⟩
theorem k_labels_of (m : Mod M) : Callee M 4 "labels_of" p_labels_of (spD M 1 F_labels_of) := by
  obtain ⟨f, fd, F, hm⟩ := m.h_labels_of.ex
  obtain ⟨t, h⟩ := d_labels_of (k := 3) m.toTxt F_at F_marked F_marks ((k_at m).mono (by decide)) ((k_marked m).mono (by decide)) ((k_marks m).mono (by decide)) f
  exact ⟨f, fd, fn_D F sc_labels_of h, hm, F.kp, F.binds (fun _ _ _ _ _ _ us hl => match us, hl with | [_], _ => rfl)⟩
theorem k_tells_apart (m : Mod M) : Callee M 1 "tells_apart" p_tells_apart (spD M 3 F_tells_apart) := by
  obtain ⟨f, fd, F, hm⟩ := m.h_tells_apart.ex
  obtain ⟨t, h⟩ := d_tells_apart (k := 0) m.toTxt f
  exact ⟨f, fd, fn_D F sc_tells_apart h, hm, F.kp, F.binds (fun _ _ _ _ _ _ us hl => match us, hl with | [_, _, _], _ => rfl)⟩
theorem k_pairs_apart (m : Mod M) : Callee M 2 "pairs_apart" p_pairs_apart (spD M 2 F_pairs_apart) := by
  obtain ⟨f, fd, F, hm⟩ := m.h_pairs_apart.ex
  obtain ⟨t, h⟩ := d_pairs_apart (k := 1) m.toTxt F_tells_apart ((k_tells_apart m).mono (by decide)) f
  exact ⟨f, fd, fn_D F sc_pairs_apart h, hm, F.kp, F.binds (fun _ _ _ _ _ _ us hl => match us, hl with | [_, _], _ => rfl)⟩
theorem k_not_told_by (m : Mod M) : Callee M 1 "not_told_by" p_not_told_by (spD M 2 F_not_told_by) := by
  obtain ⟨f, fd, F, hm⟩ := m.h_not_told_by.ex
  obtain ⟨t, h⟩ := d_not_told_by (k := 0) m.toTxt f
  exact ⟨f, fd, fn_D F sc_not_told_by h, hm, F.kp, F.binds (fun _ _ _ _ _ _ us hl => match us, hl with | [_, _], _ => rfl)⟩
theorem kr_some_of (m : Mod M) : ∀ n, Callee M (0 + n) "some_of" p_some_of (spD M 2 (R_some_of n)) := by
  intro n
  obtain ⟨f, fd, F, hm⟩ := m.h_some_of.ex
  induction n with
  | zero => exact ⟨f, fd, fnok_D rfl, hm, F.kp, F.binds (fun _ _ _ _ _ _ us hl => match us, hl with | [_, _], _ => rfl)⟩
  | succ n ih =>
    obtain ⟨t, h⟩ := d_some_of (k := 0 + n) m.toTxt (R_some_of n) ih f
    exact ⟨f, fd, fn_D F sc_some_of h, hm, F.kp, F.binds (fun _ _ _ _ _ _ us hl => match us, hl with | [_, _], _ => rfl)⟩
theorem k_some_of (m : Mod M) : Callee M 10 "some_of" p_some_of (spD M 2 F_some_of) := kr_some_of m 10
theorem k_fewest_of (m : Mod M) : Callee M 11 "fewest_of" p_fewest_of (spD M 2 F_fewest_of) := by
  obtain ⟨f, fd, F, hm⟩ := m.h_fewest_of.ex
  obtain ⟨t, h⟩ := d_fewest_of (k := 10) m.toTxt F_not_told_by F_some_of ((k_not_told_by m).mono (by decide)) ((k_some_of m).mono (by decide)) f
  exact ⟨f, fd, fn_D F sc_fewest_of h, hm, F.kp, F.binds (fun _ _ _ _ _ _ us hl => match us, hl with | [_, _], _ => rfl)⟩
theorem kr_node_of (m : Mod M) : ∀ n, Callee M (1 + n) "node_of" p_node_of (spD M 3 (R_node_of n)) := by
  intro n
  obtain ⟨f, fd, c, P, F, hm, TB, hT, hu⟩ := m.h_node_of.ex
  induction n with
  | zero => exact ⟨f, fd, fnok_D rfl, hm, F.kp, F.fun.binds (fun _ _ _ _ _ _ us hl => match us, hl with | [_, _, _], _ => rfl)⟩
  | succ n ih =>
    obtain ⟨t, h⟩ := d_node_of (k := 1 + n) m.toTxt (R_node_of n) F_not_told_by ih ((k_not_told_by m).mono (by omega)) TB hT hu f
    exact ⟨f, fd, fn_DC F sc_node_of h, hm, F.kp, F.fun.binds (fun _ _ _ _ _ _ us hl => match us, hl with | [_, _, _], _ => rfl)⟩
theorem k_node_of (m : Mod M) : Callee M 11 "node_of" p_node_of (spD M 3 F_node_of) := kr_node_of m 10
theorem k___len__ (m : Mod M) : CalleeM M 1 "__len__" p___len__ (spD M 1 F___len__) := by
  obtain ⟨f, fd, F, hm⟩ := m.h___len__.ex
  obtain ⟨t, h⟩ := d___len__ (k := 0) m.toTxt f
  exact ⟨⟨f, fd, fn_D F sc___len__ h, hm, F.binds (fun _ _ _ _ _ _ us hl => match us, hl with | [_], _ => rfl)⟩, fun _ _ _ => no_meth (by decide +kernel) (by decide +kernel) (by decide +kernel), m.cls⟩
theorem k_telling (m : Mod M) : Callee M 12 "telling" p_telling (spD M 1 F_telling) := by
  obtain ⟨f, fd, F, hm⟩ := m.h_telling.ex
  obtain ⟨t, h⟩ := d_telling (k := 11) m.toTxt F___len__ F_fewest_of F_labels_of F_node_of F_pairs_apart (k___len__ m) (by decide) ((k_fewest_of m).mono (by decide)) ((k_labels_of m).mono (by decide)) ((k_node_of m).mono (by decide)) ((k_pairs_apart m).mono (by decide)) f
  exact ⟨f, fd, fn_D F sc_telling h, hm, F.kp, F.binds (fun _ _ _ _ _ _ us hl => match us, hl with | [_], _ => rfl)⟩
theorem k_is_label (m : Mod M) : Callee M 1 "is_label" p_is_label (spD M 2 F_is_label) := by
  obtain ⟨f, fd, F, hm⟩ := m.h_is_label.ex
  obtain ⟨t, h⟩ := d_is_label (k := 0) m.toTxt f
  exact ⟨f, fd, fn_D F sc_is_label h, hm, F.kp, F.binds (fun _ _ _ _ _ _ us hl => match us, hl with | [_, _], _ => rfl)⟩
theorem k_labels_between (m : Mod M) : Callee M 2 "labels_between" p_labels_between (spD M 3 F_labels_between) := by
  obtain ⟨f, fd, F, hm⟩ := m.h_labels_between.ex
  obtain ⟨t, h⟩ := d_labels_between (k := 1) m.toTxt F_tells_apart ((k_tells_apart m).mono (by decide)) f
  exact ⟨f, fd, fn_D F sc_labels_between h, hm, F.kp, F.binds (fun _ _ _ _ _ _ us hl => match us, hl with | [_, _, _], _ => rfl)⟩
theorem k_tell_all (m : Mod M) : Callee M 3 "tell_all" p_tell_all (spD M 3 F_tell_all) := by
  obtain ⟨f, fd, F, hm⟩ := m.h_tell_all.ex
  obtain ⟨t, h⟩ := d_tell_all (k := 2) m.toTxt F_labels_between ((k_labels_between m).mono (by decide)) f
  exact ⟨f, fd, fn_D F sc_tell_all h, hm, F.kp, F.binds (fun _ _ _ _ _ _ us hl => match us, hl with | [_, _, _], _ => rfl)⟩
theorem k_is_form_there (m : Mod M) : Callee M 1 "is_form_there" p_is_form_there (spD M 2 F_is_form_there) := by
  obtain ⟨f, fd, F, hm⟩ := m.h_is_form_there.ex
  obtain ⟨t, h⟩ := d_is_form_there (k := 0) m.toTxt f
  exact ⟨f, fd, fn_D F sc_is_form_there h, hm, F.kp, F.binds (fun _ _ _ _ _ _ us hl => match us, hl with | [_, _], _ => rfl)⟩
theorem kr_shows_node (m : Mod M) : ∀ n, Callee M (2 + n) "shows_node" p_shows_node (spD M 5 (R_shows_node n)) := by
  intro n
  obtain ⟨f, fd, F, hm⟩ := m.h_shows_node.ex
  induction n with
  | zero => exact ⟨f, fd, fnok_D rfl, hm, F.kp, F.binds (fun _ _ _ _ _ _ us hl => match us, hl with | [_, _, _, _, _], _ => rfl)⟩
  | succ n ih =>
    obtain ⟨t, h⟩ := d_shows_node (k := 2 + n) m.toTxt F_is_form_there F_labels_between (R_shows_node n) ((k_is_form_there m).mono (by omega)) ((k_labels_between m).mono (by omega)) ih f
    exact ⟨f, fd, fn_D F sc_shows_node h, hm, F.kp, F.binds (fun _ _ _ _ _ _ us hl => match us, hl with | [_, _, _, _, _], _ => rfl)⟩
theorem k_shows_node (m : Mod M) : Callee M 12 "shows_node" p_shows_node (spD M 5 F_shows_node) := kr_shows_node m 10
theorem k_shows_telling (m : Mod M) : Callee M 13 "shows_telling" p_shows_telling (spD M 3 F_shows_telling) := by
  obtain ⟨f, fd, F, hm⟩ := m.h_shows_telling.ex
  obtain ⟨t, h⟩ := d_shows_telling (k := 12) m.toTxt F_is_label F_labels_of F_shows_node F_tell_all ((k_is_label m).mono (by decide)) ((k_labels_of m).mono (by decide)) ((k_shows_node m).mono (by decide)) ((k_tell_all m).mono (by decide)) f
  exact ⟨f, fd, fn_D F sc_shows_telling h, hm, F.kp, F.binds (fun _ _ _ _ _ _ us hl => match us, hl with | [_, _, _], _ => rfl)⟩
theorem k__law_pot (m : Mod M) : Callee M 1 "_law_pot" p__law_pot (spO M 2 F__law_pot) := by
  obtain ⟨f, fd, F, hm⟩ := m.h__law_pot.ex
  obtain ⟨t, h⟩ := d__law_pot (k := 0) m.toTxt f
  exact ⟨f, fd, fn_O F sc__law_pot h, hm, F.kp, F.binds (fun _ _ _ _ _ _ us hl => match us, hl with | [_, _], _ => rfl)⟩
theorem k__law_take (m : Mod M) : Callee M 1 "_law_take" p__law_take (spP M 1 F__law_take) := by
  obtain ⟨f, fd, F, hm⟩ := m.h__law_take.ex
  obtain ⟨t, h⟩ := d__law_take (k := 0) m.toTxt f
  exact ⟨f, fd, fn_P F sc__law_take rfl (by decide) h, hm, F.kp, F.binds (fun _ _ _ _ _ _ us hl => match us, hl with | [_, _], _ => rfl)⟩
theorem k__law_words (m : Mod M) : Callee M 2 "_law_words" p__law_words (spP M 1 F__law_words) := by
  obtain ⟨f, fd, F, hm⟩ := m.h__law_words.ex
  obtain ⟨t, h⟩ := d__law_words (k := 1) m.toTxt F__law_take ((k__law_take m).mono (by decide)) f
  exact ⟨f, fd, fn_P F sc__law_words rfl (by decide) h, hm, F.kp, F.binds (fun _ _ _ _ _ _ us hl => match us, hl with | [_, _], _ => rfl)⟩
theorem k__law_some (m : Mod M) : Callee M 2 "_law_some" p__law_some (spP M 2 F__law_some) := by
  obtain ⟨f, fd, F, hm⟩ := m.h__law_some.ex
  obtain ⟨t, h⟩ := d__law_some (k := 1) m.toTxt F__law_take ((k__law_take m).mono (by decide)) f
  exact ⟨f, fd, fn_P F sc__law_some rfl (by decide) h, hm, F.kp, F.binds (fun _ _ _ _ _ _ us hl => match us, hl with | [_, _, _], _ => rfl)⟩
theorem k__law_form (m : Mod M) : Callee M 2 "_law_form" p__law_form (spP M 1 F__law_form) := by
  obtain ⟨f, fd, F, hm⟩ := m.h__law_form.ex
  obtain ⟨t, h⟩ := d__law_form (k := 1) m.toTxt F__law_take ((k__law_take m).mono (by decide)) f
  exact ⟨f, fd, fn_P F sc__law_form rfl (by decide) h, hm, F.kp, F.binds (fun _ _ _ _ _ _ us hl => match us, hl with | [_, _], _ => rfl)⟩
theorem k__law_title (m : Mod M) : Callee M 2 "_law_title" p__law_title (spP M 1 F__law_title) := by
  obtain ⟨f, fd, F, hm⟩ := m.h__law_title.ex
  obtain ⟨t, h⟩ := d__law_title (k := 1) m.toTxt F__law_take ((k__law_take m).mono (by decide)) f
  exact ⟨f, fd, fn_P F sc__law_title rfl (by decide) h, hm, F.kp, F.binds (fun _ _ _ _ _ _ us hl => match us, hl with | [_, _], _ => rfl)⟩
theorem k__law_folders (m : Mod M) : Callee M 2 "_law_folders" p__law_folders (spP M 2 F__law_folders) := by
  obtain ⟨f, fd, F, hm⟩ := m.h__law_folders.ex
  obtain ⟨t, h⟩ := d__law_folders (k := 1) m.toTxt F__law_take ((k__law_take m).mono (by decide)) f
  exact ⟨f, fd, fn_P F sc__law_folders rfl (by decide) h, hm, F.kp, F.binds (fun _ _ _ _ _ _ us hl => match us, hl with | [_, _, _], _ => rfl)⟩
theorem k__law_pairs (m : Mod M) : Callee M 2 "_law_pairs" p__law_pairs (spP M 2 F__law_pairs) := by
  obtain ⟨f, fd, F, hm⟩ := m.h__law_pairs.ex
  obtain ⟨t, h⟩ := d__law_pairs (k := 1) m.toTxt F__law_take ((k__law_take m).mono (by decide)) f
  exact ⟨f, fd, fn_P F sc__law_pairs rfl (by decide) h, hm, F.kp, F.binds (fun _ _ _ _ _ _ us hl => match us, hl with | [_, _, _], _ => rfl)⟩
theorem k__law_someT (m : Mod M) : Callee M 2 "_law_some" p__law_someT (spP M 2 F__law_someT) := by
  obtain ⟨f, fd, F, hm⟩ := m.h__law_some.ex
  obtain ⟨t, h⟩ := d__law_someT (k := 1) m.toTxt F__law_take ((k__law_take m).mono (by decide)) f
  exact ⟨f, fd, fn_P F sc__law_some rfl (by decide) h, hm, F.kp, F.binds (fun _ _ _ _ _ _ us hl => match us, hl with | [_, _, _], _ => rfl)⟩
theorem k__law_pages (m : Mod M) : Callee M 3 "_law_pages" p__law_pages (spP M 4 F__law_pages) := by
  obtain ⟨f, fd, F, hm⟩ := m.h__law_pages.ex
  obtain ⟨t, h⟩ := d__law_pages (k := 2) m.toTxt F__law_form F__law_some F__law_someT F__law_take F__law_title ((k__law_form m).mono (by decide)) ((k__law_some m).mono (by decide)) ((k__law_someT m).mono (by decide)) ((k__law_take m).mono (by decide)) ((k__law_title m).mono (by decide)) f
  exact ⟨f, fd, fn_P F sc__law_pages rfl (by decide) h, hm, F.kp, F.binds (fun _ _ _ _ _ _ us hl => match us, hl with | [_, _, _, _, _], _ => rfl)⟩
theorem k__law_inside_of (m : Mod M) : Callee M 1 "_law_inside_of" p__law_inside_of (spD M 2 F__law_inside_of) := by
  obtain ⟨f, fd, F, hm⟩ := m.h__law_inside_of.ex
  obtain ⟨t, h⟩ := d__law_inside_of (k := 0) m.toTxt f
  exact ⟨f, fd, fn_D F sc__law_inside_of h, hm, F.kp, F.binds (fun _ _ _ _ _ _ us hl => match us, hl with | [_, _], _ => rfl)⟩
theorem k__law_marked (m : Mod M) : Callee M 2 "_law_marked" p__law_marked (spD M 3 F__law_marked) := by
  obtain ⟨f, fd, F, hm⟩ := m.h__law_marked.ex
  obtain ⟨t, h⟩ := d__law_marked (k := 1) m.toTxt F__law_inside_of ((k__law_inside_of m).mono (by decide)) f
  exact ⟨f, fd, fn_D F sc__law_marked h, hm, F.kp, F.binds (fun _ _ _ _ _ _ us hl => match us, hl with | [_, _, _], _ => rfl)⟩
theorem k__law_labels (m : Mod M) : Callee M 3 "_law_labels" p__law_labels (spD M 3 F__law_labels) := by
  obtain ⟨f, fd, F, hm⟩ := m.h__law_labels.ex
  obtain ⟨t, h⟩ := d__law_labels (k := 2) m.toTxt F__law_marked ((k__law_marked m).mono (by decide)) f
  exact ⟨f, fd, fn_D F sc__law_labels h, hm, F.kp, F.binds (fun _ _ _ _ _ _ us hl => match us, hl with | [_, _, _], _ => rfl)⟩
theorem k__law_between (m : Mod M) : Callee M 1 "_law_between" p__law_between (spD M 3 F__law_between) := by
  obtain ⟨f, fd, F, hm⟩ := m.h__law_between.ex
  obtain ⟨t, h⟩ := d__law_between (k := 0) m.toTxt f
  exact ⟨f, fd, fn_D F sc__law_between h, hm, F.kp, F.binds (fun _ _ _ _ _ _ us hl => match us, hl with | [_, _, _], _ => rfl)⟩
theorem k__law_betweens (m : Mod M) : Callee M 2 "_law_betweens" p__law_betweens (spD M 2 F__law_betweens) := by
  obtain ⟨f, fd, F, hm⟩ := m.h__law_betweens.ex
  obtain ⟨t, h⟩ := d__law_betweens (k := 1) m.toTxt F__law_between ((k__law_between m).mono (by decide)) f
  exact ⟨f, fd, fn_D F sc__law_betweens h, hm, F.kp, F.binds (fun _ _ _ _ _ _ us hl => match us, hl with | [_, _], _ => rfl)⟩
theorem k__law_tell_all (m : Mod M) : Callee M 1 "_law_tell_all" p__law_tell_all (spD M 2 F__law_tell_all) := by
  obtain ⟨f, fd, F, hm⟩ := m.h__law_tell_all.ex
  obtain ⟨t, h⟩ := d__law_tell_all (k := 0) m.toTxt f
  exact ⟨f, fd, fn_D F sc__law_tell_all h, hm, F.kp, F.binds (fun _ _ _ _ _ _ us hl => match us, hl with | [_, _], _ => rfl)⟩
theorem k__law_set (m : Mod M) : Callee M 4 "_law_set" p__law_set (spP M 0 F__law_set) := by
  obtain ⟨f, fd, F, hm⟩ := m.h__law_set.ex
  obtain ⟨t, h⟩ := d__law_set (k := 3) m.toTxt F__law_folders F__law_pages F__law_pairs F__law_take F__law_words ((k__law_folders m).mono (by decide)) ((k__law_pages m).mono (by decide)) ((k__law_pairs m).mono (by decide)) ((k__law_take m).mono (by decide)) ((k__law_words m).mono (by decide)) f
  exact ⟨f, fd, fn_P F sc__law_set rfl (by decide) h, hm, F.kp, F.binds (fun _ _ _ _ _ _ us hl => match us, hl with | [_], _ => rfl)⟩
theorem k__law_pairs_apart (m : Mod M) : Callee M 2 "_law_pairs_apart" p__law_pairs_apart (spD M 2 F__law_pairs_apart) := by
  obtain ⟨f, fd, F, hm⟩ := m.h__law_pairs_apart.ex
  obtain ⟨t, h⟩ := d__law_pairs_apart (k := 1) m.toTxt F__law_between ((k__law_between m).mono (by decide)) f
  exact ⟨f, fd, fn_D F sc__law_pairs_apart h, hm, F.kp, F.binds (fun _ _ _ _ _ _ us hl => match us, hl with | [_, _], _ => rfl)⟩
theorem kr__law_paper (m : Mod M) : ∀ n, Callee M (1 + n) "_law_paper" p__law_paper (spP M 3 (R__law_paper n)) := by
  intro n
  obtain ⟨f, fd, F, hm⟩ := m.h__law_paper.ex
  induction n with
  | zero => exact ⟨f, fd, fnok_P rfl, hm, F.kp, F.binds (fun _ _ _ _ _ _ us hl => match us, hl with | [_, _, _, _], _ => rfl)⟩
  | succ n ih =>
    obtain ⟨t, h⟩ := d__law_paper (k := 1 + n) m.toTxt (R__law_paper n) F__law_take ih ((k__law_take m).mono (by omega)) f
    exact ⟨f, fd, fn_P F sc__law_paper rfl (by decide) h, hm, F.kp, F.binds (fun _ _ _ _ _ _ us hl => match us, hl with | [_, _, _, _], _ => rfl)⟩
theorem k__law_paper (m : Mod M) : Callee M 11 "_law_paper" p__law_paper (spP M 3 F__law_paper) := kr__law_paper m 10
theorem k__law_like_right (m : Mod M) : Callee M 13 "_law_like_right" p__law_like_right (spD M 4 F__law_like_right) := by
  obtain ⟨f, fd, c, P, F, hm, TB, hT, hu⟩ := m.h__law_like_right.ex
  obtain ⟨t, h⟩ := d__law_like_right (k := 12) m.toTxt F_telling (k___init__ m) (by decide) ((k_telling m).mono (by decide)) TB hT hu f
  exact ⟨f, fd, fn_DC F sc__law_like_right h, hm, F.kp, F.fun.binds (fun _ _ _ _ _ _ us hl => match us, hl with | [_, _, _, _], _ => rfl)⟩
theorem k_law (m : Mod M) : Callee M 14 "law" p_law (spD M 1 F_law) := by
  obtain ⟨f, fd, F, hm⟩ := m.h_law.ex
  obtain ⟨t, h⟩ := d_law (k := 13) m.toTxt F__law_betweens F__law_labels F__law_like_right F__law_pairs_apart F__law_paper F__law_pot F__law_set F__law_tell_all F_shows_telling F_telling (k___init__ m) (by decide) ((k__law_betweens m).mono (by decide)) ((k__law_labels m).mono (by decide)) ((k__law_like_right m).mono (by decide)) ((k__law_pairs_apart m).mono (by decide)) ((k__law_paper m).mono (by decide)) ((k__law_pot m).mono (by decide)) ((k__law_set m).mono (by decide)) ((k__law_tell_all m).mono (by decide)) ((k_shows_telling m).mono (by decide)) ((k_telling m).mono (by decide)) f
  exact ⟨f, fd, fn_D F sc_law h, hm, F.kp, F.binds (fun _ _ _ _ _ _ us hl => match us, hl with | [_], _ => rfl)⟩
theorem ok_law (m : Mod M) {f : Addr} {fd : FuncData} (F : Fun M.K "law" "law" s_law f fd) : FnOk M.P M.w M.K M.mg M.base CX0 14 f fd p_law (spD M 1 F_law) := by
  obtain ⟨t, h⟩ := d_law (k := 13) m.toTxt F__law_betweens F__law_labels F__law_like_right F__law_pairs_apart F__law_paper F__law_pot F__law_set F__law_tell_all F_shows_telling F_telling (k___init__ m) (by decide) ((k__law_betweens m).mono (by decide)) ((k__law_labels m).mono (by decide)) ((k__law_like_right m).mono (by decide)) ((k__law_pairs_apart m).mono (by decide)) ((k__law_paper m).mono (by decide)) ((k__law_pot m).mono (by decide)) ((k__law_set m).mono (by decide)) ((k__law_tell_all m).mono (by decide)) ((k_shows_telling m).mono (by decide)) ((k_telling m).mono (by decide)) f
  exact fn_D F sc_law h
end
end DL

section
open PySem PySem.W PyProof.Rows
set_option maxRecDepth 100000 in
set_option maxHeartbeats 0 in
open_top head for PySem.Challenge.rw_keptpages_k77_whole_told_apart
end

set_option maxRecDepth 100000
set_option linter.all false
set_option maxHeartbeats 4000000
/-! E0: the module's facts, the law's row. -/
namespace DL
open PySem L2 PyProof.Rows
/-- the law's promise, without the base -/
def spLaw (K : PySem.W.Frag) (P1 P2 : Addr) : Sp := fun vs H Q _ => ∃ (a : Addr) (ns : List Int), vs = [.ref a] ∧ H P1 = some (.tbl #[]) ∧ H P2 = some (.tbl #[]) ∧ SqL K H a (ns.map V.int) ∧ F_law [scr ns] = some (.bool true) ∧ ∀ H', Q (.bl true) H'
theorem sp_law {M : Me} {P1 P2 : Addr} (hT : M.T = ([(P1, "node_of.<locals>.<lambda>"), (P2, "_law_like_right.<locals>.<lambda>")] : List (Addr × PySem.Str))) (vs : List V) (H : Hp) (Q : VK) (E : XK) (h : spLaw M.K P1 P2 vs H Q E) : spD M 1 F_law vs H Q E := by
  obtain ⟨a, ns, rfl, h1, h2, h3, h4, h5⟩ := h
  have tabs : Tbs M H := by
    intro p hp
    rw [hT] at hp
    have : H p.1 = some (.tbl #[]) := by
      rcases List.mem_cons.mp hp with e | hp
      · rw [e]; exact h1
      · rcases List.mem_cons.mp hp with e | hp
        · rw [e]; exact h2
        · cases hp
    exact ⟨#[], this, trivial, fun p' cv z => by simp [codeAmong] at z⟩
  rcases h3 with h3 | h3
  · have key : ∃ o, H a = some o ∧ (∀ ps, o ≠ .tbl ps) ∧ ∀ Z : Hp, Z a = some o → SqL M.K Z a (ns.map V.int) := by
      rcases h3 with e | ⟨o, e⟩
      · exact ⟨_, e, (fun _ z => by cases z), fun Z hz => .inl (.inl hz)⟩
      · exact ⟨_, e, (fun _ z => by cases z), fun Z hz => .inl (.inr ⟨o, hz⟩)⟩
    obtain ⟨o, e, nt, sq⟩ := key
    refine ⟨fun b => if b = a then some o else none, [scr ns], _, rfl, ⟨fun b u hb => ?_, fun b ps hb => ?_, tabs⟩, .cons (.sc (sq _ (if_pos rfl))) .nil, h4, fun v Z' H' _ _ q => ?_⟩
    · split at hb
      · rename_i z; cases hb; rw [z]; exact e
      · cases hb
    · split at hb
      · cases hb; exact nt _ rfl
      · cases hb
    · rw [(q.plain fun _ z => by cases z).bl_inv]; exact h5 _
  · refine ⟨fun _ => none, [scr ns], _, rfl, ⟨(fun b u hb => by cases hb), (fun b ps hb => by cases hb), tabs⟩, .cons (.sc (.inr h3)) .nil, h4, fun v Z' H' _ _ q => ?_⟩
    rw [(q.plain fun _ z => by cases z).bl_inv]; exact h5 _
theorem all_mk (law_true : ∀ ns : List Int, ns.length ≤ 63 → (∀ z ∈ ns, Builtin.Int.intBits z ≤ 1048576) → F_law [scr ns] = some (.bool true))
  {l : PySem.W.OpenLaw} {w : World} {K : PySem.W.Frag} {h : Heap} {mg : PySem.Str → Option Value} {fa c1 P1 c2 P2 f0 f1 f2 f3 f4 f5 f6 f7 f8 f9 f10 f11 f12 f13 f14 f15 f16 f17 f18 f19 f20 f21 f22 f23 f24 f25 f26 f27 f28 f29 f30 f31 f32 f33 f34 f35 f36 f37 f38 f39 fI C : Addr} (X : K.In h) (G : h.Ns mainGlobals mg) (hfa : mg "law" = some (.ref fa))
    (aC : PySem.W.nsIn K mainGlobals "Listing" = some (some (.ref C)))
    {od0 an0 : Option Addr} {sl0 : Array (Option Value)} {oc0 kV0 dc0 pm0 cd0 ct0 : Value} (a0 : PySem.W.findIn K (.ref C) "at" = some (some (.ref f0))) (i0 : PySem.W.isFn K (.ref f0) = true) (l0 : K.lookup f0 = some ⟨oc0, od0, .func (PySem.W.fnOf "at" "Listing.at" (defArgs s_at) (defBody s_at) (defScope s_at) .none kV0 dc0 pm0 an0 cd0 ct0), sl0⟩) (q0 : PySem.W.codeIn K cd0 "Listing.at" = true) (k0 : PySem.W.keepIn K (.ref f0) = true)
    {od1 an1 : Option Addr} {sl1 : Array (Option Value)} {oc1 kV1 dc1 pm1 cd1 ct1 : Value} (a1 : PySem.W.nsIn K mainGlobals "led_to" = some (some (.ref f1))) (l1 : K.lookup f1 = some ⟨oc1, od1, .func (PySem.W.fnOf "led_to" "led_to" (defArgs s_led_to) (defBody s_led_to) (defScope s_led_to) .none kV1 dc1 pm1 an1 cd1 ct1), sl1⟩) (q1 : PySem.W.codeIn K cd1 "led_to" = true) (k1 : PySem.W.keepIn K (.ref f1) = true)
    {od2 an2 : Option Addr} {sl2 : Array (Option Value)} {oc2 kV2 dc2 pm2 cd2 ct2 : Value} (a2 : PySem.W.nsIn K mainGlobals "inside" = some (some (.ref f2))) (l2 : K.lookup f2 = some ⟨oc2, od2, .func (PySem.W.fnOf "inside" "inside" (defArgs s_inside) (defBody s_inside) (defScope s_inside) .none kV2 dc2 pm2 an2 cd2 ct2), sl2⟩) (q2 : PySem.W.codeIn K cd2 "inside" = true) (k2 : PySem.W.keepIn K (.ref f2) = true)
    {od3 an3 : Option Addr} {sl3 : Array (Option Value)} {oc3 kV3 dc3 pm3 cd3 ct3 : Value} (a3 : PySem.W.findIn K (.ref C) "marked" = some (some (.ref f3))) (i3 : PySem.W.isFn K (.ref f3) = true) (l3 : K.lookup f3 = some ⟨oc3, od3, .func (PySem.W.fnOf "marked" "Listing.marked" (defArgs s_marked) (defBody s_marked) (defScope s_marked) .none kV3 dc3 pm3 an3 cd3 ct3), sl3⟩) (q3 : PySem.W.codeIn K cd3 "Listing.marked" = true) (k3 : PySem.W.keepIn K (.ref f3) = true)
    {od4 an4 : Option Addr} {sl4 : Array (Option Value)} {oc4 kV4 dc4 pm4 cd4 ct4 : Value} (a4 : PySem.W.findIn K (.ref C) "marks" = some (some (.ref f4))) (i4 : PySem.W.isFn K (.ref f4) = true) (l4 : K.lookup f4 = some ⟨oc4, od4, .func (PySem.W.fnOf "marks" "Listing.marks" (defArgs s_marks) (defBody s_marks) (defScope s_marks) .none kV4 dc4 pm4 an4 cd4 ct4), sl4⟩) (q4 : PySem.W.codeIn K cd4 "Listing.marks" = true) (k4 : PySem.W.keepIn K (.ref f4) = true)
    {od5 an5 : Option Addr} {sl5 : Array (Option Value)} {oc5 kV5 dc5 pm5 cd5 ct5 : Value} (a5 : PySem.W.nsIn K mainGlobals "labels_of" = some (some (.ref f5))) (l5 : K.lookup f5 = some ⟨oc5, od5, .func (PySem.W.fnOf "labels_of" "labels_of" (defArgs s_labels_of) (defBody s_labels_of) (defScope s_labels_of) .none kV5 dc5 pm5 an5 cd5 ct5), sl5⟩) (q5 : PySem.W.codeIn K cd5 "labels_of" = true) (k5 : PySem.W.keepIn K (.ref f5) = true)
    {od6 an6 : Option Addr} {sl6 : Array (Option Value)} {oc6 kV6 dc6 pm6 cd6 ct6 : Value} (a6 : PySem.W.nsIn K mainGlobals "tells_apart" = some (some (.ref f6))) (l6 : K.lookup f6 = some ⟨oc6, od6, .func (PySem.W.fnOf "tells_apart" "tells_apart" (defArgs s_tells_apart) (defBody s_tells_apart) (defScope s_tells_apart) .none kV6 dc6 pm6 an6 cd6 ct6), sl6⟩) (q6 : PySem.W.codeIn K cd6 "tells_apart" = true) (k6 : PySem.W.keepIn K (.ref f6) = true)
    {od7 an7 : Option Addr} {sl7 : Array (Option Value)} {oc7 kV7 dc7 pm7 cd7 ct7 : Value} (a7 : PySem.W.nsIn K mainGlobals "pairs_apart" = some (some (.ref f7))) (l7 : K.lookup f7 = some ⟨oc7, od7, .func (PySem.W.fnOf "pairs_apart" "pairs_apart" (defArgs s_pairs_apart) (defBody s_pairs_apart) (defScope s_pairs_apart) .none kV7 dc7 pm7 an7 cd7 ct7), sl7⟩) (q7 : PySem.W.codeIn K cd7 "pairs_apart" = true) (k7 : PySem.W.keepIn K (.ref f7) = true)
    {od8 an8 : Option Addr} {sl8 : Array (Option Value)} {oc8 kV8 dc8 pm8 cd8 ct8 : Value} (a8 : PySem.W.nsIn K mainGlobals "not_told_by" = some (some (.ref f8))) (l8 : K.lookup f8 = some ⟨oc8, od8, .func (PySem.W.fnOf "not_told_by" "not_told_by" (defArgs s_not_told_by) (defBody s_not_told_by) (defScope s_not_told_by) .none kV8 dc8 pm8 an8 cd8 ct8), sl8⟩) (q8 : PySem.W.codeIn K cd8 "not_told_by" = true) (k8 : PySem.W.keepIn K (.ref f8) = true)
    {od9 an9 : Option Addr} {sl9 : Array (Option Value)} {oc9 kV9 dc9 pm9 cd9 ct9 : Value} (a9 : PySem.W.nsIn K mainGlobals "some_of" = some (some (.ref f9))) (l9 : K.lookup f9 = some ⟨oc9, od9, .func (PySem.W.fnOf "some_of" "some_of" (defArgs s_some_of) (defBody s_some_of) (defScope s_some_of) .none kV9 dc9 pm9 an9 cd9 ct9), sl9⟩) (q9 : PySem.W.codeIn K cd9 "some_of" = true) (k9 : PySem.W.keepIn K (.ref f9) = true)
    {od10 an10 : Option Addr} {sl10 : Array (Option Value)} {oc10 kV10 dc10 pm10 cd10 ct10 : Value} (a10 : PySem.W.nsIn K mainGlobals "fewest_of" = some (some (.ref f10))) (l10 : K.lookup f10 = some ⟨oc10, od10, .func (PySem.W.fnOf "fewest_of" "fewest_of" (defArgs s_fewest_of) (defBody s_fewest_of) (defScope s_fewest_of) .none kV10 dc10 pm10 an10 cd10 ct10), sl10⟩) (q10 : PySem.W.codeIn K cd10 "fewest_of" = true) (k10 : PySem.W.keepIn K (.ref f10) = true)
    {od11 an11 : Option Addr} {sl11 : Array (Option Value)} {oc11 kV11 dc11 pm11 ct11 : Value} (a11 : PySem.W.nsIn K mainGlobals "node_of" = some (some (.ref f11))) (l11 : K.lookup f11 = some ⟨oc11, od11, .func (PySem.W.fnOf "node_of" "node_of" (defArgs s_node_of) (defBody s_node_of) (defScope s_node_of) .none kV11 dc11 pm11 an11 (.ref c1) ct11), sl11⟩) (q11 : PySem.W.codeIn K (.ref c1) "node_of" = true) (k11 : PySem.W.keepIn K (.ref f11) = true)
    {od12 an12 : Option Addr} {sl12 : Array (Option Value)} {oc12 kV12 dc12 pm12 cd12 ct12 : Value} (a12 : PySem.W.findIn K (.ref C) "__len__" = some (some (.ref f12))) (i12 : PySem.W.isFn K (.ref f12) = true) (l12 : K.lookup f12 = some ⟨oc12, od12, .func (PySem.W.fnOf "__len__" "Listing.__len__" (defArgs s___len__) (defBody s___len__) (defScope s___len__) .none kV12 dc12 pm12 an12 cd12 ct12), sl12⟩) (q12 : PySem.W.codeIn K cd12 "Listing.__len__" = true) (k12 : PySem.W.keepIn K (.ref f12) = true)
    {od13 an13 : Option Addr} {sl13 : Array (Option Value)} {oc13 kV13 dc13 pm13 cd13 ct13 : Value} (a13 : PySem.W.nsIn K mainGlobals "telling" = some (some (.ref f13))) (l13 : K.lookup f13 = some ⟨oc13, od13, .func (PySem.W.fnOf "telling" "telling" (defArgs s_telling) (defBody s_telling) (defScope s_telling) .none kV13 dc13 pm13 an13 cd13 ct13), sl13⟩) (q13 : PySem.W.codeIn K cd13 "telling" = true) (k13 : PySem.W.keepIn K (.ref f13) = true)
    {od14 an14 : Option Addr} {sl14 : Array (Option Value)} {oc14 kV14 dc14 pm14 cd14 ct14 : Value} (a14 : PySem.W.nsIn K mainGlobals "is_label" = some (some (.ref f14))) (l14 : K.lookup f14 = some ⟨oc14, od14, .func (PySem.W.fnOf "is_label" "is_label" (defArgs s_is_label) (defBody s_is_label) (defScope s_is_label) .none kV14 dc14 pm14 an14 cd14 ct14), sl14⟩) (q14 : PySem.W.codeIn K cd14 "is_label" = true) (k14 : PySem.W.keepIn K (.ref f14) = true)
    {od15 an15 : Option Addr} {sl15 : Array (Option Value)} {oc15 kV15 dc15 pm15 cd15 ct15 : Value} (a15 : PySem.W.nsIn K mainGlobals "labels_between" = some (some (.ref f15))) (l15 : K.lookup f15 = some ⟨oc15, od15, .func (PySem.W.fnOf "labels_between" "labels_between" (defArgs s_labels_between) (defBody s_labels_between) (defScope s_labels_between) .none kV15 dc15 pm15 an15 cd15 ct15), sl15⟩) (q15 : PySem.W.codeIn K cd15 "labels_between" = true) (k15 : PySem.W.keepIn K (.ref f15) = true)
    {od16 an16 : Option Addr} {sl16 : Array (Option Value)} {oc16 kV16 dc16 pm16 cd16 ct16 : Value} (a16 : PySem.W.nsIn K mainGlobals "tell_all" = some (some (.ref f16))) (l16 : K.lookup f16 = some ⟨oc16, od16, .func (PySem.W.fnOf "tell_all" "tell_all" (defArgs s_tell_all) (defBody s_tell_all) (defScope s_tell_all) .none kV16 dc16 pm16 an16 cd16 ct16), sl16⟩) (q16 : PySem.W.codeIn K cd16 "tell_all" = true) (k16 : PySem.W.keepIn K (.ref f16) = true)
    {od17 an17 : Option Addr} {sl17 : Array (Option Value)} {oc17 kV17 dc17 pm17 cd17 ct17 : Value} (a17 : PySem.W.nsIn K mainGlobals "is_form_there" = some (some (.ref f17))) (l17 : K.lookup f17 = some ⟨oc17, od17, .func (PySem.W.fnOf "is_form_there" "is_form_there" (defArgs s_is_form_there) (defBody s_is_form_there) (defScope s_is_form_there) .none kV17 dc17 pm17 an17 cd17 ct17), sl17⟩) (q17 : PySem.W.codeIn K cd17 "is_form_there" = true) (k17 : PySem.W.keepIn K (.ref f17) = true)
    {od18 an18 : Option Addr} {sl18 : Array (Option Value)} {oc18 kV18 dc18 pm18 cd18 ct18 : Value} (a18 : PySem.W.nsIn K mainGlobals "shows_node" = some (some (.ref f18))) (l18 : K.lookup f18 = some ⟨oc18, od18, .func (PySem.W.fnOf "shows_node" "shows_node" (defArgs s_shows_node) (defBody s_shows_node) (defScope s_shows_node) .none kV18 dc18 pm18 an18 cd18 ct18), sl18⟩) (q18 : PySem.W.codeIn K cd18 "shows_node" = true) (k18 : PySem.W.keepIn K (.ref f18) = true)
    {od19 an19 : Option Addr} {sl19 : Array (Option Value)} {oc19 kV19 dc19 pm19 cd19 ct19 : Value} (a19 : PySem.W.nsIn K mainGlobals "shows_telling" = some (some (.ref f19))) (l19 : K.lookup f19 = some ⟨oc19, od19, .func (PySem.W.fnOf "shows_telling" "shows_telling" (defArgs s_shows_telling) (defBody s_shows_telling) (defScope s_shows_telling) .none kV19 dc19 pm19 an19 cd19 ct19), sl19⟩) (q19 : PySem.W.codeIn K cd19 "shows_telling" = true) (k19 : PySem.W.keepIn K (.ref f19) = true)
    {od20 an20 : Option Addr} {sl20 : Array (Option Value)} {oc20 kV20 dc20 pm20 cd20 ct20 : Value} (a20 : PySem.W.nsIn K mainGlobals "_law_pot" = some (some (.ref f20))) (l20 : K.lookup f20 = some ⟨oc20, od20, .func (PySem.W.fnOf "_law_pot" "_law_pot" (defArgs s__law_pot) (defBody s__law_pot) (defScope s__law_pot) .none kV20 dc20 pm20 an20 cd20 ct20), sl20⟩) (q20 : PySem.W.codeIn K cd20 "_law_pot" = true) (k20 : PySem.W.keepIn K (.ref f20) = true)
    {od21 an21 : Option Addr} {sl21 : Array (Option Value)} {oc21 kV21 dc21 pm21 cd21 ct21 : Value} (a21 : PySem.W.nsIn K mainGlobals "_law_take" = some (some (.ref f21))) (l21 : K.lookup f21 = some ⟨oc21, od21, .func (PySem.W.fnOf "_law_take" "_law_take" (defArgs s__law_take) (defBody s__law_take) (defScope s__law_take) .none kV21 dc21 pm21 an21 cd21 ct21), sl21⟩) (q21 : PySem.W.codeIn K cd21 "_law_take" = true) (k21 : PySem.W.keepIn K (.ref f21) = true)
    {od22 an22 : Option Addr} {sl22 : Array (Option Value)} {oc22 kV22 dc22 pm22 cd22 ct22 : Value} (a22 : PySem.W.nsIn K mainGlobals "_law_words" = some (some (.ref f22))) (l22 : K.lookup f22 = some ⟨oc22, od22, .func (PySem.W.fnOf "_law_words" "_law_words" (defArgs s__law_words) (defBody s__law_words) (defScope s__law_words) .none kV22 dc22 pm22 an22 cd22 ct22), sl22⟩) (q22 : PySem.W.codeIn K cd22 "_law_words" = true) (k22 : PySem.W.keepIn K (.ref f22) = true)
    {od23 an23 : Option Addr} {sl23 : Array (Option Value)} {oc23 kV23 dc23 pm23 cd23 ct23 : Value} (a23 : PySem.W.nsIn K mainGlobals "_law_some" = some (some (.ref f23))) (l23 : K.lookup f23 = some ⟨oc23, od23, .func (PySem.W.fnOf "_law_some" "_law_some" (defArgs s__law_some) (defBody s__law_some) (defScope s__law_some) .none kV23 dc23 pm23 an23 cd23 ct23), sl23⟩) (q23 : PySem.W.codeIn K cd23 "_law_some" = true) (k23 : PySem.W.keepIn K (.ref f23) = true)
    {od24 an24 : Option Addr} {sl24 : Array (Option Value)} {oc24 kV24 dc24 pm24 cd24 ct24 : Value} (a24 : PySem.W.nsIn K mainGlobals "_law_form" = some (some (.ref f24))) (l24 : K.lookup f24 = some ⟨oc24, od24, .func (PySem.W.fnOf "_law_form" "_law_form" (defArgs s__law_form) (defBody s__law_form) (defScope s__law_form) .none kV24 dc24 pm24 an24 cd24 ct24), sl24⟩) (q24 : PySem.W.codeIn K cd24 "_law_form" = true) (k24 : PySem.W.keepIn K (.ref f24) = true)
    {od25 an25 : Option Addr} {sl25 : Array (Option Value)} {oc25 kV25 dc25 pm25 cd25 ct25 : Value} (a25 : PySem.W.nsIn K mainGlobals "_law_title" = some (some (.ref f25))) (l25 : K.lookup f25 = some ⟨oc25, od25, .func (PySem.W.fnOf "_law_title" "_law_title" (defArgs s__law_title) (defBody s__law_title) (defScope s__law_title) .none kV25 dc25 pm25 an25 cd25 ct25), sl25⟩) (q25 : PySem.W.codeIn K cd25 "_law_title" = true) (k25 : PySem.W.keepIn K (.ref f25) = true)
    {od26 an26 : Option Addr} {sl26 : Array (Option Value)} {oc26 kV26 dc26 pm26 cd26 ct26 : Value} (a26 : PySem.W.nsIn K mainGlobals "_law_folders" = some (some (.ref f26))) (l26 : K.lookup f26 = some ⟨oc26, od26, .func (PySem.W.fnOf "_law_folders" "_law_folders" (defArgs s__law_folders) (defBody s__law_folders) (defScope s__law_folders) .none kV26 dc26 pm26 an26 cd26 ct26), sl26⟩) (q26 : PySem.W.codeIn K cd26 "_law_folders" = true) (k26 : PySem.W.keepIn K (.ref f26) = true)
    {od27 an27 : Option Addr} {sl27 : Array (Option Value)} {oc27 kV27 dc27 pm27 cd27 ct27 : Value} (a27 : PySem.W.nsIn K mainGlobals "_law_pairs" = some (some (.ref f27))) (l27 : K.lookup f27 = some ⟨oc27, od27, .func (PySem.W.fnOf "_law_pairs" "_law_pairs" (defArgs s__law_pairs) (defBody s__law_pairs) (defScope s__law_pairs) .none kV27 dc27 pm27 an27 cd27 ct27), sl27⟩) (q27 : PySem.W.codeIn K cd27 "_law_pairs" = true) (k27 : PySem.W.keepIn K (.ref f27) = true)
    {od28 an28 : Option Addr} {sl28 : Array (Option Value)} {oc28 kV28 dc28 pm28 cd28 ct28 : Value} (a28 : PySem.W.nsIn K mainGlobals "_law_pages" = some (some (.ref f28))) (l28 : K.lookup f28 = some ⟨oc28, od28, .func (PySem.W.fnOf "_law_pages" "_law_pages" (defArgs s__law_pages) (defBody s__law_pages) (defScope s__law_pages) .none kV28 dc28 pm28 an28 cd28 ct28), sl28⟩) (q28 : PySem.W.codeIn K cd28 "_law_pages" = true) (k28 : PySem.W.keepIn K (.ref f28) = true)
    {od29 an29 : Option Addr} {sl29 : Array (Option Value)} {oc29 kV29 dc29 pm29 cd29 ct29 : Value} (a29 : PySem.W.nsIn K mainGlobals "_law_inside_of" = some (some (.ref f29))) (l29 : K.lookup f29 = some ⟨oc29, od29, .func (PySem.W.fnOf "_law_inside_of" "_law_inside_of" (defArgs s__law_inside_of) (defBody s__law_inside_of) (defScope s__law_inside_of) .none kV29 dc29 pm29 an29 cd29 ct29), sl29⟩) (q29 : PySem.W.codeIn K cd29 "_law_inside_of" = true) (k29 : PySem.W.keepIn K (.ref f29) = true)
    {od30 an30 : Option Addr} {sl30 : Array (Option Value)} {oc30 kV30 dc30 pm30 cd30 ct30 : Value} (a30 : PySem.W.nsIn K mainGlobals "_law_marked" = some (some (.ref f30))) (l30 : K.lookup f30 = some ⟨oc30, od30, .func (PySem.W.fnOf "_law_marked" "_law_marked" (defArgs s__law_marked) (defBody s__law_marked) (defScope s__law_marked) .none kV30 dc30 pm30 an30 cd30 ct30), sl30⟩) (q30 : PySem.W.codeIn K cd30 "_law_marked" = true) (k30 : PySem.W.keepIn K (.ref f30) = true)
    {od31 an31 : Option Addr} {sl31 : Array (Option Value)} {oc31 kV31 dc31 pm31 cd31 ct31 : Value} (a31 : PySem.W.nsIn K mainGlobals "_law_labels" = some (some (.ref f31))) (l31 : K.lookup f31 = some ⟨oc31, od31, .func (PySem.W.fnOf "_law_labels" "_law_labels" (defArgs s__law_labels) (defBody s__law_labels) (defScope s__law_labels) .none kV31 dc31 pm31 an31 cd31 ct31), sl31⟩) (q31 : PySem.W.codeIn K cd31 "_law_labels" = true) (k31 : PySem.W.keepIn K (.ref f31) = true)
    {od32 an32 : Option Addr} {sl32 : Array (Option Value)} {oc32 kV32 dc32 pm32 cd32 ct32 : Value} (a32 : PySem.W.nsIn K mainGlobals "_law_between" = some (some (.ref f32))) (l32 : K.lookup f32 = some ⟨oc32, od32, .func (PySem.W.fnOf "_law_between" "_law_between" (defArgs s__law_between) (defBody s__law_between) (defScope s__law_between) .none kV32 dc32 pm32 an32 cd32 ct32), sl32⟩) (q32 : PySem.W.codeIn K cd32 "_law_between" = true) (k32 : PySem.W.keepIn K (.ref f32) = true)
    {od33 an33 : Option Addr} {sl33 : Array (Option Value)} {oc33 kV33 dc33 pm33 cd33 ct33 : Value} (a33 : PySem.W.nsIn K mainGlobals "_law_betweens" = some (some (.ref f33))) (l33 : K.lookup f33 = some ⟨oc33, od33, .func (PySem.W.fnOf "_law_betweens" "_law_betweens" (defArgs s__law_betweens) (defBody s__law_betweens) (defScope s__law_betweens) .none kV33 dc33 pm33 an33 cd33 ct33), sl33⟩) (q33 : PySem.W.codeIn K cd33 "_law_betweens" = true) (k33 : PySem.W.keepIn K (.ref f33) = true)
    {od34 an34 : Option Addr} {sl34 : Array (Option Value)} {oc34 kV34 dc34 pm34 cd34 ct34 : Value} (a34 : PySem.W.nsIn K mainGlobals "_law_tell_all" = some (some (.ref f34))) (l34 : K.lookup f34 = some ⟨oc34, od34, .func (PySem.W.fnOf "_law_tell_all" "_law_tell_all" (defArgs s__law_tell_all) (defBody s__law_tell_all) (defScope s__law_tell_all) .none kV34 dc34 pm34 an34 cd34 ct34), sl34⟩) (q34 : PySem.W.codeIn K cd34 "_law_tell_all" = true) (k34 : PySem.W.keepIn K (.ref f34) = true)
    {od35 an35 : Option Addr} {sl35 : Array (Option Value)} {oc35 kV35 dc35 pm35 cd35 ct35 : Value} (a35 : PySem.W.nsIn K mainGlobals "_law_set" = some (some (.ref f35))) (l35 : K.lookup f35 = some ⟨oc35, od35, .func (PySem.W.fnOf "_law_set" "_law_set" (defArgs s__law_set) (defBody s__law_set) (defScope s__law_set) .none kV35 dc35 pm35 an35 cd35 ct35), sl35⟩) (q35 : PySem.W.codeIn K cd35 "_law_set" = true) (k35 : PySem.W.keepIn K (.ref f35) = true)
    {od36 an36 : Option Addr} {sl36 : Array (Option Value)} {oc36 kV36 dc36 pm36 cd36 ct36 : Value} (a36 : PySem.W.nsIn K mainGlobals "_law_pairs_apart" = some (some (.ref f36))) (l36 : K.lookup f36 = some ⟨oc36, od36, .func (PySem.W.fnOf "_law_pairs_apart" "_law_pairs_apart" (defArgs s__law_pairs_apart) (defBody s__law_pairs_apart) (defScope s__law_pairs_apart) .none kV36 dc36 pm36 an36 cd36 ct36), sl36⟩) (q36 : PySem.W.codeIn K cd36 "_law_pairs_apart" = true) (k36 : PySem.W.keepIn K (.ref f36) = true)
    {od37 an37 : Option Addr} {sl37 : Array (Option Value)} {oc37 kV37 dc37 pm37 cd37 ct37 : Value} (a37 : PySem.W.nsIn K mainGlobals "_law_paper" = some (some (.ref f37))) (l37 : K.lookup f37 = some ⟨oc37, od37, .func (PySem.W.fnOf "_law_paper" "_law_paper" (defArgs s__law_paper) (defBody s__law_paper) (defScope s__law_paper) .none kV37 dc37 pm37 an37 cd37 ct37), sl37⟩) (q37 : PySem.W.codeIn K cd37 "_law_paper" = true) (k37 : PySem.W.keepIn K (.ref f37) = true)
    {od38 an38 : Option Addr} {sl38 : Array (Option Value)} {oc38 kV38 dc38 pm38 ct38 : Value} (a38 : PySem.W.nsIn K mainGlobals "_law_like_right" = some (some (.ref f38))) (l38 : K.lookup f38 = some ⟨oc38, od38, .func (PySem.W.fnOf "_law_like_right" "_law_like_right" (defArgs s__law_like_right) (defBody s__law_like_right) (defScope s__law_like_right) .none kV38 dc38 pm38 an38 (.ref c2) ct38), sl38⟩) (q38 : PySem.W.codeIn K (.ref c2) "_law_like_right" = true) (k38 : PySem.W.keepIn K (.ref f38) = true)
    {od39 an39 : Option Addr} {sl39 : Array (Option Value)} {oc39 kV39 dc39 pm39 cd39 ct39 : Value} (a39 : PySem.W.nsIn K mainGlobals "law" = some (some (.ref f39))) (l39 : K.lookup f39 = some ⟨oc39, od39, .func (PySem.W.fnOf "law" "law" (defArgs s_law) (defBody s_law) (defScope s_law) .none kV39 dc39 pm39 an39 cd39 ct39), sl39⟩) (q39 : PySem.W.codeIn K cd39 "law" = true) (k39 : PySem.W.keepIn K (.ref f39) = true)
    {odI anI : Option Addr} {slI : Array (Option Value)} {ocI kVI dcI pmI cdI ctI : Value} (aI : PySem.W.findIn K (.ref C) "__init__" = some (some (.ref fI))) (iI : PySem.W.isFn K (.ref fI) = true) (lI : K.lookup fI = some ⟨ocI, odI, .func (PySem.W.fnOf "__init__" "Listing.__init__" (defArgs s___init__) (defBody s___init__) (defScope s___init__) .none kVI dcI pmI anI cdI ctI), slI⟩) (qI : PySem.W.codeIn K cdI "Listing.__init__" = true) (kI : PySem.W.keepIn K (.ref fI) = true)
    (n_len : PySem.W.nsIn K mainGlobals "len" = some none)
    (n_range : PySem.W.nsIn K mainGlobals "range" = some none)
    (n_enumerate : PySem.W.nsIn K mainGlobals "enumerate" = some none)
    (n_zip : PySem.W.nsIn K mainGlobals "zip" = some none)
    (n_sorted : PySem.W.nsIn K mainGlobals "sorted" = some none)
    (n_set : PySem.W.nsIn K mainGlobals "set" = some none)
    (n_min : PySem.W.nsIn K mainGlobals "min" = some none)
    (n_max : PySem.W.nsIn K mainGlobals "max" = some none)
    (n_abs : PySem.W.nsIn K mainGlobals "abs" = some none)
    (n_any : PySem.W.nsIn K mainGlobals "any" = some none)
    (n_all : PySem.W.nsIn K mainGlobals "all" = some none)
    (n_tuple : PySem.W.nsIn K mainGlobals "tuple" = some none)
    (n_list : PySem.W.nsIn K mainGlobals "list" = some none)
    (n_dict : PySem.W.nsIn K mainGlobals "dict" = some none)
    (n_str : PySem.W.nsIn K mainGlobals "str" = some none)
    (n_int : PySem.W.nsIn K mainGlobals "int" = some none)
    (n_isinstance : PySem.W.nsIn K mainGlobals "isinstance" = some none)
    {t_MOST_LABELS : Tok} (g_MOST_LABELS : PySem.W.nsIn K mainGlobals "MOST_LABELS" = some (some (.int 7 t_MOST_LABELS)))
    {t_MOST_PAGES : Tok} (g_MOST_PAGES : PySem.W.nsIn K mainGlobals "MOST_PAGES" = some (some (.int 16 t_MOST_PAGES)))
    {t_FOLDER : Tok} (g_FOLDER : PySem.W.nsIn K mainGlobals "FOLDER" = some (some (.str "folder" t_FOLDER)))
    {t_MARK : Tok} (g_MARK : PySem.W.nsIn K mainGlobals "MARK" = some (some (.str "mark" t_MARK)))
    (pg : PySem.W.plainGet K C Str.empty = true)
    (hd : PySem.W.hasDictIn K C = true)
    (po : PySem.W.plainOver K C = true)
    (sa : PySem.W.findIn K (.ref C) "__setattr__" = some (some (.builtin "object.__setattr__")))
    (mk : PySem.W.makesIn K C = true)
    (kc : PySem.W.keepIn K (.ref C) = true)
    (nf : PySem.W.findIn K (.ref C) "folders" = some none)
    (np : PySem.W.findIn K (.ref C) "pages" = some none)
    (nq : PySem.W.findIn K (.ref C) "pairs" = some none)
    (dig : PySem.W.nsIn K cStatics "sys.int_max_str_digits" = some none)
    (cd1_ : PySem.W.codeHdIn K c1 P1 = true)
    (cd2_ : PySem.W.codeHdIn K c2 P2 = true)
    (z1 : K.lookup P1 = none)
    (z2 : K.lookup P2 = none)
    (tb : ∀ P ∈ [P2, P1], h.get? P = some { cls := .none, data := .fields #[] }) (ne : P1 ≠ P2) :
    LamX.LawAtS l w K CX0 14 63 "_law_script" mg fa h := by
  have u1 : ∀ p ∈ ([(P1, "node_of.<locals>.<lambda>"), (P2, "_law_like_right.<locals>.<lambda>")] : List (Addr × PySem.Str)), p.1 = P1 → p.2 = "node_of.<locals>.<lambda>" := by
    intro p hp e
    rcases List.mem_cons.mp hp with z | hp
    · rw [z]
    · rcases List.mem_cons.mp hp with z | hp
      · rw [z] at e; exact absurd e.symm ne
      · cases hp
  have u2 : ∀ p ∈ ([(P1, "node_of.<locals>.<lambda>"), (P2, "_law_like_right.<locals>.<lambda>")] : List (Addr × PySem.Str)), p.1 = P2 → p.2 = "_law_like_right.<locals>.<lambda>" := by
    intro p hp e
    rcases List.mem_cons.mp hp with z | hp
    · rw [z] at e; exact absurd e ne
    · rcases List.mem_cons.mp hp with z | hp
      · rw [z]
      · cases hp
  have e : fa = f39 := by
    have e := hfa.symm.trans (PySem.W.mg_of X G a39)
    cases e; rfl
  rw [e]
  refine ⟨PySem.W.fnOf "law" "law" (defArgs s_law) (defBody s_law) (defScope s_law) .none kV39 dc39 pm39 an39 cd39 ct39, [(c1, P1), (c2, P2)], spLaw K P1 P2, ?_, ?_, ?_, fun s v => .of_eq rfl, fun H a ns hl hb hH hS => ?_, fun base hK hG TB => ?_⟩
  · intro p hp
    rcases List.mem_cons.mp hp with z | hp
    · rw [z]; exact tb _ (by simp)
    · rcases List.mem_cons.mp hp with z | hp
      · rw [z]; exact tb _ (by simp)
      · cases hp
  · intro p hp
    rcases List.mem_cons.mp hp with z | hp
    · rw [z]; exact z1
    · rcases List.mem_cons.mp hp with z | hp
      · rw [z]; exact z2
      · cases hp
  · intro p hp
    rcases List.mem_cons.mp hp with z | hp
    · rw [z]; exact PySem.W.codeHd_of_K X cd1_
    · rcases List.mem_cons.mp hp with z | hp
      · rw [z]; exact PySem.W.codeHd_of_K X cd2_
      · cases hp
  · exact ⟨a, ns, rfl, hH (c1, P1) (by simp), hH (c2, P2) (by simp), hS, law_true ns hl hb, fun _ => rfl⟩
  have m : Mod ⟨l.prog, w, K, mg, base, C, [(P1, "node_of.<locals>.<lambda>"), (P2, "_law_like_right.<locals>.<lambda>")]⟩ := {
    n_len := PySem.W.mg_none_of X G n_len
    n_range := PySem.W.mg_none_of X G n_range
    n_enumerate := PySem.W.mg_none_of X G n_enumerate
    n_zip := PySem.W.mg_none_of X G n_zip
    n_sorted := PySem.W.mg_none_of X G n_sorted
    n_set := PySem.W.mg_none_of X G n_set
    n_min := PySem.W.mg_none_of X G n_min
    n_max := PySem.W.mg_none_of X G n_max
    n_abs := PySem.W.mg_none_of X G n_abs
    n_any := PySem.W.mg_none_of X G n_any
    n_all := PySem.W.mg_none_of X G n_all
    n_tuple := PySem.W.mg_none_of X G n_tuple
    n_list := PySem.W.mg_none_of X G n_list
    n_dict := PySem.W.mg_none_of X G n_dict
    n_str := PySem.W.mg_none_of X G n_str
    n_int := PySem.W.mg_none_of X G n_int
    n_isinstance := PySem.W.mg_none_of X G n_isinstance
    g_MOST_LABELS := ⟨_, PySem.W.mg_of X G g_MOST_LABELS⟩
    g_MOST_PAGES := ⟨_, PySem.W.mg_of X G g_MOST_PAGES⟩
    g_FOLDER := ⟨_, PySem.W.mg_of X G g_FOLDER⟩
    g_MARK := ⟨_, PySem.W.mg_of X G g_MARK⟩
    cls := ⟨pg, hd, po, sa⟩
    na_folders := nf
    na_pages := np
    na_pairs := nq
    c_Listing := PySem.W.mg_of X G aC
    dig := dig
    h_at := ⟨⟨f0, _, fun_mk (st := s_at) l0 q0 k0, ⟨a0, i0, k0⟩⟩⟩
    h_led_to := ⟨⟨f1, _, fun_mk (st := s_led_to) l1 q1 k1, PySem.W.mg_of X G a1⟩⟩
    h_inside := ⟨⟨f2, _, fun_mk (st := s_inside) l2 q2 k2, PySem.W.mg_of X G a2⟩⟩
    h_marked := ⟨⟨f3, _, fun_mk (st := s_marked) l3 q3 k3, ⟨a3, i3, k3⟩⟩⟩
    h_marks := ⟨⟨f4, _, fun_mk (st := s_marks) l4 q4 k4, ⟨a4, i4, k4⟩⟩⟩
    h_labels_of := ⟨⟨f5, _, fun_mk (st := s_labels_of) l5 q5 k5, PySem.W.mg_of X G a5⟩⟩
    h_tells_apart := ⟨⟨f6, _, fun_mk (st := s_tells_apart) l6 q6 k6, PySem.W.mg_of X G a6⟩⟩
    h_pairs_apart := ⟨⟨f7, _, fun_mk (st := s_pairs_apart) l7 q7 k7, PySem.W.mg_of X G a7⟩⟩
    h_not_told_by := ⟨⟨f8, _, fun_mk (st := s_not_told_by) l8 q8 k8, PySem.W.mg_of X G a8⟩⟩
    h_some_of := ⟨⟨f9, _, fun_mk (st := s_some_of) l9 q9 k9, PySem.W.mg_of X G a9⟩⟩
    h_fewest_of := ⟨⟨f10, _, fun_mk (st := s_fewest_of) l10 q10 k10, PySem.W.mg_of X G a10⟩⟩
    h_node_of := ⟨⟨f11, _, c1, P1, ⟨⟨oc11, od11, kV11, dc11, pm11, an11, ct11, sl11, rfl, l11, q11⟩, k11⟩, PySem.W.mg_of X G a11, TB (c1, P1) (by simp), by simp, u1⟩⟩
    h___len__ := ⟨⟨f12, _, fun_mk (st := s___len__) l12 q12 k12, ⟨a12, i12, k12⟩⟩⟩
    h_telling := ⟨⟨f13, _, fun_mk (st := s_telling) l13 q13 k13, PySem.W.mg_of X G a13⟩⟩
    h_is_label := ⟨⟨f14, _, fun_mk (st := s_is_label) l14 q14 k14, PySem.W.mg_of X G a14⟩⟩
    h_labels_between := ⟨⟨f15, _, fun_mk (st := s_labels_between) l15 q15 k15, PySem.W.mg_of X G a15⟩⟩
    h_tell_all := ⟨⟨f16, _, fun_mk (st := s_tell_all) l16 q16 k16, PySem.W.mg_of X G a16⟩⟩
    h_is_form_there := ⟨⟨f17, _, fun_mk (st := s_is_form_there) l17 q17 k17, PySem.W.mg_of X G a17⟩⟩
    h_shows_node := ⟨⟨f18, _, fun_mk (st := s_shows_node) l18 q18 k18, PySem.W.mg_of X G a18⟩⟩
    h_shows_telling := ⟨⟨f19, _, fun_mk (st := s_shows_telling) l19 q19 k19, PySem.W.mg_of X G a19⟩⟩
    h__law_pot := ⟨⟨f20, _, fun_mk (st := s__law_pot) l20 q20 k20, PySem.W.mg_of X G a20⟩⟩
    h__law_take := ⟨⟨f21, _, fun_mk (st := s__law_take) l21 q21 k21, PySem.W.mg_of X G a21⟩⟩
    h__law_words := ⟨⟨f22, _, fun_mk (st := s__law_words) l22 q22 k22, PySem.W.mg_of X G a22⟩⟩
    h__law_some := ⟨⟨f23, _, fun_mk (st := s__law_some) l23 q23 k23, PySem.W.mg_of X G a23⟩⟩
    h__law_form := ⟨⟨f24, _, fun_mk (st := s__law_form) l24 q24 k24, PySem.W.mg_of X G a24⟩⟩
    h__law_title := ⟨⟨f25, _, fun_mk (st := s__law_title) l25 q25 k25, PySem.W.mg_of X G a25⟩⟩
    h__law_folders := ⟨⟨f26, _, fun_mk (st := s__law_folders) l26 q26 k26, PySem.W.mg_of X G a26⟩⟩
    h__law_pairs := ⟨⟨f27, _, fun_mk (st := s__law_pairs) l27 q27 k27, PySem.W.mg_of X G a27⟩⟩
    h__law_pages := ⟨⟨f28, _, fun_mk (st := s__law_pages) l28 q28 k28, PySem.W.mg_of X G a28⟩⟩
    h__law_inside_of := ⟨⟨f29, _, fun_mk (st := s__law_inside_of) l29 q29 k29, PySem.W.mg_of X G a29⟩⟩
    h__law_marked := ⟨⟨f30, _, fun_mk (st := s__law_marked) l30 q30 k30, PySem.W.mg_of X G a30⟩⟩
    h__law_labels := ⟨⟨f31, _, fun_mk (st := s__law_labels) l31 q31 k31, PySem.W.mg_of X G a31⟩⟩
    h__law_between := ⟨⟨f32, _, fun_mk (st := s__law_between) l32 q32 k32, PySem.W.mg_of X G a32⟩⟩
    h__law_betweens := ⟨⟨f33, _, fun_mk (st := s__law_betweens) l33 q33 k33, PySem.W.mg_of X G a33⟩⟩
    h__law_tell_all := ⟨⟨f34, _, fun_mk (st := s__law_tell_all) l34 q34 k34, PySem.W.mg_of X G a34⟩⟩
    h__law_set := ⟨⟨f35, _, fun_mk (st := s__law_set) l35 q35 k35, PySem.W.mg_of X G a35⟩⟩
    h__law_pairs_apart := ⟨⟨f36, _, fun_mk (st := s__law_pairs_apart) l36 q36 k36, PySem.W.mg_of X G a36⟩⟩
    h__law_paper := ⟨⟨f37, _, fun_mk (st := s__law_paper) l37 q37 k37, PySem.W.mg_of X G a37⟩⟩
    h__law_like_right := ⟨⟨f38, _, c2, P2, ⟨⟨oc38, od38, kV38, dc38, pm38, an38, ct38, sl38, rfl, l38, q38⟩, k38⟩, PySem.W.mg_of X G a38, TB (c2, P2) (by simp), by simp, u2⟩⟩
    h_law := ⟨⟨f39, _, fun_mk (st := s_law) l39 q39 k39, PySem.W.mg_of X G a39⟩⟩
    h___init__ := ⟨⟨fI, _, fun_mk (st := s___init__) lI qI kI, ⟨mk, aI, iI, kc⟩⟩⟩
  }
  exact (ok_law m (fun_mk (st := s_law) l39 q39 k39)).imp fun vs H Q E h => sp_law rfl vs H Q E h
end DL

open PySem PySem.W PyProof.Rows in
set_option maxRecDepth 100000 in
set_option maxHeartbeats 0 in
theorem DL.row_of (law_true : ∀ ns : List Int, ns.length ≤ 63 → (∀ z ∈ ns, Builtin.Int.intBits z ≤ 1048576) → DL.F_law [DL.scr ns] = some (.bool true)) : PySem.Challenge.rw_keptpages_k77_whole_told_apart.Holds := by
  refine head ?_
  k_fill
  refine LamX.walk_ofTs (l := PySem.Challenge.rw_keptpages_k77_whole_told_apart) (n := 63) (k := 14) (x := "_law_script") (CX := fun _ => L2.CX0) rfl (by decide) rfl ⟨rfl, by decide, by decide⟩ (fun w h Y => PySem.W.km_in_of Y) ?F (fun _ _ _ _ _ z => z)
  case F =>
    intro w mg fa h Y KX G hmg
    refine' DL.all_mk law_true (P1 := 82) (P2 := 320) KX G hmg ?aC ?a0 ?i0 ?l0 ?q0 ?k0 ?a1 ?l1 ?q1 ?k1 ?a2 ?l2 ?q2 ?k2 ?a3 ?i3 ?l3 ?q3 ?k3 ?a4 ?i4 ?l4 ?q4 ?k4 ?a5 ?l5 ?q5 ?k5 ?a6 ?l6 ?q6 ?k6 ?a7 ?l7 ?q7 ?k7 ?a8 ?l8 ?q8 ?k8 ?a9 ?l9 ?q9 ?k9 ?a10 ?l10 ?q10 ?k10 ?a11 ?l11 ?q11 ?k11 ?a12 ?i12 ?l12 ?q12 ?k12 ?a13 ?l13 ?q13 ?k13 ?a14 ?l14 ?q14 ?k14 ?a15 ?l15 ?q15 ?k15 ?a16 ?l16 ?q16 ?k16 ?a17 ?l17 ?q17 ?k17 ?a18 ?l18 ?q18 ?k18 ?a19 ?l19 ?q19 ?k19 ?a20 ?l20 ?q20 ?k20 ?a21 ?l21 ?q21 ?k21 ?a22 ?l22 ?q22 ?k22 ?a23 ?l23 ?q23 ?k23 ?a24 ?l24 ?q24 ?k24 ?a25 ?l25 ?q25 ?k25 ?a26 ?l26 ?q26 ?k26 ?a27 ?l27 ?q27 ?k27 ?a28 ?l28 ?q28 ?k28 ?a29 ?l29 ?q29 ?k29 ?a30 ?l30 ?q30 ?k30 ?a31 ?l31 ?q31 ?k31 ?a32 ?l32 ?q32 ?k32 ?a33 ?l33 ?q33 ?k33 ?a34 ?l34 ?q34 ?k34 ?a35 ?l35 ?q35 ?k35 ?a36 ?l36 ?q36 ?k36 ?a37 ?l37 ?q37 ?k37 ?a38 ?l38 ?q38 ?k38 ?a39 ?l39 ?q39 ?k39 ?aI ?iI ?lI ?qI ?kI ?n_len ?n_range ?n_enumerate ?n_zip ?n_sorted ?n_set ?n_min ?n_max ?n_abs ?n_any ?n_all ?n_tuple ?n_list ?n_dict ?n_str ?n_int ?n_isinstance ?g_MOST_LABELS ?g_MOST_PAGES ?g_FOLDER ?g_MARK ?pg ?hd ?po ?sa ?mk ?kc ?nf ?np ?nq ?dig ?cd1_ ?cd2_ ?z1 ?z2 (PySem.W.km_tabs_of Y) (by decide)
    (case aC => k_is)
    (case a0 => k_is)
    (case i0 => k_is)
    (case l0 => k_is)
    (case q0 => k_is)
    (case k0 => k_is)
    (case a1 => k_is)
    (case l1 => k_is)
    (case q1 => k_is)
    (case k1 => k_is)
    (case a2 => k_is)
    (case l2 => k_is)
    (case q2 => k_is)
    (case k2 => k_is)
    (case a3 => k_is)
    (case i3 => k_is)
    (case l3 => k_is)
    (case q3 => k_is)
    (case k3 => k_is)
    (case a4 => k_is)
    (case i4 => k_is)
    (case l4 => k_is)
    (case q4 => k_is)
    (case k4 => k_is)
    (case a5 => k_is)
    (case l5 => k_is)
    (case q5 => k_is)
    (case k5 => k_is)
    (case a6 => k_is)
    (case l6 => k_is)
    (case q6 => k_is)
    (case k6 => k_is)
    (case a7 => k_is)
    (case l7 => k_is)
    (case q7 => k_is)
    (case k7 => k_is)
    (case a8 => k_is)
    (case l8 => k_is)
    (case q8 => k_is)
    (case k8 => k_is)
    (case a9 => k_is)
    (case l9 => k_is)
    (case q9 => k_is)
    (case k9 => k_is)
    (case a10 => k_is)
    (case l10 => k_is)
    (case q10 => k_is)
    (case k10 => k_is)
    (case a11 => k_is)
    (case l11 => k_is)
    (case q11 => k_is)
    (case k11 => k_is)
    (case a12 => k_is)
    (case i12 => k_is)
    (case l12 => k_is)
    (case q12 => k_is)
    (case k12 => k_is)
    (case a13 => k_is)
    (case l13 => k_is)
    (case q13 => k_is)
    (case k13 => k_is)
    (case a14 => k_is)
    (case l14 => k_is)
    (case q14 => k_is)
    (case k14 => k_is)
    (case a15 => k_is)
    (case l15 => k_is)
    (case q15 => k_is)
    (case k15 => k_is)
    (case a16 => k_is)
    (case l16 => k_is)
    (case q16 => k_is)
    (case k16 => k_is)
    (case a17 => k_is)
    (case l17 => k_is)
    (case q17 => k_is)
    (case k17 => k_is)
    (case a18 => k_is)
    (case l18 => k_is)
    (case q18 => k_is)
    (case k18 => k_is)
    (case a19 => k_is)
    (case l19 => k_is)
    (case q19 => k_is)
    (case k19 => k_is)
    (case a20 => k_is)
    (case l20 => k_is)
    (case q20 => k_is)
    (case k20 => k_is)
    (case a21 => k_is)
    (case l21 => k_is)
    (case q21 => k_is)
    (case k21 => k_is)
    (case a22 => k_is)
    (case l22 => k_is)
    (case q22 => k_is)
    (case k22 => k_is)
    (case a23 => k_is)
    (case l23 => k_is)
    (case q23 => k_is)
    (case k23 => k_is)
    (case a24 => k_is)
    (case l24 => k_is)
    (case q24 => k_is)
    (case k24 => k_is)
    (case a25 => k_is)
    (case l25 => k_is)
    (case q25 => k_is)
    (case k25 => k_is)
    (case a26 => k_is)
    (case l26 => k_is)
    (case q26 => k_is)
    (case k26 => k_is)
    (case a27 => k_is)
    (case l27 => k_is)
    (case q27 => k_is)
    (case k27 => k_is)
    (case a28 => k_is)
    (case l28 => k_is)
    (case q28 => k_is)
    (case k28 => k_is)
    (case a29 => k_is)
    (case l29 => k_is)
    (case q29 => k_is)
    (case k29 => k_is)
    (case a30 => k_is)
    (case l30 => k_is)
    (case q30 => k_is)
    (case k30 => k_is)
    (case a31 => k_is)
    (case l31 => k_is)
    (case q31 => k_is)
    (case k31 => k_is)
    (case a32 => k_is)
    (case l32 => k_is)
    (case q32 => k_is)
    (case k32 => k_is)
    (case a33 => k_is)
    (case l33 => k_is)
    (case q33 => k_is)
    (case k33 => k_is)
    (case a34 => k_is)
    (case l34 => k_is)
    (case q34 => k_is)
    (case k34 => k_is)
    (case a35 => k_is)
    (case l35 => k_is)
    (case q35 => k_is)
    (case k35 => k_is)
    (case a36 => k_is)
    (case l36 => k_is)
    (case q36 => k_is)
    (case k36 => k_is)
    (case a37 => k_is)
    (case l37 => k_is)
    (case q37 => k_is)
    (case k37 => k_is)
    (case a38 => k_is)
    (case l38 => k_is)
    (case q38 => k_is)
    (case k38 => k_is)
    (case a39 => k_is)
    (case l39 => k_is)
    (case q39 => k_is)
    (case k39 => k_is)
    (case aI => k_is)
    (case iI => k_is)
    (case lI => k_is)
    (case qI => k_is)
    (case kI => k_is)
    (case n_len => k_is)
    (case n_range => k_is)
    (case n_enumerate => k_is)
    (case n_zip => k_is)
    (case n_sorted => k_is)
    (case n_set => k_is)
    (case n_min => k_is)
    (case n_max => k_is)
    (case n_abs => k_is)
    (case n_any => k_is)
    (case n_all => k_is)
    (case n_tuple => k_is)
    (case n_list => k_is)
    (case n_dict => k_is)
    (case n_str => k_is)
    (case n_int => k_is)
    (case n_isinstance => k_is)
    (case g_MOST_LABELS => k_is)
    (case g_MOST_PAGES => k_is)
    (case g_FOLDER => k_is)
    (case g_MARK => k_is)
    (case pg => k_is)
    (case hd => k_is)
    (case po => k_is)
    (case sa => k_is)
    (case mk => k_is)
    (case kc => k_is)
    (case nf => k_is)
    (case np => k_is)
    (case nq => k_is)
    (case dig => k_is)
    (case cd1_ => kernel_rfl)
    (case cd2_ => kernel_rfl)
    (case z1 => kernel_rfl)
    (case z2 => kernel_rfl)

set_option maxRecDepth 100000
set_option linter.all false
set_option maxHeartbeats 2000000
/-! M0: a calculus of what the pure bodies give. -/
namespace DL
open PySem
/-! ### optional values -/
def wo {α : Type} (o : Option α) (k : α → Prop) : Prop := ∃ x, o = some x ∧ k x
@[simp] theorem wo_some {α : Type} {x : α} {k : α → Prop} : wo (some x) k ↔ k x := ⟨fun ⟨y, e, h⟩ => by cases e; exact h, fun h => ⟨x, rfl, h⟩⟩
@[simp] theorem wo_none {α : Type} {k : α → Prop} : wo none k ↔ False := ⟨fun ⟨_, e, _⟩ => (by cases e), False.elim⟩
@[simp] theorem wo_bind {α β : Type} {o : Option α} {f : α → Option β} {k : β → Prop} : wo (o.bind f) k ↔ wo o fun x => wo (f x) k := by
  cases o with
  | none => simp
  | some x => simp
@[simp] theorem wo_ite {α : Type} {c : Prop} [Decidable c] {o p : Option α} {k : α → Prop} : wo (if c then o else p) k ↔ if c then wo o k else wo p k := by
  split <;> rfl
theorem wo_mono {α : Type} {o : Option α} {k k' : α → Prop} (h : wo o k) (i : ∀ x, k x → k' x) : wo o k' := let ⟨x, e, p⟩ := h; ⟨x, e, i x p⟩
/-- f at d gives what Q says -/
def W {α : Type} (f : F α) (d : SD) (Q : α → SD → Prop) : Prop := wo (f d) fun p => Q p.1 p.2
theorem W.mono {α : Type} {f : F α} {d : SD} {Q Q' : α → SD → Prop} (h : W f d Q) (i : ∀ a d', Q a d' → Q' a d') : W f d Q' := wo_mono h fun p q => i _ _ q
theorem W_eq {α : Type} {f : F α} {d d' : SD} {a : α} : W f d (fun x y => x = a ∧ y = d') ↔ f d = some (a, d') := by
  constructor
  · rintro ⟨⟨x, y⟩, e, rfl, rfl⟩; exact e
  · intro e; exact ⟨_, e, rfl, rfl⟩
theorem W_of {α : Type} {f : F α} {d d' : SD} {a : α} {Q : α → SD → Prop} (e : f d = some (a, d')) (q : Q a d') : W f d Q := ⟨_, e, q⟩
section
variable {Q : Fl → SD → Prop} {d : SD}
@[simp] theorem W_next : W fNext d Q ↔ Q .nx d := by simp [W, fNext]
@[simp] theorem W_never : W fNever d Q ↔ False := by simp [W, fNever]
@[simp] theorem W_seq {f g : F Fl} : W (fSeq f g) d Q ↔ W f d fun fl d1 => match fl with
    | .nx => W g d1 Q
    | .bk => Q .bk d1
    | .ct => Q .ct d1
    | .rt x => Q (.rt x) d1
    | .ro x => Q (.ro x) d1 := by
  unfold W fSeq
  rw [wo_bind]
  constructor
  · intro h; refine wo_mono h fun p q => ?_
    obtain ⟨fl, d1⟩ := p
    cases fl <;> simpa using q
  · intro h; refine wo_mono h fun p q => ?_
    obtain ⟨fl, d1⟩ := p
    cases fl <;> simpa using q
@[simp] theorem W_set {i : Nat} {f : F OV} : W (fSet i f) d Q ↔ W f d fun o d1 => wo (fzO o) fun x => Q .nx (d1.set i (some (.fr x))) := by simp [W, fSet]
@[simp] theorem W_ret {f : F OV} : W (fRet f) d Q ↔ W f d fun o d1 => wo (fzO o) fun x => Q (.rt x) d1 := by simp [W, fRet]
@[simp] theorem W_if {c : F Bool} {f g : F Fl} : W (fIf c f g) d Q ↔ W c d fun b d1 => if b = true then W f d1 Q else W g d1 Q := by simp [W, fIf]
@[simp] theorem W_asg {g : PyData → SD → Option SD} {f : F OV} : W (fAsg g f) d Q ↔ W f d fun o d1 => wo (fzO o) fun x => wo (g x d1) fun d2 => Q .nx d2 := by simp [W, fAsg]
@[simp] theorem W_own {i : Nat} {f : F PyData} : W (fOwn i f) d Q ↔ W f d fun x d1 => Q .nx (d1.set i (some (.own x))) := by simp [W, fOwn]
@[simp] theorem W_ro {f : F PyData} : W (fRO f) d Q ↔ W f d fun x d1 => Q (.ro x) d1 := by simp [W, fRO]
@[simp] theorem W_parO {i j : Nat} {f g : F PyData} : W (fParO i j f g) d Q ↔ W f d fun x d1 => W g d1 fun y d2 => Q .nx ((d2.set i (some (.own x))).set j (some (.own y))) := by simp [W, fParO]
theorem W_par {i j : Nat} {f : F (List OV)} : W (fPar i j f) d Q ↔ W f d fun os d1 => wo (fPar i j (fun d => some (os, d)) d1) fun p => Q p.1 p.2 := by simp [W, fPar]
@[simp] theorem W_par2 {i j : Nat} {a b : F OV} : W (fPar i j (fCons a (fCons b fNil))) d Q ↔ W a d fun o d1 => W b d1 fun o' d2 => wo (fzO o) fun x => wo (fzO o') fun y => Q .nx ((d2.set i (some (.fr x))).set j (some (.fr y))) := by simp [W, fPar, fCons, fNil]
end
section
variable {Q : OV → SD → Prop} {d : SD}
@[simp] theorem W_c {x : PyData} : W (fC x) d Q ↔ Q (.val x) d := by simp [W, fC]
theorem W_var {i : Nat} : W (fVar i) d Q ↔ wo (d[i]?) fun s => wo s fun v => match v with
    | .fr x => Q (.val x) d
    | .own _ => Q (.slot i) d := by
  unfold W fVar
  cases e : d[i]? with
  | none => simp
  | some s => cases s with
    | none => simp
    | some v => cases v <;> simp
@[simp] theorem W_op {g : PyData → PyData → Option PyData} {a b : F OV} : W (fOp g a b) d Q ↔ W a d fun o1 d1 => W b d1 fun o2 d2 => wo (rdO o1 d2) fun x => wo (rdO o2 d2) fun y => wo (g x y) fun z => Q (.val z) d2 := by simp [W, fOp]
@[simp] theorem W_ifE {c : F Bool} {a b : F OV} : W (fIfE c a b) d Q ↔ W c d fun t d1 => if t = true then W a d1 Q else W b d1 Q := by simp [W, fIfE]
@[simp] theorem W_andV {a b : F OV} : W (fAndV a b) d Q ↔ W (fB a) d fun t d1 => if t = true then W b d1 Q else Q (.val (.bool false)) d1 := by simp [W, fAndV]
@[simp] theorem W_tup {f : F (List OV)} : W (fTup f) d Q ↔ W f d fun os d1 => wo (plOs os) fun xs => Q (.val (.tuple xs)) d1 := by simp [W, fTup]
@[simp] theorem W_lst {f : F (List OV)} : W (fLst f) d Q ↔ W f d fun os d1 => wo (plOs os) fun xs => Q (.val (.list xs)) d1 := by simp [W, fLst]
@[simp] theorem W_cb {g : List PyData → Option PyData} {f : F (List OV)} : W (fCB g f) d Q ↔ W f d fun os d1 => wo (rdOs d1 os) fun xs => wo (g xs) fun z => Q (.val z) d1 := by simp [W, fCB]
@[simp] theorem W_call {g : List PyData → Option PyData} {f : F (List OV)} : W (fCall g f) d Q ↔ W f d fun os d1 => wo (fzOs os) fun xs => wo (g xs) fun z => Q (.val z) d1 := by simp [W, fCall]
@[simp] theorem W_fld {i : Fi} {f : F OV} : W (fFld i f) d Q ↔ W f d fun o d1 => wo (fzO o) fun x => wo (lisOf x) fun t => Q (.val (i.pick t)) d1 := by simp [W, fFld]
@[simp] theorem W_meth {g : List PyData → Option PyData} {fo : F OV} {fa : F (List OV)} : W (fMeth g fo fa) d Q ↔ W fo d fun o d1 => wo (fzO o) fun x => wo (lisOf x) fun _ => W fa d1 fun os d2 => wo (fzOs os) fun xs => wo (g (x :: xs)) fun z => Q (.val z) d2 := by simp [W, fMeth]
@[simp] theorem W_isi {T : String} {f : F OV} : W (fIsi T f) d Q ↔ W f d fun o d1 => wo (fzO o) fun x => wo (gIsi T x) fun z => Q (.val z) d1 := by simp [W, fIsi]
@[simp] theorem W_sl {fe : F OV} {fl fh : F (Option Int)} : W (fSl fe fl fh) d Q ↔ W fe d fun o d1 => W fl d1 fun l d2 => W fh d2 fun h d3 => wo (rdO o d3) fun x => wo (gSl x l h) fun z => Q (.val z) d3 := by simp [W, fSl]
@[simp] theorem W_sortSet {f : F OV} : W (fSortSet f) d Q ↔ W f d fun o d1 => wo (rdO o d1) fun x => wo (gSortSet x) fun z => Q (.val z) d1 := by simp [W, fSortSet]
@[simp] theorem W_fz {f : F PyData} : W (fFz f) d Q ↔ W f d fun x d1 => Q (.val x) d1 := by simp [W, fFz]
theorem W_lc {fi : F (List PyData)} {g : PyData → SD → Option SD} {tt : F Bool} {te : F OV} {vs : List Nat} : W (fLc fi g tt te vs) d Q ↔ W fi d fun xs d1 => okW vs d1 = true ∧ wo (lcF g tt te vs xs (wipeD d1 vs)) fun z => z.1.length ≤ sizeLine ∧ Q (.val (.list z.1)) (mergeO d1 z.2) := by
  unfold W fLc
  rw [wo_bind]
  constructor
  · intro h; refine wo_mono h fun p q => ?_
    split at q
    · rename_i c
      refine ⟨c, ?_⟩
      rw [wo_bind] at q
      refine wo_mono q fun z q => ?_
      split at q
      · rename_i c2; exact ⟨c2, by simpa using q⟩
      · simp at q
    · simp at q
  · intro h; refine wo_mono h fun p q => ?_
    rw [if_pos q.1, wo_bind]
    refine wo_mono q.2 fun z q => ?_
    rw [if_pos q.1]
    simpa using q.2
/-- a comprehension whose parts change nothing else -/
theorem lcF_pure {g : PyData → SD → Option SD} {tt : F Bool} {te : F OV} {vs : List Nat} {t0 : SD} (p : PyData → Bool) (e : PyData → PyData) : ∀ (xs : List PyData),
    (∀ x ∈ xs, ∃ t1, g x t0 = some t1 ∧ wipeD t1 vs = t0 ∧ tt t1 = some (p x, t1) ∧ (p x = true → ∃ o, te t1 = some (o, t1) ∧ plO o = some (e x))) → lcF g tt te vs xs t0 = some ((xs.filter p).map e, t0)
  | [], _ => rfl
  | x :: r, h => by
    obtain ⟨t1, h1, h2, h3, h4⟩ := h x (List.mem_cons_self ..)
    have ih := lcF_pure p e r fun y hy => h y (List.mem_cons_of_mem _ hy)
    unfold lcF
    rw [h1]
    simp only [Option.bind_some]
    rw [h3]
    simp only [Option.bind_some]
    by_cases c : p x = true
    · obtain ⟨o, h5, h6⟩ := h4 c
      rw [if_pos c, h5]
      simp only [Option.bind_some]
      rw [h6]
      simp only [Option.bind_some]
      rw [h2, ih]
      simp [List.filter_cons, c]
    · rw [if_neg c, h2, ih]
      simp [List.filter_cons, c]
theorem wipe_len (d : SD) : ∀ vs : List Nat, (wipeD d vs).length = d.length
  | [] => rfl
  | v :: vs => by unfold wipeD; rw [List.length_set, wipe_len d vs]
theorem wipe_at (d : SD) : ∀ (vs : List Nat) (i : Nat), (wipeD d vs)[i]? = if i ∈ vs then (if i < d.length then some none else none) else d[i]?
  | [], i => by simp [wipeD]
  | v :: vs, i => by
    unfold wipeD
    rw [List.getElem?_set, wipe_len]
    by_cases h : v = i
    · subst h
      simp
    · rw [if_neg h, wipe_at d vs i]
      have : (i ∈ v :: vs) ↔ i ∈ vs := by
        rw [List.mem_cons]
        constructor
        · rintro (e | e)
          · exact absurd e.symm h
          · exact e
        · exact .inr
      simp only [this]
theorem mergeO_wipe {d : SD} {vs : List Nat} (h : okW vs d = true) : mergeO d (wipeD d vs) = d := by
  unfold mergeO
  apply List.ext_getElem?
  intro i
  rw [List.getElem?_zipWith, wipe_at]
  unfold okW at h
  rw [List.all_eq_true] at h
  cases e : d[i]? with
  | none => simp
  | some s =>
    have hl : i < d.length := (List.getElem?_eq_some_iff.mp e).1
    by_cases hi : i ∈ vs
    · have := h i hi
      rw [e] at this
      rw [if_pos hi, if_pos hl]
      cases s with
      | none => rfl
      | some v => cases v with
        | fr _ => rfl
        | own _ => simp at this
    · rw [if_neg hi]
      cases s with
      | none => rfl
      | some v => cases v <;> rfl
theorem W_lc_pure {fi : F (List PyData)} {g : PyData → SD → Option SD} {tt : F Bool} {te : F OV} {vs : List Nat} {xs : List PyData} (p : PyData → Bool) (e : PyData → PyData) (hi : fi d = some (xs, d)) (ok : okW vs d = true)
    (h : ∀ x ∈ xs, ∃ t1, g x (wipeD d vs) = some t1 ∧ wipeD t1 vs = wipeD d vs ∧ tt t1 = some (p x, t1) ∧ (p x = true → ∃ o, te t1 = some (o, t1) ∧ plO o = some (e x))) (hl : xs.length ≤ sizeLine) (q : Q (.val (.list ((xs.filter p).map e))) d) : W (fLc fi g tt te vs) d Q := by
  rw [W_lc]
  refine W_of hi ⟨ok, ?_⟩
  refine ⟨_, lcF_pure p e xs h, ?_, by rw [mergeO_wipe ok]; exact q⟩
  show ((xs.filter p).map e).length ≤ _
  rw [List.length_map]
  exact Nat.le_trans (List.length_filter_le _ _) hl
end
/-! ### tests, lists of results, walks -/
section
variable {d : SD}
@[simp] theorem W_b {f : F OV} {Q : Bool → SD → Prop} : W (fB f) d Q ↔ W f d fun o d1 => ∃ b, o = .val (.bool b) ∧ Q b d1 := by
  unfold W fB
  rw [wo_bind]
  constructor
  · intro h; refine wo_mono h fun p q => ?_
    obtain ⟨o, d1⟩ := p
    dsimp only at q ⊢
    split at q
    · simp at q; exact ⟨_, rfl, q⟩
    · simp at q
  · intro h; refine wo_mono h fun p q => ?_
    obtain ⟨o, d1⟩ := p
    obtain ⟨b, rfl, q⟩ := q
    simpa using q
@[simp] theorem W_and {f g : F Bool} {Q : Bool → SD → Prop} : W (fAnd f g) d Q ↔ W f d fun b d1 => if b = true then W g d1 Q else Q false d1 := by simp [W, fAnd]
@[simp] theorem W_or {f g : F Bool} {Q : Bool → SD → Prop} : W (fOr f g) d Q ↔ W f d fun b d1 => if b = true then Q true d1 else W g d1 Q := by simp [W, fOr]
@[simp] theorem W_not {f : F Bool} {Q : Bool → SD → Prop} : W (fNot f) d Q ↔ W f d fun b d1 => Q (!b) d1 := by simp [W, fNot]
@[simp] theorem W_yes {Q : Bool → SD → Prop} : W fYes d Q ↔ Q true d := by simp [W, fYes]
@[simp] theorem W_nil {Q : List OV → SD → Prop} : W fNil d Q ↔ Q [] d := by simp [W, fNil]
@[simp] theorem W_cons {f : F OV} {g : F (List OV)} {Q : List OV → SD → Prop} : W (fCons f g) d Q ↔ W f d fun o d1 => W g d1 fun os d2 => Q (o :: os) d2 := by simp [W, fCons]
@[simp] theorem W_items {f : F OV} {Q : List PyData → SD → Prop} : W (fItems f) d Q ↔ W f d fun o d1 => wo (fzO o) fun x => wo (seqOf x) fun xs => Q xs d1 := by simp [W, fItems]
@[simp] theorem W_pn {Q : Option Int → SD → Prop} : W fPn d Q ↔ Q none d := by simp [W, fPn]
@[simp] theorem W_ps {f : F OV} {Q : Option Int → SD → Prop} : W (fPs f) d Q ↔ W f d fun o d1 => ∃ i, o = .val (.int i) ∧ Q (some i) d1 := by
  unfold W fPs
  rw [wo_bind]
  constructor
  · intro h; refine wo_mono h fun p q => ?_
    obtain ⟨o, d1⟩ := p
    dsimp only at q ⊢
    split at q
    · simp at q; exact ⟨_, rfl, q⟩
    · simp at q
  · intro h; refine wo_mono h fun p q => ?_
    obtain ⟨o, d1⟩ := p
    obtain ⟨b, rfl, q⟩ := q
    simpa using q
@[simp] theorem W_olst {f : F (List OV)} {Q : PyData → SD → Prop} : W (fOLst f) d Q ↔ W f d fun os d1 => wo (plOs os) fun xs => Q (.list xs) d1 := by simp [W, fOLst]
@[simp] theorem W_newS {Q : PyData → SD → Prop} : W fONewS d Q ↔ Q (.dict []) d := by simp [W, fONewS]
@[simp] theorem W_newT {Q : PyData → SD → Prop} : W fONewT d Q ↔ Q (tdic []) d := by simp [W, fONewT]
@[simp] theorem W_range {f : F OV} {Q : List PyData → SD → Prop} : W (fRange (fCons f fNil)) d Q ↔ W f d fun o d1 => ∃ n : Int, o = .val (.int n) ∧ (-(2 ^ 62) ≤ n ∧ n < 2 ^ 62) ∧ Q ((List.range n.toNat).map (fun (i : Nat) => .int (i : Int))) d1 := by
  unfold W fRange fCons fNil
  simp only [wo_bind, wo_some]
  constructor
  · intro h; refine wo_mono h fun p q => ?_
    obtain ⟨o, d1⟩ := p
    dsimp only at q ⊢
    split at q
    · rename_i n e
      cases e
      split at q
      · rename_i c; simp at q; exact ⟨n, rfl, c, q⟩
      · simp at q
    · simp at q
  · intro h; refine wo_mono h fun p q => ?_
    obtain ⟨o, d1⟩ := p
    obtain ⟨n, rfl, c, q⟩ := q
    simp only []
    rw [if_pos c]
    simpa using q
@[simp] theorem W_enum {f : F OV} {Q : List PyData → SD → Prop} : W (fEnum (fCons f fNil)) d Q ↔ W f d fun o d1 => wo (fzO o) fun x => wo (seqOf x) fun xs => Q (xs.mapIdx (fun i x => .tuple [.int (i : Nat), x])) d1 := by simp [W, fEnum, fCons, fNil]
@[simp] theorem W_zip {f g : F OV} {Q : List PyData → SD → Prop} : W (fZip (fCons f (fCons g fNil))) d Q ↔ W f d fun o d1 => W g d1 fun o' d2 => wo (fzO o) fun x => wo (fzO o') fun y => wo (seqOf x) fun xs => wo (seqOf y) fun ys => Q (List.zipWith (fun x y => .tuple [x, y]) xs ys) d2 := by simp [W, fZip, fCons, fNil]
end
/-! ### loops -/
def FW (g : PyData → SD → Option SD) (b : F Fl) (xs : List PyData) (d : SD) (Q : Fl → SD → Prop) : Prop := wo (forF g b xs d) fun p => Q p.1 p.2
theorem W_for {fi : F (List PyData)} {g : PyData → SD → Option SD} {b : F Fl} {d : SD} {Q : Fl → SD → Prop} : W (fFor fi g b) d Q ↔ W fi d fun xs d1 => FW g b xs d1 Q := by simp [W, fFor, FW]
/-- a loop with an invariant: I k d before the k-th turn -/
theorem for_inv {g : PyData → SD → Option SD} {b : F Fl} {Q : Fl → SD → Prop} (I : Nat → SD → Prop) (xs : List PyData) (d : SD) (h0 : I 0 d)
    (step : ∀ i x d, xs[i]? = some x → I i d → wo (g x d) fun d1 => W b d1 fun fl d2 => match fl with
      | .nx => I (i + 1) d2
      | .ct => I (i + 1) d2
      | .bk => Q .nx d2
      | .rt z => Q (.rt z) d2
      | .ro z => Q (.ro z) d2) (fin : ∀ d, I xs.length d → Q .nx d) : FW g b xs d Q := by
  have main : ∀ (n i : Nat) (d : SD), xs.length - i = n → i ≤ xs.length → I i d → wo (forF g b (xs.drop i) d) fun p => Q p.1 p.2 := by
    intro n
    induction n with
    | zero =>
      intro i d hn hi h
      have : i = xs.length := by omega
      subst this
      rw [List.drop_length]
      simp only [forF, wo_some]
      exact fin d h
    | succ n ih =>
      intro i d hn hi h
      have hi' : i < xs.length := by omega
      rw [List.drop_eq_getElem_cons hi']
      unfold forF
      rw [wo_bind]
      refine wo_mono (step i _ d (List.getElem?_eq_getElem hi') h) fun d1 q => ?_
      rw [wo_bind]
      refine wo_mono q fun p q => ?_
      obtain ⟨fl, d2⟩ := p
      cases fl with
      | nx => exact ih (i + 1) d2 (by omega) hi' q
      | ct => exact ih (i + 1) d2 (by omega) hi' q
      | bk => simpa using q
      | rt z => simpa using q
      | ro z => simpa using q
  exact main _ 0 d rfl (Nat.zero_le _) h0
end DL

set_option maxRecDepth 100000
set_option linter.all false
set_option maxHeartbeats 2000000
/-! M1: texts and tuples of such: equality, order, sorting. -/
namespace DL
open PySem PySem.W PyProof.Rows
mutual
theorem toks_inj : ∀ (x y : PyData), isKey x = true → isKey y = true → ∀ l m, keyToks x ++ l = keyToks y ++ m → x = y ∧ l = m
  | .str a, .str b, _, _, l, m, h => by
    simp only [keyToks, List.cons_append, List.nil_append, List.cons.injEq, Sum.inr.injEq] at h
    exact ⟨by rw [str_of_cps h.1], h.2⟩
  | .str a, .tuple [], _, _, l, m, h => by simp [keyToks, keyToksAll] at h
  | .str a, .tuple (_ :: _), _, _, l, m, h => by simp [keyToks, keyToksAll] at h
  | .tuple [], .str a, _, _, l, m, h => by simp [keyToks, keyToksAll] at h
  | .tuple (_ :: _), .str a, _, _, l, m, h => by simp [keyToks, keyToksAll] at h
  | .tuple xs, .tuple ys, hx, hy, l, m, h => by
    simp only [keyToks] at h
    obtain ⟨e1, e2⟩ := toksAll_inj xs ys (by simpa [isKey] using hx) (by simpa [isKey] using hy) l m h
    exact ⟨by rw [e1], e2⟩
  | .none, _, h, _, _, _, _ => by simp [isKey] at h
  | .bool _, _, h, _, _, _, _ => by simp [isKey] at h
  | .int _, _, h, _, _, _, _ => by simp [isKey] at h
  | .list _, _, h, _, _, _, _ => by simp [isKey] at h
  | .dict _, _, h, _, _, _, _ => by simp [isKey] at h
  | .str _, .none, _, h, _, _, _ => by simp [isKey] at h
  | .str _, .bool _, _, h, _, _, _ => by simp [isKey] at h
  | .str _, .int _, _, h, _, _, _ => by simp [isKey] at h
  | .str _, .list _, _, h, _, _, _ => by simp [isKey] at h
  | .str _, .dict _, _, h, _, _, _ => by simp [isKey] at h
  | .tuple _, .none, _, h, _, _, _ => by simp [isKey] at h
  | .tuple _, .bool _, _, h, _, _, _ => by simp [isKey] at h
  | .tuple _, .int _, _, h, _, _, _ => by simp [isKey] at h
  | .tuple _, .list _, _, h, _, _, _ => by simp [isKey] at h
  | .tuple _, .dict _, _, h, _, _, _ => by simp [isKey] at h
theorem toksAll_inj : ∀ (xs ys : List PyData), areKeys xs = true → areKeys ys = true → ∀ l m, keyToksAll xs ++ l = keyToksAll ys ++ m → xs = ys ∧ l = m
  | [], [], _, _, l, m, h => by
    simp only [keyToksAll, List.cons_append, List.nil_append, List.cons.injEq] at h
    exact ⟨rfl, h.2⟩
  | [], _ :: _, _, _, l, m, h => by simp [keyToksAll] at h
  | _ :: _, [], _, _, l, m, h => by simp [keyToksAll] at h
  | x :: xs, y :: ys, hx, hy, l, m, h => by
    simp only [areKeys, Bool.and_eq_true] at hx hy
    simp only [keyToksAll, List.cons_append, List.append_assoc, List.cons.injEq, true_and] at h
    obtain ⟨e1, e2⟩ := toks_inj x y hx.1 hy.1 _ _ h
    obtain ⟨e3, e4⟩ := toksAll_inj xs ys hx.2 hy.2 _ _ e2
    exact ⟨by rw [e1, e3], e4⟩
end
mutual
theorem key_eqv : ∀ (x y : PyData), isKey x = true → isKey y = true → (PyData.eqv x y = true ↔ x = y)
  | .str a, .str b, _, _ => by rw [PyData.eqv]; simp
  | .str a, .tuple _, _, _ => by rw [PyData.eqv]; simp
  | .tuple _, .str a, _, _ => by rw [PyData.eqv]; simp
  | .tuple xs, .tuple ys, hx, hy => by
    rw [PyData.eqv, keys_eqv xs ys (by simpa [isKey] using hx) (by simpa [isKey] using hy)]
    simp
  | .none, _, h, _ => by simp [isKey] at h
  | .bool _, _, h, _ => by simp [isKey] at h
  | .int _, _, h, _ => by simp [isKey] at h
  | .list _, _, h, _ => by simp [isKey] at h
  | .dict _, _, h, _ => by simp [isKey] at h
  | .str _, .none, _, h => by simp [isKey] at h
  | .str _, .bool _, _, h => by simp [isKey] at h
  | .str _, .int _, _, h => by simp [isKey] at h
  | .str _, .list _, _, h => by simp [isKey] at h
  | .str _, .dict _, _, h => by simp [isKey] at h
  | .tuple _, .none, _, h => by simp [isKey] at h
  | .tuple _, .bool _, _, h => by simp [isKey] at h
  | .tuple _, .int _, _, h => by simp [isKey] at h
  | .tuple _, .list _, _, h => by simp [isKey] at h
  | .tuple _, .dict _, _, h => by simp [isKey] at h
theorem keys_eqv : ∀ (xs ys : List PyData), areKeys xs = true → areKeys ys = true → (PyData.eqvAll xs ys = true ↔ xs = ys)
  | [], [], _, _ => by rw [PyData.eqvAll]; simp
  | [], _ :: _, _, _ => by rw [PyData.eqvAll]; simp
  | _ :: _, [], _, _ => by rw [PyData.eqvAll]; simp
  | x :: xs, y :: ys, hx, hy => by
    simp only [areKeys, Bool.and_eq_true] at hx hy
    rw [PyData.eqvAll, Bool.and_eq_true, key_eqv x y hx.1 hy.1, keys_eqv xs ys hx.2 hy.2]
    simp
end
noncomputable instance : DecidableEq PyData := fun a b => Classical.propDecidable (a = b)
theorem key_eqv' {x y : PyData} (hx : isKey x = true) (hy : isKey y = true) : PyData.eqv x y = decide (x = y) := by
  by_cases h : x = y
  · rw [decide_eq_true h]; exact (key_eqv x y hx hy).mpr h
  · rw [decide_eq_false h]
    cases e : PyData.eqv x y with
    | false => rfl
    | true => exact absurd ((key_eqv x y hx hy).mp e) h
/-! ### order -/
theorem lt_irr (x : PyData) : dataLt x x = false := lex_irrefl _
theorem lt_tr {x y z : PyData} (h : dataLt x y = true) (h' : dataLt y z = true) : dataLt x z = true := lex_trans _ _ _ h h'
theorem lt_as {x y : PyData} (h : dataLt x y = true) : dataLt y x = false := by
  cases e : dataLt y x with
  | false => rfl
  | true => have := lt_tr h e; rw [lt_irr] at this; cases this
theorem lt_tot {x y : PyData} (hx : isKey x = true) (hy : isKey y = true) (h : dataLt x y = false) (h' : dataLt y x = false) : x = y := by
  have := lex_total (O := itemOrd) _ _ h h'
  exact (toks_inj x y hx hy [] [] (by rw [List.append_nil, List.append_nil]; exact this)).1
/-- strictly upwards -/
abbrev Up (ds : List PyData) : Prop := ds.Pairwise fun a b => dataLt a b = true
theorem Up.nodup {ds : List PyData} (h : Up ds) : ds.Nodup := h.imp fun {a b} h e => by subst e; rw [lt_irr] at h; cases h
theorem sortD_mem {ds : List PyData} {x : PyData} : x ∈ sortD ds ↔ x ∈ ds := by unfold sortD; exact List.mem_mergeSort
theorem sortD_length {ds : List PyData} : (sortD ds).length = ds.length := by unfold sortD; exact List.length_mergeSort ..
theorem sortD_nodup {ds : List PyData} (h : ds.Nodup) : (sortD ds).Nodup := (List.mergeSort_perm ds _).nodup_iff.mpr h
theorem sortD_up {ds : List PyData} (hk : ∀ d ∈ ds, isKey d = true) (hn : ds.Nodup) : Up (sortD ds) := by
  have h1 : (sortD ds).Pairwise (fun a b => dataLe false id a b = true) := sort_pairwise (sortLe_total (listOrd itemOrd) false _) ds
  have h2 := sortD_nodup hn
  have h3 : (sortD ds).Pairwise fun a b => a ∈ sortD ds ∧ b ∈ sortD ds := List.pairwise_iff_forall_sublist.mpr fun {a b} s => ⟨s.subset (by simp), s.subset (by simp)⟩
  refine ((h1.and h2).and h3).imp fun {a b} h => ?_
  obtain ⟨⟨e1, e2⟩, e3, e4⟩ := h
  have e1' : dataLt b a = false := by
    have : (!dataLt b a) = true := e1
    simpa using this
  cases e : dataLt a b with
  | true => rfl
  | false => exact absurd (lt_tot (hk a (sortD_mem.mp e3)) (hk b (sortD_mem.mp e4)) e e1') e2
theorem sortD_of_up {ds : List PyData} (h : Up ds) : sortD ds = ds := by
  unfold sortD
  refine List.mergeSort_of_pairwise (h.imp fun {a b} h => ?_)
  show (!dataLt b a) = true
  rw [lt_as h]; rfl
theorem up_unique : ∀ {a b : List PyData}, Up a → Up b → (∀ x, x ∈ a ↔ x ∈ b) → a = b
  | [], [], _, _, _ => rfl
  | [], y :: _, _, _, h => by have := (h y).mpr (by simp); cases this
  | x :: _, [], _, _, h => by have := (h x).mp (by simp); cases this
  | x :: xs, y :: ys, ha, hb, h => by
    have ha' := List.pairwise_cons.mp ha
    have hb' := List.pairwise_cons.mp hb
    have e : x = y := by
      rcases List.mem_cons.mp ((h x).mp (by simp)) with e | e
      · exact e
      · rcases List.mem_cons.mp ((h y).mpr (by simp)) with e' | e'
        · exact e'.symm
        · have q1 := hb'.1 _ e
          have q2 := ha'.1 _ e'
          rw [lt_as q1] at q2; cases q2
    subst e
    have n1 : x ∉ xs := fun z => by have := ha'.1 _ z; rw [lt_irr] at this; cases this
    have n2 : x ∉ ys := fun z => by have := hb'.1 _ z; rw [lt_irr] at this; cases this
    rw [up_unique ha'.2 hb'.2 fun z => ?_]
    constructor
    · intro hz
      rcases List.mem_cons.mp ((h z).mp (List.mem_cons_of_mem _ hz)) with e | e
      · subst e; exact absurd hz n1
      · exact e
    · intro hz
      rcases List.mem_cons.mp ((h z).mpr (List.mem_cons_of_mem _ hz)) with e | e
      · subst e; exact absurd hz n2
      · exact e
theorem up_filter {ds : List PyData} (h : Up ds) (p : PyData → Bool) : Up (ds.filter p) := h.filter _
theorem up_sub {a b : List PyData} (h : Up b) (s : a.Sublist b) : Up a := h.sublist s
/-- the texts as data -/
abbrev tx (fs : List Str) : List PyData := fs.map PyData.str
/-- dict([(f, True) for f in fs]) -/
def bd (fs : List Str) : PyData := .dict (mergeD [] (fs.map fun f => (PyData.str f, PyData.bool true)))
theorem putD_text {kvs : List (PyData × PyData)} (h : textK kvs = true) (f : Str) (v : PyData) : textK (putD kvs (.str f) v) = true ∧ ∀ a : Str, (valD (putD kvs (.str f) v) (.str a)).isSome = ((valD kvs (.str a)).isSome || decide (a = f)) := by
  have hk : ∀ kv ∈ kvs, ∃ x, kv.1 = .str x := fun kv hm => by
    unfold textK at h
    have := List.all_eq_true.mp h kv hm
    split at this
    · rename_i x e; exact ⟨x, e⟩
    · cases this
  have eqs : ∀ x y : Str, PyData.eqv (.str x) (.str y) = decide (x = y) := fun x y => by rw [key_eqv' rfl rfl]; simp
  have vs : ∀ (l : List (PyData × PyData)) (k : PyData), (valD l k).isSome = l.any fun kv => PyData.eqv kv.1 k := fun l k => by
    unfold valD
    rw [Option.isSome_map]
    induction l with
    | nil => rfl
    | cons x l ih => 
      rw [List.find?_cons, List.any_cons]
      cases PyData.eqv x.1 k with
      | true => rfl
      | false => simpa using ih
  constructor
  · unfold putD
    split
    · unfold textK
      rw [List.all_map]
      unfold textK at h
      refine List.all_eq_true.mpr fun kv hm => ?_
      have := List.all_eq_true.mp h kv hm
      simp only [Function.comp]
      by_cases c : PyData.eqv kv.1 (.str f) = true
      · rw [if_pos c]; exact this
      · rw [if_neg c]; exact this
    · unfold textK at h ⊢
      rw [List.all_append, h]; rfl
  · intro a
    rw [vs, vs]
    unfold putD
    split
    · rename_i c
      rw [List.any_map]
      have : ((fun kv : PyData × PyData => PyData.eqv kv.1 (.str a)) ∘ fun kv => if PyData.eqv kv.1 (.str f) = true then (kv.1, v) else kv) = fun kv : PyData × PyData => PyData.eqv kv.1 (.str a) := by
        funext kv; simp only [Function.comp]; split <;> rfl
      rw [this]
      by_cases e : a = f
      · subst e; rw [c]; simp
      · simp [e]
    · rw [List.any_append]
      simp only [List.any_cons, List.any_nil, Bool.or_false, eqs]
      by_cases e : a = f
      · subst e; simp
      · rw [decide_eq_false e, decide_eq_false (fun z => e z.symm)]
theorem bd_ok (fs : List Str) : ∃ kvs, bd fs = .dict kvs ∧ textK kvs = true ∧ ∀ a : Str, (valD kvs (.str a)).isSome = decide (a ∈ fs) := by
  refine ⟨_, rfl, ?_⟩
  suffices h : ∀ (fs : List Str) (kvs : List (PyData × PyData)), textK kvs = true → textK (mergeD kvs (fs.map fun f => (PyData.str f, PyData.bool true))) = true ∧ ∀ a : Str, (valD (mergeD kvs (fs.map fun f => (PyData.str f, PyData.bool true))) (.str a)).isSome = ((valD kvs (.str a)).isSome || decide (a ∈ fs)) by
    obtain ⟨h1, h2⟩ := h fs [] rfl
    exact ⟨h1, fun a => by rw [h2]; simp [valD]⟩
  intro fs
  induction fs with
  | nil => intro kvs h; exact ⟨h, fun a => by simp [mergeD]⟩
  | cons f r ih =>
    intro kvs h
    obtain ⟨h1, h2⟩ := putD_text h f (.bool true)
    obtain ⟨h3, h4⟩ := ih _ h1
    refine ⟨h3, fun a => ?_⟩
    have := h4 a
    rw [h2] at this
    show (valD (mergeD (putD kvs (.str f) (.bool true)) _) _).isSome = _
    rw [this]
    simp [Bool.or_assoc]
/-! ### the first defs -/
theorem runF_of {N : List Str} {b : F Fl} {xs : List PyData} {z : PyData} (h : W b (startD N xs) fun fl _ => fl = .rt z) : runF N b xs = some z := by
  obtain ⟨⟨fl, d⟩, e, q⟩ := h
  dsimp only at q
  subst q
  unfold runF
  rw [e]; rfl
theorem runO_of {N : List Str} {b : F Fl} {xs : List PyData} {z : PyData} (h : W b (startD N xs) fun fl _ => fl = .ro z) : runO N b xs = some z := by
  obtain ⟨⟨fl, d⟩, e, q⟩ := h
  dsimp only at q
  subst q
  unfold runO
  rw [e]; rfl
@[simp] theorem eqv_bool (a b : Bool) : PyData.eqv (.bool a) (.bool b) = (a == b) := by rw [PyData.eqv]
@[simp] theorem eqv_int (a b : Int) : PyData.eqv (.int a) (.int b) = (a == b) := by rw [PyData.eqv]
@[simp] theorem eqv_list (a b : List PyData) : PyData.eqv (.list a) (.list b) = PyData.eqvAll a b := by rw [PyData.eqv]
@[simp] theorem eqv_tup (a b : List PyData) : PyData.eqv (.tuple a) (.tuple b) = PyData.eqvAll a b := by rw [PyData.eqv]
@[simp] theorem eqvAll_nil (a : List PyData) : PyData.eqvAll a [] = a.isEmpty := by cases a <;> rw [PyData.eqvAll] <;> rfl
theorem f_tells (fs : List Str) (a b : Str) : F_tells_apart [bd fs, .str a, .str b] = some (.bool (decide (a ∈ fs) != decide (b ∈ fs))) := by
  obtain ⟨kvs, e, h1, h2⟩ := bd_ok fs
  rw [e]
  refine runF_of ?_
  unfold fb_tells_apart
  simp [W_var, startD, W, fInS, fVar, fzO, rdO, h1, h2, gEq, isDic, PyData.depth, fRet, fOp, bne]
end DL

set_option maxRecDepth 100000
set_option linter.all false
set_option maxHeartbeats 2000000
/-! M2: labels; not_told_by, labels_between, pairs_apart. -/
namespace DL
open PySem PySem.W PyProof.Rows
theorem ev {α : Type} {f : F α} {d d' : SD} {a : α} (h : W f d fun x y => x = a ∧ y = d') : f d = some (a, d') := W_eq.mp h
theorem lc_fil {fi : F (List PyData)} {g : PyData → SD → Option SD} {tt : F Bool} {te : F OV} {vs : List Nat} {d : SD} {xs : List PyData} (p : PyData → Bool) (e : PyData → PyData) (hi : fi d = some (xs, d)) (ok : okW vs d = true)
    (h : ∀ x ∈ xs, ∃ t1, g x (wipeD d vs) = some t1 ∧ wipeD t1 vs = wipeD d vs ∧ tt t1 = some (p x, t1) ∧ (p x = true → ∃ o, te t1 = some (o, t1) ∧ plO o = some (e x))) (hl : xs.length ≤ sizeLine) : fLc fi g tt te vs d = some (.val (.list ((xs.filter p).map e)), d) :=
  ev (W_lc_pure p e hi ok h hl ⟨rfl, rfl⟩)
theorem lc_map {fi : F (List PyData)} {g : PyData → SD → Option SD} {te : F OV} {vs : List Nat} {d : SD} {xs : List PyData} (e : PyData → PyData) (hi : fi d = some (xs, d)) (ok : okW vs d = true)
    (h : ∀ x ∈ xs, ∃ t1, g x (wipeD d vs) = some t1 ∧ wipeD t1 vs = wipeD d vs ∧ ∃ o, te t1 = some (o, t1) ∧ plO o = some (e x)) (hl : xs.length ≤ sizeLine) : fLc fi g fYes te vs d = some (.val (.list (xs.map e)), d) := by
  rw [lc_fil (fun _ => true) e hi ok (fun x hx => ?_) hl]
  · rw [List.filter_eq_self.mpr fun _ _ => rfl]
  · obtain ⟨t1, h1, h2, o, h3, h4⟩ := h x hx
    exact ⟨t1, h1, h2, rfl, fun _ => ⟨o, h3, h4⟩⟩
theorem boolsOf_map {α : Type} (f : α → Bool) : ∀ xs : List α, boolsOf (xs.map fun x => .bool (f x)) = some (xs.map f)
  | [] => rfl
  | x :: r => by simp [boolsOf, boolsOf_map f r]
/-! ### labels -/
def lbF (p : List Str) : PyData := .tuple [.str "folder", .tuple (tx p)]
def lbM (m : Str) : PyData := .tuple [.str "mark", .str m]
def IsLb (l : PyData) : Prop := (∃ p, p.length ≤ 100 ∧ l = lbF p) ∨ ∃ m, l = lbM m
theorem areKeys_tx : ∀ p : List Str, areKeys (tx p) = true
  | [] => by simp [areKeys]
  | _ :: r => by
    have := areKeys_tx r
    simp only [List.map_cons, areKeys, isKey, Bool.true_and]
    exact this
theorem depth_tx : ∀ p : List Str, PyData.depthAll (tx p) ≤ 1
  | [] => by simp [PyData.depthAll]
  | _ :: r => by
    have : PyData.depthAll (List.map PyData.str r) ≤ 1 := depth_tx r
    simp only [List.map_cons, PyData.depthAll, PyData.depth]
    omega
theorem IsLb.key {l : PyData} (h : IsLb l) : isKey l = true := by
  rcases h with ⟨p, _, rfl⟩ | ⟨m, rfl⟩
  · simp [lbF, isKey, areKeys, areKeys_tx]
  · simp [lbM, isKey, areKeys]
theorem IsLb.depth {l : PyData} (h : IsLb l) : l.depth ≤ 4 := by
  rcases h with ⟨p, _, rfl⟩ | ⟨m, rfl⟩
  · have := depth_tx p
    simp only [lbF, PyData.depth, PyData.depthAll]
    omega
  · simp [lbM, PyData.depth, PyData.depthAll]
theorem IsLb.tup {l : PyData} (h : IsLb l) : tupKey l = true := by
  rcases h with ⟨p, _, rfl⟩ | ⟨m, rfl⟩
  · have := depth_tx p
    simp [lbF, tupKey, areKeys, isKey, areKeys_tx, PyData.depthAll, PyData.depth]
    omega
  · simp [lbM, tupKey, areKeys, isKey, PyData.depthAll, PyData.depth]
theorem IsLb.hd {l : PyData} (h : IsLb l) : isHd l = true := by
  rcases h with ⟨p, _, rfl⟩ | ⟨m, rfl⟩ <;> rfl
theorem IsLb.plain {l : PyData} (h : IsLb l) : plO (.val l) = some l := by
  rcases h with ⟨p, _, rfl⟩ | ⟨m, rfl⟩ <;> rfl
theorem IsLb.ndic {l : PyData} (h : IsLb l) : isDic l = false := by
  rcases h with ⟨p, _, rfl⟩ | ⟨m, rfl⟩ <;> rfl
theorem IsLb.cmp {a b : PyData} (h : IsLb a) (h' : IsLb b) : cmpD a b = true := by
  rcases h with ⟨p, _, rfl⟩ | ⟨m, rfl⟩ <;> rcases h' with ⟨q, _, rfl⟩ | ⟨n, rfl⟩
  · have : alikeAll (tx p) (tx q) = true := alike_txs (by simp [isTx]) (by simp [isTx])
    simp [cmpD, lbF, alike, alikeAll, this]
  · unfold cmpD lbF lbM
    simp only [Bool.or_eq_true]
    exact .inr (by decide +kernel)
  · unfold cmpD lbF lbM
    simp only [Bool.or_eq_true]
    exact .inr (by decide +kernel)
  · simp [cmpD, lbM, alike, alikeAll]
theorem any_mem {cs : List PyData} {l : PyData} (hl : isKey l = true) (hc : ∀ c ∈ cs, isKey c = true) : (cs.any fun z => PyData.eqv z l) = decide (l ∈ cs) := by
  induction cs with
  | nil => simp
  | cons c r ih =>
    rw [List.any_cons, ih fun c h => hc c (List.mem_cons_of_mem _ h), key_eqv' (hc c (by simp)) hl]
    by_cases e : c = l
    · subst e; simp
    · have : ¬ l = c := fun z => e z.symm
      simp [e, this]
/-- l in cs -/
theorem in_val {cs : List PyData} {l a : PyData} (hl : IsLb l) (hc : ∀ c ∈ cs, IsLb c) (ha : seqOf a = some cs) : gIn true l a = some (.bool (decide (l ∈ cs))) := by
  unfold gIn
  rw [if_pos ⟨hl.ndic, Nat.le_trans hl.depth (by decide)⟩, ha]
  simp only [Option.bind_some, if_true]
  rw [any_mem hl.key fun c h => (hc c h).key]
/-! ### pairs of forms -/
def pr (a b : Str) (bt : List PyData) : PyData := .tuple [.str a, .str b, .list bt]
structure Pr where
  a : Str
  b : Str
  bt : List PyData
def Pr.d (p : Pr) : PyData := pr p.a p.b p.bt
abbrev prs (ps : List Pr) : List PyData := ps.map Pr.d
def Pr.ok (p : Pr) : Prop := p.bt.length ≤ 100 ∧ ∀ l ∈ p.bt, IsLb l
/-- is the pair told apart by a label of cs -/
noncomputable def Pr.hit (p : Pr) (cs : List PyData) : Bool := p.bt.any fun l => decide (l ∈ cs)
theorem filter_map' {α β : Type} (f : α → β) (p : β → Bool) (l : List α) : (l.map f).filter p = (l.filter (p ∘ f)).map f := by
  induction l with
  | nil => rfl
  | cons x r ih => simp only [List.map_cons, List.filter_cons, ih, Function.comp]; split <;> simp
theorem f_nottold {ps : List Pr} {cs : List PyData} {ch : PyData} (hp : ∀ p ∈ ps, p.ok) (hn : ps.length ≤ 1000) (hc : ∀ c ∈ cs, IsLb c) (hch : seqOf ch = some cs) : F_not_told_by [.list (prs ps), ch] = some (.list (prs (ps.filter fun p => !p.hit cs))) := by
  refine runF_of ?_
  unfold fb_not_told_by
  have key : ∀ p ∈ ps, ∀ d : SD, d = [some (.fr (.list (prs ps))), some (.fr ch), some (.fr p.d), none] →
      fLc (fItems (fOp gIx (fVar 2) (fC (.int 2)))) (gN 3) fYes (fOp (gIn true) (fVar 3) (fVar 1)) [3] d = some (.val (.list (p.bt.map fun l => .bool (decide (l ∈ cs)))), d) := by
    intro p hpm d hd
    subst hd
    refine lc_map (fun l => .bool (decide (l ∈ cs))) (xs := p.bt) ?_ rfl (fun l hl => ?_) (Nat.le_trans (hp p hpm).1 (by decide))
    · rfl
    · refine ⟨[some (.fr (.list (prs ps))), some (.fr ch), some (.fr p.d), some (.fr l)], rfl, rfl, .val (.bool (decide (l ∈ cs))), ev ?_, rfl⟩
      have := in_val ((hp p hpm).2 l hl) hc hch
      simp [W_var, rdO, this]
  have main : fLc (fItems (fVar 0)) (gN 2) (fNot (fB (fCB gAny (fCons (fLc (fItems (fOp gIx (fVar 2) (fC (.int 2)))) (gN 3) fYes (fOp (gIn true) (fVar 3) (fVar 1)) [3]) fNil)))) (fVar 2) [2] (startD N_not_told_by [.list (prs ps), ch]) = some (.val (.list (prs (ps.filter fun p => !p.hit cs))), startD N_not_told_by [.list (prs ps), ch]) := by
    have := lc_fil (fi := fItems (fVar 0)) (g := gN 2) (tt := fNot (fB (fCB gAny (fCons (fLc (fItems (fOp gIx (fVar 2) (fC (.int 2)))) (gN 3) fYes (fOp (gIn true) (fVar 3) (fVar 1)) [3]) fNil)))) (te := fVar 2) (vs := [2]) (d := startD N_not_told_by [.list (prs ps), ch]) (xs := prs ps)
      (fun x => match x with | .tuple [_, _, .list bt] => !(bt.any fun l => decide (l ∈ cs)) | _ => false) id rfl rfl (fun x hx => ?_) (by rw [List.length_map]; exact Nat.le_trans hn (by decide))
    · rw [this, List.map_id, filter_map']
      rfl
    · obtain ⟨p, hpm, rfl⟩ := List.mem_map.mp hx
      refine ⟨[some (.fr (.list (prs ps))), some (.fr ch), some (.fr p.d), none], rfl, rfl, ev ?_, fun _ => ⟨.val p.d, rfl, rfl⟩⟩
      simp only [W_not, W_b, W_cb, W_cons, W_nil]
      refine W_of (key p hpm _ rfl) ?_
      simp [rdOs, rdO, gAny, boolsOf_map, Pr.d, pr]
  simp only [W_ret]
  exact W_of main (by simp [fzO])
end DL

set_option maxRecDepth 100000
set_option linter.all false
set_option maxHeartbeats 2000000
/-! M3: walks over lists of anything; the table of labels; labels_between, pairs_apart. -/
namespace DL
open PySem PySem.W PyProof.Rows
theorem lcF_as {α : Type} {g : PyData → SD → Option SD} {tt : F Bool} {te : F OV} {vs : List Nat} {t0 : SD} (k : α → PyData) (p : α → Bool) (e : α → PyData) : ∀ (as : List α),
    (∀ x ∈ as, ∃ t1, g (k x) t0 = some t1 ∧ wipeD t1 vs = t0 ∧ tt t1 = some (p x, t1) ∧ (p x = true → ∃ o, te t1 = some (o, t1) ∧ plO o = some (e x))) → lcF g tt te vs (as.map k) t0 = some ((as.filter p).map e, t0)
  | [], _ => rfl
  | x :: r, h => by
    obtain ⟨t1, h1, h2, h3, h4⟩ := h x (List.mem_cons_self ..)
    have ih := lcF_as k p e r fun y hy => h y (List.mem_cons_of_mem _ hy)
    rw [List.map_cons]
    unfold lcF
    rw [h1]
    simp only [Option.bind_some]
    rw [h3]
    simp only [Option.bind_some]
    by_cases c : p x = true
    · obtain ⟨o, h5, h6⟩ := h4 c
      rw [if_pos c, h5]
      simp only [Option.bind_some]
      rw [h6]
      simp only [Option.bind_some]
      rw [h2, ih]
      simp [List.filter_cons, c]
    · rw [if_neg c, h2, ih]
      simp [List.filter_cons, c]
theorem lc_as {α : Type} {fi : F (List PyData)} {g : PyData → SD → Option SD} {tt : F Bool} {te : F OV} {vs : List Nat} {d : SD} {as : List α} (k : α → PyData) (p : α → Bool) (e : α → PyData) (hi : fi d = some (as.map k, d)) (ok : okW vs d = true)
    (h : ∀ x ∈ as, ∃ t1, g (k x) (wipeD d vs) = some t1 ∧ wipeD t1 vs = wipeD d vs ∧ tt t1 = some (p x, t1) ∧ (p x = true → ∃ o, te t1 = some (o, t1) ∧ plO o = some (e x))) (hl : as.length ≤ sizeLine) : fLc fi g tt te vs d = some (.val (.list ((as.filter p).map e)), d) := by
  refine ev ?_
  rw [W_lc]
  refine W_of hi ⟨ok, ?_⟩
  refine ⟨_, lcF_as k p e as h, ?_, rfl, mergeO_wipe ok⟩
  show ((as.filter p).map e).length ≤ _
  rw [List.length_map]
  exact Nat.le_trans (List.length_filter_le _ _) hl
theorem lc_all {α : Type} {fi : F (List PyData)} {g : PyData → SD → Option SD} {te : F OV} {vs : List Nat} {d : SD} {as : List α} (k : α → PyData) (e : α → PyData) (hi : fi d = some (as.map k, d)) (ok : okW vs d = true)
    (h : ∀ x ∈ as, ∃ t1, g (k x) (wipeD d vs) = some t1 ∧ wipeD t1 vs = wipeD d vs ∧ ∃ o, te t1 = some (o, t1) ∧ plO o = some (e x)) (hl : as.length ≤ sizeLine) : fLc fi g fYes te vs d = some (.val (.list (as.map e)), d) := by
  rw [lc_as k (fun _ => true) e hi ok (fun x hx => ?_) hl]
  · rw [List.filter_eq_self.mpr fun _ _ => rfl]
  · obtain ⟨t1, h1, h2, o, h3, h4⟩ := h x hx
    exact ⟨t1, h1, h2, rfl, fun _ => ⟨o, h3, h4⟩⟩
/-- what a turn leaves -/
abbrev Turn (J : SD → Prop) (Q : Fl → SD → Prop) : Fl → SD → Prop := fun fl d2 => match fl with
  | .nx => J d2
  | .ct => J d2
  | .bk => Q .nx d2
  | .rt z => Q (.rt z) d2
  | .ro z => Q (.ro z) d2
theorem for_list {α : Type} {g : PyData → SD → Option SD} {b : F Fl} {Q : Fl → SD → Prop} {d : SD} (k : α → PyData) (as : List α) (I : List α → SD → Prop) (h0 : I [] d)
    (step : ∀ pre a suf d, as = pre ++ a :: suf → I pre d → wo (g (k a) d) fun d1 => W b d1 (Turn (I (pre ++ [a])) Q)) (fin : ∀ d, I as d → Q .nx d) : FW g b (as.map k) d Q := by
  refine for_inv (fun i d => I (as.take i) d) (as.map k) d (by simpa using h0) (fun i x d hx hI => ?_) (fun d hI => fin d (by rw [List.length_map, List.take_length] at hI; exact hI))
  rw [List.getElem?_map, Option.map_eq_some_iff] at hx
  obtain ⟨a, ha, rfl⟩ := hx
  obtain ⟨hi, ha'⟩ := List.getElem?_eq_some_iff.mp ha
  have e : as = as.take i ++ a :: as.drop (i + 1) := by
    rw [← ha', List.getElem_cons_drop, List.take_append_drop]
  have e2 : as.take (i + 1) = as.take i ++ [a] := by rw [List.take_add_one, ha]; rfl
  refine wo_mono (step _ a _ d e hI) fun d1 h => h.mono fun fl d2 q => ?_
  cases fl <;> first | (rw [e2]; exact q) | exact q
theorem for_enum {α : Type} {g : PyData → SD → Option SD} {b : F Fl} {Q : Fl → SD → Prop} {d : SD} (k : α → PyData) (as : List α) (I : List α → SD → Prop) (h0 : I [] d)
    (step : ∀ pre a suf d, as = pre ++ a :: suf → I pre d → wo (g (.tuple [.int (pre.length : Nat), k a]) d) fun d1 => W b d1 (Turn (I (pre ++ [a])) Q)) (fin : ∀ d, I as d → Q .nx d) : FW g b ((as.map k).mapIdx fun i x => .tuple [.int (i : Nat), x]) d Q := by
  refine for_inv (fun i d => I (as.take i) d) _ d (by simpa using h0) (fun i x d hx hI => ?_) (fun d hI => fin d (by rw [List.length_mapIdx, List.length_map, List.take_length] at hI; exact hI))
  rw [List.getElem?_mapIdx, Option.map_eq_some_iff] at hx
  obtain ⟨y, hy, rfl⟩ := hx
  rw [List.getElem?_map, Option.map_eq_some_iff] at hy
  obtain ⟨a, ha, rfl⟩ := hy
  obtain ⟨hi, ha'⟩ := List.getElem?_eq_some_iff.mp ha
  have e : as = as.take i ++ a :: as.drop (i + 1) := by
    rw [← ha', List.getElem_cons_drop, List.take_append_drop]
  have e2 : as.take (i + 1) = as.take i ++ [a] := by rw [List.take_add_one, ha]; rfl
  have e3 : (as.take i).length = i := by rw [List.length_take]; omega
  have s := step _ a _ d e hI
  rw [e3] at s
  refine wo_mono s fun d1 h => h.mono fun fl d2 q => ?_
  cases fl <;> first | (rw [e2]; exact q) | exact q
theorem cut_from {α : Type} (xs : List α) (n : Nat) : cutD xs (some (n : Int)) none = xs.drop n := by
  unfold cutD
  rw [HT.sIx_nat, HT.sIx_none]
  by_cases h : n ≤ xs.length
  · rw [Nat.min_eq_left h]
    exact List.take_of_length_le (by rw [List.length_drop]; omega)
  · rw [Nat.min_eq_right (by omega), List.drop_of_length_le (by omega), List.drop_of_length_le (by omega)]
    simp
/-! ### what is owned -/
theorem W_app {i : Nat} {f : F OV} {d : SD} {Q : Fl → SD → Prop} (h0 : isOL d i = true) (h : W f d fun o d1 => ∃ y xs, plO o = some y ∧ d1[i]? = some (some (.own (.list xs))) ∧ xs.length + 1 ≤ sizeLine ∧ Q .nx (d1.set i (some (.own (.list (xs ++ [y])))))) : W (fApp i f) d Q := by
  obtain ⟨⟨o, d1⟩, e, y, xs, e1, e2, e3, q⟩ := h
  refine W_of (d' := d1.set i (some (.own (.list (xs ++ [y]))))) (a := .nx) ?_ q
  unfold fApp
  rw [if_pos h0, e]
  dsimp only [Option.bind_some] at e1 e2 ⊢
  rw [e1]
  simp only [Option.bind_some]
  unfold putL
  rw [e2]
  exact if_pos e3
theorem W_ext {i : Nat} {f : F OV} {d : SD} {Q : Fl → SD → Prop} (h0 : isOL d i = true) (h : W f d fun o d1 => ∃ x ys xs, fzO o = some x ∧ seqOf x = some ys ∧ d1[i]? = some (some (.own (.list xs))) ∧ xs.length + ys.length ≤ sizeLine ∧ Q .nx (d1.set i (some (.own (.list (xs ++ ys)))))) : W (fExt i f) d Q := by
  obtain ⟨⟨o, d1⟩, e, x, ys, xs, e1, e2, e3, e4, q⟩ := h
  refine W_of (d' := d1.set i (some (.own (.list (xs ++ ys))))) (a := .nx) ?_ q
  unfold fExt
  rw [if_pos h0, e]
  dsimp only [Option.bind_some] at e1 e3 ⊢
  rw [e1]
  simp only [Option.bind_some]
  rw [e2]
  simp only [Option.bind_some]
  unfold putL
  rw [e3]
  exact if_pos e4
theorem W_retO {i : Nat} {d : SD} {x : PyData} {Q : Fl → SD → Prop} (h : d[i]? = some (some (.own x))) (q : Q (.rt x) (d.set i (some (.fr x)))) : W (fRetO i) d Q := by
  refine W_of (d' := d.set i (some (.fr x))) (a := .rt x) ?_ q
  unfold fRetO
  rw [h]
/-! ### the table of labels -/
abbrev LT := List (PyData × List Str)
def labsD (lt : LT) : PyData := tdic (lt.map fun p => (p.1, bd p.2))
structure LOK (lt : LT) : Prop where
  lb : ∀ p ∈ lt, IsLb p.1
  up : Up (lt.map (·.1))
  n : lt.length ≤ 100
def has (p : PyData × List Str) (a b : Str) : Bool := decide (a ∈ p.2) != decide (b ∈ p.2)
def btw (lt : LT) (a b : Str) : List PyData := (lt.filter fun p => has p a b).map (·.1)
theorem valD_lt {lt : LT} (h : LOK lt) {p : PyData × List Str} (hp : p ∈ lt) : valD (lt.map fun p => (p.1, bd p.2)) p.1 = some (bd p.2) := by
  obtain ⟨lb, up, n⟩ := h
  have nd := up.nodup
  clear up n
  induction lt with
  | nil => cases hp
  | cons q r ih =>
    rw [List.map_cons, valD_cons]
    rw [List.map_cons, List.nodup_cons] at nd
    rw [key_eqv' (lb q (by simp)).key (lb p hp).key]
    rcases List.mem_cons.mp hp with e | hp'
    · subst e; simp
    · have : ¬ q.1 = p.1 := fun e => nd.1 (List.mem_map.mpr ⟨p, hp', e.symm⟩)
      simp only [this, decide_false, Bool.false_eq_true, if_false]
      exact ih hp' (fun x hx => lb x (List.mem_cons_of_mem _ hx)) nd.2
theorem get_lab {lt : LT} (h : LOK lt) {p : PyData × List Str} (hp : p ∈ lt) {fd fy : F OV} {d : SD} (h1 : fd d = some (.val (labsD lt), d)) (h2 : fy d = some (.val p.1, d)) : fGetT fd fy d = some (.val (bd p.2), d) := by
  unfold fGetT
  rw [h1]
  simp only [Option.bind_some]
  rw [h2]
  simp only [Option.bind_some, rdO, fzO, labsD, tdic]
  rw [if_pos (h.lb p hp).tup, valD_lt h hp]
  rfl
theorem btw_lb {lt : LT} (h : LOK lt) (a b : Str) : ∀ l ∈ btw lt a b, IsLb l := fun l hl => by
  obtain ⟨p, hp, rfl⟩ := List.mem_map.mp hl
  exact h.lb p (List.mem_filter.mp hp).1
theorem btw_len {lt : LT} (h : LOK lt) (a b : Str) : (btw lt a b).length ≤ 100 := by
  unfold btw
  rw [List.length_map]
  exact Nat.le_trans (List.length_filter_le _ _) h.n
theorem srt_labs {lt : LT} (h : LOK lt) : srtOk (lt.map (·.1)) = true := by
  unfold srtOk
  simp only [Bool.and_eq_true, Bool.or_eq_true, decide_eq_true_eq]
  have m : ∀ l ∈ lt.map (·.1), IsLb l := fun l hl => by
    obtain ⟨p, hp, rfl⟩ := List.mem_map.mp hl
    exact h.lb p hp
  refine ⟨by rw [List.length_map]; exact Nat.le_trans h.n (by decide), .inr ⟨⟨List.all_eq_true.mpr fun l hl => (m l hl).hd, ?_⟩, List.all_eq_true.mpr fun l hl => decide_eq_true (Nat.le_trans (m l hl).depth (by decide))⟩⟩
  unfold cmpAll
  exact List.all_eq_true.mpr fun a ha => List.all_eq_true.mpr fun b hb => (m a ha).cmp (m b hb)
theorem keys_labs (lt : LT) : keysOf (labsD lt) = some (lt.map (·.1)) := by
  simp [keysOf, labsD, tdic, Function.comp_def]
theorem f_lbetween {lt : LT} (h : LOK lt) (a b : Str) : F_labels_between [labsD lt, .str a, .str b] = some (.list (btw lt a b)) := by
  refine runF_of ?_
  unfold fb_labels_between
  have main : fLc (fItems (fCB gSorted (fCons (fVar 0) fNil))) (gN 3) (fB (fCall F_tells_apart (fCons (fGetT (fVar 0) (fVar 3)) (fCons (fVar 1) (fCons (fVar 2) fNil))))) (fVar 3) [3] (startD N_labels_between [labsD lt, .str a, .str b]) = some (.val (.list (btw lt a b)), startD N_labels_between [labsD lt, .str a, .str b]) := by
    refine lc_as (as := lt) (·.1) (fun p => has p a b) (·.1) (ev ?_) rfl (fun p hp => ?_) (Nat.le_trans h.n (by decide))
    · simp [W_var, startD, rdOs, rdO, gSorted, keys_labs, srt_labs h, fzO, seqOf, sortD_of_up h.up]
    · refine ⟨[some (.fr (labsD lt)), some (.fr (.str a)), some (.fr (.str b)), some (.fr p.1)], rfl, rfl, ev ?_, fun _ => ⟨_, rfl, (h.lb p hp).plain⟩⟩
      simp only [W_b, W_call, W_cons, W_nil]
      refine W_of (get_lab h hp rfl rfl) ?_
      simp [W_var, fzOs, fzO, f_tells, has]
      exact Classical.em _
  simp only [W_ret]
  exact W_of main (by simp [fzO])
/-! ### pairs_apart -/
def prOf (lt : LT) (a b : Str) : Option Pr := if btw lt a b = [] then none else some ⟨a, b, btw lt a b⟩
def pairsL (lt : LT) : List Str → List Pr
  | [] => []
  | a :: r => r.filterMap (prOf lt a) ++ pairsL lt r
end DL

set_option maxRecDepth 100000
set_option linter.all false
set_option maxHeartbeats 2000000
/-! M4: pairs_apart. -/
namespace DL
open PySem PySem.W PyProof.Rows
theorem pairsL_len (lt : LT) : ∀ fs : List Str, (pairsL lt fs).length ≤ fs.length * fs.length
  | [] => by simp [pairsL]
  | a :: r => by
    have ih := pairsL_len lt r
    have h1 := List.length_filterMap_le (prOf lt a) r
    simp only [pairsL, List.length_append, List.length_cons]
    have : (r.length + 1) * (r.length + 1) = r.length * r.length + 2 * r.length + 1 := by
      rw [Nat.add_mul, Nat.mul_add]; omega
    omega
@[simp] theorem depth_nil : PyData.depth (.list []) = 1 := by simp [PyData.depth, PyData.depthAll]
@[simp] theorem depth_tnil : PyData.depth (.tuple []) = 1 := by simp [PyData.depth, PyData.depthAll]
theorem eq_nil (s : Bool) (bt : List PyData) : gEq s (.list bt) (.list []) = some (.bool (if s = true then bt.isEmpty else !bt.isEmpty)) := by
  unfold gEq
  rw [if_pos ⟨rfl, rfl, by rw [depth_nil]; omega⟩]
  simp
theorem eq_tnil (s : Bool) (bt : List PyData) : gEq s (.tuple bt) (.tuple []) = some (.bool (if s = true then bt.isEmpty else !bt.isEmpty)) := by
  unfold gEq
  rw [if_pos ⟨rfl, rfl, by rw [depth_tnil]; omega⟩]
  simp
theorem pairs_lc {lt : LT} (h : LOK lt) (a b : Str) {d : SD} {v2 v3 v6 : Option SV} {forms : PyData} (hd : d = [some (.fr (labsD lt)), some (.fr forms), v2, v3, some (.fr (.str a)), some (.fr (.str b)), v6, none]) :
    fLc (fKeysV 0) (gN 7) (fB (fCall F_tells_apart (fCons (fGetT (fVar 0) (fVar 7)) (fCons (fVar 4) (fCons (fVar 5) fNil))))) (fVar 7) [7] d = some (.val (.list (btw lt a b)), d) := by
  subst hd
  refine lc_as (as := lt) (·.1) (fun p => has p a b) (·.1) ?_ rfl (fun p hp => ?_) (Nat.le_trans h.n (by decide))
  · simp [fKeysV, labsD, tdic, Function.comp_def]
  · refine ⟨[some (.fr (labsD lt)), some (.fr forms), v2, v3, some (.fr (.str a)), some (.fr (.str b)), v6, some (.fr p.1)], rfl, rfl, ev ?_, fun _ => ⟨_, rfl, (h.lb p hp).plain⟩⟩
    simp only [W_b, W_call, W_cons, W_nil]
    refine W_of (get_lab h hp rfl rfl) ?_
    simp [W_var, fzOs, fzO, f_tells, has]
    exact Classical.em _
theorem f_pairs {lt : LT} (h : LOK lt) (forms : List Str) (hn : forms.length ≤ 30) : F_pairs_apart [labsD lt, .list (tx forms)] = some (.list (prs (pairsL lt forms))) := by
  refine runF_of ?_
  change W (fb_pairs_apart F_tells_apart) [some (.fr (labsD lt)), some (.fr (.list (tx forms))), none, none, none, none, none, none] _
  unfold fb_pairs_apart
  have hN : (pairsL lt forms).length ≤ 900 := Nat.le_trans (pairsL_len lt forms) (Nat.mul_le_mul hn hn)
  simp only [W_seq, W_own, W_olst, W_nil, plOs, wo_some, W_for, W_enum, W_cons, W_var, List.getElem?_cons_succ, List.getElem?_cons_zero, List.set_cons_succ, List.set_cons_zero, fzO, seqOf]
  refine for_enum (α := Str) PyData.str forms (fun pre d => ∃ A suf v3 v4 v5 v6, forms = pre ++ suf ∧ A ++ pairsL lt suf = pairsL lt forms ∧ d = [some (.fr (labsD lt)), some (.fr (.list (tx forms))), some (.own (.list (prs A))), v3, v4, v5, v6, none]) ⟨[], forms, none, none, none, none, rfl, rfl, rfl⟩ ?_ ?_
  · rintro pre a suf d e ⟨A, suf', v3, v4, v5, v6, e1, e2, rfl⟩
    have es : suf' = a :: suf := List.append_cancel_left (e1.symm.trans e)
    subst es
    have hsl : gSl (.list (tx forms)) (some ((pre.length : Nat) + 1 : Int)) none = some (.list (tx suf)) := by
      show some (PyData.list (cutD _ (some (((pre.length + 1 : Nat)) : Int)) none)) = _
      rw [cut_from, e]
      have : tx (pre ++ a :: suf) = (tx pre ++ [.str a]) ++ tx suf := by simp
      rw [this, List.drop_left' (by simp)]
    simp only [gT, gsC, gsN, gN, Option.bind_some, wo_some, List.set_cons_succ, List.set_cons_zero, W_for, W_items, W_sl, W_var, List.getElem?_cons_succ, List.getElem?_cons_zero, W_ps, W_op, W_c, rdO, gAdd, gI, W_pn, OV.val.injEq, PyData.int.injEq, exists_eq_left', hsl, fzO, seqOf]
    refine for_list (α := Str) PyData.str suf (fun pre2 d => ∃ suf2 v5 v6, suf = pre2 ++ suf2 ∧ d = [some (.fr (labsD lt)), some (.fr (.list (tx forms))), some (.own (.list (prs (A ++ pre2.filterMap (prOf lt a))))), some (.fr (.int (pre.length : Nat))), some (.fr (.str a)), v5, v6, none]) ⟨suf, v5, v6, rfl, by simp⟩ ?_ ?_
    · rintro pre2 b suf2 d e5 ⟨suf3, w5, w6, e3, rfl⟩
      have hl : (A ++ pre2.filterMap (prOf lt a)).length ≤ 900 := by
        have : (A ++ pairsL lt (a :: suf)).length ≤ 900 := by rw [e2]; exact hN
        rw [e3] at this
        simp only [pairsL, List.filterMap_append, List.length_append] at this ⊢
        omega
      have lc := pairs_lc h a b (v2 := some (.own (.list (prs (A ++ pre2.filterMap (prOf lt a)))))) (v3 := some (.fr (.int (pre.length : Nat)))) (v6 := w6) (forms := .list (tx forms)) rfl
      simp only [gN, Option.bind_some, wo_some, List.set_cons_succ, List.set_cons_zero, W_seq, W_set]
      refine W_of lc ?_
      simp only [fzO, wo_some, List.set_cons_succ, List.set_cons_zero, W_if, W_b, W_op, W_var, List.getElem?_cons_succ, List.getElem?_cons_zero, W_lst, W_nil, plOs, rdO, eq_nil, OV.val.injEq, PyData.bool.injEq, exists_eq_left']
      by_cases hb : btw lt a b = []
      · rw [hb]
        simp only [List.isEmpty_nil, Bool.false_eq_true, if_false, Bool.not_true, W_next]
        have e6 : (pre2 ++ [b]).filterMap (prOf lt a) = pre2.filterMap (prOf lt a) := by rw [List.filterMap_append]; simp [prOf, hb]
        exact ⟨suf2, some (.fr (.str b)), some (.fr (.list [])), by rw [e5]; simp, by rw [e6]⟩
      · have hb' : (btw lt a b).isEmpty = false := by
          cases e : btw lt a b with
          | nil => exact absurd e hb
          | cons _ _ => rfl
        simp only [hb', Bool.false_eq_true, if_false, Bool.not_false, if_true]
        refine W_app rfl ?_
        simp only [W_tup, W_cons, W_nil, W_var, List.getElem?_cons_succ, List.getElem?_cons_zero, wo_some, plOs, plO, Option.bind_some]
        have e6 : prs (A ++ (pre2 ++ [b]).filterMap (prOf lt a)) = prs (A ++ pre2.filterMap (prOf lt a)) ++ [pr a b (btw lt a b)] := by simp [prOf, hb, Pr.d]
        refine ⟨_, _, rfl, rfl, ?_, suf2, some (.fr (.str b)), some (.fr (.list (btw lt a b))), by rw [e5]; simp, ?_⟩
        · rw [List.length_map]
          exact Nat.le_trans (Nat.succ_le_succ hl) (by decide)
        · rw [e6]; rfl
    · rintro d ⟨suf3, w5, w6, e3, rfl⟩
      refine ⟨A ++ suf.filterMap (prOf lt a), suf, _, _, _, _, by rw [e]; simp, by rw [← e2]; simp [pairsL], rfl⟩
  · rintro d ⟨A, suf, v3, v4, v5, v6, e1, e2, rfl⟩
    have : suf = [] := by
      have := congrArg List.length e1
      simp at this
      exact this
    subst this
    simp only [pairsL, List.append_nil] at e2
    subst e2
    exact ⟨_, rfl, rfl⟩
end DL

set_option maxRecDepth 100000
set_option linter.all false
set_option maxHeartbeats 2000000
/-! M5: some_of, fewest_of. -/
namespace DL
open PySem PySem.W PyProof.Rows
def combs : List PyData → Nat → List (List PyData)
  | _, 0 => [[]]
  | [], _ + 1 => []
  | l :: r, m + 1 => (combs r m).map (l :: ·) ++ combs r (m + 1)
theorem combs_len : ∀ (ls : List PyData) (m : Nat), (combs ls m).length ≤ 2 ^ ls.length
  | [], 0 => by simp [combs]
  | [], _ + 1 => by simp [combs]
  | l :: r, 0 => by
    simp only [combs, List.length_singleton]
    exact Nat.one_le_two_pow
  | l :: r, m + 1 => by
    have h1 := combs_len r m
    have h2 := combs_len r (m + 1)
    simp only [combs, List.length_append, List.length_map, List.length_cons, Nat.pow_succ]
    omega
theorem combs_mem : ∀ (ls : List PyData) (m : Nat) (c : List PyData), c ∈ combs ls m ↔ c.Sublist ls ∧ c.length = m
  | ls, 0, c => by
    cases ls <;> simp only [combs, List.mem_singleton]
    · constructor
      · rintro rfl; simp
      · rintro ⟨_, h⟩; exact List.length_eq_zero_iff.mp h
    · constructor
      · rintro rfl; simp
      · rintro ⟨_, h⟩; exact List.length_eq_zero_iff.mp h
  | [], m + 1, c => by
    simp only [combs, List.not_mem_nil, false_iff]
    rintro ⟨h, h2⟩
    have := List.sublist_nil.mp h
    subst this
    simp at h2
  | l :: r, m + 1, c => by
    simp only [combs, List.mem_append, List.mem_map]
    constructor
    · rintro (⟨x, hx, rfl⟩ | h)
      · obtain ⟨h1, h2⟩ := (combs_mem r m x).mp hx
        exact ⟨h1.cons_cons l, by rw [List.length_cons, h2]⟩
      · obtain ⟨h1, h2⟩ := (combs_mem r (m + 1) c).mp h
        exact ⟨h1.cons l, h2⟩
    · rintro ⟨h1, h2⟩
      cases h1 with
      | cons _ h1 => exact .inr ((combs_mem r (m + 1) c).mpr ⟨h1, h2⟩)
      | cons_cons _ h1 => exact .inl ⟨_, (combs_mem r m _).mpr ⟨h1, by simpa using h2⟩, rfl⟩
abbrev tups (cs : List (List PyData)) : List PyData := cs.map PyData.tuple
/-- plain items -/
def Plain (ls : List PyData) : Prop := ∀ l ∈ ls, plO (.val l) = some l
theorem f_some : ∀ (n : Nat) (ls : List PyData) (m : Nat), m < n → ls.length ≤ 20 → Plain ls → R_some_of n [.list ls, .int m] = some (.list (tups (combs ls m)))
  | 0, _, _, h, _, _ => by omega
  | n + 1, ls, m, hm, hl, hp => by
    show runF N_some_of (fb_some_of (R_some_of n)) _ = _
    refine runF_of ?_
    change W (fb_some_of (R_some_of n)) [some (.fr (.list ls)), some (.fr (.int m)), none, none, none, none] _
    unfold fb_some_of
    have e0 : gEq true (.int (m : Nat)) (.int 0) = some (.bool (decide (m = 0))) := by
      unfold gEq
      rw [if_pos ⟨rfl, rfl, by simp [PyData.depth]⟩]
      by_cases h : m = 0
      · subst h; rfl
      · have h' : ¬ ((m : Nat) : Int) = 0 := by omega
        simp [h, h']
    simp only [W_seq, W_if, W_b, W_op, W_var, List.getElem?_cons_succ, List.getElem?_cons_zero, wo_some, W_c, rdO, e0, OV.val.injEq, PyData.bool.injEq, exists_eq_left', decide_eq_true_eq]
    cases m with
    | zero =>
      rw [if_pos rfl]
      simp only [W_ret, W_lst, W_tup, W_cons, W_nil, plOs, plO, wo_some, Option.bind_some, fzO]
      cases ls <;> simp [combs]
    | succ m =>
      rw [if_neg (by omega)]
      simp only [W_next, W_seq, W_own, W_olst, W_nil, plOs, wo_some, List.set_cons_succ, List.set_cons_zero, W_for, W_enum, W_var, List.getElem?_cons_succ, List.getElem?_cons_zero, fzO, seqOf]
      have hid : ls = ls.map id := by rw [List.map_id]
      have total : ∀ l, (combs l (m + 1)).length ≤ 2 ^ l.length := fun l => combs_len l (m + 1)
      rw [show (FW _ _ (ls.mapIdx fun i x => PyData.tuple [.int (i : Nat), x]) _ _) = (FW _ _ ((ls.map id).mapIdx fun i x => PyData.tuple [.int (i : Nat), x]) _ _) by rw [List.map_id]]
      refine for_enum (α := PyData) id ls (fun pre d => ∃ A suf v3 v4, ls = pre ++ suf ∧ A ++ combs suf (m + 1) = combs ls (m + 1) ∧ d = [some (.fr (.list ls)), some (.fr (.int ((m + 1 : Nat) : Int))), some (.own (.list (tups A))), v3, v4, none]) ⟨[], ls, none, none, rfl, rfl, rfl⟩ ?_ ?_
      · rintro pre a suf d e ⟨A, suf', v3, v4, e1, e2, rfl⟩
        have es : suf' = a :: suf := List.append_cancel_left (e1.symm.trans e)
        subst es
        have hsl : gSl (.list ls) (some ((pre.length : Nat) + 1 : Int)) none = some (.list suf) := by
          show some (PyData.list (cutD _ (some (((pre.length + 1 : Nat)) : Int)) none)) = _
          rw [cut_from, e]
          have : pre ++ a :: suf = (pre ++ [a]) ++ suf := by simp
          rw [this, List.drop_left' (by simp)]
        have hs20 : suf.length ≤ 20 := by rw [e] at hl; simp at hl; omega
        have ps : Plain suf := fun l h => hp l (by rw [e]; simp [h])
        have pa : plO (.val a) = some a := hp a (by rw [e]; simp)
        have hrec : R_some_of n [.list suf, .int ((m : Nat) : Int)] = some (.list (tups (combs suf m))) := f_some n suf m (by omega) hs20 ps
        have hsub : (((m + 1 : Nat) : Int) - 1) = (m : Nat) := by omega
        simp only [id, gT, gsC, gsN, gN, Option.bind_some, wo_some, List.set_cons_succ, List.set_cons_zero]
        refine W_ext rfl ?_
        have hA : A.length + (combs suf m).length ≤ 2 ^ 20 := by
          have h1 : (A ++ combs (a :: suf) (m + 1)).length ≤ 2 ^ 20 := by rw [e2]; exact Nat.le_trans (total ls) (Nat.pow_le_pow_right (by decide) hl)
          simp only [combs, List.length_append, List.length_map] at h1
          omega
        have lc : fLc (fItems (fCall (R_some_of n) (fCons (fSl (fVar 0) (fPs (fOp gAdd (fVar 3) (fC (.int 1)))) fPn) (fCons (fOp gSub_ (fVar 1) (fC (.int 1))) fNil)))) (gN 5) fYes (fOp gCatT (fTup (fCons (fVar 4) fNil)) (fVar 5)) [5]
            [some (.fr (.list ls)), some (.fr (.int ((m + 1 : Nat) : Int))), some (.own (.list (tups A))), some (.fr (.int (pre.length : Nat))), some (.fr a), none] = some (.val (.list ((combs suf m).map fun c => .tuple (a :: c))), [some (.fr (.list ls)), some (.fr (.int ((m + 1 : Nat) : Int))), some (.own (.list (tups A))), some (.fr (.int (pre.length : Nat))), some (.fr a), none]) := by
          refine lc_all (as := combs suf m) PyData.tuple (fun c => .tuple (a :: c)) (ev ?_) rfl (fun c hc => ?_) (Nat.le_trans (combs_len suf m) (Nat.le_trans (Nat.pow_le_pow_right (by decide) hs20) (by decide)))
          · simp only [W_items, W_call, W_cons, W_nil, W_sl, W_var, List.getElem?_cons_succ, List.getElem?_cons_zero, wo_some, W_ps, W_op, W_c, rdO, gAdd, gSub_, gI, W_pn, OV.val.injEq, PyData.int.injEq, exists_eq_left', hsl, fzO, fzOs, Option.bind_some, hsub, hrec, seqOf]
            exact ⟨trivial, trivial⟩
          · refine ⟨[some (.fr (.list ls)), some (.fr (.int ((m + 1 : Nat) : Int))), some (.own (.list (tups A))), some (.fr (.int (pre.length : Nat))), some (.fr a), some (.fr (.tuple c))], rfl, rfl, .val (.tuple (a :: c)), ev ?_, rfl⟩
            have hc' : [a].length + c.length ≤ sizeLine := by
              have := ((combs_mem suf m c).mp hc).1.length_le
              show 1 + c.length ≤ _
              have h16 : sizeLine = 16777216 := sizeLine_eq
              omega
            simp only [W_op, W_tup, W_cons, W_nil, W_var, List.getElem?_cons_succ, List.getElem?_cons_zero, wo_some, plOs, pa, Option.bind_some, rdO, gCatT, if_pos hc', List.cons_append, List.nil_append]
            exact ⟨trivial, trivial⟩
        refine W_of lc ⟨_, _, tups A, rfl, rfl, rfl, ?_, ?_⟩
        · simp only [List.length_map]
          exact Nat.le_trans hA (by decide)
        · refine ⟨A ++ (combs suf m).map (a :: ·), suf, some (.fr (.int (pre.length : Nat))), some (.fr a), by rw [e]; simp, by rw [← e2]; simp [combs], ?_⟩
          simp [List.map_append, List.map_map, Function.comp_def]
      · rintro d ⟨A, suf, v3, v4, e1, e2, rfl⟩
        have : suf = [] := by
          have := congrArg List.length e1
          simp at this
          exact this
        subst this
        simp only [combs, List.append_nil] at e2
        subst e2
        exact ⟨_, rfl, rfl⟩
/-! ### fewest_of -/
noncomputable def hitsAll (ps : List Pr) (cs : List PyData) : Bool := ps.all fun p => p.hit cs
def allCombs (ls : List PyData) : List (List PyData) := (List.range (ls.length + 1)).flatMap (combs ls)
noncomputable def fewest (ls : List PyData) (ps : List Pr) : List PyData := ((allCombs ls).find? (hitsAll ps)).getD ls
theorem hits_empty (ps : List Pr) (cs : List PyData) : (prs (ps.filter fun p => !p.hit cs)).isEmpty = hitsAll ps cs := by
  unfold hitsAll
  induction ps with
  | nil => rfl
  | cons p r ih =>
    simp only [List.filter_cons, List.all_cons]
    cases p.hit cs with
    | true => simpa using ih
    | false => simp
theorem f_fewest {ls : List PyData} {ps : List Pr} (hl : ls.length ≤ 9) (hb : ∀ l ∈ ls, IsLb l) (hp : ∀ p ∈ ps, p.ok) (hn : ps.length ≤ 1000) : F_fewest_of [.list ls, .list (prs ps)] = some (.tuple (fewest ls ps)) := by
  refine runF_of ?_
  change W (fb_fewest_of F_not_told_by F_some_of) [some (.fr (.list ls)), some (.fr (.list (prs ps))), none, none] _
  unfold fb_fewest_of
  have hsz : (-(2 ^ 62) : Int) ≤ (ls.length : Nat) + 1 ∧ ((ls.length : Nat) : Int) + 1 < 2 ^ 62 := by omega
  have ht : (((ls.length : Nat) : Int) + 1).toNat = ls.length + 1 := by omega
  simp only [W_seq, W_for, W_range, W_op, W_cb, W_cons, W_nil, W_var, List.getElem?_cons_succ, List.getElem?_cons_zero, wo_some, rdOs, rdO, Option.bind_some, gLen, W_c, gAdd, gI, OV.val.injEq, PyData.int.injEq, exists_eq_left', ht]
  refine ⟨hsz, ?_⟩
  refine for_list (α := Nat) (fun i => PyData.int (i : Nat)) (List.range (ls.length + 1)) (fun pre d => (∀ c ∈ pre.flatMap (combs ls), hitsAll ps c = false) ∧ ∃ v2 v3, d = [some (.fr (.list ls)), some (.fr (.list (prs ps))), v2, v3]) ⟨by simp, none, none, rfl⟩ ?_ ?_
  · rintro pre m suf d e ⟨hno, v2, v3, rfl⟩
    have hm : m < 10 := by
      have : m ∈ List.range (ls.length + 1) := by rw [e]; simp
      rw [List.mem_range] at this
      omega
    have sm : F_some_of [.list ls, .int (m : Nat)] = some (.list (tups (combs ls m))) := f_some 10 ls m hm (by omega) fun l h => (hb l h).plain
    simp only [gN, wo_some, List.set_cons_succ, List.set_cons_zero, W_for, W_items, W_call, W_cons, W_nil, W_var, List.getElem?_cons_succ, List.getElem?_cons_zero, fzOs, fzO, Option.bind_some, sm, seqOf]
    refine for_list (α := List PyData) PyData.tuple (combs ls m) (fun pre2 d => (∀ c ∈ pre2, hitsAll ps c = false) ∧ ∃ v3, d = [some (.fr (.list ls)), some (.fr (.list (prs ps))), some (.fr (.int (m : Nat))), v3]) ⟨by simp, v3, rfl⟩ ?_ ?_
    · rintro pre2 c suf2 d e2 ⟨hno2, w3, rfl⟩
      have hc : c ∈ combs ls m := by rw [e2]; simp
      have hcl : ∀ l ∈ c, IsLb l := fun l h => hb l (((combs_mem ls m c).mp hc).1.subset h)
      have nt : F_not_told_by [.list (prs ps), .tuple c] = some (.list (prs (ps.filter fun p => !p.hit c))) := f_nottold hp hn hcl rfl
      simp only [gN, wo_some, List.set_cons_succ, List.set_cons_zero, W_if, W_b, W_op, W_call, W_cons, W_nil, W_var, List.getElem?_cons_succ, List.getElem?_cons_zero, fzOs, fzO, Option.bind_some, nt, W_lst, plOs, rdO, eq_nil, OV.val.injEq, PyData.bool.injEq, exists_eq_left', if_true, hits_empty]
      by_cases hh : hitsAll ps c = true
      · rw [if_pos hh]
        simp only [W_ret, W_var, List.getElem?_cons_succ, List.getElem?_cons_zero, wo_some, fzO]
        have : (allCombs ls).find? (hitsAll ps) = some c := by
          unfold allCombs
          rw [e, List.flatMap_append, List.flatMap_cons, e2, List.find?_append, List.find?_append, List.find?_append]
          have n1 : (pre.flatMap (combs ls)).find? (hitsAll ps) = none := List.find?_eq_none.mpr fun x hx => by rw [hno x hx]; simp
          have n2 : pre2.find? (hitsAll ps) = none := List.find?_eq_none.mpr fun x hx => by rw [hno2 x hx]; simp
          rw [n1, n2, List.find?_cons, hh]; rfl
        show Fl.rt (PyData.tuple c) = _
        unfold fewest
        rw [this]; rfl
      · rw [if_neg hh]
        simp only [W_next]
        refine ⟨fun x hx => ?_, some (.fr (.tuple c)), rfl⟩
        rcases List.mem_append.mp hx with h | h
        · exact hno2 x h
        · rw [List.mem_singleton.mp h]; simpa using hh
    · rintro d ⟨hno2, w3, rfl⟩
      refine ⟨fun x hx => ?_, some (.fr (.int (m : Nat))), w3, rfl⟩
      rw [List.flatMap_append, List.mem_append] at hx
      rcases hx with h | h
      · exact hno x h
      · exact hno2 x (by simpa using h)
  · rintro d ⟨hno, v2, v3, rfl⟩
    simp only [W_ret, W_cb, W_cons, W_nil, W_var, List.getElem?_cons_succ, List.getElem?_cons_zero, wo_some, rdOs, rdO, Option.bind_some, gTuple, fzO]
    have : (allCombs ls).find? (hitsAll ps) = none := List.find?_eq_none.mpr fun x hx => by rw [hno x hx]; simp
    unfold fewest
    rw [this]; rfl
end DL

set_option maxRecDepth 100000
set_option linter.all false
set_option maxHeartbeats 2000000
/-! M6: tell_all, is_form_there, shows_node. -/
namespace DL
open PySem PySem.W PyProof.Rows
theorem isi_tt (xs : List PyData) : gIsi "tuple" (.tuple xs) = some (.bool true) := by rfl
theorem isi_tn : gIsi "tuple" .none = some (.bool false) := by rfl
theorem isi_st (xs : List PyData) : gIsi "str" (.tuple xs) = some (.bool false) := by rfl
theorem isi_sn : gIsi "str" .none = some (.bool false) := by rfl
theorem isi_ss (x : Str) : gIsi "str" (.str x) = some (.bool true) := by rfl
theorem in_tx {fs : List Str} {a : Str} : gIn true (.str a) (.list (tx fs)) = some (.bool (decide (a ∈ fs))) := by
  unfold gIn
  rw [if_pos ⟨rfl, by simp [PyData.depth]⟩]
  simp only [seqOf, Option.bind_some, if_true]
  rw [any_mem rfl (fun c hc => by obtain ⟨x, _, rfl⟩ := List.mem_map.mp hc; rfl)]
  simp
theorem f_isform (fs : List Str) (a : Str) : F_is_form_there [.list (tx fs), .str a] = some (.bool (decide (a ∈ fs))) := by
  refine runF_of ?_
  change W fb_is_form_there [some (.fr (.list (tx fs))), some (.fr (.str a))] _
  unfold fb_is_form_there
  simp only [W_ret, W_andV, W_b, W_isi, W_var, List.getElem?_cons_succ, List.getElem?_cons_zero, wo_some, fzO, isi_ss, OV.val.injEq, PyData.bool.injEq, exists_eq_left', if_true, W_op, rdO, in_tx]
/-- [l in cs for l in bt] -/
theorem any_lc0 {bt cs : List PyData} {i j v : Nat} {ch : PyData} {d t1 : PyData → SD} {d0 : SD} (hb : ∀ l ∈ bt, IsLb l) (hn : bt.length ≤ 1000) (hc : ∀ c ∈ cs, IsLb c) (hch : seqOf ch = some cs) (hi : fItems (fVar i) d0 = some (bt, d0)) (ok : okW [v] d0 = true)
    (h : ∀ l ∈ bt, (wipeD d0 [v]).set v (some (.fr l)) = t1 l ∧ wipeD (t1 l) [v] = wipeD d0 [v] ∧ fVar v (t1 l) = some (.val l, t1 l) ∧ fVar j (t1 l) = some (.val ch, t1 l)) :
    fLc (fItems (fVar i)) (gN v) fYes (fOp (gIn true) (fVar v) (fVar j)) [v] d0 = some (.val (.list (bt.map fun l => .bool (decide (l ∈ cs)))), d0) := by
    refine lc_all (as := bt) id (fun l => .bool (decide (l ∈ cs))) (by rw [List.map_id]; exact hi) ok (fun l hl => ?_) (Nat.le_trans hn (by decide))
    obtain ⟨h1, h2, h3, h4⟩ := h l hl
    refine ⟨t1 l, by rw [← h1]; rfl, h2, .val (.bool (decide (l ∈ cs))), ?_, rfl⟩
    unfold fOp
    rw [h3]
    simp only [Option.bind_some]
    rw [h4]
    simp only [Option.bind_some, rdO]
    rw [in_val (hb l hl) hc hch]
    rfl
/-- any([l in cs for l in bt]) -/
theorem any_lc {bt cs : List PyData} {i j v : Nat} {ch : PyData} {d t1 : PyData → SD} {d0 : SD} (hb : ∀ l ∈ bt, IsLb l) (hn : bt.length ≤ 1000) (hc : ∀ c ∈ cs, IsLb c) (hch : seqOf ch = some cs) (hi : fItems (fVar i) d0 = some (bt, d0)) (ok : okW [v] d0 = true)
    (h : ∀ l ∈ bt, (wipeD d0 [v]).set v (some (.fr l)) = t1 l ∧ wipeD (t1 l) [v] = wipeD d0 [v] ∧ fVar v (t1 l) = some (.val l, t1 l) ∧ fVar j (t1 l) = some (.val ch, t1 l)) :
    fCB gAny (fCons (fLc (fItems (fVar i)) (gN v) fYes (fOp (gIn true) (fVar v) (fVar j)) [v]) fNil) d0 = some (.val (.bool (bt.any fun l => decide (l ∈ cs))), d0) := by
  have lc := any_lc0 (d := d) hb hn hc hch hi ok h
  unfold fCB fCons fNil
  rw [lc]
  simp [rdOs, rdO, gAny, boolsOf_map]
noncomputable def tellB (lt : LT) (forms : List Str) (cs : List PyData) : Bool := hitsAll (pairsL lt forms) cs
theorem f_tellall {lt : LT} (h : LOK lt) (forms : List Str) {cs : List PyData} (hc : ∀ c ∈ cs, IsLb c) : F_tell_all [labsD lt, .list (tx forms), .tuple cs] = some (.bool (tellB lt forms cs)) := by
  refine runF_of ?_
  change W (fb_tell_all F_labels_between) [some (.fr (labsD lt)), some (.fr (.list (tx forms))), some (.fr (.tuple cs)), none, none, none, none, none] _
  unfold fb_tell_all
  simp only [W_seq, W_for, W_enum, W_var, List.getElem?_cons_succ, List.getElem?_cons_zero, wo_some, fzO, seqOf]
  refine for_enum (α := Str) PyData.str forms (fun pre d => ∃ suf v3 v4 v5 v6, forms = pre ++ suf ∧ tellB lt forms cs = hitsAll (pairsL lt suf) cs ∧ d = [some (.fr (labsD lt)), some (.fr (.list (tx forms))), some (.fr (.tuple cs)), v3, v4, v5, v6, none]) ⟨forms, none, none, none, none, rfl, rfl, rfl⟩ ?_ ?_
  · rintro pre a suf d e ⟨suf', v3, v4, v5, v6, e1, e2, rfl⟩
    have es : suf' = a :: suf := List.append_cancel_left (e1.symm.trans e)
    subst es
    have hsl : gSl (.list (tx forms)) (some ((pre.length : Nat) + 1 : Int)) none = some (.list (tx suf)) := by
      show some (PyData.list (cutD _ (some (((pre.length + 1 : Nat)) : Int)) none)) = _
      rw [cut_from, e]
      have : tx (pre ++ a :: suf) = (tx pre ++ [.str a]) ++ tx suf := by simp
      rw [this, List.drop_left' (by simp)]
    simp only [gT, gsC, gsN, gN, Option.bind_some, wo_some, List.set_cons_succ, List.set_cons_zero, W_for, W_items, W_sl, W_var, List.getElem?_cons_succ, List.getElem?_cons_zero, W_ps, W_op, W_c, rdO, gAdd, gI, W_pn, OV.val.injEq, PyData.int.injEq, exists_eq_left', hsl, fzO, seqOf]
    refine for_list (α := Str) PyData.str suf (fun pre2 d => ∃ suf2 v5 v6, suf = pre2 ++ suf2 ∧ tellB lt forms cs = hitsAll (suf2.filterMap (prOf lt a) ++ pairsL lt suf) cs ∧ d = [some (.fr (labsD lt)), some (.fr (.list (tx forms))), some (.fr (.tuple cs)), some (.fr (.int (pre.length : Nat))), some (.fr (.str a)), v5, v6, none]) ⟨suf, v5, v6, rfl, by rw [e2]; rfl, rfl⟩ ?_ ?_
    · rintro pre2 b suf2 d e5 ⟨suf3, w5, w6, e3, e4, rfl⟩
      have es : suf3 = b :: suf2 := List.append_cancel_left (e3.symm.trans e5)
      subst es
      have an := any_lc (bt := btw lt a b) (cs := cs) (i := 6) (j := 2) (v := 7) (ch := .tuple cs) (d := fun _ => []) (d0 := [some (.fr (labsD lt)), some (.fr (.list (tx forms))), some (.fr (.tuple cs)), some (.fr (.int (pre.length : Nat))), some (.fr (.str a)), some (.fr (.str b)), some (.fr (.list (btw lt a b))), none])
        (t1 := fun l => [some (.fr (labsD lt)), some (.fr (.list (tx forms))), some (.fr (.tuple cs)), some (.fr (.int (pre.length : Nat))), some (.fr (.str a)), some (.fr (.str b)), some (.fr (.list (btw lt a b))), some (.fr l)]) (btw_lb h a b) (Nat.le_trans (btw_len h a b) (by decide)) hc rfl rfl rfl (fun l _ => ⟨rfl, rfl, rfl, rfl⟩)
      simp only [gN, wo_some, List.set_cons_succ, List.set_cons_zero, W_seq, W_set, W_call, W_cons, W_nil, W_var, List.getElem?_cons_succ, List.getElem?_cons_zero, fzOs, fzO, Option.bind_some, f_lbetween h, W_if, W_and, W_b, W_op, W_lst, plOs, rdO, eq_nil, OV.val.injEq, PyData.bool.injEq, exists_eq_left', Bool.false_eq_true, if_false, W_not]
      by_cases hb : btw lt a b = []
      · simp only [hb, List.isEmpty_nil, Bool.not_true, Bool.false_eq_true, if_false, W_next]
        exact ⟨suf2, some (.fr (.str b)), some (.fr (.list [])), by rw [e5]; simp, by rw [e4]; simp [prOf, hb], rfl⟩
      · have hb' : (btw lt a b).isEmpty = false := by
          cases e : btw lt a b with
          | nil => exact absurd e hb
          | cons _ _ => rfl
        simp only [hb', Bool.not_false, if_true]
        refine W_of an ?_
        simp only [OV.val.injEq, PyData.bool.injEq, exists_eq_left']
        have e6 : tellB lt forms cs = ((btw lt a b).any (fun l => decide (l ∈ cs)) && hitsAll (suf2.filterMap (prOf lt a) ++ pairsL lt suf) cs) := by
          rw [e4]
          simp [prOf, hb, hitsAll, Pr.hit]
        by_cases hh : (btw lt a b).any (fun l => decide (l ∈ cs)) = true
        · rw [hh] at e6 ⊢
          simp only [Bool.not_true, Bool.false_eq_true, if_false, W_next]
          exact ⟨suf2, _, _, by rw [e5]; simp, by rw [e6]; simp, rfl⟩
        · have hh' : (btw lt a b).any (fun l => decide (l ∈ cs)) = false := by simpa using hh
          rw [hh'] at e6 ⊢
          simp only [Bool.not_false, if_true, W_ret, W_c, fzO, wo_some]
          rw [e6]; rfl
    · rintro d ⟨suf3, w5, w6, e3, e4, rfl⟩
      have : suf3 = [] := by
        have := congrArg List.length e3
        simp at this
        exact this
      subst this
      exact ⟨suf, _, _, _, _, by rw [e]; simp, by rw [e4]; simp, rfl⟩
  · rintro d ⟨suf, v3, v4, v5, v6, e1, e2, rfl⟩
    have : suf = [] := by
      have := congrArg List.length e1
      simp at this
      exact this
    subst this
    simp only [W_ret, W_c, fzO, wo_some]
    rw [e2]; rfl
end DL

set_option maxRecDepth 100000
set_option linter.all false
set_option maxHeartbeats 2000000
/-! M7: shows_node. -/
namespace DL
open PySem PySem.W PyProof.Rows
inductive IsNd : PyData → Prop
  | no : IsNd .none
  | nd {a b : Str} {sub : List PyData} : (∀ x ∈ sub, IsNd x) → sub.length ≤ 1000 → IsNd (.tuple [.str a, .str b, .tuple sub])
noncomputable def showsN (lt : LT) (forms : List Str) (many : Nat) : Nat → List PyData → PyData → Bool
  | 0, _, _ => false
  | n + 1, cs, .tuple [.str a, .str b, .tuple sub] => decide (a ∈ forms) && (decide (b ∈ forms) && (decide (a.cps.toList < b.cps.toList) && (!(btw lt a b).isEmpty && (!((btw lt a b).any fun l => decide (l ∈ cs)) &&
      if cs.length = many then sub.isEmpty else decide (sub.length = (btw lt a b).length) && (List.zip (btw lt a b) sub).all fun p => showsN lt forms many n (cs ++ [p.1]) p.2))))
  | _ + 1, _, _ => false
theorem IsNd.ndic {x : PyData} (h : IsNd x) : plO (.val x) = some x := by cases h <;> rfl
theorem f_shows {lt : LT} (h : LOK lt) (forms : List Str) (many : Nat) : ∀ (n : Nat) (cs : List PyData) (x : PyData), IsNd x → (∀ c ∈ cs, IsLb c) → cs.length ≤ many → many < cs.length + n → many ≤ 100 →
    R_shows_node n [labsD lt, .list (tx forms), .tuple cs, .int many, x] = some (.bool (showsN lt forms many n cs x))
  | 0, cs, x, _, _, h1, h2, _ => by omega
  | n + 1, cs, x, hx, hc, h1, h2, hm => by
    show runF N_shows_node (fb_shows_node F_is_form_there F_labels_between (R_shows_node n)) _ = _
    refine runF_of ?_
    change W (fb_shows_node F_is_form_there F_labels_between (R_shows_node n)) [some (.fr (labsD lt)), some (.fr (.list (tx forms))), some (.fr (.tuple cs)), some (.fr (.int many)), some (.fr x), none, none, none, none, none, none] _
    unfold fb_shows_node
    cases hx with
    | no =>
      simp only [W_seq, W_if, W_or, W_not, W_b, W_isi, W_var, List.getElem?_cons_succ, List.getElem?_cons_zero, wo_some, fzO, isi_tn, OV.val.injEq, PyData.bool.injEq, exists_eq_left', Bool.not_false, if_true, W_ret, W_c]
      rfl
    | @nd a b sub hs hl =>
      have e3 : gEq false (.int ((3 : Nat) : Int)) (.int 3) = some (.bool false) := by
        unfold gEq
        rw [if_pos ⟨rfl, rfl, by simp [PyData.depth]⟩]
        rfl
      have hix : gIx (.tuple [.str a, .str b, .tuple sub]) (.int 2) = some (.tuple sub) := by rfl
      have hlt : gLtS (.str a) (.str b) = some (.bool (decide (a.cps.toList < b.cps.toList))) := rfl
      simp only [W_seq, W_if, W_or, W_not, W_b, W_isi, W_op, W_cb, W_cons, W_nil, rdOs, rdO, gLen, Option.bind_some, W_var, List.getElem?_cons_succ, List.getElem?_cons_zero, wo_some, fzO, isi_tt, List.length_cons, List.length_nil, OV.val.injEq, PyData.bool.injEq, exists_eq_left', Bool.not_true, Bool.false_eq_true, if_false, W_ret, W_c]
      rw [show ((0 + 1 + 1 + 1 : Nat) : Int) = ((3 : Nat) : Int) from rfl, e3]
      simp only [wo_some, OV.val.injEq, PyData.bool.injEq, exists_eq_left', Bool.false_eq_true, if_false, hix, isi_tt, Bool.not_true, W_next, W_asg, W_var, List.getElem?_cons_succ, List.getElem?_cons_zero, fzO, gT, gsC, gN, gsN, Option.bind_some, List.set_cons_succ, List.set_cons_zero, W_call, W_cons, W_nil, fzOs, f_isform]
      unfold showsN
      by_cases ca : a ∈ forms
      · by_cases cb : b ∈ forms
        · by_cases clt : a.cps.toList < b.cps.toList
          · simp only [ca, cb, clt, decide_true, Bool.not_true, Bool.false_eq_true, if_false, W_not, W_b, W_op, W_var, List.getElem?_cons_succ, List.getElem?_cons_zero, wo_some, rdO, hlt, OV.val.injEq, PyData.bool.injEq, exists_eq_left', W_next, W_seq, W_set, W_call, W_cons, W_nil, fzO, fzOs, Option.bind_some, f_lbetween h, List.set_cons_succ, List.set_cons_zero, W_if, W_or, W_lst, plOs, eq_nil, if_true, Bool.true_and]
            by_cases hb : btw lt a b = []
            · simp only [hb, List.isEmpty_nil, if_true, W_ret, W_c, fzO, wo_some]
              rfl
            · have hb' : (btw lt a b).isEmpty = false := by
                cases e : btw lt a b with
                | nil => exact absurd e hb
                | cons _ _ => rfl
              simp only [hb', Bool.false_eq_true, if_false, Bool.not_false, Bool.true_and]
              have an := any_lc0 (bt := btw lt a b) (cs := cs) (i := 8) (j := 2) (v := 9) (ch := .tuple cs) (d := fun _ => []) (d0 := [some (.fr (labsD lt)), some (.fr (.list (tx forms))), some (.fr (.tuple cs)), some (.fr (.int many)), some (.fr (.tuple [.str a, .str b, .tuple sub])), some (.fr (.str a)), some (.fr (.str b)), some (.fr (.tuple sub)), some (.fr (.list (btw lt a b))), none, none])
                (t1 := fun l => [some (.fr (labsD lt)), some (.fr (.list (tx forms))), some (.fr (.tuple cs)), some (.fr (.int many)), some (.fr (.tuple [.str a, .str b, .tuple sub])), some (.fr (.str a)), some (.fr (.str b)), some (.fr (.tuple sub)), some (.fr (.list (btw lt a b))), some (.fr l), none]) (btw_lb h a b) (Nat.le_trans (btw_len h a b) (by decide)) hc rfl rfl rfl (fun l _ => ⟨rfl, rfl, rfl, rfl⟩)
              refine W_of an ?_
              simp only [rdOs, rdO, Option.bind_some, wo_some, gAny, boolsOf_map, List.any_map, Function.comp_def, id, OV.val.injEq, PyData.bool.injEq, exists_eq_left']
              by_cases hh : (btw lt a b).any (fun l => decide (l ∈ cs)) = true
              · simp only [hh, if_true, W_ret, W_c, fzO, wo_some]
                rfl
              · have hh' : (btw lt a b).any (fun l => decide (l ∈ cs)) = false := by simpa using hh
                have e4 : gEq true (.int ((cs.length : Nat) : Int)) (.int (many : Nat)) = some (.bool (decide (cs.length = many))) := by
                  unfold gEq
                  rw [if_pos ⟨rfl, rfl, by simp [PyData.depth]⟩]
                  by_cases q : cs.length = many
                  · rw [q]; simp
                  · have : ¬ ((cs.length : Nat) : Int) = (many : Nat) := by omega
                    simp [q, this]
                have e5 : gEq false (.int ((sub.length : Nat) : Int)) (.int ((btw lt a b).length : Nat)) = some (.bool (!decide (sub.length = (btw lt a b).length))) := by
                  unfold gEq
                  rw [if_pos ⟨rfl, rfl, by simp [PyData.depth]⟩]
                  by_cases q : sub.length = (btw lt a b).length
                  · rw [q]; simp
                  · have : ¬ ((sub.length : Nat) : Int) = ((btw lt a b).length : Nat) := by omega
                    simp [q, this]
                simp only [hh', Bool.false_eq_true, if_false, W_next, W_seq, W_if, W_b, W_op, W_cb, W_cons, W_nil, rdOs, rdO, gLen, Option.bind_some, W_var, List.getElem?_cons_succ, List.getElem?_cons_zero, wo_some, e4, OV.val.injEq, PyData.bool.injEq, exists_eq_left', decide_eq_true_eq, Bool.not_false, Bool.true_and]
                by_cases hq : cs.length = many
                · simp only [hq, if_true, W_ret, W_op, W_var, List.getElem?_cons_succ, List.getElem?_cons_zero, wo_some, W_tup, W_nil, plOs, rdO, eq_tnil, fzO]
                · simp only [hq, if_false, W_next, W_b, W_op, W_cb, W_cons, W_nil, rdOs, rdO, gLen, Option.bind_some, W_var, List.getElem?_cons_succ, List.getElem?_cons_zero, wo_some, e5, OV.val.injEq, PyData.bool.injEq, exists_eq_left']
                  by_cases hw : sub.length = (btw lt a b).length
                  · simp only [hw, decide_true, Bool.not_true, Bool.false_eq_true, if_false, W_next, Bool.true_and]
                    have lc : fLc (fZip (fCons (fVar 8) (fCons (fVar 7) fNil))) (gT (gsC (gN 9) (gsC (gN 10) gsN))) fYes (fCall (R_shows_node n) (fCons (fVar 0) (fCons (fVar 1) (fCons (fOp gCatT (fVar 2) (fTup (fCons (fVar 9) fNil))) (fCons (fVar 3) (fCons (fVar 10) fNil)))))) [9, 10]
                        [some (.fr (labsD lt)), some (.fr (.list (tx forms))), some (.fr (.tuple cs)), some (.fr (.int many)), some (.fr (.tuple [.str a, .str b, .tuple sub])), some (.fr (.str a)), some (.fr (.str b)), some (.fr (.tuple sub)), some (.fr (.list (btw lt a b))), none, none]
                        = some (.val (.list ((List.zip (btw lt a b) sub).map fun p => .bool (showsN lt forms many n (cs ++ [p.1]) p.2))), [some (.fr (labsD lt)), some (.fr (.list (tx forms))), some (.fr (.tuple cs)), some (.fr (.int many)), some (.fr (.tuple [.str a, .str b, .tuple sub])), some (.fr (.str a)), some (.fr (.str b)), some (.fr (.tuple sub)), some (.fr (.list (btw lt a b))), none, none]) := by
                      refine lc_all (as := List.zip (btw lt a b) sub) (fun p => .tuple [p.1, p.2]) (fun p => .bool (showsN lt forms many n (cs ++ [p.1]) p.2)) (ev ?_) rfl (fun p hp => ?_) ?_
                      · simp only [W_zip, W_var, List.getElem?_cons_succ, List.getElem?_cons_zero, wo_some, fzO, seqOf]
                        exact ⟨by rw [List.zip, List.map_zipWith], trivial⟩
                      · have m1 := (List.of_mem_zip hp).1
                        have m2 := (List.of_mem_zip hp).2
                        have lb := btw_lb h a b _ m1
                        have hc' : cs.length + [p.1].length ≤ sizeLine := by
                          show cs.length + 1 ≤ _
                          have h16 : sizeLine = 16777216 := sizeLine_eq
                          omega
                        have hr := f_shows h forms many n (cs ++ [p.1]) p.2 (hs _ m2) (fun c hcm => by
                          rcases List.mem_append.mp hcm with q | q
                          · exact hc c q
                          · rw [List.mem_singleton.mp q]; exact lb) (by rw [List.length_append]; simp; omega) (by rw [List.length_append]; simp; omega) hm
                        refine ⟨[some (.fr (labsD lt)), some (.fr (.list (tx forms))), some (.fr (.tuple cs)), some (.fr (.int many)), some (.fr (.tuple [.str a, .str b, .tuple sub])), some (.fr (.str a)), some (.fr (.str b)), some (.fr (.tuple sub)), some (.fr (.list (btw lt a b))), some (.fr p.1), some (.fr p.2)], rfl, rfl, .val (.bool (showsN lt forms many n (cs ++ [p.1]) p.2)), ev ?_, rfl⟩
                        simp only [W_call, W_cons, W_nil, W_var, List.getElem?_cons_succ, List.getElem?_cons_zero, wo_some, W_op, W_tup, plOs, lb.plain, Option.bind_some, rdO, gCatT, if_pos hc', fzOs, fzO, hr]
                        exact ⟨trivial, trivial⟩
                      · rw [List.length_zip]
                        exact Nat.le_trans (Nat.min_le_right _ _) (Nat.le_trans hl (by decide))
                    refine W_of lc ?_
                    simp only [rdOs, rdO, Option.bind_some, wo_some, gAll, boolsOf_map, fzO, List.all_map]
                    rfl
                  · simp only [hw, decide_false, Bool.not_false, if_true, W_ret, W_c, fzO, wo_some, Bool.false_and]
          · simp only [ca, cb, clt, decide_true, decide_false, Bool.not_true, Bool.not_false, Bool.false_eq_true, if_false, W_not, W_b, W_op, W_var, List.getElem?_cons_succ, List.getElem?_cons_zero, wo_some, rdO, hlt, OV.val.injEq, PyData.bool.injEq, exists_eq_left', if_true, W_ret, W_c, fzO, Bool.false_and, Bool.true_and]
        · simp only [ca, cb, decide_true, decide_false, Bool.not_true, Bool.not_false, Bool.false_eq_true, if_false, W_ret, W_c, fzO, wo_some, if_true, Bool.false_and, Bool.true_and]
      · simp only [ca, decide_false, Bool.not_false, if_true, W_ret, W_c, fzO, wo_some, Bool.false_and]
end DL

set_option maxRecDepth 100000
set_option linter.all false
set_option maxHeartbeats 2000000
/-! M8: node_of gives what shows_node takes. -/
namespace DL
open PySem PySem.W PyProof.Rows
theorem argBest_le (bt : Nat → Nat → Bool) : ∀ k, argBest bt k ≤ k
  | 0 => Nat.le_refl _
  | k + 1 => by
    have ih := argBest_le bt k
    unfold argBest
    split
    · exact Nat.le_refl _
    · omega
theorem thirds_prs : ∀ ps : List Pr, thirds (prs ps) = some (ps.map fun p => p.bt.length)
  | [] => rfl
  | p :: r => by
    have ih := thirds_prs r
    simp only [List.map_cons]
    show thirds (pr p.a p.b p.bt :: r.map Pr.d) = _
    unfold pr thirds
    rw [ih]; rfl
abbrev Inc (fs : List Str) : Prop := fs.Pairwise fun a b => a.cps.toList < b.cps.toList
theorem pairsL_mem {lt : LT} : ∀ {fs : List Str}, Inc fs → ∀ p ∈ pairsL lt fs, p.a ∈ fs ∧ p.b ∈ fs ∧ p.a.cps.toList < p.b.cps.toList ∧ p.bt = btw lt p.a p.b ∧ btw lt p.a p.b ≠ []
  | [], _, p, h => by cases h
  | a :: r, hi, p, h => by
    obtain ⟨h1, h2⟩ := List.pairwise_cons.mp hi
    simp only [pairsL, List.mem_append, List.mem_filterMap] at h
    rcases h with ⟨b, hb, e⟩ | h
    · unfold prOf at e
      split at e
      · cases e
      · rename_i c
        cases e
        exact ⟨by simp, by simp [hb], h1 _ hb, rfl, c⟩
    · obtain ⟨q1, q2, q3⟩ := pairsL_mem h2 p h
      exact ⟨by simp [q1], by simp [q2], q3⟩
theorem pairsL_ok {lt : LT} (h : LOK lt) {fs : List Str} (hi : Inc fs) : ∀ p ∈ pairsL lt fs, p.ok := fun p hp => by
  obtain ⟨_, _, _, e, _⟩ := pairsL_mem hi p hp
  unfold Pr.ok
  rw [e]
  exact ⟨btw_len h _ _, btw_lb h _ _⟩
theorem f_node {lt : LT} (h : LOK lt) {forms : List Str} (hi : Inc forms) (hn : forms.length ≤ 30) (many : Nat) (hm : many ≤ 100) (hmin : ∀ cs, (∀ c ∈ cs, c ∈ lt.map (·.1)) → cs.length ≤ many → hitsAll (pairsL lt forms) cs = false) :
    ∀ (n : Nat) (cs : List PyData), (∀ c ∈ cs, c ∈ lt.map (·.1)) → cs.length ≤ many → many < cs.length + n →
    ∃ x, R_node_of n [.list (prs (pairsL lt forms)), .tuple cs, .int many] = some x ∧ IsNd x ∧ showsN lt forms many n cs x = true
  | 0, cs, _, h1, h2 => by omega
  | n + 1, cs, hc, h1, h2 => by
    have lbl : ∀ l ∈ lt.map (·.1), IsLb l := fun l hl => by
      obtain ⟨p, hp, rfl⟩ := List.mem_map.mp hl
      exact h.lb p hp
    have hN : (pairsL lt forms).length ≤ 900 := Nat.le_trans (pairsL_len lt forms) (Nat.mul_le_mul hn hn)
    have nt : F_not_told_by [.list (prs (pairsL lt forms)), .tuple cs] = some (.list (prs ((pairsL lt forms).filter fun p => !p.hit cs))) := f_nottold (pairsL_ok h hi) (by omega) (fun c hcm => lbl c (hc c hcm)) rfl
    generalize hfl : (pairsL lt forms).filter (fun p => !p.hit cs) = fl at nt
    have hpos : 0 < fl.length := by
      have hf := hmin cs hc h1
      unfold hitsAll at hf
      rw [List.all_eq_false] at hf
      obtain ⟨p, hp, hq⟩ := hf
      have : p ∈ fl := by rw [← hfl]; exact List.mem_filter.mpr ⟨hp, by simpa using hq⟩
      exact List.length_pos_of_mem this
    have hix : argBest (btN (fl.map fun p => p.bt.length)) (fl.length - 1) < fl.length := by
      have := argBest_le (btN (fl.map fun p => p.bt.length)) (fl.length - 1)
      omega
    obtain ⟨p, hp⟩ : ∃ p, fl[argBest (btN (fl.map fun p => p.bt.length)) (fl.length - 1)]? = some p := ⟨_, List.getElem?_eq_getElem hix⟩
    have hpm : p ∈ fl := List.mem_of_getElem? hp
    rw [← hfl] at hpm
    obtain ⟨hpp, hph⟩ := List.mem_filter.mp hpm
    obtain ⟨m1, m2, m3, m4, m5⟩ := pairsL_mem hi p hpp
    have hph' : (btw lt p.a p.b).any (fun l => decide (l ∈ cs)) = false := by
      have : p.hit cs = false := by simpa using hph
      unfold Pr.hit at this
      rw [m4] at this
      exact this
    have hbe : (btw lt p.a p.b).isEmpty = false := by
      cases e : btw lt p.a p.b with
      | nil => exact absurd e m5
      | cons _ _ => rfl
    have bl : ∀ l ∈ btw lt p.a p.b, l ∈ lt.map (·.1) := fun l hl => by
      obtain ⟨q, hq, rfl⟩ := List.mem_map.mp hl
      exact List.mem_map.mpr ⟨q, (List.mem_filter.mp hq).1, rfl⟩
    have mn : fMinL (fCall F_not_told_by (fCons (fVar 0) (fCons (fVar 1) fNil))) [some (.fr (.list (prs (pairsL lt forms)))), some (.fr (.tuple cs)), some (.fr (.int many)), none, none, none, none] = some (.val p.d, [some (.fr (.list (prs (pairsL lt forms)))), some (.fr (.tuple cs)), some (.fr (.int many)), none, none, none, none]) := by
      have c : fCall F_not_told_by (fCons (fVar 0) (fCons (fVar 1) fNil)) [some (.fr (.list (prs (pairsL lt forms)))), some (.fr (.tuple cs)), some (.fr (.int many)), none, none, none, none] = some (.val (.list (prs fl)), [some (.fr (.list (prs (pairsL lt forms)))), some (.fr (.tuple cs)), some (.fr (.int many)), none, none, none, none]) := by
        refine ev ?_
        simp only [W_call, W_cons, W_nil, W_var, List.getElem?_cons_succ, List.getElem?_cons_zero, wo_some, fzOs, fzO, Option.bind_some, nt]
        exact ⟨trivial, trivial⟩
      unfold fMinL
      rw [c]
      simp only [Option.bind_some, fzO, thirds_prs, List.length_map]
      rw [List.getElem?_map, hp]
      rfl
    have e4 : gEq true (.int ((cs.length : Nat) : Int)) (.int (many : Nat)) = some (.bool (decide (cs.length = many))) := by
      unfold gEq
      rw [if_pos ⟨rfl, rfl, by simp [PyData.depth]⟩]
      by_cases q : cs.length = many
      · rw [q]; simp
      · have : ¬ ((cs.length : Nat) : Int) = (many : Nat) := by omega
        simp [q, this]
    by_cases hq : cs.length = many
    · rw [hq] at e4
      simp only [decide_true] at e4
      refine ⟨.tuple [.str p.a, .str p.b, .tuple []], ?_, .nd (by simp) (by simp), ?_⟩
      · show runF N_node_of (fb_node_of (R_node_of n) F_not_told_by) _ = _
        refine runF_of ?_
        change W (fb_node_of (R_node_of n) F_not_told_by) [some (.fr (.list (prs (pairsL lt forms)))), some (.fr (.tuple cs)), some (.fr (.int many)), none, none, none, none] _
        unfold fb_node_of
        simp only [W_seq, W_asg]
        refine W_of mn ?_
        simp only [fzO, wo_some, Pr.d, pr, gT, gsC, gN, gsN, Option.bind_some, List.set_cons_succ, List.set_cons_zero, W_if, W_b, W_op, W_cb, W_cons, W_nil, rdOs, rdO, gLen, W_var, List.getElem?_cons_succ, List.getElem?_cons_zero, e4, hq, OV.val.injEq, PyData.bool.injEq, exists_eq_left', decide_true, if_true, W_ret, W_tup, plOs, plO]
      · unfold showsN
        simp [m1, m2, m3, hbe, hph', hq]
    · let e : PyData → PyData := fun l => (R_node_of n [.list (prs (pairsL lt forms)), .tuple (cs ++ [l]), .int many]).getD .none
      have he : ∀ l ∈ btw lt p.a p.b, R_node_of n [.list (prs (pairsL lt forms)), .tuple (cs ++ [l]), .int many] = some (e l) ∧ IsNd (e l) ∧ showsN lt forms many n (cs ++ [l]) (e l) = true := fun l hl => by
        obtain ⟨x, q1, q2, q3⟩ := f_node h hi hn many hm hmin n (cs ++ [l]) (fun c hcm => by
          rcases List.mem_append.mp hcm with q | q
          · exact hc c q
          · rw [List.mem_singleton.mp q]; exact bl l hl) (by rw [List.length_append]; simp; omega) (by rw [List.length_append]; simp; omega)
        have : e l = x := by show (R_node_of n _).getD .none = x; rw [q1]; rfl
        rw [this]; exact ⟨q1, q2, q3⟩
      refine ⟨.tuple [.str p.a, .str p.b, .tuple ((btw lt p.a p.b).map e)], ?_, .nd (fun x hx => ?_) ?_, ?_⟩
      · show runF N_node_of (fb_node_of (R_node_of n) F_not_told_by) _ = _
        refine runF_of ?_
        change W (fb_node_of (R_node_of n) F_not_told_by) [some (.fr (.list (prs (pairsL lt forms)))), some (.fr (.tuple cs)), some (.fr (.int many)), none, none, none, none] _
        unfold fb_node_of
        simp only [W_seq, W_asg]
        refine W_of mn ?_
        have lc : fLc (fItems (fVar 5)) (gN 6) fYes (fCall (R_node_of n) (fCons (fVar 0) (fCons (fOp gCatT (fVar 1) (fTup (fCons (fVar 6) fNil))) (fCons (fVar 2) fNil)))) [6]
            [some (.fr (.list (prs (pairsL lt forms)))), some (.fr (.tuple cs)), some (.fr (.int many)), some (.fr (.str p.a)), some (.fr (.str p.b)), some (.fr (.list p.bt)), none] = some (.val (.list ((btw lt p.a p.b).map e)), [some (.fr (.list (prs (pairsL lt forms)))), some (.fr (.tuple cs)), some (.fr (.int many)), some (.fr (.str p.a)), some (.fr (.str p.b)), some (.fr (.list p.bt)), none]) := by
          refine lc_all (as := btw lt p.a p.b) id e (ev ?_) rfl (fun l hl => ?_) (Nat.le_trans (btw_len h _ _) (by decide))
          · simp only [W_items, W_var, List.getElem?_cons_succ, List.getElem?_cons_zero, wo_some, fzO, seqOf, m4, List.map_id]
            exact ⟨trivial, trivial⟩
          · have lb := btw_lb h _ _ _ hl
            have hc' : cs.length + [l].length ≤ sizeLine := by
              show cs.length + 1 ≤ _
              have h16 : sizeLine = 16777216 := sizeLine_eq
              omega
            obtain ⟨q1, q2, q3⟩ := he l hl
            refine ⟨[some (.fr (.list (prs (pairsL lt forms)))), some (.fr (.tuple cs)), some (.fr (.int many)), some (.fr (.str p.a)), some (.fr (.str p.b)), some (.fr (.list p.bt)), some (.fr l)], rfl, rfl, .val (e l), ev ?_, q2.ndic⟩
            simp only [W_call, W_cons, W_nil, W_var, List.getElem?_cons_succ, List.getElem?_cons_zero, wo_some, W_op, W_tup, plOs, lb.plain, Option.bind_some, rdO, gCatT, if_pos hc', fzOs, fzO, q1]
            exact ⟨trivial, trivial⟩
        simp only [fzO, wo_some, Pr.d, pr, gT, gsC, gN, gsN, Option.bind_some, List.set_cons_succ, List.set_cons_zero, W_if, W_b, W_op, W_cb, W_cons, W_nil, rdOs, rdO, gLen, W_var, List.getElem?_cons_succ, List.getElem?_cons_zero, e4, hq, OV.val.injEq, PyData.bool.injEq, exists_eq_left', decide_false, Bool.false_eq_true, if_false, W_next, W_ret, W_tup]
        refine W_of lc ?_
        simp only [rdOs, rdO, Option.bind_some, wo_some, gTuple, plOs, plO, fzO]
      · obtain ⟨l, hl, rfl⟩ := List.mem_map.mp hx
        exact (he l hl).2.1
      · rw [List.length_map]; exact Nat.le_trans (btw_len h _ _) (by decide)
      · unfold showsN
        have zz : (List.zip (btw lt p.a p.b) ((btw lt p.a p.b).map e)).all (fun q => showsN lt forms many n (cs ++ [q.1]) q.2) = true := by
          refine List.all_eq_true.mpr fun q hq => ?_
          have : ∀ (xs : List PyData) (q : PyData × PyData), q ∈ List.zip xs (xs.map e) → q.1 ∈ xs ∧ q.2 = e q.1 := by
            intro xs
            induction xs with
            | nil => intro q hq; simp at hq
            | cons x xs ih =>
              intro q hq
              rw [List.map_cons, List.zip_cons_cons, List.mem_cons] at hq
              rcases hq with rfl | hq
              · exact ⟨by simp, rfl⟩
              · exact ⟨by simp [(ih q hq).1], (ih q hq).2⟩
          obtain ⟨z1, z2⟩ := this _ q hq
          rw [z2]
          exact (he _ z1).2.2
        simp [m1, m2, m3, hbe, hph', hq, zz]
end DL

set_option maxRecDepth 100000
set_option linter.all false
set_option maxHeartbeats 2000000
/-! M9: listings; is_label, shows_telling. -/
namespace DL
open PySem PySem.W PyProof.Rows
structure Page where
  form : Str
  title : PyData
  marks : List Str
  paths : List (List Str)
abbrev pathD (p : List Str) : PyData := .tuple (tx p)
def Page.d (p : Page) : PyData := .tuple [.str p.form, p.title, .tuple (tx p.marks), .tuple (p.paths.map pathD)]
structure Lst where
  folders : List (List Str)
  pages : List Page
  pairs : List (Str × Str)
def qD (q : Str × Str) : PyData := .tuple [.str q.1, .str q.2]
def Lst.fD (L : Lst) : PyData := .tuple (L.folders.map pathD)
def Lst.pD (L : Lst) : PyData := .tuple (L.pages.map Page.d)
def Lst.qD (L : Lst) : PyData := .tuple (L.pairs.map DL.qD)
def Lst.d (L : Lst) : PyData := lis L.fD L.pD L.qD
@[simp] theorem lisOf_d (L : Lst) : lisOf L.d = some (L.fD, L.pD, L.qD) := rfl
def Lst.forms (L : Lst) : List Str := L.pages.map (·.form)
/-! ### is_label -/
theorem eq_ss (s : Bool) (a b : Str) : gEq s (.str a) (.str b) = some (.bool (if s = true then decide (a = b) else !decide (a = b))) := by
  unfold gEq
  rw [if_pos ⟨rfl, rfl, by simp [PyData.depth]⟩]
  rw [key_eqv' rfl rfl]
  simp
theorem inT_lt {lt : LT} (h : LOK lt) {l : PyData} (hl : l ∈ lt.map (·.1)) : gInT l (labsD lt) = some (.bool true) := by
  obtain ⟨p, hp, rfl⟩ := List.mem_map.mp hl
  unfold gInT labsD tdic
  show (if _ then _ else _) = _
  rw [if_pos (h.lb p hp).tup, valD_lt h hp]
  rfl
theorem f_islabel {lt : LT} (h : LOK lt) {l : PyData} (hl : l ∈ lt.map (·.1)) : F_is_label [labsD lt, l] = some (.bool true) := by
  have hin := inT_lt h hl
  refine runF_of ?_
  change W fb_is_label [some (.fr (labsD lt)), some (.fr l), none] _
  unfold fb_is_label
  have lb : IsLb l := by
    obtain ⟨p, hp, rfl⟩ := List.mem_map.mp hl
    exact h.lb p hp
  have e2 : gEq false (.int ((2 : Nat) : Int)) (.int 2) = some (.bool false) := by
    unfold gEq
    rw [if_pos ⟨rfl, rfl, by simp [PyData.depth]⟩]
    rfl
  rcases lb with ⟨p, hlen, rfl⟩ | ⟨m, rfl⟩
  · have i0 : gIx (lbF p) (.int 0) = some (.str "folder") := rfl
    have i1 : gIx (lbF p) (.int 1) = some (.tuple (tx p)) := rfl
    have it : gIsi "tuple" (lbF p) = some (.bool true) := rfl
    have il : gLen [lbF p] = some (.int ((2 : Nat) : Int)) := rfl
    have n1 : gEq true (.str "folder") (.str "mark") = some (.bool false) := by rw [eq_ss, if_pos rfl, show decide (("folder" : Str) = "mark") = false by decide +kernel]
    have n2 : gEq false (.str "folder") (.str "folder") = some (.bool false) := by rw [eq_ss]; simp
    simp only [W_seq, W_if, W_or, W_not, W_b, W_isi, W_op, W_cb, W_cons, W_nil, rdOs, rdO, Option.bind_some, W_var, List.getElem?_cons_succ, List.getElem?_cons_zero, wo_some, fzO, it, il, e2, i0, i1, isi_ss, isi_tt, n1, n2, OV.val.injEq, PyData.bool.injEq, exists_eq_left', Bool.not_true, Bool.false_eq_true, if_false, if_true, W_ret, W_c, W_next, W_andV]
    have lc : fLc (fItems (fOp gIx (fVar 1) (fC (.int 1)))) (gN 2) fYes (fIsi "str" (fVar 2)) [2] [some (.fr (labsD lt)), some (.fr (lbF p)), none] = some (.val (.list (p.map fun _ => .bool true)), [some (.fr (labsD lt)), some (.fr (lbF p)), none]) := by
      refine lc_all (as := p) PyData.str (fun _ => .bool true) (ev ?_) rfl (fun x hx => ?_) (Nat.le_trans hlen (by decide))
      · simp only [W_items, W_op, W_var, W_c, List.getElem?_cons_succ, List.getElem?_cons_zero, wo_some, rdO, i1, fzO, seqOf]
        exact ⟨trivial, trivial⟩
      · exact ⟨[some (.fr (labsD lt)), some (.fr (lbF p)), some (.fr (.str x))], rfl, rfl, .val (.bool true), rfl, rfl⟩
    refine W_of lc ?_
    have ha : gAll [.list (p.map fun _ => .bool true)] = some (.bool true) := by
      show (boolsOf _).bind _ = _
      rw [boolsOf_map (fun _ => true)]
      simp
    simp only [rdOs, rdO, Option.bind_some, wo_some, ha, OV.val.injEq, PyData.bool.injEq, exists_eq_left', if_true, W_op, W_var, List.getElem?_cons_succ, List.getElem?_cons_zero, hin, fzO]
  · have i0 : gIx (lbM m) (.int 0) = some (.str "mark") := rfl
    have i1 : gIx (lbM m) (.int 1) = some (.str m) := rfl
    have it : gIsi "tuple" (lbM m) = some (.bool true) := rfl
    have il : gLen [lbM m] = some (.int ((2 : Nat) : Int)) := rfl
    have n1 : gEq true (.str "mark") (.str "mark") = some (.bool true) := by rw [eq_ss]; simp
    simp only [W_seq, W_if, W_or, W_not, W_b, W_isi, W_op, W_cb, W_cons, W_nil, rdOs, rdO, Option.bind_some, W_var, List.getElem?_cons_succ, List.getElem?_cons_zero, wo_some, fzO, it, il, e2, i0, i1, isi_ss, isi_tt, n1, OV.val.injEq, PyData.bool.injEq, exists_eq_left', Bool.not_true, Bool.false_eq_true, if_false, if_true, W_ret, W_c, W_next, W_andV, hin]
end DL

set_option maxRecDepth 100000
set_option linter.all false
set_option maxHeartbeats 2000000
/-! M10: shows_telling. -/
namespace DL
open PySem PySem.W PyProof.Rows
theorem up_zip : ∀ {cs : List PyData}, Up cs → ∀ p ∈ List.zip cs (cs.drop 1), p.1 ∈ cs ∧ p.2 ∈ cs ∧ dataLt p.1 p.2 = true
  | [], _, p, h => by simp at h
  | [a], _, p, h => by simp at h
  | a :: b :: r, hu, p, h => by
    have hu' := List.pairwise_cons.mp hu
    simp only [List.drop_succ_cons, List.drop_zero, List.zip_cons_cons, List.mem_cons] at h
    rcases h with rfl | h
    · exact ⟨by simp, by simp, hu'.1 b (by simp)⟩
    · have := up_zip hu'.2 p (by simpa using h)
      exact ⟨by simp [this.1], by simp [this.2.1], this.2.2⟩
def isNone (x : PyData) : Bool := match x with
  | .none => true
  | _ => false
noncomputable def tellsB (lt : LT) (forms : List Str) (cs : List PyData) (x : PyData) : Bool := tellB lt forms cs && if cs = [] then isNone x else showsN lt forms (cs.length - 1) 10 [] x
theorem isn {x : PyData} (h : IsNd x) : gIsN x .none = some (.bool (isNone x)) := by cases h <;> rfl
theorem forms_lc (L : Lst) (hn : L.pages.length ≤ 30) {d : SD} {v3 : Option SV} {c p : PyData} (hd : d = [some (.fr L.d), some (.fr c), some (.fr p), v3, none, none, none, none, none]) :
    fLc (fItems (fFld .pages (fVar 0))) (gN 8) fYes (fOp gIx (fVar 8) (fC (.int 0))) [8] d = some (.val (.list (tx L.forms)), d) := by
  subst hd
  have : tx L.forms = L.pages.map fun q => PyData.str q.form := by simp [Lst.forms]
  rw [this]
  refine lc_all (as := L.pages) Page.d (fun q => .str q.form) (ev ?_) rfl (fun q hq => ?_) (Nat.le_trans hn (by decide))
  · simp only [W_items, W_fld, W_var, List.getElem?_cons_succ, List.getElem?_cons_zero, wo_some, fzO, lisOf_d, Fi.pick, Lst.pD, seqOf]
    exact ⟨trivial, trivial⟩
  · exact ⟨[some (.fr L.d), some (.fr c), some (.fr p), v3, none, none, none, none, some (.fr q.d)], rfl, rfl, .val (.str q.form), rfl, rfl⟩
theorem f_tellsB {lt : LT} (h : LOK lt) {L : Lst} (hn : L.pages.length ≤ 30) (hL : F_labels_of [L.d] = some (labsD lt)) {cs : List PyData} (hc : ∀ c ∈ cs, c ∈ lt.map (·.1)) (hu : Up cs) (hl : cs.length ≤ 9) {x : PyData} (hx : IsNd x) :
    F_shows_telling [L.d, .tuple cs, x] = some (.bool (tellsB lt L.forms cs x)) := by
  refine runF_of ?_
  change W (fb_shows_telling F_is_label F_labels_of F_shows_node F_tell_all) [some (.fr L.d), some (.fr (.tuple cs)), some (.fr x), none, none, none, none, none, none] _
  unfold fb_shows_telling
  have lbl : ∀ c ∈ cs, IsLb c := fun c hcm => by
    obtain ⟨p, hp, rfl⟩ := List.mem_map.mp (hc c hcm)
    exact h.lb p hp
  have lc1 : fLc (fItems (fVar 1)) (gN 4) fYes (fCall F_is_label (fCons (fVar 3) (fCons (fVar 4) fNil))) [4] [some (.fr L.d), some (.fr (.tuple cs)), some (.fr x), some (.fr (labsD lt)), none, none, none, none, none] = some (.val (.list (cs.map fun _ => .bool true)), [some (.fr L.d), some (.fr (.tuple cs)), some (.fr x), some (.fr (labsD lt)), none, none, none, none, none]) := by
    refine lc_all (as := cs) id (fun _ => .bool true) (ev ?_) rfl (fun c hcm => ?_) (Nat.le_trans hl (by decide))
    · simp only [W_items, W_var, List.getElem?_cons_succ, List.getElem?_cons_zero, wo_some, fzO, seqOf, List.map_id]
      exact ⟨trivial, trivial⟩
    · refine ⟨[some (.fr L.d), some (.fr (.tuple cs)), some (.fr x), some (.fr (labsD lt)), some (.fr c), none, none, none, none], rfl, rfl, .val (.bool true), ev ?_, rfl⟩
      simp only [W_call, W_cons, W_nil, W_var, List.getElem?_cons_succ, List.getElem?_cons_zero, wo_some, fzOs, fzO, Option.bind_some, f_islabel h (hc c hcm)]
      exact ⟨trivial, trivial⟩
  have lc2 : fLc (fZip (fCons (fVar 1) (fCons (fSl (fVar 1) (fPs (fC (.int 1))) fPn) fNil))) (gT (gsC (gN 5) (gsC (gN 6) gsN))) fYes (fOp gLtH (fVar 5) (fVar 6)) [5, 6] [some (.fr L.d), some (.fr (.tuple cs)), some (.fr x), some (.fr (labsD lt)), none, none, none, none, none] = some (.val (.list ((List.zip cs (cs.drop 1)).map fun _ => .bool true)), [some (.fr L.d), some (.fr (.tuple cs)), some (.fr x), some (.fr (labsD lt)), none, none, none, none, none]) := by
    have hsl : gSl (.tuple cs) (some 1) none = some (.tuple (cs.drop 1)) := by
      show some (PyData.tuple (cutD _ (some (((1 : Nat)) : Int)) none)) = _
      rw [cut_from]
    refine lc_all (as := List.zip cs (cs.drop 1)) (fun p => .tuple [p.1, p.2]) (fun _ => .bool true) (ev ?_) rfl (fun p hp => ?_) (by rw [List.length_zip]; exact Nat.le_trans (Nat.min_le_left _ _) (Nat.le_trans hl (by decide)))
    · simp only [W_zip, W_sl, W_ps, W_pn, W_c, OV.val.injEq, PyData.int.injEq, exists_eq_left', rdO, hsl, W_var, List.getElem?_cons_succ, List.getElem?_cons_zero, wo_some, fzO, seqOf]
      exact ⟨by rw [List.zip, List.map_zipWith], trivial⟩
    · obtain ⟨z1, z2, z3⟩ := up_zip hu p hp
      refine ⟨[some (.fr L.d), some (.fr (.tuple cs)), some (.fr x), some (.fr (labsD lt)), none, some (.fr p.1), some (.fr p.2), none, none], rfl, rfl, .val (.bool true), ev ?_, rfl⟩
      have : gLtH p.1 p.2 = some (.bool true) := by
        unfold gLtH
        rw [if_pos ⟨(lbl _ z1).hd, (lbl _ z2).hd, (lbl _ z1).cmp (lbl _ z2), Nat.le_trans (Nat.min_le_left _ _) (Nat.le_trans (lbl _ z1).depth (by decide))⟩, z3]
      simp only [W_op, W_var, List.getElem?_cons_succ, List.getElem?_cons_zero, wo_some, rdO, this]
      exact ⟨trivial, trivial⟩
  have all1 : ∀ {α : Type} (l : List α), gAll [.list (l.map fun _ => .bool true)] = some (.bool true) := fun l => by
    show (boolsOf _).bind _ = _
    rw [boolsOf_map (fun _ => true)]
    simp
  simp only [W_seq, W_set, W_call, W_cons, W_nil, W_var, List.getElem?_cons_succ, List.getElem?_cons_zero, wo_some, fzOs, fzO, Option.bind_some, hL, List.set_cons_succ, List.set_cons_zero, W_if, W_or, W_not, W_b, W_isi, isi_tt, OV.val.injEq, PyData.bool.injEq, exists_eq_left', Bool.not_true, Bool.false_eq_true, if_false, W_cb]
  refine W_of lc1 ?_
  simp only [rdOs, rdO, Option.bind_some, wo_some, all1, OV.val.injEq, PyData.bool.injEq, exists_eq_left', Bool.not_true, Bool.false_eq_true, if_false, W_next]
  refine W_of lc2 ?_
  simp only [rdOs, rdO, Option.bind_some, wo_some, all1, OV.val.injEq, PyData.bool.injEq, exists_eq_left', Bool.not_true, Bool.false_eq_true, if_false, W_next]
  refine W_of (forms_lc L hn rfl) ?_
  simp only [fzO, wo_some, List.set_cons_succ, List.set_cons_zero, W_var, List.getElem?_cons_succ, List.getElem?_cons_zero, fzOs, Option.bind_some, f_tellall h L.forms lbl, OV.val.injEq, PyData.bool.injEq, exists_eq_left']
  unfold tellsB
  by_cases ht : tellB lt L.forms cs = true
  · simp only [ht, Bool.not_true, Bool.false_eq_true, if_false, W_next, W_op, W_var, List.getElem?_cons_succ, List.getElem?_cons_zero, wo_some, W_tup, W_nil, plOs, rdO, eq_tnil, if_true, OV.val.injEq, PyData.bool.injEq, exists_eq_left', Bool.true_and]
    cases cs with
    | nil =>
      simp only [List.isEmpty_nil, if_true, W_ret, W_op, W_var, List.getElem?_cons_succ, List.getElem?_cons_zero, wo_some, W_c, rdO, isn hx, fzO]
    | cons c r =>
      have hm : (((r.length + 1 : Nat) : Int) - 1) = ((r.length : Nat) : Int) := by omega
      have hs := f_shows h L.forms r.length 10 [] x hx (by simp) (by simp) (by simp at hl ⊢; omega) (by simp at hl; omega)
      have hs' : F_shows_node [labsD lt, .list (tx L.forms), .tuple [], .int ((r.length : Nat) : Int), x] = some (.bool (showsN lt L.forms r.length 10 [] x)) := hs
      simp only [List.isEmpty_cons, Bool.false_eq_true, if_false, W_next, W_ret, W_call, W_cons, W_nil, W_var, List.getElem?_cons_succ, List.getElem?_cons_zero, wo_some, W_tup, plOs, W_op, W_cb, rdOs, rdO, Option.bind_some, gLen, W_c, gSub_, gI, hm, fzOs, fzO, hs', reduceCtorEq, List.length_cons, Nat.add_sub_cancel]
  · have ht' : tellB lt L.forms cs = false := by simpa using ht
    simp only [ht', Bool.not_false, if_true, W_ret, W_c, fzO, wo_some, Bool.false_and]
end DL

set_option maxRecDepth 100000
set_option linter.all false
set_option maxHeartbeats 2000000
/-! M11: the fewest are few; telling. -/
namespace DL
open PySem PySem.W PyProof.Rows
theorem hit_congr {p : Pr} {cs ds : List PyData} (h : ∀ l ∈ p.bt, l ∈ cs ↔ l ∈ ds) : p.hit cs = p.hit ds := by
  unfold Pr.hit
  rw [Bool.eq_iff_iff, List.any_eq_true, List.any_eq_true]
  constructor
  · rintro ⟨l, hl, e⟩; exact ⟨l, hl, decide_eq_true ((h l hl).mp (of_decide_eq_true e))⟩
  · rintro ⟨l, hl, e⟩; exact ⟨l, hl, decide_eq_true ((h l hl).mpr (of_decide_eq_true e))⟩
theorem hits_congr {ps : List Pr} {cs ds : List PyData} (h : ∀ p ∈ ps, ∀ l ∈ p.bt, l ∈ cs ↔ l ∈ ds) : hitsAll ps cs = hitsAll ps ds := by
  unfold hitsAll
  rw [Bool.eq_iff_iff, List.all_eq_true, List.all_eq_true]
  constructor
  · intro q p hp; rw [← hit_congr (h p hp)]; exact q p hp
  · intro q p hp; rw [hit_congr (h p hp)]; exact q p hp
theorem allCombs_sorted (ls : List PyData) : (allCombs ls).Pairwise fun a b => a.length ≤ b.length := by
  unfold allCombs
  rw [List.pairwise_flatMap]
  refine ⟨fun m _ => ?_, ?_⟩
  · refine List.pairwise_iff_forall_sublist.mpr fun {a b} s => ?_
    have ha := (combs_mem ls m a).mp (s.subset (by simp))
    have hb := (combs_mem ls m b).mp (s.subset (by simp))
    omega
  · refine List.pairwise_lt_range.imp fun {m n} h a ha b hb => ?_
    have ha := (combs_mem ls m a).mp ha
    have hb := (combs_mem ls n b).mp hb
    omega
theorem allCombs_mem {ls c : List PyData} : c ∈ allCombs ls ↔ c.Sublist ls := by
  unfold allCombs
  rw [List.mem_flatMap]
  constructor
  · rintro ⟨m, _, h⟩; exact ((combs_mem ls m c).mp h).1
  · intro h
    exact ⟨c.length, List.mem_range.mpr (by have := h.length_le; omega), (combs_mem ls _ c).mpr ⟨h, rfl⟩⟩
/-- a smaller choice hits not all -/
theorem fewest_min {ls : List PyData} {ps : List Pr} (hn : ls.Nodup) (hp : ∀ p ∈ ps, ∀ l ∈ p.bt, l ∈ ls) {cs : List PyData} (hc : cs.length < (fewest ls ps).length) : hitsAll ps cs = false := by
  classical
  let c' := ls.filter fun l => decide (l ∈ cs)
  have same : hitsAll ps cs = hitsAll ps c' := hits_congr fun p hpm l hl => by
    show _ ↔ l ∈ List.filter _ _
    rw [List.mem_filter]
    simp [hp p hpm l hl]
  have hs : c'.Sublist ls := List.filter_sublist
  have hl : c'.length ≤ cs.length := by
    have nd : c'.Nodup := hn.sublist hs
    exact perm_len nd fun z hz => by simpa using (List.mem_filter.mp hz).2
  have hm := allCombs_mem.mpr hs
  rw [same]
  cases hh : hitsAll ps c' with
  | false => rfl
  | true =>
    exfalso
    unfold fewest at hc
    cases hf : (allCombs ls).find? (hitsAll ps) with
    | none =>
      have := List.find?_eq_none.mp hf c' hm
      exact this hh
    | some ch =>
      rw [hf] at hc
      have hc' : cs.length < ch.length := hc
      obtain ⟨h1, as, bs, e, h2⟩ := List.find?_eq_some_iff_append.mp hf
      rw [e] at hm
      have srt := allCombs_sorted ls
      rw [e] at srt
      rcases List.mem_append.mp hm with q | q
      · have := h2 c' q
        rw [hh] at this; cases this
      · rcases List.mem_cons.mp q with q | q
        · rw [q] at hl; omega
        · have := (List.pairwise_cons.mp (List.pairwise_append.mp srt).2.1).1 c' q
          omega
theorem fewest_sub {ls : List PyData} {ps : List Pr} : (fewest ls ps).Sublist ls := by
  unfold fewest
  cases hf : (allCombs ls).find? (hitsAll ps) with
  | none => exact List.Sublist.refl _
  | some ch => exact allCombs_mem.mp (List.mem_of_find?_eq_some hf)
theorem fewest_hits {ls : List PyData} {ps : List Pr} (hp : ∀ p ∈ ps, p.bt ≠ [] ∧ ∀ l ∈ p.bt, l ∈ ls) : hitsAll ps (fewest ls ps) = true := by
  have hall : hitsAll ps ls = true := by
    unfold hitsAll
    refine List.all_eq_true.mpr fun p hpm => ?_
    obtain ⟨h1, h2⟩ := hp p hpm
    unfold Pr.hit
    obtain ⟨l, hl⟩ := List.exists_mem_of_ne_nil _ h1
    exact List.any_eq_true.mpr ⟨l, hl, decide_eq_true (h2 l hl)⟩
  unfold fewest
  cases hf : (allCombs ls).find? (hitsAll ps) with
  | none => exact hall
  | some ch => exact List.find?_some hf
theorem f_len (L : Lst) : F___len__ [L.d] = some (.int (L.pages.length : Nat)) := by
  refine runF_of ?_
  change W fb___len__ [some (.fr L.d)] _
  unfold fb___len__
  simp only [W_ret, W_cb, W_cons, W_nil, W_fld, W_var, List.getElem?_cons_succ, List.getElem?_cons_zero, wo_some, fzO, lisOf_d, Fi.pick, Lst.pD, rdOs, rdO, Option.bind_some, gLen, List.length_map]
theorem btw_keys {lt : LT} {forms : List Str} (hi : Inc forms) : ∀ p ∈ pairsL lt forms, p.bt ≠ [] ∧ ∀ l ∈ p.bt, l ∈ lt.map (·.1) := fun p hp => by
  obtain ⟨_, _, _, m4, m5⟩ := pairsL_mem hi p hp
  rw [m4]
  refine ⟨m5, fun l hl => ?_⟩
  obtain ⟨q, hq, rfl⟩ := List.mem_map.mp hl
  exact List.mem_map.mpr ⟨q, (List.mem_filter.mp hq).1, rfl⟩
theorem forms_lc2 (L : Lst) (hn : L.pages.length ≤ 30) {v : PyData} {v2 v4 : Option SV} {d : SD} (hd : d = [some (.fr L.d), some (.fr v), v2, none, v4]) :
    fLc (fItems (fFld .pages (fVar 0))) (gN 3) fYes (fOp gIx (fVar 3) (fC (.int 0))) [3] d = some (.val (.list (tx L.forms)), d) := by
  subst hd
  have : tx L.forms = L.pages.map fun q => PyData.str q.form := by simp [Lst.forms]
  rw [this]
  refine lc_all (as := L.pages) Page.d (fun q => .str q.form) (ev ?_) rfl (fun q hq => ?_) (Nat.le_trans hn (by decide))
  · simp only [W_items, W_fld, W_var, List.getElem?_cons_succ, List.getElem?_cons_zero, wo_some, fzO, lisOf_d, Fi.pick, Lst.pD, seqOf]
    exact ⟨trivial, trivial⟩
  · exact ⟨[some (.fr L.d), some (.fr v), v2, some (.fr q.d), v4], rfl, rfl, .val (.str q.form), rfl, rfl⟩
noncomputable abbrev chosen (lt : LT) (forms : List Str) : List PyData := fewest (lt.map (·.1)) (pairsL lt forms)
theorem lenL_eq {F0 : List PyData → Option PyData} {f : F OV} {d : SD} {x : PyData} {t : PyData × PyData × PyData} {n : Int} (h : f d = some (.val x, d)) (hl : lisOf x = some t) (hF : F0 [x] = some (.int n)) (h0 : 0 ≤ n) (h1 : n < 2 ^ 63) : fLenL F0 f d = some (.val (.int n), d) := by
  unfold fLenL
  rw [h]
  simp only [Option.bind_some, fzO, hl, hF]
  exact if_pos ⟨h0, h1⟩
theorem fl_len (L : Lst) (hn : L.pages.length ≤ 30) (v : PyData) : fLenL F___len__ (fVar 0) [some (.fr L.d), some (.fr v), none, none, none] = some (.val (.int (L.pages.length : Nat)), [some (.fr L.d), some (.fr v), none, none, none]) := by
  have h2 : (30 : Int) < 2 ^ 63 := by decide
  generalize hm : L.pages.length = m at hn
  have h1 : ((m : Nat) : Int) ≤ 30 := by omega
  refine lenL_eq (t := (L.fD, L.pD, L.qD)) rfl (lisOf_d L) (by rw [f_len, hm]) (by omega) (Int.lt_of_le_of_lt h1 h2)
end DL

set_option maxRecDepth 100000
set_option linter.all false
set_option maxHeartbeats 2000000
/-! M12: telling. -/
namespace DL
open PySem PySem.W PyProof.Rows
theorem W_step {f g : F Fl} {d d1 : SD} {Q : Fl → SD → Prop} (e : f d = some (.nx, d1)) (h : W g d1 Q) : W (fSeq f g) d Q := by
  rw [W_seq]
  exact W_of e h
theorem f_telling {lt : LT} (h : LOK lt) {L : Lst} (hn : L.pages.length ≤ 16) (h7 : lt.length ≤ 7) (hi : Inc L.forms) (hL : F_labels_of [L.d] = some (labsD lt)) :
    ∃ x, F_telling [L.d] = some (.tuple [.tuple (chosen lt L.forms), x]) ∧ IsNd x ∧ tellsB lt L.forms (chosen lt L.forms) x = true := by
  have hf : L.forms.length ≤ 30 := by unfold Lst.forms; rw [List.length_map]; omega
  have hsub : (chosen lt L.forms).Sublist (lt.map (·.1)) := fewest_sub
  have hlen : (chosen lt L.forms).length ≤ 7 := by have := hsub.length_le; rw [List.length_map] at this; omega
  have hit : tellB lt L.forms (chosen lt L.forms) = true := fewest_hits (btw_keys hi)
  have hN : (pairsL lt L.forms).length ≤ 900 := Nat.le_trans (pairsL_len lt L.forms) (Nat.mul_le_mul hf hf)
  have lbl : ∀ c ∈ lt.map (·.1), IsLb c := fun c hcm => by
    obtain ⟨p, hp, rfl⟩ := List.mem_map.mp hcm
    exact h.lb p hp
  have ff : F_fewest_of [.list (lt.map (·.1)), .list (prs (pairsL lt L.forms))] = some (.tuple (chosen lt L.forms)) := f_fewest (by rw [List.length_map]; omega) lbl (pairsL_ok h hi) (by omega)
  have fs : gSorted [labsD lt] = some (.list (lt.map (·.1))) := by
    unfold gSorted
    simp only [keys_labs, Option.bind_some, srt_labs h, if_true, sortD_of_up h.up]
  have fl := fl_len L (by omega) (labsD lt)
  have fT : gLenT [labsD lt] = some (.int (lt.length : Nat)) := by
    unfold gLenT labsD tdic
    simp
  have core : ∀ x, (chosen lt L.forms = [] → x = .none) → (chosen lt L.forms ≠ [] → F_node_of [.list (prs (pairsL lt L.forms)), .tuple [], .int (((chosen lt L.forms).length : Nat) - 1 : Int)] = some x ∧ plO (.val x) = some x) → F_telling [L.d] = some (.tuple [.tuple (chosen lt L.forms), x]) := by
    intro x hx0 hx1
    refine runF_of ?_
    change W (fb_telling F___len__ F_fewest_of F_labels_of F_node_of F_pairs_apart) [some (.fr L.d), none, none, none, none] _
    unfold fb_telling
    generalize chosen lt L.forms = ch at *
    refine W_step (d1 := [some (.fr L.d), some (.fr (labsD lt)), none, none, none]) (ev ?_) ?_
    · simp only [W_set, W_call, W_cons, W_nil, W_var, List.getElem?_cons_succ, List.getElem?_cons_zero, wo_some, fzOs, fzO, Option.bind_some, hL, List.set_cons_succ, List.set_cons_zero]
      exact ⟨trivial, trivial⟩
    refine W_step (d1 := [some (.fr L.d), some (.fr (labsD lt)), none, none, none]) (ev ?_) ?_
    · simp only [W_if, W_b, W_op, W_cb, W_cons, W_nil, W_var, List.getElem?_cons_succ, List.getElem?_cons_zero, wo_some, rdOs, rdO, Option.bind_some, fT, W_c, gGt, gIB, OV.val.injEq, PyData.bool.injEq, exists_eq_left']
      rw [if_neg (by simp only [decide_eq_true_eq]; omega)]
      simp only [W_next]
      exact ⟨trivial, trivial⟩
    refine W_step (d1 := [some (.fr L.d), some (.fr (labsD lt)), none, none, none]) (ev ?_) ?_
    · rw [W_if, W_b, W_op]
      refine W_of fl ?_
      simp only [W_c, rdO, wo_some, gGt, gIB, OV.val.injEq, PyData.bool.injEq, exists_eq_left']
      rw [if_neg (by simp only [decide_eq_true_eq]; omega)]
      simp only [W_next]
      exact ⟨trivial, trivial⟩
    refine W_step (d1 := [some (.fr L.d), some (.fr (labsD lt)), some (.fr (.list (prs (pairsL lt L.forms)))), none, none]) (ev ?_) ?_
    · rw [W_set, W_call, W_cons, W_var]
      simp only [List.getElem?_cons_succ, List.getElem?_cons_zero, wo_some]
      rw [W_cons]
      refine W_of (forms_lc2 L (by omega) rfl) ?_
      simp only [W_nil, fzOs, fzO, Option.bind_some, wo_some, f_pairs h L.forms hf, List.set_cons_succ, List.set_cons_zero]
      exact ⟨trivial, trivial⟩
    refine W_step (d1 := [some (.fr L.d), some (.fr (labsD lt)), some (.fr (.list (prs (pairsL lt L.forms)))), none, some (.fr (.tuple ch))]) (ev ?_) ?_
    · simp only [W_set, W_call, W_cb, W_cons, W_nil, W_var, List.getElem?_cons_succ, List.getElem?_cons_zero, wo_some, rdOs, rdO, fs, fzOs, fzO, Option.bind_some, ff, List.set_cons_succ, List.set_cons_zero]
      exact ⟨trivial, trivial⟩
    have ht : fB (fOp (gEq true) (fVar 4) (fTup fNil)) [some (.fr L.d), some (.fr (labsD lt)), some (.fr (.list (prs (pairsL lt L.forms)))), none, some (.fr (.tuple ch))] = some (ch.isEmpty, [some (.fr L.d), some (.fr (labsD lt)), some (.fr (.list (prs (pairsL lt L.forms)))), none, some (.fr (.tuple ch))]) := by
      refine ev ?_
      simp only [W_b, W_op, W_var, List.getElem?_cons_succ, List.getElem?_cons_zero, wo_some, W_tup, W_nil, plOs, rdO, eq_tnil, if_true, OV.val.injEq, PyData.bool.injEq, exists_eq_left']
      exact ⟨trivial, trivial⟩
    by_cases hc : ch = []
    · have := hx0 hc
      subst this
      subst hc
      rw [W_seq, W_if]
      refine W_of ht ?_
      simp only [List.isEmpty_nil, if_true, W_ret, W_tup, W_cons, W_nil, W_c, plOs, plO, Option.bind_some, wo_some, fzO]
    · have hb : ch.isEmpty = false := by
        cases e : ch with
        | nil => exact absurd e hc
        | cons _ _ => rfl
      obtain ⟨e1, e2⟩ := hx1 hc
      refine W_step (d1 := [some (.fr L.d), some (.fr (labsD lt)), some (.fr (.list (prs (pairsL lt L.forms)))), none, some (.fr (.tuple ch))]) (ev ?_) ?_
      · rw [W_if]
        refine W_of ht ?_
        simp only [hb, Bool.false_eq_true, if_false, W_next]
        exact ⟨trivial, trivial⟩
      · simp only [W_ret, W_tup, W_cons, W_nil, W_var, List.getElem?_cons_succ, List.getElem?_cons_zero, wo_some, W_call, W_op, W_cb, rdOs, rdO, plOs, Option.bind_some, gLen, W_c, gSub_, gI, fzOs, fzO, e1, e2]
        exact ⟨_, rfl, rfl⟩
  by_cases hc : chosen lt L.forms = []
  · refine ⟨.none, core _ (fun _ => rfl) (fun z => absurd hc z), .no, ?_⟩
    unfold tellsB
    rw [hit, hc]
    simp [isNone]
  · have hpos : 0 < (chosen lt L.forms).length := List.length_pos_iff.mpr hc
    obtain ⟨x, q1, q2, q3⟩ := f_node h hi hf ((chosen lt L.forms).length - 1) (by omega) (fun cs _ hl => fewest_min h.up.nodup (fun p hp => (btw_keys hi p hp).2) (show cs.length < (chosen lt L.forms).length by omega)) 10 [] (by simp) (by simp) (by simp; omega)
    have hm : (((chosen lt L.forms).length - 1 : Nat) : Int) = (((chosen lt L.forms).length : Nat) - 1 : Int) := by omega
    rw [hm] at q1
    refine ⟨x, core x (fun z => absurd z hc) (fun _ => ⟨q1, q2.ndic⟩), q2, ?_⟩
    unfold tellsB
    rw [hit, if_neg hc, q3]; rfl
end DL

set_option maxRecDepth 100000
set_option linter.all false
set_option maxHeartbeats 2000000
/-! M13: the law's own between, tell_all, pairs_apart. -/
namespace DL
open PySem PySem.W PyProof.Rows
def rowD (p : PyData × List Str) : PyData := .tuple [p.1, .list (tx p.2)]
abbrev labsL (lt : LT) : PyData := .list (lt.map rowD)
theorem f_lawbetween {lt : LT} (h : LOK lt) (a b : Str) : F__law_between [labsL lt, .str a, .str b] = some (.list (btw lt a b)) := by
  refine runF_of ?_
  change W fb__law_between [some (.fr (labsL lt)), some (.fr (.str a)), some (.fr (.str b)), none, none] _
  unfold fb__law_between
  have main : fLc (fItems (fVar 0)) (gT (gsC (gN 3) (gsC (gN 4) gsN))) (fB (fOp (gEq false) (fOp (gIn true) (fVar 1) (fVar 4)) (fOp (gIn true) (fVar 2) (fVar 4)))) (fVar 3) [3, 4] [some (.fr (labsL lt)), some (.fr (.str a)), some (.fr (.str b)), none, none] = some (.val (.list (btw lt a b)), [some (.fr (labsL lt)), some (.fr (.str a)), some (.fr (.str b)), none, none]) := by
    refine lc_as (as := lt) rowD (fun p => has p a b) (·.1) rfl rfl (fun p hp => ?_) (Nat.le_trans h.n (by decide))
    refine ⟨[some (.fr (labsL lt)), some (.fr (.str a)), some (.fr (.str b)), some (.fr p.1), some (.fr (.list (tx p.2)))], rfl, rfl, ev ?_, fun _ => ⟨_, rfl, (h.lb p hp).plain⟩⟩
    have e : ∀ x y : Bool, gEq false (.bool x) (.bool y) = some (.bool (x != y)) := fun x y => by
      unfold gEq
      rw [if_pos ⟨rfl, rfl, by simp [PyData.depth]⟩]
      cases x <;> cases y <;> simp
    simp only [W_b, W_op, W_var, List.getElem?_cons_succ, List.getElem?_cons_zero, wo_some, rdO, in_tx, e, OV.val.injEq, PyData.bool.injEq, exists_eq_left', has]
    exact ⟨trivial, trivial⟩
  simp only [W_ret]
  exact W_of main (by simp [fzO])
theorem f_lawtell {bs : List (List PyData)} {cs : List PyData} (hb : ∀ bt ∈ bs, bt.length ≤ 1000 ∧ ∀ l ∈ bt, IsLb l) (hn : bs.length ≤ 1000) (hc : ∀ c ∈ cs, IsLb c) :
    F__law_tell_all [.list (bs.map PyData.list), .tuple cs] = some (.bool (bs.all fun bt => bt.any fun l => decide (l ∈ cs))) := by
  refine runF_of ?_
  change W fb__law_tell_all [some (.fr (.list (bs.map PyData.list))), some (.fr (.tuple cs)), none, none] _
  unfold fb__law_tell_all
  have main : fLc (fItems (fVar 0)) (gN 3) fYes (fCB gAny (fCons (fLc (fItems (fVar 3)) (gN 2) fYes (fOp (gIn true) (fVar 2) (fVar 1)) [2]) fNil)) [3] [some (.fr (.list (bs.map PyData.list))), some (.fr (.tuple cs)), none, none]
      = some (.val (.list (bs.map fun bt => .bool (bt.any fun l => decide (l ∈ cs)))), [some (.fr (.list (bs.map PyData.list))), some (.fr (.tuple cs)), none, none]) := by
    refine lc_all (as := bs) PyData.list (fun bt => .bool (bt.any fun l => decide (l ∈ cs))) rfl rfl (fun bt hbt => ?_) (Nat.le_trans hn (by decide))
    refine ⟨[some (.fr (.list (bs.map PyData.list))), some (.fr (.tuple cs)), none, some (.fr (.list bt))], rfl, rfl, .val (.bool (bt.any fun l => decide (l ∈ cs))), ?_, rfl⟩
    exact any_lc (bt := bt) (cs := cs) (i := 3) (j := 1) (v := 2) (ch := .tuple cs) (d := fun _ => []) (d0 := [some (.fr (.list (bs.map PyData.list))), some (.fr (.tuple cs)), none, some (.fr (.list bt))])
      (t1 := fun l => [some (.fr (.list (bs.map PyData.list))), some (.fr (.tuple cs)), some (.fr l), some (.fr (.list bt))]) (hb bt hbt).2 (hb bt hbt).1 hc rfl rfl rfl (fun l _ => ⟨rfl, rfl, rfl, rfl⟩)
  rw [W_ret, W_cb, W_cons]
  refine W_of main ?_
  simp only [W_nil, rdOs, rdO, Option.bind_some, wo_some, gAll, boolsOf_map, fzO, List.all_map]
  rfl
end DL

set_option maxRecDepth 100000
set_option linter.all false
set_option maxHeartbeats 2000000
/-! M14: the law's pairs_apart. -/
namespace DL
open PySem PySem.W PyProof.Rows
def pairsAll (lt : LT) : List Str → List Pr
  | [] => []
  | a :: r => r.map (fun b => ⟨a, b, btw lt a b⟩) ++ pairsAll lt r
theorem pairsAll_fil (lt : LT) : ∀ fs : List Str, (pairsAll lt fs).filter (fun p => !p.bt.isEmpty) = pairsL lt fs
  | [] => rfl
  | a :: r => by
    simp only [pairsAll, pairsL, List.filter_append, pairsAll_fil lt r]
    congr 1
    induction r with
    | nil => rfl
    | cons b r ih =>
      simp only [List.map_cons, List.filter_cons, List.filterMap_cons, ih, prOf]
      cases e : btw lt a b with
      | nil => simp
      | cons _ _ => simp
theorem pairsAll_len (lt : LT) : ∀ fs : List Str, (pairsAll lt fs).length ≤ fs.length * fs.length
  | [] => by simp [pairsAll]
  | a :: r => by
    have ih := pairsAll_len lt r
    simp only [pairsAll, List.length_append, List.length_cons, List.length_map]
    have : (r.length + 1) * (r.length + 1) = r.length * r.length + 2 * r.length + 1 := by
      rw [Nat.add_mul, Nat.mul_add]; omega
    omega
theorem W_frz {i : Nat} {f : F Fl} {d : SD} {x : PyData} {Q : Fl → SD → Prop} (e : d[i]? = some (some (.own x))) (h : W f (d.set i (some (.fr x))) Q) : W (fFrz i f) d Q := by
  unfold W fFrz
  rw [e]
  exact h
theorem f_lawpairs {lt : LT} (h : LOK lt) (forms : List Str) (hn : forms.length ≤ 30) : F__law_pairs_apart [labsL lt, .list (tx forms)] = some (.list (prs (pairsL lt forms))) := by
  refine runF_of ?_
  change W (fb__law_pairs_apart F__law_between) [some (.fr (labsL lt)), some (.fr (.list (tx forms))), none, none, none, none, none] _
  unfold fb__law_pairs_apart
  have hN : (pairsAll lt forms).length ≤ 900 := Nat.le_trans (pairsAll_len lt forms) (Nat.mul_le_mul hn hn)
  refine W_step (d1 := [some (.fr (labsL lt)), some (.fr (.list (tx forms))), some (.own (.list [])), none, none, none, none]) (ev ?_) ?_
  · simp only [W_own, W_olst, W_nil, plOs, wo_some, List.set_cons_succ, List.set_cons_zero]
    exact ⟨trivial, trivial⟩
  simp only [W_seq, W_for, W_enum, W_var, List.getElem?_cons_succ, List.getElem?_cons_zero, wo_some, fzO, seqOf]
  refine for_enum (α := Str) PyData.str forms (fun pre d => ∃ A suf v3 v4, forms = pre ++ suf ∧ A ++ pairsAll lt suf = pairsAll lt forms ∧ d = [some (.fr (labsL lt)), some (.fr (.list (tx forms))), some (.own (.list (prs A))), v3, v4, none, none]) ⟨[], forms, none, none, rfl, rfl, rfl⟩ ?_ ?_
  · rintro pre a suf d e ⟨A, suf', v3, v4, e1, e2, rfl⟩
    have es : suf' = a :: suf := List.append_cancel_left (e1.symm.trans e)
    subst es
    have hsl : gSl (.list (tx forms)) (some ((pre.length : Nat) + 1 : Int)) none = some (.list (tx suf)) := by
      show some (PyData.list (cutD _ (some (((pre.length + 1 : Nat)) : Int)) none)) = _
      rw [cut_from, e]
      have : tx (pre ++ a :: suf) = (tx pre ++ [.str a]) ++ tx suf := by simp
      rw [this, List.drop_left' (by simp)]
    have hs30 : suf.length ≤ 30 := by rw [e] at hn; simp at hn; omega
    simp only [gT, gsC, gsN, gN, Option.bind_some, wo_some, List.set_cons_succ, List.set_cons_zero]
    refine W_ext rfl ?_
    have lc : fLc (fItems (fSl (fVar 1) (fPs (fOp gAdd (fVar 3) (fC (.int 1)))) fPn)) (gN 5) fYes (fTup (fCons (fVar 4) (fCons (fVar 5) (fCons (fCall F__law_between (fCons (fVar 0) (fCons (fVar 4) (fCons (fVar 5) fNil)))) fNil)))) [5]
        [some (.fr (labsL lt)), some (.fr (.list (tx forms))), some (.own (.list (prs A))), some (.fr (.int (pre.length : Nat))), some (.fr (.str a)), none, none] = some (.val (.list (suf.map fun b => pr a b (btw lt a b))), [some (.fr (labsL lt)), some (.fr (.list (tx forms))), some (.own (.list (prs A))), some (.fr (.int (pre.length : Nat))), some (.fr (.str a)), none, none]) := by
      refine lc_all (as := suf) PyData.str (fun b => pr a b (btw lt a b)) (ev ?_) rfl (fun b hb => ?_) (Nat.le_trans hs30 (by decide))
      · simp only [W_items, W_sl, W_var, List.getElem?_cons_succ, List.getElem?_cons_zero, wo_some, W_ps, W_op, W_c, rdO, gAdd, gI, W_pn, OV.val.injEq, PyData.int.injEq, exists_eq_left', hsl, fzO, seqOf]
        exact ⟨trivial, trivial⟩
      · refine ⟨[some (.fr (labsL lt)), some (.fr (.list (tx forms))), some (.own (.list (prs A))), some (.fr (.int (pre.length : Nat))), some (.fr (.str a)), some (.fr (.str b)), none], rfl, rfl, .val (pr a b (btw lt a b)), ev ?_, rfl⟩
        simp only [W_tup, W_call, W_cons, W_nil, W_var, List.getElem?_cons_succ, List.getElem?_cons_zero, wo_some, fzOs, fzO, Option.bind_some, f_lawbetween h, plOs, plO]
        exact ⟨rfl, trivial⟩
    refine W_of lc ⟨_, _, prs A, rfl, rfl, rfl, ?_, ?_⟩
    · have : (A ++ pairsAll lt (a :: suf)).length ≤ 900 := by rw [e2]; exact hN
      simp only [pairsAll, List.length_append, List.length_map] at this ⊢
      have h16 : sizeLine = 16777216 := sizeLine_eq
      omega
    · refine ⟨A ++ suf.map (fun b => ⟨a, b, btw lt a b⟩), suf, some (.fr (.int (pre.length : Nat))), some (.fr (.str a)), by rw [e]; simp, by rw [← e2]; simp [pairsAll], ?_⟩
      simp [Pr.d, Function.comp_def]
  · rintro d ⟨A, suf, v3, v4, e1, e2, rfl⟩
    have : suf = [] := by
      have := congrArg List.length e1
      simp at this
      exact this
    subst this
    simp only [pairsAll, List.append_nil] at e2
    subst e2
    refine W_frz (x := .list (prs (pairsAll lt forms))) rfl ?_
    simp only [List.set_cons_succ, List.set_cons_zero, W_ret]
    have lc : fLc (fItems (fVar 2)) (gN 6) (fB (fOp (gEq false) (fOp gIx (fVar 6) (fC (.int 2))) (fLst fNil))) (fVar 6) [6] [some (.fr (labsL lt)), some (.fr (.list (tx forms))), some (.fr (.list (prs (pairsAll lt forms)))), v3, v4, none, none] = some (.val (.list (((pairsAll lt forms).filter fun p => !p.bt.isEmpty).map Pr.d)), [some (.fr (labsL lt)), some (.fr (.list (tx forms))), some (.fr (.list (prs (pairsAll lt forms)))), v3, v4, none, none]) := by
      refine lc_as (as := pairsAll lt forms) Pr.d (fun p => !p.bt.isEmpty) Pr.d rfl rfl (fun p hp => ?_) (Nat.le_trans hN (by decide))
      refine ⟨[some (.fr (labsL lt)), some (.fr (.list (tx forms))), some (.fr (.list (prs (pairsAll lt forms)))), v3, v4, none, some (.fr p.d)], rfl, rfl, ev ?_, fun _ => ⟨.val p.d, rfl, rfl⟩⟩
      have e3 : gIx p.d (.int 2) = some (.list p.bt) := rfl
      simp only [W_b, W_op, W_var, W_c, W_lst, W_nil, plOs, List.getElem?_cons_succ, List.getElem?_cons_zero, wo_some, rdO, e3, eq_nil, OV.val.injEq, PyData.bool.injEq, exists_eq_left', Bool.false_eq_true, if_false]
      exact ⟨trivial, trivial⟩
    rw [pairsAll_fil] at lc
    exact W_of lc (by simp [fzO])
end DL

set_option maxRecDepth 100000
set_option linter.all false
set_option maxHeartbeats 2000000
/-! M15: the law's betweens. -/
namespace DL
open PySem PySem.W PyProof.Rows
theorem pairsAll_map {α : Type} (lt : LT) (k : α → Str) : ∀ as : List α, (pairsAll lt (as.map k)).map (fun p => PyData.list p.bt) = (pairsAll lt (as.map k)).map (fun p => PyData.list p.bt) := fun _ => rfl
theorem f_lawbetweens {lt : LT} (h : LOK lt) (pages : List Page) (hn : pages.length ≤ 30) : F__law_betweens [labsL lt, .tuple (pages.map Page.d)] = some (.list ((pairsL lt (pages.map (·.form))).map fun p => .list p.bt)) := by
  refine runF_of ?_
  change W (fb__law_betweens F__law_between) [some (.fr (labsL lt)), some (.fr (.tuple (pages.map Page.d))), none, none, none, none, none] _
  unfold fb__law_betweens
  have hN : (pairsAll lt (pages.map (·.form))).length ≤ 900 := Nat.le_trans (pairsAll_len lt _) (by rw [List.length_map]; exact Nat.mul_le_mul hn hn)
  refine W_step (d1 := [some (.fr (labsL lt)), some (.fr (.tuple (pages.map Page.d))), some (.own (.list [])), none, none, none, none]) (ev ?_) ?_
  · simp only [W_own, W_olst, W_nil, plOs, wo_some, List.set_cons_succ, List.set_cons_zero]
    exact ⟨trivial, trivial⟩
  simp only [W_seq, W_for, W_enum, W_var, List.getElem?_cons_succ, List.getElem?_cons_zero, wo_some, fzO, seqOf]
  refine for_enum (α := Page) Page.d pages (fun pre d => ∃ (A : List Pr) (suf : List Page) (v3 v4 : Option SV), pages = pre ++ suf ∧ A ++ pairsAll lt (suf.map (·.form)) = pairsAll lt (pages.map (·.form)) ∧ d = [some (.fr (labsL lt)), some (.fr (.tuple (pages.map Page.d))), some (.own (.list (A.map fun p => .list p.bt))), v3, v4, none, none]) ⟨[], pages, none, none, rfl, rfl, rfl⟩ ?_ ?_
  · rintro pre a suf d e ⟨A, suf', v3, v4, e1, e2, rfl⟩
    have es : suf' = a :: suf := List.append_cancel_left (e1.symm.trans e)
    subst es
    have hsl : gSl (.tuple (pages.map Page.d)) (some ((pre.length : Nat) + 1 : Int)) none = some (.tuple (suf.map Page.d)) := by
      show some (PyData.tuple (cutD _ (some (((pre.length + 1 : Nat)) : Int)) none)) = _
      rw [cut_from, e]
      have : (pre ++ a :: suf).map Page.d = (pre.map Page.d ++ [a.d]) ++ suf.map Page.d := by simp
      rw [this, List.drop_left' (by simp)]
    have hs30 : suf.length ≤ 30 := by rw [e] at hn; simp at hn; omega
    simp only [gT, gsC, gsN, gN, Option.bind_some, wo_some, List.set_cons_succ, List.set_cons_zero]
    refine W_ext rfl ?_
    have lc : fLc (fItems (fSl (fVar 1) (fPs (fOp gAdd (fVar 3) (fC (.int 1)))) fPn)) (gN 5) fYes (fCall F__law_between (fCons (fVar 0) (fCons (fOp gIx (fVar 4) (fC (.int 0))) (fCons (fOp gIx (fVar 5) (fC (.int 0))) fNil)))) [5]
        [some (.fr (labsL lt)), some (.fr (.tuple (pages.map Page.d))), some (.own (.list (A.map fun p => .list p.bt))), some (.fr (.int (pre.length : Nat))), some (.fr a.d), none, none] = some (.val (.list (suf.map fun b => .list (btw lt a.form b.form))), [some (.fr (labsL lt)), some (.fr (.tuple (pages.map Page.d))), some (.own (.list (A.map fun p => .list p.bt))), some (.fr (.int (pre.length : Nat))), some (.fr a.d), none, none]) := by
      refine lc_all (as := suf) Page.d (fun b => .list (btw lt a.form b.form)) (ev ?_) rfl (fun b hb => ?_) (Nat.le_trans hs30 (by decide))
      · simp only [W_items, W_sl, W_var, List.getElem?_cons_succ, List.getElem?_cons_zero, wo_some, W_ps, W_op, W_c, rdO, gAdd, gI, W_pn, OV.val.injEq, PyData.int.injEq, exists_eq_left', hsl, fzO, seqOf]
        exact ⟨trivial, trivial⟩
      · have ia : gIx a.d (.int 0) = some (.str a.form) := rfl
        have ib : gIx b.d (.int 0) = some (.str b.form) := rfl
        refine ⟨[some (.fr (labsL lt)), some (.fr (.tuple (pages.map Page.d))), some (.own (.list (A.map fun p => .list p.bt))), some (.fr (.int (pre.length : Nat))), some (.fr a.d), some (.fr b.d), none], rfl, rfl, .val (.list (btw lt a.form b.form)), ev ?_, rfl⟩
        simp only [W_call, W_cons, W_nil, W_op, W_c, rdO, ia, ib, W_var, List.getElem?_cons_succ, List.getElem?_cons_zero, wo_some, fzOs, fzO, Option.bind_some, f_lawbetween h]
        exact ⟨trivial, trivial⟩
    refine W_of lc ⟨_, _, (A.map fun p => .list p.bt), rfl, rfl, rfl, ?_, ?_⟩
    · have : (A ++ pairsAll lt ((a :: suf).map (·.form))).length ≤ 900 := by rw [e2]; exact hN
      simp only [pairsAll, List.map_cons, List.length_append, List.length_map] at this ⊢
      have h16 : sizeLine = 16777216 := sizeLine_eq
      omega
    · refine ⟨A ++ (suf.map (·.form)).map (fun b => ⟨a.form, b, btw lt a.form b⟩), suf, some (.fr (.int (pre.length : Nat))), some (.fr a.d), by rw [e]; simp, by rw [← e2]; simp [pairsAll], ?_⟩
      simp [Function.comp_def]
  · rintro d ⟨A, suf, v3, v4, e1, e2, rfl⟩
    have : suf = [] := by
      have := congrArg List.length e1
      simp at this
      exact this
    subst this
    simp only [List.map_nil, pairsAll, List.append_nil] at e2
    subst e2
    generalize hA : pairsAll lt (pages.map (·.form)) = B at hN
    refine W_frz (x := .list (B.map fun p => .list p.bt)) rfl ?_
    simp only [List.set_cons_succ, List.set_cons_zero, W_ret]
    have lc : fLc (fItems (fVar 2)) (gN 6) (fB (fOp (gEq false) (fVar 6) (fLst fNil))) (fVar 6) [6] [some (.fr (labsL lt)), some (.fr (.tuple (pages.map Page.d))), some (.fr (.list (B.map fun p => .list p.bt))), v3, v4, none, none] = some (.val (.list ((B.filter fun p => !p.bt.isEmpty).map fun p => .list p.bt)), [some (.fr (labsL lt)), some (.fr (.tuple (pages.map Page.d))), some (.fr (.list (B.map fun p => .list p.bt))), v3, v4, none, none]) := by
      refine lc_as (as := B) (fun p => PyData.list p.bt) (fun p => !p.bt.isEmpty) (fun p => PyData.list p.bt) rfl rfl (fun p hp => ?_) (Nat.le_trans hN (by decide))
      refine ⟨[some (.fr (labsL lt)), some (.fr (.tuple (pages.map Page.d))), some (.fr (.list (B.map fun p => .list p.bt))), v3, v4, none, some (.fr (.list p.bt))], rfl, rfl, ev ?_, fun _ => ⟨.val (.list p.bt), rfl, rfl⟩⟩
      simp only [W_b, W_op, W_var, W_c, W_lst, W_nil, plOs, List.getElem?_cons_succ, List.getElem?_cons_zero, wo_some, rdO, eq_nil, OV.val.injEq, PyData.bool.injEq, exists_eq_left', Bool.false_eq_true, if_false]
      exact ⟨trivial, trivial⟩
    rw [← hA, pairsAll_fil] at lc
    rw [← hA]
    exact W_of lc (by simp [fzO])
end DL

set_option maxRecDepth 100000
set_option linter.all false
set_option maxHeartbeats 2000000
/-! M16: what lies inside a mark: the law's own walk. -/
namespace DL
open PySem PySem.W PyProof.Rows
inductive Reach (ps : List (Str × Str)) (m : Str) : Str → Prop
  | refl : Reach ps m m
  | step {i o : Str} : (i, o) ∈ ps → Reach ps m o → Reach ps m i
def stepI (f : List Str) (q : Str × Str) : List Str := if q.2 ∈ f ∧ q.1 ∉ f then f ++ [q.1] else f
def roundI (ps : List (Str × Str)) (f : List Str) : List Str := ps.foldl stepI f
def insideL (ps : List (Str × Str)) (m : Str) : List Str := ps.foldl (fun f _ => roundI ps f) [m]
theorem stepI_sub (f : List Str) (q : Str × Str) : ∀ x ∈ f, x ∈ stepI f q := fun x hx => by
  unfold stepI; split
  · exact List.mem_append.mpr (.inl hx)
  · exact hx
theorem fold_sub : ∀ (ps : List (Str × Str)) (f : List Str), ∀ x ∈ f, x ∈ ps.foldl stepI f
  | [], _, _, h => h
  | q :: r, f, x, h => fold_sub r (stepI f q) x (stepI_sub f q x h)
structure InvI (ps : List (Str × Str)) (m : Str) (f : List Str) : Prop where
  hm : m ∈ f
  nd : f.Nodup
  re : ∀ x ∈ f, Reach ps m x
  sub : ∀ x ∈ f, x ∈ m :: ps.map (·.1)
theorem InvI.len {ps : List (Str × Str)} {m : Str} {f : List Str} (h : InvI ps m f) : f.length ≤ ps.length + 1 := by
  have := perm_len h.nd h.sub
  simpa using this
theorem InvI.step {ps : List (Str × Str)} {m : Str} {f : List Str} (h : InvI ps m f) {q : Str × Str} (hq : q ∈ ps) : InvI ps m (stepI f q) := by
  unfold stepI
  split
  · rename_i c
    refine ⟨List.mem_append.mpr (.inl h.hm), ?_, fun x hx => ?_, fun x hx => ?_⟩
    · rw [List.nodup_append]
      refine ⟨h.nd, by simp, fun a ha b hb => ?_⟩
      rw [List.mem_singleton.mp hb]
      exact fun e => c.2 (e ▸ ha)
    · rcases List.mem_append.mp hx with hx | hx
      · exact h.re x hx
      · rw [List.mem_singleton.mp hx]; exact .step (o := q.2) hq (h.re _ c.1)
    · rcases List.mem_append.mp hx with hx | hx
      · exact h.sub x hx
      · rw [List.mem_singleton.mp hx]; exact List.mem_cons_of_mem _ (List.mem_map.mpr ⟨q, hq, rfl⟩)
  · exact h
theorem InvI.fold {ps : List (Str × Str)} {m : Str} : ∀ (l : List (Str × Str)) {f : List Str}, (∀ q ∈ l, q ∈ ps) → InvI ps m f → InvI ps m (l.foldl stepI f)
  | [], _, _, h => h
  | q :: r, f, hl, h => InvI.fold r (fun x hx => hl x (List.mem_cons_of_mem _ hx)) (h.step (hl q (by simp)))
theorem InvI.round {ps : List (Str × Str)} {m : Str} {f : List Str} (h : InvI ps m f) : InvI ps m (roundI ps f) := h.fold ps fun _ h => h
def Closed (ps : List (Str × Str)) (f : List Str) : Prop := ∀ q ∈ ps, q.2 ∈ f → q.1 ∈ f
theorem stepI_closed {ps : List (Str × Str)} {f : List Str} (h : Closed ps f) : ∀ l : List (Str × Str), (∀ q ∈ l, q ∈ ps) → l.foldl stepI f = f
  | [], _ => rfl
  | q :: r, hl => by
    have : stepI f q = f := by
      unfold stepI
      rw [if_neg]
      rintro ⟨h1, h2⟩
      exact h2 (h q (hl q (by simp)) h1)
    rw [List.foldl_cons, this]
    exact stepI_closed h r fun x hx => hl x (List.mem_cons_of_mem _ hx)
theorem fold_len : ∀ (l : List (Str × Str)) (f : List Str), f.length ≤ (l.foldl stepI f).length
  | [], _ => Nat.le_refl _
  | q :: r, f => by
    refine Nat.le_trans ?_ (fold_len r (stepI f q))
    unfold stepI; split <;> simp
/-- a round that adds nothing: closed -/
theorem round_same {ps : List (Str × Str)} : ∀ (l : List (Str × Str)) (f : List Str), (l.foldl stepI f).length = f.length → Closed l f
  | [], _, _ => fun q hq => by cases hq
  | p :: r, f, h => by
    have h1 := fold_len r (stepI f p)
    rw [List.foldl_cons] at h
    have hs : stepI f p = f := by
      unfold stepI at h1 h ⊢
      split at h1
      · rename_i c
        rw [if_pos c] at h
        rw [List.length_append] at h1
        simp at h1
        omega
      · rename_i c; rw [if_neg c]
    rw [hs] at h
    intro q hq h2
    rcases List.mem_cons.mp hq with e | hq
    · subst e
      unfold stepI at hs
      by_cases c : q.1 ∈ f
      · exact c
      · rw [if_pos ⟨h2, c⟩] at hs
        have := congrArg List.length hs
        simp at this
    · exact round_same (ps := ps) r f h q hq h2
theorem iter_closed {ps : List (Str × Str)} {m : Str} : ∀ (l : List (Str × Str)) {f : List Str}, InvI ps m f → (Closed ps f ∨ ps.length + 1 ≤ f.length + l.length) → Closed ps (l.foldl (fun f _ => roundI ps f) f) ∧ InvI ps m (l.foldl (fun f _ => roundI ps f) f)
  | [], f, h, hc => by
    refine ⟨?_, h⟩
    rcases hc with hc | hc
    · exact hc
    · -- all are in
      have hl := h.len
      simp only [List.length_nil, Nat.add_zero] at hc
      intro q hq _
      by_cases c : q.1 ∈ f
      · exact c
      · exfalso
        have nd : (q.1 :: f).Nodup := List.nodup_cons.mpr ⟨c, h.nd⟩
        have := perm_len nd (m := m :: ps.map (·.1)) (fun z hz => by
          rcases List.mem_cons.mp hz with e | hz
          · subst e; exact List.mem_cons_of_mem _ (List.mem_map.mpr ⟨q, hq, rfl⟩)
          · exact h.sub z hz)
        simp at this
        omega
  | a :: r, f, h, hc => by
    rw [List.foldl_cons]
    refine iter_closed r h.round ?_
    rcases hc with hc | hc
    · left
      unfold roundI
      rw [stepI_closed hc ps fun _ h => h]
      exact hc
    · by_cases e : (roundI ps f).length = f.length
      · left
        have c := round_same (ps := ps) ps f e
        have : roundI ps f = f := stepI_closed c ps fun _ h => h
        rw [this]; exact c
      · right
        have := fold_len ps f
        have e' : (roundI ps f).length = (ps.foldl stepI f).length := rfl
        simp only [List.length_cons] at hc
        omega
theorem insideL_mem (ps : List (Str × Str)) (m : Str) : InvI ps m (insideL ps m) ∧ ∀ x, x ∈ insideL ps m ↔ Reach ps m x := by
  have h0 : InvI ps m [m] := ⟨by simp, by simp, fun x hx => by rw [List.mem_singleton.mp hx]; exact .refl, fun x hx => by rw [List.mem_singleton.mp hx]; simp⟩
  obtain ⟨c, h⟩ := iter_closed ps h0 (.inr (by simp; omega))
  refine ⟨h, fun x => ⟨h.re x, fun r => ?_⟩⟩
  induction r with
  | refl => exact h.hm
  | step hq _ ih => exact c _ hq ih
end DL

set_option maxRecDepth 100000
set_option linter.all false
set_option maxHeartbeats 2000000
/-! M17: _law_inside_of. -/
namespace DL
open PySem PySem.W PyProof.Rows
theorem in_tx' (s : Bool) {fs : List Str} {a : Str} : gIn s (.str a) (.list (tx fs)) = some (.bool (if s = true then decide (a ∈ fs) else !decide (a ∈ fs))) := by
  unfold gIn
  rw [if_pos ⟨rfl, by simp [PyData.depth]⟩]
  simp only [seqOf, Option.bind_some]
  rw [any_mem rfl (fun c hc => by obtain ⟨x, _, rfl⟩ := List.mem_map.mp hc; rfl)]
  simp
theorem f_lawinside (ps : List (Str × Str)) (m : Str) (hn : ps.length ≤ 100) : F__law_inside_of [.tuple (ps.map qD), .str m] = some (.list (tx (insideL ps m))) := by
  refine runF_of ?_
  change W fb__law_inside_of [some (.fr (.tuple (ps.map qD))), some (.fr (.str m)), none, none, none, none] _
  unfold fb__law_inside_of
  refine W_step (d1 := [some (.fr (.tuple (ps.map qD))), some (.fr (.str m)), some (.own (.list (tx [m]))), none, none, none]) (ev ?_) ?_
  · simp only [W_own, W_olst, W_cons, W_nil, W_var, List.getElem?_cons_succ, List.getElem?_cons_zero, wo_some, plOs, plO, Option.bind_some, List.set_cons_succ, List.set_cons_zero]
    exact ⟨trivial, rfl⟩
  have h0 : InvI ps m [m] := ⟨by simp, by simp, fun x hx => by rw [List.mem_singleton.mp hx]; exact .refl, fun x hx => by rw [List.mem_singleton.mp hx]; simp⟩
  rw [W_seq, W_for, W_items, W_var]
  simp only [List.getElem?_cons_succ, List.getElem?_cons_zero, wo_some, fzO, seqOf]
  refine for_list (α := Str × Str) qD ps (fun pre d => InvI ps m (pre.foldl (fun f _ => roundI ps f) [m]) ∧ ∃ v3 v4 v5, d = [some (.fr (.tuple (ps.map qD))), some (.fr (.str m)), some (.own (.list (tx (pre.foldl (fun f _ => roundI ps f) [m])))), v3, v4, v5]) ⟨h0, none, none, none, rfl⟩ ?_ ?_
  · rintro pre a suf d e ⟨hI, v3, v4, v5, rfl⟩
    rw [List.foldl_append]
    simp only [List.foldl_cons, List.foldl_nil]
    generalize pre.foldl (fun f _ => roundI ps f) [m] = f at hI ⊢
    simp only [gN, wo_some, List.set_cons_succ, List.set_cons_zero]
    rw [W_for, W_items, W_var]
    simp only [List.getElem?_cons_succ, List.getElem?_cons_zero, wo_some, fzO, seqOf]
    refine for_list (α := Str × Str) qD ps (fun pre2 d => InvI ps m (pre2.foldl stepI f) ∧ ∃ v4 v5, d = [some (.fr (.tuple (ps.map qD))), some (.fr (.str m)), some (.own (.list (tx (pre2.foldl stepI f)))), some (.fr (qD a)), v4, v5]) ⟨hI, v4, v5, rfl⟩ ?_ ?_
    · rintro pre2 q suf2 d e2 ⟨hJ, w4, w5, rfl⟩
      have hq : q ∈ ps := by rw [e2]; simp
      rw [List.foldl_append]
      simp only [List.foldl_cons, List.foldl_nil]
      have hK := hJ.step hq
      generalize pre2.foldl stepI f = g at hJ hK ⊢
      simp only [qD, gT, gsC, gsN, gN, Option.bind_some, wo_some, List.set_cons_succ, List.set_cons_zero, W_if, W_and, W_b, W_op, W_var, List.getElem?_cons_succ, List.getElem?_cons_zero, rdO, in_tx', OV.val.injEq, PyData.bool.injEq, exists_eq_left', if_true, Bool.false_eq_true, if_false]
      by_cases c1 : q.2 ∈ g
      · by_cases c2 : q.1 ∈ g
        · have : stepI g q = g := by unfold stepI; rw [if_neg (fun z => z.2 c2)]
          rw [this]
          simp only [c1, c2, decide_true, Bool.not_true, if_true, Bool.false_eq_true, if_false, W_next]
          exact ⟨hJ, _, _, rfl⟩
        · have : stepI g q = g ++ [q.1] := by unfold stepI; rw [if_pos ⟨c1, c2⟩]
          rw [this] at hK ⊢
          simp only [c1, c2, decide_true, decide_false, Bool.not_false, if_true]
          refine W_app rfl ?_
          simp only [W_var, List.getElem?_cons_succ, List.getElem?_cons_zero, wo_some]
          refine ⟨_, tx g, rfl, rfl, ?_, hK, some (.fr (.str q.1)), some (.fr (.str q.2)), ?_⟩
          · have := hJ.len
            have h16 : sizeLine = 16777216 := sizeLine_eq
            rw [List.length_map]
            omega
          · rw [show tx (g ++ [q.1]) = tx g ++ [.str q.1] by simp]
            rfl
      · have : stepI g q = g := by unfold stepI; rw [if_neg (fun z => c1 z.1)]
        rw [this]
        simp only [c1, decide_false, Bool.false_eq_true, if_false, W_next]
        exact ⟨hJ, _, _, rfl⟩
    · rintro d ⟨hJ, w4, w5, rfl⟩
      exact ⟨hJ, _, _, _, rfl⟩
  · rintro d ⟨hI, v3, v4, v5, rfl⟩
    exact W_retO rfl rfl
end DL

set_option maxRecDepth 100000
set_option linter.all false
set_option maxHeartbeats 2000000
/-! M18: dicts that are sets of texts; rules for dict statements and while; sorted texts. -/
namespace DL
open PySem PySem.W PyProof.Rows
def addS (S : List Str) (x : Str) : List Str := if x ∈ S then S else S ++ [x]
def sD (S : List Str) : List (PyData × PyData) := S.map fun x => (PyData.str x, PyData.bool true)
theorem sD_text (S : List Str) : textK (sD S) = true := by
  unfold textK sD
  rw [List.all_map]
  exact List.all_eq_true.mpr fun _ _ => rfl
theorem sD_len (S : List Str) : (sD S).length = S.length := by unfold sD; rw [List.length_map]
theorem str_eqv (x y : Str) : PyData.eqv (.str x) (.str y) = decide (x = y) := by rw [key_eqv' rfl rfl]; simp
theorem sD_any (S : List Str) (a : Str) : ((sD S).any fun kv => PyData.eqv kv.1 (.str a)) = decide (a ∈ S) := by
  unfold sD
  rw [List.any_map, Bool.eq_iff_iff, List.any_eq_true, decide_eq_true_eq]
  constructor
  · rintro ⟨x, hx, e⟩
    simp only [Function.comp, str_eqv, decide_eq_true_eq] at e
    exact e ▸ hx
  · intro h
    exact ⟨a, h, by simp only [Function.comp, str_eqv, decide_eq_true_eq]⟩
theorem valD_some (l : List (PyData × PyData)) (k : PyData) : (valD l k).isSome = l.any fun kv => PyData.eqv kv.1 k := by
  unfold valD
  rw [Option.isSome_map]
  induction l with
  | nil => rfl
  | cons x l ih =>
    rw [List.find?_cons, List.any_cons]
    cases PyData.eqv x.1 k with
    | true => rfl
    | false => simpa using ih
theorem sD_val (S : List Str) (a : Str) : (valD (sD S) (.str a)).isSome = decide (a ∈ S) := by rw [valD_some, sD_any]
theorem sD_put (S : List Str) (x : Str) : putD (sD S) (.str x) (.bool true) = sD (addS S x) := by
  unfold putD addS
  rw [sD_any]
  by_cases h : x ∈ S
  · rw [if_pos (decide_eq_true h), if_pos h]
    unfold sD
    rw [List.map_map]
    refine List.map_congr_left fun y _ => ?_
    simp only [Function.comp]
    split <;> rfl
  · rw [if_neg (by simpa using h), if_neg h]
    unfold sD
    rw [List.map_append]
    rfl
theorem sD_merge : ∀ (T S : List Str), mergeD (sD S) (sD T) = sD (T.foldl addS S)
  | [], S => rfl
  | t :: T, S => by
    rw [List.foldl_cons, ← sD_merge T (addS S t), ← sD_put]
    rfl
theorem addS_mem {S : List Str} {x y : Str} : y ∈ addS S x ↔ y ∈ S ∨ y = x := by
  unfold addS
  split
  · rename_i h
    constructor
    · exact .inl
    · rintro (e | rfl)
      · exact e
      · exact h
  · simp
theorem addS_nodup {S : List Str} {x : Str} (h : S.Nodup) : (addS S x).Nodup := by
  unfold addS
  split
  · exact h
  · rename_i c
    rw [List.nodup_append]
    refine ⟨h, by simp, fun a ha b hb => ?_⟩
    rw [List.mem_singleton.mp hb]
    exact fun e => c (e ▸ ha)
theorem addS_len {S : List Str} {x : Str} : (addS S x).length ≤ S.length + 1 := by
  unfold addS
  split <;> simp
theorem folS_mem : ∀ {T S : List Str} {y : Str}, y ∈ T.foldl addS S ↔ y ∈ S ∨ y ∈ T
  | [], S, y => by simp
  | t :: T, S, y => by
    rw [List.foldl_cons, folS_mem, addS_mem, List.mem_cons, or_assoc]
theorem folS_nodup : ∀ {T S : List Str}, S.Nodup → (T.foldl addS S).Nodup
  | [], _, h => h
  | t :: T, S, h => folS_nodup (T := T) (addS_nodup h)
theorem folS_len : ∀ {T S : List Str}, (T.foldl addS S).length ≤ S.length + T.length
  | [], _ => Nat.le_refl _
  | t :: T, S => by
    have h := folS_len (T := T) (S := addS S t)
    have h' := addS_len (S := S) (x := t)
    simp only [List.foldl_cons, List.length_cons]
    omega
theorem keys_sD (S : List Str) : keysOf (.dict (sD S)) = some (tx S) := by
  cases S with
  | nil => rfl
  | cons s S =>
    show (if textK (sD (s :: S)) = true then some ((sD (s :: S)).map (·.1)) else none) = _
    rw [if_pos (sD_text _)]
    simp [sD, Function.comp_def]
theorem all_tx (S : List Str) : (tx S).all isTx = true := by
  show (List.map PyData.str S).all isTx = true
  rw [List.all_map]
  exact List.all_eq_true.mpr fun _ _ => rfl
theorem srt_tx {S : List Str} (h : S.length ≤ 10000) : srtOk (tx S) = true := by
  unfold srtOk
  rw [all_tx, List.length_map, decide_eq_true (Nat.le_trans h (by decide))]
  simp
theorem sort_tx {K : List Str} (h : K.Nodup) : ∃ S, sortD (tx K) = tx S ∧ Up (tx S) ∧ (∀ x, x ∈ S ↔ x ∈ K) ∧ S.length = K.length := by
  have hk : ∀ x ∈ sortD (tx K), ∃ s, x = .str s ∧ s ∈ K := fun x hx => by
    obtain ⟨s, hs, rfl⟩ := List.mem_map.mp (sortD_mem.mp hx)
    exact ⟨s, rfl, hs⟩
  have e : sortD (tx K) = tx ((sortD (tx K)).map txtD) := by
    show sortD (tx K) = List.map PyData.str (List.map txtD (sortD (tx K)))
    rw [List.map_map]
    conv => lhs; rw [← List.map_id (sortD (tx K))]
    refine List.map_congr_left fun x hx => ?_
    obtain ⟨s, rfl, _⟩ := hk x hx
    rfl
  have nd : (tx K).Nodup := List.Pairwise.map PyData.str (fun a b n e => n (by injection e)) h
  have up : Up (sortD (tx K)) := sortD_up (fun d hd => by obtain ⟨s, _, rfl⟩ := List.mem_map.mp hd; rfl) nd
  refine ⟨(sortD (tx K)).map txtD, e, by rw [← e]; exact up, fun x => ?_, by rw [List.length_map, sortD_length, List.length_map]⟩
  constructor
  · intro hx
    obtain ⟨y, hy, rfl⟩ := List.mem_map.mp hx
    obtain ⟨s, rfl, hs⟩ := hk y hy
    exact hs
  · intro hx
    exact List.mem_map.mpr ⟨.str x, sortD_mem.mpr (List.mem_map.mpr ⟨x, hx, rfl⟩), rfl⟩
theorem gsort_sD {K : List Str} (h : K.Nodup) (hn : K.length ≤ 10000) : ∃ S, gSorted [.dict (sD K)] = some (.list (tx S)) ∧ Up (tx S) ∧ (∀ x, x ∈ S ↔ x ∈ K) ∧ S.length = K.length := by
  obtain ⟨S, e, u, m, l⟩ := sort_tx h
  refine ⟨S, ?_, u, m, l⟩
  show (keysOf _).bind _ = _
  rw [keys_sD]
  simp only [Option.bind_some]
  rw [if_pos (srt_tx hn), e]
theorem tx_unique {S T : List Str} (h : Up (tx S)) (h' : Up (tx T)) (m : ∀ x, x ∈ S ↔ x ∈ T) : S = T := by
  have : tx S = tx T := up_unique h h' fun x => by
    constructor
    · intro hx
      obtain ⟨s, hs, rfl⟩ := List.mem_map.mp hx
      exact List.mem_map.mpr ⟨s, (m s).mp hs, rfl⟩
    · intro hx
      obtain ⟨s, hs, rfl⟩ := List.mem_map.mp hx
      exact List.mem_map.mpr ⟨s, (m s).mpr hs, rfl⟩
  exact (List.map_inj_right (fun a b e => by injection e)).mp this
/-! ### rules -/
section
variable {d : SD}
theorem W_putS {i : Nat} {fy fv : F OV} {Q : Fl → SD → Prop} (h : W fv d fun o d1 => ∃ w, plO o = some w ∧ (∃ kvs, isOS d1 i = some kvs) ∧ W fy d1 fun o' d2 => ∃ x, fzO o' = some (.str x) ∧ ∃ kvs, isOS d2 i = some kvs ∧ Q .nx (d2.set i (some (.own (.dict (putD kvs (.str x) w)))))) : W (fPutS i fy fv) d Q := by
  obtain ⟨⟨o, d1⟩, e, w, e1, ⟨_, e2⟩, ⟨o', d2⟩, e3, x, e4, kvs, e5, q⟩ := h
  refine W_of (d' := d2.set i (some (.own (.dict (putD kvs (.str x) w))))) (a := .nx) ?_ q
  unfold fPutS
  rw [e]
  dsimp only [Option.bind_some] at e1 e2 e3 e4 e5 ⊢
  rw [e1]
  simp only [Option.bind_some]
  rw [e2]
  simp only [Option.bind_some]
  rw [e3]
  simp only [Option.bind_some]
  rw [e4]
  simp only [e5, Option.bind_some]
theorem W_putT {i : Nat} {fy fv : F OV} {Q : Fl → SD → Prop} (h : W fv d fun o d1 => ∃ w, valO o = some w ∧ (∃ kvs, isOT d1 i = some kvs) ∧ W fy d1 fun o' d2 => ∃ x, fzO o' = some x ∧ tupKey x = true ∧ ∃ kvs, isOT d2 i = some kvs ∧ Q .nx (d2.set i (some (.own (tdic (putD kvs x w)))))) : W (fPutT i fy fv) d Q := by
  obtain ⟨⟨o, d1⟩, e, w, e1, ⟨_, e2⟩, ⟨o', d2⟩, e3, x, e4, e6, kvs, e5, q⟩ := h
  refine W_of (d' := d2.set i (some (.own (tdic (putD kvs x w))))) (a := .nx) ?_ q
  unfold fPutT
  rw [e]
  dsimp only [Option.bind_some] at e1 e2 e3 e4 e5 e6 ⊢
  rw [e1]
  simp only [Option.bind_some]
  rw [e2]
  simp only [Option.bind_some]
  rw [e3]
  simp only [Option.bind_some]
  rw [e4]
  simp only [Option.bind_some, e6, if_true, e5]
theorem W_inS {s : Bool} {fy fd : F OV} {Q : OV → SD → Prop} (h : W fy d fun o d1 => W fd d1 fun o' d2 => ∃ x kvs, fzO o = some (.str x) ∧ rdO o' d2 = some (.dict kvs) ∧ textK kvs = true ∧ Q (.val (.bool (if s = true then (valD kvs (.str x)).isSome else !(valD kvs (.str x)).isSome))) d2) : W (fInS s fy fd) d Q := by
  obtain ⟨⟨o, d1⟩, e, ⟨o', d2⟩, e1, x, kvs, e2, e3, e4, q⟩ := h
  refine W_of (d' := d2) ?_ q
  unfold fInS
  rw [e]
  dsimp only [Option.bind_some] at e1 e2 e3 ⊢
  rw [e1]
  simp only [Option.bind_some]
  rw [e2, e3]
  simp only [e4, if_true]
theorem W_upd {i : Nat} {f : F OV} {Q : Fl → SD → Prop} (h : (∃ kvs, isOS d i = some kvs) ∧ W f d fun o d1 => ∃ more kvs, fzO o = some (.dict more) ∧ textK more = true ∧ isOS d1 i = some kvs ∧ kvs.length + more.length ≤ sizeLine ∧ Q .nx (d1.set i (some (.own (.dict (mergeD kvs more)))))) : W (fUpd i f) d Q := by
  obtain ⟨⟨_, e0⟩, ⟨o, d1⟩, e, more, kvs, e1, e2, e3, e4, q⟩ := h
  refine W_of (d' := d1.set i (some (.own (.dict (mergeD kvs more))))) (a := .nx) ?_ q
  unfold fUpd
  rw [e0]
  simp only [Option.bind_some]
  rw [e]
  dsimp only [Option.bind_some] at e1 e3 ⊢
  rw [e1]
  simp only [e2, if_true, e3, Option.bind_some, e4]
theorem W_pop {i : Nat} {xs : List PyData} {y : PyData} {Q : OV → SD → Prop} (h : d[i]? = some (some (.own (.list (xs ++ [y]))))) (q : Q (.val y) (d.set i (some (.own (.list xs))))) : W (fPop i) d Q := by
  refine W_of (d' := d.set i (some (.own (.list xs)))) (a := .val y) ?_ q
  unfold fPop
  rw [h]
  simp
theorem W_pair {fk fv : F OV} {Q : Str × PyData → SD → Prop} (h : W fk d fun o d1 => ∃ x, fzO o = some (.str x) ∧ W fv d1 fun o' d2 => ∃ y, plO o' = some y ∧ Q (x, y) d2) : W (fPair fk fv) d Q := by
  obtain ⟨⟨o, d1⟩, e, x, e1, ⟨o', d2⟩, e2, y, e3, q⟩ := h
  refine W_of (d' := d2) ?_ q
  unfold fPair
  rw [e]
  dsimp only [Option.bind_some] at e1 e2 e3 ⊢
  rw [e1]
  simp only [e2, Option.bind_some, e3]
@[simp] theorem W_disp1 {f : F (Str × PyData)} {Q : PyData → SD → Prop} : W (fDisp1 f) d Q ↔ W f d fun p d1 => Q (.dict [(.str p.1, p.2)]) d1 := by simp [W, fDisp1]
@[simp] theorem W_disp2 {f g : F (Str × PyData)} {Q : PyData → SD → Prop} : W (fDisp2 f g) d Q ↔ W f d fun p d1 => W g d1 fun q d2 => Q (.dict (putD [(.str p.1, p.2)] (.str q.1) q.2)) d2 := by simp [W, fDisp2]
theorem wh_inv {c : F Bool} {b : F Fl} {Q : Fl → SD → Prop} (I : Nat → SD → Prop) (zero : ∀ d, ¬ I 0 d) (step : ∀ m d, I (m + 1) d → W c d fun t d1 => if t = true then W b d1 (Turn (I m) Q) else Q .nx d1) : ∀ (n : Nat) (d : SD), I n d → W (whF c b n) d Q
  | 0, d, h => absurd h (zero d)
  | n + 1, d, h => by
    obtain ⟨⟨t, d1⟩, e, q⟩ := step n d h
    unfold W whF
    rw [wo_bind]
    refine ⟨_, e, ?_⟩
    dsimp only at q ⊢
    cases t with
    | false => simpa using q
    | true =>
      simp only [if_true] at q ⊢
      obtain ⟨⟨fl, d2⟩, e2, q2⟩ := q
      rw [wo_bind]
      refine ⟨_, e2, ?_⟩
      dsimp only at q2 ⊢
      cases fl with
      | nx => exact wh_inv I zero step n d2 q2
      | ct => exact wh_inv I zero step n d2 q2
      | bk => exact wo_some.mpr q2
      | rt z => exact wo_some.mpr q2
      | ro z => exact wo_some.mpr q2
end
theorem isOS_sD {d : SD} {i : Nat} {S : List Str} (h : d[i]? = some (some (.own (.dict (sD S))))) (hn : S.length ≤ 10000) : isOS d i = some (sD S) := by
  unfold isOS
  rw [h]
  show (if _ then _ else _) = _
  rw [if_pos ⟨sD_text S, by rw [sD_len]; have h16 : sizeLine = 16777216 := sizeLine_eq; omega⟩]
end DL

set_option maxRecDepth 100000
set_option linter.all false
set_option maxHeartbeats 2000000
/-! M19: led_to, inside. -/
namespace DL
open PySem PySem.W PyProof.Rows
def linkD (q : Str × Str) : PyData := .tuple [.str q.2, .str q.1]
theorem eq_strs (s : Bool) (a b : Str) : gEq s (.str a) (.str b) = some (.bool (if s = true then decide (a = b) else !decide (a = b))) := eq_ss s a b
/-- what led_to keeps before a turn of its while -/
structure InvW (ps : List (Str × Str)) (m : Str) (K Wt : List Str) (skip : Str → Prop) : Prop where
  hm : m ∈ K
  nd : K.Nodup
  re : ∀ x ∈ K, Reach ps m x
  sub : ∀ x ∈ K, x ∈ m :: ps.map (·.1)
  wt : ∀ x ∈ Wt, x ∈ K
  cl : ∀ q ∈ ps, q.2 ∈ K → q.2 ∉ Wt → ¬ skip q.2 → q.1 ∈ K
theorem InvW.len {ps : List (Str × Str)} {m : Str} {K Wt : List Str} {s : Str → Prop} (h : InvW ps m K Wt s) : K.length ≤ ps.length + 1 := by
  have := perm_len h.nd h.sub
  simpa using this
theorem f_ledto (ps : List (Str × Str)) (m : Str) (hn : ps.length ≤ 50) : ∃ S, F_led_to [.str m, .list (ps.map linkD)] = some (.tuple (tx S)) ∧ Up (tx S) ∧ ∀ x, x ∈ S ↔ Reach ps m x := by
  have main : W (fb_led_to 100) [some (.fr (.str m)), some (.fr (.list (ps.map linkD))), none, none, none, none, none] fun fl _ => ∃ S, fl = .rt (.tuple (tx S)) ∧ Up (tx S) ∧ ∀ x, x ∈ S ↔ Reach ps m x := by
    unfold fb_led_to
    refine W_step (d1 := [some (.fr (.str m)), some (.fr (.list (ps.map linkD))), some (.own (.dict (sD [m]))), none, none, none, none]) (ev ?_) ?_
    · rw [W_own, W_disp1]
      refine W_pair ?_
      simp only [W_var, List.getElem?_cons_succ, List.getElem?_cons_zero, wo_some, fzO, Option.some.injEq, PyData.str.injEq, exists_eq_left', W_c, plO, List.set_cons_succ, List.set_cons_zero]
      exact ⟨trivial, rfl⟩
    refine W_step (d1 := [some (.fr (.str m)), some (.fr (.list (ps.map linkD))), some (.own (.dict (sD [m]))), some (.own (.list (tx [m]))), none, none, none]) (ev ?_) ?_
    · simp only [W_own, W_olst, W_cons, W_nil, W_var, List.getElem?_cons_succ, List.getElem?_cons_zero, wo_some, plOs, plO, Option.bind_some, List.set_cons_succ, List.set_cons_zero]
      exact ⟨trivial, rfl⟩
    rw [W_seq]
    refine wh_inv (fun n d => n ≤ 100 ∧ ∃ K Wt v4 v5 v6, InvW ps m K Wt (fun _ => False) ∧ ps.length + 1 + Wt.length + 1 ≤ n + K.length ∧ d = [some (.fr (.str m)), some (.fr (.list (ps.map linkD))), some (.own (.dict (sD K))), some (.own (.list (tx Wt))), v4, v5, v6]) ?_ ?_ 100 _ ?_
    · rintro d ⟨_, K, Wt, v4, v5, v6, hI, hl, _⟩
      have := hI.len
      omega
    · rintro n d ⟨hn100, K, Wt, v4, v5, v6, hI, hl, rfl⟩
      simp only [W_b, W_op, W_var, List.getElem?_cons_succ, List.getElem?_cons_zero, wo_some, W_lst, W_nil, plOs, rdO, eq_nil, OV.val.injEq, PyData.bool.injEq, exists_eq_left', Bool.false_eq_true, if_false]
      rcases List.eq_nil_or_concat Wt with hw | ⟨Wt', h, hw⟩
      · -- done
        subst hw
        simp only [List.map_nil, List.isEmpty_nil, Bool.not_true, Bool.false_eq_true, if_false]
        obtain ⟨S, e, u, mem, _⟩ := gsort_sD hI.nd (Nat.le_trans hI.len (by omega))
        simp only [W_ret, W_cb, W_cons, W_nil, W_var, List.getElem?_cons_succ, List.getElem?_cons_zero, wo_some, rdOs, rdO, Option.bind_some, e, gTuple, fzO]
        refine ⟨S, rfl, u, fun x => ⟨fun hx => hI.re x ((mem x).mp hx), fun r => ?_⟩⟩
        refine (mem x).mpr ?_
        induction r with
        | refl => exact hI.hm
        | step hq _ ih => exact hI.cl _ hq ih (by simp) (fun z => z)
      · rw [List.concat_eq_append] at hw
        subst hw
        have hne : (tx (Wt' ++ [h])).isEmpty = false := by simp
        simp only [hne, Bool.not_false, if_true]
        refine W_step (d1 := [some (.fr (.str m)), some (.fr (.list (ps.map linkD))), some (.own (.dict (sD K))), some (.own (.list (tx Wt'))), some (.fr (.str h)), v5, v6]) (ev ?_) ?_
        · rw [W_set]
          refine W_pop (xs := tx Wt') (y := .str h) (by simp) ?_
          simp only [fzO, wo_some, List.set_cons_succ, List.set_cons_zero]
          exact ⟨trivial, trivial⟩
        rw [W_for, W_items, W_var]
        simp only [List.getElem?_cons_succ, List.getElem?_cons_zero, wo_some, fzO, seqOf]
        have hlen : ps.length + 1 + Wt'.length + 1 ≤ n + K.length := by
          rw [List.length_append] at hl
          simp at hl
          omega
        have hh : h ∈ K := hI.wt h (by simp)
        have h0 : InvW ps m K Wt' (fun x => x = h) := ⟨hI.hm, hI.nd, hI.re, hI.sub, fun x hx => hI.wt x (by simp [hx]), fun q hq a b c => hI.cl q hq a (by simp only [List.mem_append, List.mem_singleton, not_or]; exact ⟨b, c⟩) (fun z => z)⟩
        refine for_list (α := Str × Str) linkD ps (fun pre d => ∃ K2 W2 v5 v6, InvW ps m K2 W2 (fun x => x = h) ∧ (∀ q ∈ pre, q.2 = h → q.1 ∈ K2) ∧ h ∈ K2 ∧ ps.length + 1 + W2.length + 1 ≤ n + K2.length ∧ d = [some (.fr (.str m)), some (.fr (.list (ps.map linkD))), some (.own (.dict (sD K2))), some (.own (.list (tx W2))), some (.fr (.str h)), v5, v6]) ⟨K, Wt', v5, v6, h0, by simp, hh, hlen, rfl⟩ ?_ ?_
        · rintro pre q suf d e ⟨K2, W2, w5, w6, hJ, hp, hh2, hl2, rfl⟩
          have hq : q ∈ ps := by rw [e]; simp
          simp only [linkD, gT, gsC, gsN, gN, Option.bind_some, wo_some, List.set_cons_succ, List.set_cons_zero, W_if, W_and, W_b, W_op, W_var, List.getElem?_cons_succ, List.getElem?_cons_zero, rdO, eq_ss, OV.val.injEq, PyData.bool.injEq, exists_eq_left', if_true]
          by_cases c1 : q.2 = h
          · simp only [c1, decide_true, if_true]
            refine W_inS ?_
            simp only [W_var, List.getElem?_cons_succ, List.getElem?_cons_zero, wo_some]
            refine ⟨q.1, sD K2, rfl, rfl, sD_text K2, ?_⟩
            simp only [Bool.false_eq_true, if_false, sD_val, OV.val.injEq, PyData.bool.injEq, exists_eq_left']
            by_cases c2 : q.1 ∈ K2
            · simp only [c2, decide_true, Bool.not_true, Bool.false_eq_true, if_false, W_next]
              refine ⟨K2, W2, _, _, hJ, fun z hz hz2 => ?_, hh2, hl2, rfl⟩
              rcases List.mem_append.mp hz with hz | hz
              · exact hp z hz hz2
              · rw [List.mem_singleton.mp hz]; exact c2
            · simp only [c2, decide_false, Bool.not_false, if_true]
              have hK3 : (addS K2 q.1) = K2 ++ [q.1] := by unfold addS; rw [if_neg c2]
              have hJ3 : InvW ps m (K2 ++ [q.1]) (W2 ++ [q.1]) (fun x => x = h) := by
                refine ⟨by simp [hJ.hm], ?_, fun x hx => ?_, fun x hx => ?_, fun x hx => ?_, fun z hz a b c => ?_⟩
                · rw [← hK3]; exact addS_nodup hJ.nd
                · rcases List.mem_append.mp hx with hx | hx
                  · exact hJ.re x hx
                  · rw [List.mem_singleton.mp hx]
                    exact .step (o := q.2) hq (hJ.re _ (c1 ▸ hh2))
                · rcases List.mem_append.mp hx with hx | hx
                  · exact hJ.sub x hx
                  · rw [List.mem_singleton.mp hx]
                    exact List.mem_cons_of_mem _ (List.mem_map.mpr ⟨q, hq, rfl⟩)
                · rcases List.mem_append.mp hx with hx | hx
                  · exact List.mem_append.mpr (.inl (hJ.wt x hx))
                  · exact List.mem_append.mpr (.inr hx)
                · simp only [List.mem_append, List.mem_singleton, not_or] at a b
                  rcases a with a | a
                  · exact List.mem_append.mpr (.inl (hJ.cl z hz a b.1 c))
                  · exact absurd a b.2
              have hl3 := hJ3.len
              rw [List.length_append] at hl3
              simp only [List.length_singleton] at hl3
              rw [W_seq]
              refine W_putS ?_
              simp only [W_c, plO, W_var, List.getElem?_cons_succ, List.getElem?_cons_zero, wo_some, fzO, Option.some.injEq, PyData.str.injEq, exists_eq_left']
              have io : isOS [some (SV.fr (.str m)), some (.fr (.list (ps.map linkD))), some (.own (.dict (sD K2))), some (.own (.list (tx W2))), some (.fr (.str h)), some (.fr (.str h)), some (.fr (.str q.1))] 2 = some (sD K2) := isOS_sD rfl (by omega)
              refine ⟨⟨_, io⟩, _, io, ?_⟩
              rw [sD_put, hK3]
              simp only [List.set_cons_succ, List.set_cons_zero]
              refine W_app rfl ?_
              simp only [W_var, List.getElem?_cons_succ, List.getElem?_cons_zero, wo_some]
              refine ⟨_, tx W2, rfl, rfl, ?_, K2 ++ [q.1], W2 ++ [q.1], some (.fr (.str h)), some (.fr (.str q.1)), hJ3, fun z hz hz2 => ?_, by simp [hh2], by simp; omega, ?_⟩
              · rw [List.length_map]
                have h16 : sizeLine = 16777216 := sizeLine_eq
                omega
              · rcases List.mem_append.mp hz with hz | hz
                · exact List.mem_append.mpr (.inl (hp z hz hz2))
                · rw [List.mem_singleton.mp hz]; simp
              · rw [show tx (W2 ++ [q.1]) = tx W2 ++ [.str q.1] by simp]
                rfl
          · simp only [c1, decide_false, Bool.false_eq_true, if_false, W_next]
            refine ⟨K2, W2, _, _, hJ, fun z hz hz2 => ?_, hh2, hl2, rfl⟩
            rcases List.mem_append.mp hz with hz | hz
            · exact hp z hz hz2
            · rw [List.mem_singleton.mp hz] at hz2; exact absurd hz2 c1
        · rintro d ⟨K2, W2, w5, w6, hJ, hp, hh2, hl2, rfl⟩
          refine ⟨by omega, K2, W2, _, _, _, ⟨hJ.hm, hJ.nd, hJ.re, hJ.sub, hJ.wt, fun q hq a b _ => ?_⟩, hl2, rfl⟩
          by_cases c : q.2 = h
          · exact hp q hq c
          · exact hJ.cl q hq a b c
    · have h0 : InvW ps m [m] [m] (fun _ => False) := ⟨by simp, by simp, fun x hx => by rw [List.mem_singleton.mp hx]; exact .refl, fun x hx => by rw [List.mem_singleton.mp hx]; simp, fun x hx => hx, fun q hq a b _ => absurd a b⟩
      exact ⟨Nat.le_refl _, [m], [m], none, none, none, h0, by simp; omega, rfl⟩
  obtain ⟨⟨fl, d⟩, e, S, rfl, u, mem⟩ := main
  exact ⟨S, runF_of ⟨_, e, rfl⟩, u, mem⟩
theorem f_inside (ps : List (Str × Str)) (m : Str) (hn : ps.length ≤ 50) : ∃ S, F_inside [.tuple (ps.map qD), .str m] = some (.tuple (tx S)) ∧ ∀ x, x ∈ S ↔ x ∈ insideL ps m := by
  obtain ⟨S, e, u, mem⟩ := f_ledto ps m hn
  refine ⟨S, ?_, fun x => by rw [mem, (insideL_mem ps m).2]⟩
  refine runF_of ?_
  change W (fb_inside F_led_to) [some (.fr (.tuple (ps.map qD))), some (.fr (.str m)), none, none] _
  unfold fb_inside
  have lc : fLc (fItems (fVar 0)) (gT (gsC (gN 2) (gsC (gN 3) gsN))) fYes (fTup (fCons (fVar 3) (fCons (fVar 2) fNil))) [2, 3] [some (.fr (.tuple (ps.map qD))), some (.fr (.str m)), none, none] = some (.val (.list (ps.map linkD)), [some (.fr (.tuple (ps.map qD))), some (.fr (.str m)), none, none]) := by
    refine lc_all (as := ps) qD linkD rfl rfl (fun q hq => ?_) (Nat.le_trans hn (by decide))
    exact ⟨[some (.fr (.tuple (ps.map qD))), some (.fr (.str m)), some (.fr (.str q.1)), some (.fr (.str q.2))], rfl, rfl, .val (linkD q), rfl, rfl⟩
  rw [W_ret, W_call, W_cons, W_var]
  simp only [List.getElem?_cons_succ, List.getElem?_cons_zero, wo_some]
  rw [W_cons]
  refine W_of lc ?_
  simp only [W_nil, fzOs, fzO, Option.bind_some, wo_some, e]
end DL

set_option maxRecDepth 100000
set_option linter.all false
set_option maxHeartbeats 2000000
/-! M20: at, marked, marks; the law's marked. -/
namespace DL
open PySem PySem.W PyProof.Rows
theorem tx_inj {p q : List Str} (h : tx p = tx q) : p = q := (List.map_inj_right (fun a b e => by injection e)).mp h
theorem path_inj {p q : List Str} (h : pathD p = pathD q) : p = q := tx_inj (by injection h)
theorem path_key (p : List Str) : isKey (pathD p) = true := by simp [pathD, isKey, areKeys_tx]
theorem in_paths {ps : List (List Str)} {p : List Str} (s : Bool) : gIn s (pathD p) (.tuple (ps.map pathD)) = some (.bool (if s = true then decide (p ∈ ps) else !decide (p ∈ ps))) := by
  have hd : (pathD p).depth ≤ 60 := by
    have := depth_tx p
    simp only [PyData.depth]
    omega
  unfold gIn
  rw [if_pos ⟨rfl, hd⟩]
  simp only [seqOf, Option.bind_some]
  rw [any_mem (path_key p) (fun c hc => by obtain ⟨x, _, rfl⟩ := List.mem_map.mp hc; exact path_key x)]
  have : (pathD p ∈ ps.map pathD) ↔ p ∈ ps := by
    rw [List.mem_map]
    constructor
    · rintro ⟨q, hq, e⟩; exact path_inj e ▸ hq
    · intro h; exact ⟨p, h, rfl⟩
  simp only [this]
theorem in_tup {fs : List Str} {a : Str} : gIn true (.str a) (.tuple (tx fs)) = some (.bool (decide (a ∈ fs))) := by
  unfold gIn
  rw [if_pos ⟨rfl, by simp [PyData.depth]⟩]
  simp only [seqOf, Option.bind_some, if_true]
  rw [any_mem rfl (fun c hc => by obtain ⟨x, _, rfl⟩ := List.mem_map.mp hc; rfl)]
  simp
def atP (pages : List Page) (p : List Str) : List Str := (pages.filter fun g => decide (p ∈ g.paths)).map (·.form)
def mkP (pages : List Page) (pairs : List (Str × Str)) (m : Str) : List Str := (pages.filter fun g => g.marks.any fun x => decide (x ∈ insideL pairs m)).map (·.form)
theorem atP_len (pages : List Page) (p : List Str) : (atP pages p).length ≤ pages.length := by unfold atP; rw [List.length_map]; exact List.length_filter_le _ _
theorem mkP_len (pages : List Page) (ps : List (Str × Str)) (m : Str) : (mkP pages ps m).length ≤ pages.length := by unfold mkP; rw [List.length_map]; exact List.length_filter_le _ _
theorem tx_atP (pages : List Page) (p : List Str) : tx (atP pages p) = (pages.filter fun g => decide (p ∈ g.paths)).map fun g => PyData.str g.form := by simp [atP, Function.comp_def]
theorem tx_mkP (pages : List Page) (ps : List (Str × Str)) (m : Str) : tx (mkP pages ps m) = (pages.filter fun g => g.marks.any fun x => decide (x ∈ insideL ps m)).map fun g => PyData.str g.form := by simp [mkP, Function.comp_def]
theorem ix0 (g : Page) : gIx g.d (.int 0) = some (.str g.form) := rfl
theorem ix2 (g : Page) : gIx g.d (.int 2) = some (.tuple (tx g.marks)) := rfl
theorem ix3 (g : Page) : gIx g.d (.int 3) = some (.tuple (g.paths.map pathD)) := rfl
theorem f_at (L : Lst) (hn : L.pages.length ≤ 30) (p : List Str) : F_at [L.d, pathD p] = some (.tuple (tx (atP L.pages p))) := by
  refine runF_of ?_
  change W fb_at [some (.fr L.d), some (.fr (pathD p)), none] _
  unfold fb_at
  have lc : fLc (fItems (fFld .pages (fVar 0))) (gN 2) (fB (fOp (gIn true) (fVar 1) (fOp gIx (fVar 2) (fC (.int 3))))) (fOp gIx (fVar 2) (fC (.int 0))) [2] [some (.fr L.d), some (.fr (pathD p)), none] = some (.val (.list (tx (atP L.pages p))), [some (.fr L.d), some (.fr (pathD p)), none]) := by
    rw [tx_atP]
    refine lc_as (as := L.pages) Page.d (fun g => decide (p ∈ g.paths)) (fun g => PyData.str g.form) (ev ?_) rfl (fun g hg => ?_) (Nat.le_trans hn (by decide))
    · simp only [W_items, W_fld, W_var, List.getElem?_cons_succ, List.getElem?_cons_zero, wo_some, fzO, lisOf_d, Fi.pick, Lst.pD, seqOf]
      exact ⟨trivial, trivial⟩
    · refine ⟨[some (.fr L.d), some (.fr (pathD p)), some (.fr g.d)], rfl, rfl, ev ?_, fun _ => ⟨_, rfl, rfl⟩⟩
      simp only [W_b, W_op, W_var, W_c, List.getElem?_cons_succ, List.getElem?_cons_zero, wo_some, rdO, ix3, in_paths, if_true, OV.val.injEq, PyData.bool.injEq, exists_eq_left']
      exact ⟨trivial, trivial⟩
  rw [W_ret, W_cb, W_cons]
  refine W_of lc ?_
  simp only [W_nil, rdOs, rdO, Option.bind_some, wo_some, gTuple, fzO]
/-- any([one in some for one in page[2]]) -/
theorem any_marks {S : List Str} {c : PyData} {i j v : Nat} {g : Page} {d0 : SD} {t1 : Str → SD} (hg : g.marks.length ≤ 1000) (hc : c = .list (tx S) ∨ c = .tuple (tx S)) (hi : fItems (fOp gIx (fVar i) (fC (.int 2))) d0 = some (tx g.marks, d0)) (ok : okW [v] d0 = true)
    (h : ∀ l ∈ g.marks, (wipeD d0 [v]).set v (some (.fr (.str l))) = t1 l ∧ wipeD (t1 l) [v] = wipeD d0 [v] ∧ fVar v (t1 l) = some (.val (.str l), t1 l) ∧ fVar j (t1 l) = some (.val c, t1 l)) :
    fB (fCB gAny (fCons (fLc (fItems (fOp gIx (fVar i) (fC (.int 2)))) (gN v) fYes (fOp (gIn true) (fVar v) (fVar j)) [v]) fNil)) d0 = some (g.marks.any fun x => decide (x ∈ S), d0) := by
  have hin : ∀ l, gIn true (.str l) c = some (.bool (decide (l ∈ S))) := fun l => by
    rcases hc with rfl | rfl
    · exact in_tx
    · exact in_tup
  have lc : fLc (fItems (fOp gIx (fVar i) (fC (.int 2)))) (gN v) fYes (fOp (gIn true) (fVar v) (fVar j)) [v] d0 = some (.val (.list (g.marks.map fun l => .bool (decide (l ∈ S)))), d0) := by
    refine lc_all (as := g.marks) PyData.str (fun l => .bool (decide (l ∈ S))) hi ok (fun l hl => ?_) (Nat.le_trans hg (by decide))
    obtain ⟨h1, h2, h3, h4⟩ := h l hl
    refine ⟨t1 l, by rw [← h1]; rfl, h2, .val (.bool (decide (l ∈ S))), ?_, rfl⟩
    unfold fOp
    rw [h3]
    simp only [Option.bind_some]
    rw [h4]
    simp only [Option.bind_some, rdO]
    rw [hin]
    rfl
  unfold fB fCB fCons fNil
  rw [lc]
  simp [rdOs, rdO, gAny, boolsOf_map]
theorem f_marked (L : Lst) (hn : L.pages.length ≤ 30) (hq : L.pairs.length ≤ 50) (hm : ∀ g ∈ L.pages, g.marks.length ≤ 1000) (m : Str) : F_marked [L.d, .str m] = some (.tuple (tx (mkP L.pages L.pairs m))) := by
  obtain ⟨S, eS, mem⟩ := f_inside L.pairs m hq
  refine runF_of ?_
  change W (fb_marked F_inside) [some (.fr L.d), some (.fr (.str m)), none, none, none] _
  unfold fb_marked
  refine W_step (d1 := [some (.fr L.d), some (.fr (.str m)), some (.fr (.tuple (tx S))), none, none]) (ev ?_) ?_
  · simp only [W_set, W_call, W_cons, W_nil, W_fld, W_var, List.getElem?_cons_succ, List.getElem?_cons_zero, wo_some, fzO, lisOf_d, Fi.pick, Lst.qD, fzOs, Option.bind_some, eS, List.set_cons_succ, List.set_cons_zero]
    exact ⟨trivial, trivial⟩
  have lc : fLc (fItems (fFld .pages (fVar 0))) (gN 3) (fB (fCB gAny (fCons (fLc (fItems (fOp gIx (fVar 3) (fC (.int 2)))) (gN 4) fYes (fOp (gIn true) (fVar 4) (fVar 2)) [4]) fNil))) (fOp gIx (fVar 3) (fC (.int 0))) [3] [some (.fr L.d), some (.fr (.str m)), some (.fr (.tuple (tx S))), none, none] = some (.val (.list (tx (mkP L.pages L.pairs m))), [some (.fr L.d), some (.fr (.str m)), some (.fr (.tuple (tx S))), none, none]) := by
    rw [tx_mkP]
    refine lc_as (as := L.pages) Page.d (fun g => g.marks.any fun x => decide (x ∈ insideL L.pairs m)) (fun g => PyData.str g.form) (ev ?_) rfl (fun g hg => ?_) (Nat.le_trans hn (by decide))
    · simp only [W_items, W_fld, W_var, List.getElem?_cons_succ, List.getElem?_cons_zero, wo_some, fzO, lisOf_d, Fi.pick, Lst.pD, seqOf]
      exact ⟨trivial, trivial⟩
    · refine ⟨[some (.fr L.d), some (.fr (.str m)), some (.fr (.tuple (tx S))), some (.fr g.d), none], rfl, rfl, ?_, fun _ => ⟨_, rfl, rfl⟩⟩
      have := any_marks (S := S) (c := .tuple (tx S)) (i := 3) (j := 2) (v := 4) (g := g) (d0 := [some (.fr L.d), some (.fr (.str m)), some (.fr (.tuple (tx S))), some (.fr g.d), none]) (t1 := fun l => [some (.fr L.d), some (.fr (.str m)), some (.fr (.tuple (tx S))), some (.fr g.d), some (.fr (.str l))]) (hm g hg) (.inr rfl) rfl rfl (fun l _ => ⟨rfl, rfl, rfl, rfl⟩)
      rw [this]
      simp only [mem]
  rw [W_ret, W_cb, W_cons]
  refine W_of lc ?_
  simp only [W_nil, rdOs, rdO, Option.bind_some, wo_some, gTuple, fzO]
theorem f_lawmarked (pages : List Page) (ps : List (Str × Str)) (hn : pages.length ≤ 30) (hq : ps.length ≤ 50) (hm : ∀ g ∈ pages, g.marks.length ≤ 1000) (m : Str) : F__law_marked [.tuple (pages.map Page.d), .tuple (ps.map qD), .str m] = some (.list (tx (mkP pages ps m))) := by
  refine runF_of ?_
  change W (fb__law_marked F__law_inside_of) [some (.fr (.tuple (pages.map Page.d))), some (.fr (.tuple (ps.map qD))), some (.fr (.str m)), none, none, none] _
  unfold fb__law_marked
  refine W_step (d1 := [some (.fr (.tuple (pages.map Page.d))), some (.fr (.tuple (ps.map qD))), some (.fr (.str m)), some (.fr (.list (tx (insideL ps m)))), none, none]) (ev ?_) ?_
  · simp only [W_set, W_call, W_cons, W_nil, W_var, List.getElem?_cons_succ, List.getElem?_cons_zero, wo_some, fzO, fzOs, Option.bind_some, f_lawinside ps m (Nat.le_trans hq (by decide)), List.set_cons_succ, List.set_cons_zero]
    exact ⟨trivial, trivial⟩
  have lc : fLc (fItems (fVar 0)) (gN 4) (fB (fCB gAny (fCons (fLc (fItems (fOp gIx (fVar 4) (fC (.int 2)))) (gN 5) fYes (fOp (gIn true) (fVar 5) (fVar 3)) [5]) fNil))) (fOp gIx (fVar 4) (fC (.int 0))) [4] [some (.fr (.tuple (pages.map Page.d))), some (.fr (.tuple (ps.map qD))), some (.fr (.str m)), some (.fr (.list (tx (insideL ps m)))), none, none] = some (.val (.list (tx (mkP pages ps m))), [some (.fr (.tuple (pages.map Page.d))), some (.fr (.tuple (ps.map qD))), some (.fr (.str m)), some (.fr (.list (tx (insideL ps m)))), none, none]) := by
    rw [tx_mkP]
    refine lc_as (as := pages) Page.d (fun g => g.marks.any fun x => decide (x ∈ insideL ps m)) (fun g => PyData.str g.form) rfl rfl (fun g hg => ?_) (Nat.le_trans hn (by decide))
    refine ⟨[some (.fr (.tuple (pages.map Page.d))), some (.fr (.tuple (ps.map qD))), some (.fr (.str m)), some (.fr (.list (tx (insideL ps m)))), some (.fr g.d), none], rfl, rfl, ?_, fun _ => ⟨_, rfl, rfl⟩⟩
    exact any_marks (S := insideL ps m) (c := .list (tx (insideL ps m))) (i := 4) (j := 3) (v := 5) (g := g) (d0 := [some (.fr (.tuple (pages.map Page.d))), some (.fr (.tuple (ps.map qD))), some (.fr (.str m)), some (.fr (.list (tx (insideL ps m)))), some (.fr g.d), none]) (t1 := fun l => [some (.fr (.tuple (pages.map Page.d))), some (.fr (.tuple (ps.map qD))), some (.fr (.str m)), some (.fr (.list (tx (insideL ps m)))), some (.fr g.d), some (.fr (.str l))]) (hm g hg) (.inl rfl) rfl rfl (fun l _ => ⟨rfl, rfl, rfl, rfl⟩)
  rw [W_ret]
  refine W_of lc ?_
  simp only [fzO, wo_some]
/-- all marks of pages and pairs -/
def allM (pages : List Page) (ps : List (Str × Str)) : List Str := pages.flatMap (·.marks) ++ ps.flatMap fun q => [q.1, q.2]
theorem tx_of {xs : List PyData} (h : xs.all isTx = true) : xs = tx (xs.map txtD) := by
  show xs = List.map PyData.str (List.map txtD xs)
  rw [List.map_map]
  conv => lhs; rw [← List.map_id xs]
  refine List.map_congr_left fun x hx => ?_
  have := List.all_eq_true.mp h x hx
  cases x <;> simp [isTx] at this
  rfl
theorem sortset_tx (A : List Str) (hn : A.length ≤ 1000) : ∃ S, gSortSet (.list (tx A)) = some (.list (tx S)) ∧ Up (tx S) ∧ ∀ x, x ∈ S ↔ x ∈ A := by
  obtain ⟨h1, h2, h3⟩ := uniq_ok (all_tx A)
  have e := tx_of h1
  have nd : ((uniqD (tx A)).map txtD).Nodup := by
    rw [e] at h2
    exact List.Pairwise.of_map PyData.str (fun a b n e => n (by rw [e])) h2
  obtain ⟨S, e2, u, mem, _⟩ := sort_tx nd
  refine ⟨S, ?_, u, fun x => ?_⟩
  · show (if _ then _ else _) = _
    rw [if_pos ⟨all_tx A, by rw [List.length_map]; exact Nat.lt_of_le_of_lt (Nat.add_le_add_right hn 2) (by decide)⟩, e, e2]
  · rw [mem]
    have := h3 (.str x)
    rw [e] at this
    constructor
    · intro hx
      obtain ⟨y, hy, ey⟩ := List.mem_map.mp (this.mp (List.mem_map.mpr ⟨x, hx, rfl⟩))
      injection ey with ey
      exact ey ▸ hy
    · intro hx
      obtain ⟨y, hy, ey⟩ := List.mem_map.mp (this.mpr (List.mem_map.mpr ⟨x, hx, rfl⟩))
      injection ey with ey
      exact ey ▸ hy
theorem f_marks (L : Lst) (hn : (allM L.pages L.pairs).length ≤ 1000) : ∃ S, F_marks [L.d] = some (.tuple (tx S)) ∧ Up (tx S) ∧ ∀ x, x ∈ S ↔ x ∈ allM L.pages L.pairs := by
  obtain ⟨S, eS, u, mem⟩ := sortset_tx _ hn
  refine ⟨S, ?_, u, mem⟩
  refine runF_of ?_
  change W fb_marks [some (.fr L.d), none, none, none] _
  unfold fb_marks
  have h16 : sizeLine = 16777216 := sizeLine_eq
  have hn' : (L.pages.flatMap (·.marks)).length + (L.pairs.flatMap fun q => [q.1, q.2]).length ≤ 1000 := by
    unfold allM at hn
    rw [List.length_append] at hn
    exact hn
  refine W_step (d1 := [some (.fr L.d), some (.own (.list (tx []))), none, none]) (ev ?_) ?_
  · simp only [W_own, W_olst, W_nil, plOs, wo_some, List.set_cons_succ, List.set_cons_zero]
    exact ⟨trivial, rfl⟩
  rw [W_seq, W_for, W_items, W_fld, W_var]
  simp only [List.getElem?_cons_succ, List.getElem?_cons_zero, wo_some, fzO, lisOf_d, Fi.pick, Lst.pD, seqOf]
  refine for_list (α := Page) Page.d L.pages (fun pre d => ∃ v2, d = [some (.fr L.d), some (.own (.list (tx (pre.flatMap (·.marks))))), v2, none]) ⟨none, rfl⟩ ?_ ?_
  · rintro pre g suf d e ⟨v2, rfl⟩
    simp only [gN, wo_some, List.set_cons_succ, List.set_cons_zero]
    refine W_ext rfl ?_
    simp only [W_op, W_var, W_c, List.getElem?_cons_succ, List.getElem?_cons_zero, wo_some, rdO, ix2]
    refine ⟨_, _, tx (pre.flatMap (·.marks)), rfl, rfl, rfl, ?_, some (.fr g.d), ?_⟩
    · rw [e] at hn'
      simp only [List.flatMap_append, List.flatMap_cons, List.length_append] at hn'
      simp only [List.length_map]
      omega
    · simp [List.flatMap_append]
  · rintro d ⟨v2, rfl⟩
    dsimp only
    rw [W_seq, W_for, W_items, W_fld, W_var]
    simp only [List.getElem?_cons_succ, List.getElem?_cons_zero, wo_some, fzO, lisOf_d, Fi.pick, Lst.qD, seqOf]
    refine for_list (α := Str × Str) qD L.pairs (fun pre d => ∃ v3, d = [some (.fr L.d), some (.own (.list (tx (L.pages.flatMap (·.marks) ++ pre.flatMap fun q => [q.1, q.2])))), v2, v3]) ⟨none, by simp⟩ ?_ ?_
    · rintro pre q suf d e ⟨v3, rfl⟩
      simp only [gN, wo_some, List.set_cons_succ, List.set_cons_zero]
      refine W_ext rfl ?_
      simp only [W_var, List.getElem?_cons_succ, List.getElem?_cons_zero, wo_some]
      refine ⟨_, [.str q.1, .str q.2], tx (L.pages.flatMap (·.marks) ++ pre.flatMap fun q => [q.1, q.2]), rfl, rfl, rfl, ?_, some (.fr (DL.qD q)), ?_⟩
      · rw [e] at hn'
        simp only [List.flatMap_append, List.flatMap_cons, List.length_append, List.length_cons, List.length_nil] at hn'
        simp only [List.length_map, List.length_append, List.length_cons, List.length_nil]
        omega
      · simp [List.flatMap_append]
    · rintro d ⟨v3, rfl⟩
      dsimp only
      rw [W_ret, W_cb, W_cons, W_sortSet, W_var]
      unfold allM at eS
      simp only [List.getElem?_cons_succ, List.getElem?_cons_zero, wo_some, rdO, eS, W_nil, rdOs, Option.bind_some, gTuple, fzO]
end DL

set_option maxRecDepth 100000
set_option linter.all false
set_option maxHeartbeats 2000000
/-! M21: the table of labels of a listing. -/
namespace DL
open PySem PySem.W PyProof.Rows
theorem path_alike (p q : List Str) : alike (pathD p) (pathD q) = true := by
  have : alikeAll (tx p) (tx q) = true := alike_txs (all_tx p) (all_tx q)
  simpa [alike] using this
theorem lbF_lt {p q : List Str} (h : dataLt (pathD p) (pathD q) = true) : dataLt (lbF p) (lbF q) = true := by
  unfold lbF
  rw [dataLt_pair (by simp [alike]) (path_alike p q)]
  have e : PyData.eqv (.str "folder") (.str "folder") = true := by rw [str_eqv]; simp
  rw [if_pos e]
  have ne : PyData.eqv (pathD p) (pathD q) = false := by
    rw [key_eqv' (path_key p) (path_key q)]
    refine decide_eq_false fun z => ?_
    rw [z, lt_irr] at h
    cases h
  rw [if_neg (by rw [ne]; simp)]
  exact h
theorem lbM_lt {p q : Str} (h : dataLt (.str p) (.str q) = true) : dataLt (lbM p) (lbM q) = true := by
  unfold lbM
  rw [dataLt_pair (by simp [alike]) (by simp [alike])]
  have e : PyData.eqv (.str "mark") (.str "mark") = true := by rw [str_eqv]; simp
  rw [if_pos e]
  have ne : PyData.eqv (.str p) (.str q) = false := by
    rw [str_eqv]
    refine decide_eq_false fun z => ?_
    rw [z, lt_irr] at h
    cases h
  rw [if_neg (by rw [ne]; simp)]
  exact h
theorem lbFM_lt (p : List Str) (m : Str) : dataLt (lbF p) (lbM m) = true := by
  unfold lbF lbM
  rw [dataLt_hd (by decide +kernel)]
  decide +kernel
def ltF (L : Lst) : LT := (([] : List Str) :: L.folders).map fun p => (lbF p, atP L.pages p)
def ltM (L : Lst) (S : List Str) : LT := S.map fun m => (lbM m, mkP L.pages L.pairs m)
def ltOf (L : Lst) (S : List Str) : LT := ltF L ++ ltM L S
structure LstOk (L : Lst) : Prop where
  fo : Up ((([] : List Str) :: L.folders).map pathD)
  fl : ∀ p ∈ L.folders, p.length ≤ 50
  fn : L.folders.length ≤ 6
  pn : L.pages.length ≤ 16
  mk3 : ∀ g ∈ L.pages, g.marks.length ≤ 3
  qn : L.pairs.length ≤ 3
  un : ∃ U : List Str, U.length + L.folders.length ≤ 6 ∧ ∀ x ∈ allM L.pages L.pairs, x ∈ U
  inc : Inc L.forms
theorem flat_len {α β : Type} {f : α → List β} {n : Nat} : ∀ {l : List α}, (∀ a ∈ l, (f a).length ≤ n) → (l.flatMap f).length ≤ l.length * n
  | [], _ => by simp
  | a :: r, h => by
    have h1 := h a (by simp)
    have h2 := flat_len (l := r) fun b hb => h b (by simp [hb])
    rw [List.flatMap_cons, List.length_append, List.length_cons, Nat.add_mul]
    omega
theorem LstOk.all {L : Lst} (h : LstOk L) : (allM L.pages L.pairs).length ≤ 100 := by
  unfold allM
  rw [List.length_append]
  have h1 := flat_len (f := fun g : Page => g.marks) (n := 3) (l := L.pages) h.mk3
  have h2 := flat_len (f := fun q : Str × Str => [q.1, q.2]) (n := 2) (l := L.pairs) (fun _ _ => by simp)
  have h3 := h.pn
  have h4 := h.qn
  omega
theorem lt_ok {L : Lst} (h : LstOk L) {S : List Str} (u : Up (tx S)) (m : ∀ x, x ∈ S ↔ x ∈ allM L.pages L.pairs) : LOK (ltOf L S) ∧ (ltOf L S).length ≤ 7 := by
  have nd : S.Nodup := List.Pairwise.of_map PyData.str (fun a b n e => n (by rw [e])) u.nodup
  obtain ⟨U, hU, hm⟩ := h.un
  have hS : S.length ≤ U.length := perm_len nd fun z hz => hm z ((m z).mp hz)
  have hlen : (ltOf L S).length ≤ 7 := by
    unfold ltOf ltF ltM
    simp only [List.length_append, List.length_map, List.length_cons]
    omega
  refine ⟨⟨fun p hp => ?_, ?_, by omega⟩, hlen⟩
  · unfold ltOf ltF ltM at hp
    rcases List.mem_append.mp hp with hp | hp
    · obtain ⟨q, hq, rfl⟩ := List.mem_map.mp hp
      refine .inl ⟨q, ?_, rfl⟩
      rcases List.mem_cons.mp hq with rfl | hq
      · simp
      · exact Nat.le_trans (h.fl q hq) (by decide)
    · obtain ⟨q, hq, rfl⟩ := List.mem_map.mp hp
      exact .inr ⟨q, rfl⟩
  · unfold ltOf ltF ltM
    rw [List.map_append, List.map_map, List.map_map]
    have e1 : ((fun x : PyData × List Str => x.1) ∘ fun p => (lbF p, atP L.pages p)) = lbF := rfl
    have e2 : ((fun x : PyData × List Str => x.1) ∘ fun p => (lbM p, mkP L.pages L.pairs p)) = lbM := rfl
    rw [e1, e2]
    refine List.pairwise_append.mpr ⟨?_, ?_, ?_⟩
    · exact List.Pairwise.map lbF (fun a b h => lbF_lt h) (List.Pairwise.of_map pathD (fun a b h => h) h.fo)
    · exact List.Pairwise.map lbM (fun a b h => lbM_lt h) (List.Pairwise.of_map PyData.str (fun a b h => h) u)
    · intro a ha b hb
      obtain ⟨p, _, rfl⟩ := List.mem_map.mp ha
      obtain ⟨q, _, rfl⟩ := List.mem_map.mp hb
      exact lbFM_lt p q
theorem pairsD_tx : ∀ fs : List Str, pairsD (fs.map fun f => .tuple [.str f, .bool true]) = some (fs.map fun f => (PyData.str f, PyData.bool true))
  | [] => rfl
  | f :: r => by
    have ih := pairsD_tx r
    rw [List.map_cons]
    unfold pairsD
    rw [ih]; rfl
theorem dictP_tx (fs : List Str) : gDictP [.list (fs.map fun f => .tuple [.str f, .bool true])] = some (bd fs) := by
  show (pairsD _).bind _ = _
  rw [pairsD_tx]; rfl
theorem bd_sD (fs : List Str) : bd fs = .dict (sD (fs.foldl addS [])) := by
  have := sD_merge fs []
  unfold bd
  rw [← this]; rfl
theorem lab_isOT {d : SD} {i : Nat} {kvs : List (PyData × PyData)} (h : d[i]? = some (some (.own (tdic kvs)))) (hn : kvs.length ≤ 10000) : isOT d i = some kvs := by
  unfold isOT
  rw [h]
  show (if _ then _ else _) = _
  rw [if_pos (by have h16 : sizeLine = 16777216 := sizeLine_eq; omega)]
theorem putD_new {lt : LT} {l : PyData} {fs : List Str} (h : LOK (lt ++ [(l, fs)])) : putD (lt.map fun p => (p.1, bd p.2)) l (bd fs) = (lt ++ [(l, fs)]).map fun p => (p.1, bd p.2) := by
  have hl : IsLb l := h.lb (l, fs) (by simp)
  have up := h.up
  rw [List.map_append] at up
  have no : ((lt.map fun p => (p.1, bd p.2)).any fun kv => PyData.eqv kv.1 l) = false := by
    rw [List.any_map]
    refine List.any_eq_false.mpr fun p hp => ?_
    simp only [Function.comp]
    rw [key_eqv' (h.lb p (by simp [hp])).key hl.key]
    have := (List.pairwise_append.mp up).2.2 p.1 (List.mem_map.mpr ⟨p, hp, rfl⟩) l (by simp)
    have ne : ¬ p.1 = l := fun z => by rw [z, lt_irr] at this; cases this
    simp [ne]
  unfold putD
  rw [no]
  simp
theorem bd_val (fs : List Str) : valO (.val (bd fs)) = some (bd fs) := by
  rw [bd_sD]
  show (if textK _ = true then _ else _) = _
  rw [if_pos (sD_text _)]
theorem LOK.pre {a b : LT} (h : LOK (a ++ b)) : LOK a := by
  refine ⟨fun p hp => h.lb p (by simp [hp]), ?_, ?_⟩
  · have := h.up
    rw [List.map_append] at this
    exact (List.pairwise_append.mp this).1
  · have := h.n
    rw [List.length_append] at this
    omega
/-- the rest of the table from a part of it: one entry more -/
theorem lt_put {lt : LT} {rest : LT} {l : PyData} {fs : List Str} (h : LOK (lt ++ (l, fs) :: rest)) : LOK (lt ++ [(l, fs)]) := by
  have : lt ++ (l, fs) :: rest = (lt ++ [(l, fs)]) ++ rest := by simp
  rw [this] at h
  exact h.pre
theorem f_labels {L : Lst} (h : LstOk L) : ∃ S, Up (tx S) ∧ (∀ x, x ∈ S ↔ x ∈ allM L.pages L.pairs) ∧ F_labels_of [L.d] = some (labsD (ltOf L S)) := by
  obtain ⟨S, eS, u, mem⟩ := f_marks L (Nat.le_trans h.all (by decide))
  refine ⟨S, u, mem, ?_⟩
  obtain ⟨ok, h7⟩ := lt_ok h u mem
  have hn30 : L.pages.length ≤ 30 := Nat.le_trans h.pn (by decide)
  refine runF_of ?_
  change W (fb_labels_of F_at F_marked F_marks) [some (.fr L.d), none, none, none, none] _
  unfold fb_labels_of
  have h16 : sizeLine = 16777216 := sizeLine_eq
  refine W_step (d1 := [some (.fr L.d), some (.own (labsD [])), none, none, none]) (ev ?_) ?_
  · simp only [W_own, W_newT, List.set_cons_succ, List.set_cons_zero]
    exact ⟨trivial, rfl⟩
  have hcat : gCatT (.tuple [.tuple []]) (.tuple (L.folders.map pathD)) = some (.tuple ((([] : List Str) :: L.folders).map pathD)) := by
    show (if _ then _ else _) = _
    have := h.fn
    rw [if_pos (by simp only [List.length_map, List.length_cons, List.length_nil]; omega)]
    rfl
  rw [W_seq, W_for, W_items]
  simp only [W_op, W_tup, W_cons, W_nil, plOs, plO, Option.bind_some, W_fld, W_var, List.getElem?_cons_succ, List.getElem?_cons_zero, wo_some, fzO, lisOf_d, Fi.pick, Lst.fD, rdO, hcat, seqOf]
  refine for_list (α := List Str) pathD (([] : List Str) :: L.folders) (fun pre d => ∃ v2, d = [some (.fr L.d), some (.own (labsD (pre.map fun p => (lbF p, atP L.pages p)))), v2, none, none]) ⟨none, rfl⟩ ?_ ?_
  · rintro pre p suf d e ⟨v2, rfl⟩
    have ok' : LOK ((pre.map fun p => (lbF p, atP L.pages p)) ++ (lbF p, atP L.pages p) :: ((suf.map fun p => (lbF p, atP L.pages p)) ++ ltM L S)) := by
      have : ltOf L S = (pre.map fun p => (lbF p, atP L.pages p)) ++ (lbF p, atP L.pages p) :: ((suf.map fun p => (lbF p, atP L.pages p)) ++ ltM L S) := by
        unfold ltOf ltF
        rw [e]; simp
      rw [← this]; exact ok
    have okP := lt_put ok'
    have hl := okP.pre.n
    simp only [gN, wo_some, List.set_cons_succ, List.set_cons_zero]
    refine W_putT ?_
    have lc : fLc (fItems (fMeth F_at (fVar 0) (fCons (fVar 2) fNil))) (gN 3) fYes (fTup (fCons (fVar 3) (fCons (fC (.bool true)) fNil))) [3] [some (.fr L.d), some (.own (labsD (pre.map fun p => (lbF p, atP L.pages p)))), some (.fr (pathD p)), none, none] = some (.val (.list ((atP L.pages p).map fun f => .tuple [.str f, .bool true])), [some (.fr L.d), some (.own (labsD (pre.map fun p => (lbF p, atP L.pages p)))), some (.fr (pathD p)), none, none]) := by
      refine lc_all (as := atP L.pages p) PyData.str (fun f => .tuple [.str f, .bool true]) (ev ?_) rfl (fun f hf => ?_) (by have := atP_len L.pages p; omega)
      · simp only [W_items, W_meth, W_cons, W_nil, W_var, List.getElem?_cons_succ, List.getElem?_cons_zero, wo_some, fzO, lisOf_d, fzOs, Option.bind_some, f_at L hn30 p, seqOf]
        exact ⟨trivial, trivial⟩
      · exact ⟨[some (.fr L.d), some (.own (labsD (pre.map fun p => (lbF p, atP L.pages p)))), some (.fr (pathD p)), some (.fr (.str f)), none], rfl, rfl, .val (.tuple [.str f, .bool true]), rfl, rfl⟩
    rw [W_cb, W_cons]
    refine W_of lc ?_
    have io : isOT [some (SV.fr L.d), some (.own (labsD (pre.map fun p => (lbF p, atP L.pages p)))), some (.fr (pathD p)), none, none] 1 = some ((pre.map fun p => (lbF p, atP L.pages p)).map fun p => (p.1, bd p.2)) := lab_isOT rfl (by simp only [List.length_map] at hl ⊢; omega)
    simp only [W_nil, rdOs, rdO, Option.bind_some, wo_some, dictP_tx, bd_val, Option.some.injEq, exists_eq_left']
    refine ⟨⟨_, io⟩, ?_⟩
    simp only [W_tup, W_cons, W_nil, W_c, W_var, List.getElem?_cons_succ, List.getElem?_cons_zero, wo_some, plOs, plO, Option.bind_some, fzO]
    refine ⟨_, rfl, (okP.lb (lbF p, atP L.pages p) (by simp)).tup, _, io, some (.fr (pathD p)), ?_⟩
    have hp := putD_new okP
    show [_, some (SV.own (tdic (putD _ (lbF p) _))), _, _, _] = _
    rw [hp, show (pre ++ [p]).map (fun p => (lbF p, atP L.pages p)) = pre.map (fun p => (lbF p, atP L.pages p)) ++ [(lbF p, atP L.pages p)] by simp]
    rfl
  · rintro d ⟨v2, rfl⟩
    dsimp only
    rw [W_seq, W_for, W_items]
    have hF : ((([] : List Str) :: L.folders).map fun p => (lbF p, atP L.pages p)) = ltF L := rfl
    rw [hF]
    simp only [W_meth, W_cons, W_nil, W_var, List.getElem?_cons_succ, List.getElem?_cons_zero, wo_some, fzO, lisOf_d, fzOs, Option.bind_some, eS, seqOf]
    refine for_list (α := Str) PyData.str S (fun pre d => ∃ v4, d = [some (.fr L.d), some (.own (labsD (ltF L ++ pre.map fun m => (lbM m, mkP L.pages L.pairs m)))), v2, none, v4]) ⟨none, by simp⟩ ?_ ?_
    · rintro pre m suf d e ⟨v4, rfl⟩
      have ok' : LOK ((ltF L ++ pre.map fun m => (lbM m, mkP L.pages L.pairs m)) ++ (lbM m, mkP L.pages L.pairs m) :: (suf.map fun m => (lbM m, mkP L.pages L.pairs m))) := by
        have : ltOf L S = (ltF L ++ pre.map fun m => (lbM m, mkP L.pages L.pairs m)) ++ (lbM m, mkP L.pages L.pairs m) :: (suf.map fun m => (lbM m, mkP L.pages L.pairs m)) := by
          unfold ltOf ltM
          rw [e]; simp
        rw [← this]; exact ok
      have okP := lt_put ok'
      have hl := okP.pre.n
      simp only [gN, wo_some, List.set_cons_succ, List.set_cons_zero]
      generalize hA : (ltF L ++ pre.map fun m => (lbM m, mkP L.pages L.pairs m)) = A at okP hl
      refine W_putT ?_
      have lc : fLc (fItems (fMeth F_marked (fVar 0) (fCons (fVar 4) fNil))) (gN 3) fYes (fTup (fCons (fVar 3) (fCons (fC (.bool true)) fNil))) [3] [some (.fr L.d), some (.own (labsD A)), v2, none, some (.fr (.str m))] = some (.val (.list ((mkP L.pages L.pairs m).map fun f => .tuple [.str f, .bool true])), [some (.fr L.d), some (.own (labsD A)), v2, none, some (.fr (.str m))]) := by
        refine lc_all (as := mkP L.pages L.pairs m) PyData.str (fun f => .tuple [.str f, .bool true]) (ev ?_) rfl (fun f hf => ?_) (by have := mkP_len L.pages L.pairs m; omega)
        · simp only [W_items, W_meth, W_cons, W_nil, W_var, List.getElem?_cons_succ, List.getElem?_cons_zero, wo_some, fzO, lisOf_d, fzOs, Option.bind_some, f_marked L hn30 (Nat.le_trans h.qn (by decide)) (fun g hg => Nat.le_trans (h.mk3 g hg) (by decide)) m, seqOf]
          exact ⟨trivial, trivial⟩
        · exact ⟨[some (.fr L.d), some (.own (labsD A)), v2, some (.fr (.str f)), some (.fr (.str m))], rfl, rfl, .val (.tuple [.str f, .bool true]), rfl, rfl⟩
      rw [W_cb, W_cons]
      refine W_of lc ?_
      have io : isOT [some (SV.fr L.d), some (.own (labsD A)), v2, none, some (.fr (.str m))] 1 = some (A.map fun p => (p.1, bd p.2)) := lab_isOT rfl (by simp only [List.length_map] at hl ⊢; omega)
      simp only [W_nil, rdOs, rdO, Option.bind_some, wo_some, dictP_tx, bd_val, Option.some.injEq, exists_eq_left']
      refine ⟨⟨_, io⟩, ?_⟩
      simp only [W_tup, W_cons, W_nil, W_c, W_var, List.getElem?_cons_succ, List.getElem?_cons_zero, wo_some, plOs, plO, Option.bind_some, fzO]
      refine ⟨_, rfl, (okP.lb (lbM m, mkP L.pages L.pairs m) (by simp)).tup, _, io, some (.fr (.str m)), ?_⟩
      have hp := putD_new okP
      show [_, some (SV.own (tdic (putD _ (lbM m) _))), _, _, _] = _
      rw [hp]
      have : ltF L ++ (pre ++ [m]).map (fun m => (lbM m, mkP L.pages L.pairs m)) = A ++ [(lbM m, mkP L.pages L.pairs m)] := by rw [← hA]; simp
      rw [this]
      rfl
    · rintro d ⟨v4, rfl⟩
      exact W_retO rfl rfl
end DL

set_option maxRecDepth 100000
set_option linter.all false
set_option maxHeartbeats 2000000
/-! M22: the law's own table of labels. -/
namespace DL
open PySem PySem.W PyProof.Rows
@[simp] theorem W_parO' {i j : Nat} {f g : F PyData} {d : SD} {Q : Fl → SD → Prop} : W (fParO i j f g) d Q ↔ W f d fun x d1 => W g d1 fun y d2 => Q .nx ((d2.set i (some (.own x))).set j (some (.own y))) := W_parO
theorem fol_app {S A B : List Str} : (A ++ B).foldl addS S = B.foldl addS (A.foldl addS S) := List.foldl_append
theorem f_lawlabels {L : Lst} (h : LstOk L) {S : List Str} (u : Up (tx S)) (mem : ∀ x, x ∈ S ↔ x ∈ allM L.pages L.pairs) : F__law_labels [L.fD, L.pD, L.qD] = some (labsL (ltOf L S)) := by
  obtain ⟨ok, h7⟩ := lt_ok h u mem
  have hn30 : L.pages.length ≤ 30 := Nat.le_trans h.pn (by decide)
  have hall := h.all
  refine runF_of ?_
  change W (fb__law_labels F__law_marked) [some (.fr L.fD), some (.fr L.pD), some (.fr L.qD), none, none, none, none, none, none, none] _
  unfold fb__law_labels
  have h16 : sizeLine = 16777216 := sizeLine_eq
  refine W_step (d1 := [some (.fr L.fD), some (.fr L.pD), some (.fr L.qD), some (.own (labsL [])), some (.own (.dict (sD []))), none, none, none, none, none]) (ev ?_) ?_
  · rw [W_parO', W_olst]
    simp only [W_nil, plOs, wo_some, W_newS, List.set_cons_succ, List.set_cons_zero]
    exact ⟨trivial, rfl⟩
  have hcat : gCatT (.tuple [.tuple []]) L.fD = some (.tuple ((([] : List Str) :: L.folders).map pathD)) := by
    show (if _ then _ else _) = _
    have := h.fn
    rw [if_pos (by simp only [List.length_map, List.length_cons, List.length_nil]; omega)]
    rfl
  have labF : (ltF L).length ≤ 7 := by
    unfold ltOf at h7
    rw [List.length_append] at h7
    omega
  rw [W_seq, W_for, W_items]
  simp only [W_op, W_tup, W_cons, W_nil, plOs, plO, Option.bind_some, W_var, List.getElem?_cons_succ, List.getElem?_cons_zero, wo_some, rdO, hcat, fzO, seqOf]
  refine for_list (α := List Str) pathD (([] : List Str) :: L.folders) (fun pre d => ∃ v5, d = [some (.fr L.fD), some (.fr L.pD), some (.fr L.qD), some (.own (labsL (pre.map fun p => (lbF p, atP L.pages p)))), some (.own (.dict (sD []))), v5, none, none, none, none]) ⟨none, rfl⟩ ?_ ?_
  · rintro pre p suf d e ⟨v5, rfl⟩
    have hl : pre.length + 1 ≤ 7 := by
      have : (ltF L).length = (pre ++ p :: suf).length := by unfold ltF; rw [List.length_map, e]
      rw [this, List.length_append, List.length_cons] at labF
      omega
    simp only [gN, wo_some, List.set_cons_succ, List.set_cons_zero]
    refine W_app rfl ?_
    have lc : fLc (fItems (fVar 1)) (gN 6) (fB (fOp (gIn true) (fVar 5) (fOp gIx (fVar 6) (fC (.int 3))))) (fOp gIx (fVar 6) (fC (.int 0))) [6] [some (.fr L.fD), some (.fr L.pD), some (.fr L.qD), some (.own (labsL (pre.map fun p => (lbF p, atP L.pages p)))), some (.own (.dict (sD []))), some (.fr (pathD p)), none, none, none, none] = some (.val (.list (tx (atP L.pages p))), [some (.fr L.fD), some (.fr L.pD), some (.fr L.qD), some (.own (labsL (pre.map fun p => (lbF p, atP L.pages p)))), some (.own (.dict (sD []))), some (.fr (pathD p)), none, none, none, none]) := by
      rw [tx_atP]
      refine lc_as (as := L.pages) Page.d (fun g => decide (p ∈ g.paths)) (fun g => PyData.str g.form) rfl rfl (fun g hg => ?_) (by omega)
      refine ⟨[some (.fr L.fD), some (.fr L.pD), some (.fr L.qD), some (.own (labsL (pre.map fun p => (lbF p, atP L.pages p)))), some (.own (.dict (sD []))), some (.fr (pathD p)), some (.fr g.d), none, none, none], rfl, rfl, ev ?_, fun _ => ⟨_, rfl, rfl⟩⟩
      simp only [W_b, W_op, W_var, W_c, List.getElem?_cons_succ, List.getElem?_cons_zero, wo_some, rdO, ix3, in_paths, if_true, OV.val.injEq, PyData.bool.injEq, exists_eq_left']
      exact ⟨trivial, trivial⟩
    simp only [W_tup, W_cons, W_nil, W_c, W_var, List.getElem?_cons_succ, List.getElem?_cons_zero, wo_some, plOs, plO, Option.bind_some]
    refine W_of lc ?_
    simp only [wo_some, plOs, plO, Option.bind_some]
    refine ⟨_, _, rfl, rfl, ?_, some (.fr (pathD p)), ?_⟩
    · rw [List.length_map, List.length_map]; omega
    · have : labsL ((pre ++ [p]).map fun p => (lbF p, atP L.pages p)) = .list ((pre.map fun p => (lbF p, atP L.pages p)).map rowD ++ [rowD (lbF p, atP L.pages p)]) := by simp [labsL]
      rw [this]
      rfl
  · rintro d ⟨v5, rfl⟩
    dsimp only
    have hF : ((([] : List Str) :: L.folders).map fun p => (lbF p, atP L.pages p)) = ltF L := rfl
    rw [hF]
    rw [W_seq, W_for, W_items, W_var]
    simp only [List.getElem?_cons_succ, List.getElem?_cons_zero, wo_some, fzO, Lst.pD, seqOf]
    have hA : (L.pages.flatMap (·.marks)).length + (L.pairs.flatMap fun q => [q.1, q.2]).length ≤ 100 := by
      unfold allM at hall
      rw [List.length_append] at hall
      exact hall
    refine for_list (α := Page) Page.d L.pages (fun pre d => ∃ v6, d = [some (.fr L.fD), some (.fr (.tuple (L.pages.map Page.d))), some (.fr L.qD), some (.own (labsL (ltF L))), some (.own (.dict (sD ((pre.flatMap (·.marks)).foldl addS [])))), v5, v6, none, none, none]) ⟨none, rfl⟩ ?_ ?_
    · rintro pre g suf d e ⟨v6, rfl⟩
      have hpre : (pre.flatMap (·.marks)).length + g.marks.length ≤ 100 := by
        rw [e] at hA
        simp only [List.flatMap_append, List.flatMap_cons, List.length_append] at hA
        omega
      simp only [gN, wo_some, List.set_cons_succ, List.set_cons_zero]
      generalize hK : (pre.flatMap (·.marks)).foldl addS [] = K
      have hKl : K.length ≤ 100 := by
        rw [← hK]
        have := folS_len (T := pre.flatMap (·.marks)) (S := [])
        simp only [List.length_nil] at this
        omega
      refine W_upd ⟨⟨_, isOS_sD rfl (by omega)⟩, ?_⟩
      have lc : fLc (fItems (fOp gIx (fVar 6) (fC (.int 2)))) (gN 7) fYes (fTup (fCons (fVar 7) (fCons (fC (.bool true)) fNil))) [7] [some (.fr L.fD), some (.fr (.tuple (L.pages.map Page.d))), some (.fr L.qD), some (.own (labsL (ltF L))), some (.own (.dict (sD K))), v5, some (.fr g.d), none, none, none] = some (.val (.list (g.marks.map fun f => .tuple [.str f, .bool true])), [some (.fr L.fD), some (.fr (.tuple (L.pages.map Page.d))), some (.fr L.qD), some (.own (labsL (ltF L))), some (.own (.dict (sD K))), v5, some (.fr g.d), none, none, none]) := by
        refine lc_all (as := g.marks) PyData.str (fun f => .tuple [.str f, .bool true]) (ev ?_) rfl (fun f hf => ?_) (by omega)
        · simp only [W_items, W_op, W_var, W_c, List.getElem?_cons_succ, List.getElem?_cons_zero, wo_some, rdO, ix2, fzO, seqOf]
          exact ⟨trivial, trivial⟩
        · exact ⟨[some (.fr L.fD), some (.fr (.tuple (L.pages.map Page.d))), some (.fr L.qD), some (.own (labsL (ltF L))), some (.own (.dict (sD K))), v5, some (.fr g.d), some (.fr (.str f)), none, none], rfl, rfl, .val (.tuple [.str f, .bool true]), rfl, rfl⟩
      rw [W_cb, W_cons]
      refine W_of lc ?_
      simp only [W_nil, rdOs, rdO, Option.bind_some, wo_some, dictP_tx, bd_sD]
      refine ⟨_, _, rfl, sD_text _, isOS_sD rfl (by omega), ?_, ?_⟩
      · rw [sD_len, sD_len]
        have := folS_len (T := g.marks) (S := [])
        simp only [List.length_nil] at this
        omega
      · rw [sD_merge]
        refine ⟨some (.fr g.d), ?_⟩
        have : ((pre ++ [g]).flatMap (·.marks)).foldl addS [] = (g.marks.foldl addS []).foldl addS K := by
          rw [List.flatMap_append, List.foldl_append, hK]
          simp only [List.flatMap_cons, List.flatMap_nil, List.append_nil]
          -- adding a set is adding its list
          have key : ∀ (T A B : List Str), (T.foldl addS A).foldl addS B = T.foldl addS (A.foldl addS B) := by
            intro T
            induction T with
            | nil => intro A B; rfl
            | cons t T ih =>
              intro A B
              rw [List.foldl_cons, List.foldl_cons, ih]
              congr 1
              unfold addS
              by_cases c : t ∈ A
              · rw [if_pos c]
                have : t ∈ A.foldl addS B := folS_mem.mpr (.inr c)
                have e : (if t ∈ A.foldl addS B then A.foldl addS B else A.foldl addS B ++ [t]) = A.foldl addS B := if_pos this
                exact e.symm
              · rw [if_neg c, List.foldl_append]
                rfl
          rw [key]
          rfl
        rw [this]
        rfl
    · rintro d ⟨v6, rfl⟩
      dsimp only
      rw [W_seq, W_for, W_items, W_var]
      simp only [List.getElem?_cons_succ, List.getElem?_cons_zero, wo_some, fzO, Lst.qD, seqOf]
      refine for_list (α := Str × Str) qD L.pairs (fun pre d => ∃ v8 v9, d = [some (.fr L.fD), some (.fr (.tuple (L.pages.map Page.d))), some (.fr (.tuple (L.pairs.map DL.qD))), some (.own (labsL (ltF L))), some (.own (.dict (sD ((L.pages.flatMap (·.marks) ++ pre.flatMap fun q => [q.1, q.2]).foldl addS [])))), v5, v6, none, v8, v9]) ⟨none, none, by simp⟩ ?_ ?_
      · rintro pre q suf d e ⟨v8, v9, rfl⟩
        have hpre : (L.pages.flatMap (·.marks)).length + (pre.flatMap fun q => [q.1, q.2]).length + 2 ≤ 100 := by
          rw [e] at hA
          simp only [List.flatMap_append, List.flatMap_cons, List.length_append, List.length_cons, List.length_nil] at hA
          omega
        have hKK : (L.pages.flatMap (·.marks) ++ (pre ++ [q]).flatMap fun q => [q.1, q.2]).foldl addS [] = addS (addS ((L.pages.flatMap (·.marks) ++ pre.flatMap fun q => [q.1, q.2]).foldl addS []) q.1) q.2 := by
          rw [List.flatMap_append, ← List.append_assoc, List.foldl_append]
          rfl
        rw [hKK]
        have hKl := folS_len (T := L.pages.flatMap (·.marks) ++ pre.flatMap fun q => [q.1, q.2]) (S := [])
        simp only [List.length_nil, List.length_append] at hKl
        generalize (L.pages.flatMap (·.marks) ++ pre.flatMap fun q => [q.1, q.2]).foldl addS [] = K at hKl
        simp only [qD, gT, gsC, gsN, gN, Option.bind_some, wo_some, List.set_cons_succ, List.set_cons_zero]
        refine W_upd ⟨⟨_, isOS_sD rfl (by omega)⟩, ?_⟩
        rw [W_fz, W_disp2]
        refine W_pair ?_
        simp only [W_var, List.getElem?_cons_succ, List.getElem?_cons_zero, wo_some, fzO, Option.some.injEq, PyData.str.injEq, exists_eq_left', W_c, plO]
        refine W_pair ?_
        simp only [W_var, List.getElem?_cons_succ, List.getElem?_cons_zero, wo_some, fzO, Option.some.injEq, PyData.str.injEq, exists_eq_left', W_c, plO]
        have e2 : putD [(PyData.str q.1, PyData.bool true)] (.str q.2) (.bool true) = sD (addS [q.1] q.2) := sD_put [q.1] q.2
        refine ⟨_, _, rfl, by rw [e2]; exact sD_text _, isOS_sD rfl (by omega), ?_, some (.fr (.str q.1)), some (.fr (.str q.2)), ?_⟩
        · rw [e2, sD_len, sD_len]
          have := addS_len (S := [q.1]) (x := q.2)
          simp only [List.length_singleton] at this
          omega
        · rw [e2, sD_merge]
          have : (addS [q.1] q.2).foldl addS K = addS (addS K q.1) q.2 := by
            unfold addS
            by_cases c : q.2 ∈ [q.1]
            · rw [if_pos c]
              have c' : q.2 = q.1 := List.mem_singleton.mp c
              have m1 : q.2 ∈ addS K q.1 := addS_mem.mpr (.inr c')
              have e : addS (addS K q.1) q.2 = addS K q.1 := by
                show (if q.2 ∈ addS K q.1 then _ else _) = _
                exact if_pos m1
              exact e.symm
            · rw [if_neg c]
              rfl
          rw [this]
          rfl
      · rintro d ⟨v8, v9, rfl⟩
        dsimp only
        have hKl := folS_len (T := L.pages.flatMap (·.marks) ++ L.pairs.flatMap fun q => [q.1, q.2]) (S := [])
        simp only [List.length_nil, List.length_append] at hKl
        have hKn := folS_nodup (T := L.pages.flatMap (·.marks) ++ L.pairs.flatMap fun q => [q.1, q.2]) (S := []) List.nodup_nil
        have hKm : ∀ x, x ∈ (L.pages.flatMap (·.marks) ++ L.pairs.flatMap fun q => [q.1, q.2]).foldl addS [] ↔ x ∈ allM L.pages L.pairs := fun x => by
          rw [folS_mem]
          unfold allM
          simp
        generalize (L.pages.flatMap (·.marks) ++ L.pairs.flatMap fun q => [q.1, q.2]).foldl addS [] = K at hKl hKn hKm
        obtain ⟨S', eS, u', mem', _⟩ := gsort_sD hKn (by omega)
        have : S' = S := tx_unique u' u fun x => by rw [mem', hKm, mem]
        subst this
        rw [W_seq, W_for, W_items, W_cb, W_cons, W_var]
        simp only [List.getElem?_cons_succ, List.getElem?_cons_zero, wo_some, W_nil, rdOs, rdO, Option.bind_some, eS, fzO, seqOf]
        refine for_list (α := Str) PyData.str S' (fun pre d => ∃ v7, d = [some (.fr L.fD), some (.fr (.tuple (L.pages.map Page.d))), some (.fr (.tuple (L.pairs.map DL.qD))), some (.own (labsL (ltF L ++ pre.map fun m => (lbM m, mkP L.pages L.pairs m)))), some (.own (.dict (sD K))), v5, v6, v7, v8, v9]) ⟨none, by simp⟩ ?_ ?_
        · rintro pre m suf d e ⟨v7, rfl⟩
          have hl : (ltF L).length + pre.length + 1 ≤ 7 := by
            unfold ltOf ltM at h7
            rw [e] at h7
            simp only [List.length_append, List.length_map, List.length_cons] at h7
            omega
          simp only [gN, wo_some, List.set_cons_succ, List.set_cons_zero]
          refine W_app rfl ?_
          simp only [W_tup, W_cons, W_nil, W_c, W_call, W_var, List.getElem?_cons_succ, List.getElem?_cons_zero, wo_some, plOs, plO, fzOs, fzO, Option.bind_some, f_lawmarked L.pages L.pairs hn30 (Nat.le_trans h.qn (by decide)) (fun g hg => Nat.le_trans (h.mk3 g hg) (by decide)) m]
          refine ⟨_, _, rfl, rfl, ?_, some (.fr (.str m)), ?_⟩
          · rw [List.length_map, List.length_append, List.length_map]; omega
          · have : labsL (ltF L ++ (pre ++ [m]).map fun m => (lbM m, mkP L.pages L.pairs m)) = .list ((ltF L ++ pre.map fun m => (lbM m, mkP L.pages L.pairs m)).map rowD ++ [rowD (lbM m, mkP L.pages L.pairs m)]) := by simp [labsL]
            rw [this]
            rfl
        · rintro d ⟨v7, rfl⟩
          exact W_retO rfl rfl
end DL

set_option maxRecDepth 100000
set_option linter.all false
set_option maxHeartbeats 2000000
/-! M23: pots. -/
namespace DL
open PySem PySem.W PyProof.Rows L2
/-- a pot's second number -/
def Pot (r : Int) : Prop := 0 ≤ r ∧ r < 2305843009213693951
/-- what a def with a pot gives -/
def PS (f : List PyData → Int → Int → Option (PyData × Int × Int)) (xs : List PyData) (P : PyData → Prop) : Prop := ∀ g r, Pot r → ∃ z g' r', f xs g r = some (z, g', r') ∧ P z ∧ Pot r'
theorem PS.mono {f : List PyData → Int → Int → Option (PyData × Int × Int)} {xs : List PyData} {P P' : PyData → Prop} (h : PS f xs P) (i : ∀ z, P z → P' z) : PS f xs P' := fun g r p => by
  obtain ⟨z, g', r', e, q, p'⟩ := h g r p
  exact ⟨z, g', r', e, i z q, p'⟩
abbrev pot (g r : Int) : Option SV := some (.own (potL g r))
theorem ps_of {N : List Str} {b : F Fl} {xs : List PyData} {P : PyData → Prop} (h : ∀ g r, Pot r → W b (startP N xs g r) fun fl d => ∃ z g' r', fl = .rt z ∧ d[0]? = some (pot g' r') ∧ P z ∧ Pot r') : PS (runP N b) xs P := fun g r p => by
  obtain ⟨⟨fl, d⟩, e, z, g', r', rfl, h2, h3, h4⟩ := h g r p
  refine ⟨z, g', r', ?_, h3, h4⟩
  unfold runP
  rw [e]
  dsimp only [Option.bind_some] at h2 ⊢
  rw [h2]
  rfl
theorem W_callP {f : List PyData → Int → Int → Option (PyData × Int × Int)} {fa : F (List OV)} {d : SD} {j : Nat} {Q : OV → SD → Prop} (P : PyData → Prop) (h0 : ∃ g r, d[j]? = some (pot g r)) (h : W fa d fun os d1 => ∃ xs g r, fzOs os = some xs ∧ d1[j]? = some (pot g r) ∧ Pot r ∧ PS f xs P ∧ ∀ z g' r', P z → Pot r' → Q (.val z) (d1.set j (pot g' r'))) : W (fCallP f (fCons (fVar j) fa)) d Q := by
  obtain ⟨g0, r0, h0⟩ := h0
  obtain ⟨⟨os, d1⟩, e, xs, g, r, e1, e2, p, s, q⟩ := h
  obtain ⟨z, g', r', e3, pz, p'⟩ := s g r p
  refine W_of (d' := d1.set j (pot g' r')) (a := .val z) ?_ (q z g' r' pz p')
  unfold fCallP fCons
  have ev : fVar j d = some (.slot j, d) := by
    unfold fVar
    rw [h0]
  rw [ev]
  simp only [Option.bind_some]
  rw [e]
  dsimp only [Option.bind_some] at e1 e2 ⊢
  rw [e2]
  simp only [pot, potL, e1, Option.bind_some, e3]
theorem W_setI {fo fi fv : F OV} {d : SD} {Q : Fl → SD → Prop} (h : W fv d fun o d1 => ∃ y, plO o = some y ∧ W fo d1 fun o2 d2 => ∃ j, o2 = .slot j ∧ W fi d2 fun o3 d3 => ∃ n xs m, o3 = .val (.int n) ∧ d3[j]? = some (some (.own (.list xs))) ∧ ixN xs.length n = some m ∧ Q .nx (d3.set j (some (.own (.list (xs.set m y)))))) : W (fSetI fo fi fv) d Q := by
  obtain ⟨⟨o, d1⟩, e, y, e1, ⟨o2, d2⟩, e2, j, e3, ⟨o3, d3⟩, e4, n, xs, m, e5, e6, e7, q⟩ := h
  refine W_of (d' := d3.set j (some (.own (.list (xs.set m y))))) (a := .nx) ?_ q
  unfold fSetI
  rw [e]
  dsimp only [Option.bind_some] at e1 e2 e3 e4 e5 e6 ⊢
  rw [e1]
  simp only [Option.bind_some]
  rw [e2]
  simp only [Option.bind_some]
  subst e3
  rw [e4]
  simp only [Option.bind_some]
  subst e5
  simp only [e6, e7, Option.bind_some]
theorem cMul_l {i j : Int} (h : 0 ≤ i) (h' : i < 2305843009213693952) : cMul i j = true := by
  unfold cMul
  simp only [Bool.or_eq_true, Bool.and_eq_true, decide_eq_true_eq]
  left
  constructor <;> omega
theorem cDiv_of {i j : Int} (h : 0 < j) (h' : j < 1073741824) : cDiv i j = true := by
  unfold cDiv
  simp only [Bool.and_eq_true, decide_eq_true_eq]
  exact ⟨h, h'⟩
theorem mul_ok {i j : Int} (h : 0 ≤ i) (h' : i < 2305843009213693952) : gMul (.int i) (.int j) = some (.int (i * j)) := by
  show (if _ then _ else _) = _
  rw [if_pos (cMul_l h h')]
theorem mod_ok {i j : Int} (h : 0 < j) : gMod (.int i) (.int j) = some (.int (i % j)) := by
  show (if _ then _ else _) = _
  rw [if_pos (decide_eq_true h)]
theorem div_ok {i j : Int} (h : 0 < j) (h' : j < 1073741824) : gDiv (.int i) (.int j) = some (.int (i / j)) := by
  show (if _ then _ else _) = _
  rw [if_pos (cDiv_of h h')]
theorem add_ok {i j : Int} : gAdd (.int i) (.int j) = some (.int (i + j)) := rfl
theorem pot0 (g r : Int) : gIx (potL g r) (.int 0) = some (.int g) := rfl
theorem pot1 (g r : Int) : gIx (potL g r) (.int 1) = some (.int r) := rfl
theorem f_take {m : Int} (h1 : 1 ≤ m) (h2 : m < 1073741824) : PS F__law_take [.int m] fun z => ∃ t, z = .int t ∧ 0 ≤ t ∧ t < m := by
  refine ps_of fun g r p => ?_
  change W fb__law_take [pot g r, some (.fr (.int m)), none] _
  unfold fb__law_take
  obtain ⟨p1, p2⟩ := p
  rw [W_seq, W_if]
  simp only [W_b, W_op, W_var, W_c, List.getElem?_cons_succ, List.getElem?_cons_zero, wo_some, rdO, pot0, gGt, gIB, OV.val.injEq, PyData.bool.injEq, exists_eq_left', decide_eq_true_eq]
  by_cases hg : 0 < g
  · rw [if_pos hg, W_seq]
    simp only [W_set, W_op, W_var, W_c, List.getElem?_cons_succ, List.getElem?_cons_zero, wo_some, rdO, pot0, mod_ok (show 0 < m by omega), fzO, List.set_cons_succ, List.set_cons_zero]
    rw [W_seq]
    refine W_setI ?_
    simp only [W_op, W_var, W_c, List.getElem?_cons_succ, List.getElem?_cons_zero, wo_some, rdO, pot0, div_ok (show 0 < m by omega) h2, plO, Option.some.injEq, exists_eq_left', OV.slot.injEq, OV.val.injEq, PyData.int.injEq]
    refine ⟨0, [.int g, .int r], 0, rfl, rfl, rfl, ?_⟩
    simp only [List.set_cons_succ, List.set_cons_zero, W_ret, W_var, List.getElem?_cons_succ, List.getElem?_cons_zero, wo_some, fzO]
    refine ⟨_, g / m, r, rfl, rfl, ⟨_, rfl, Int.emod_nonneg _ (by omega), Int.emod_lt_of_pos _ (by omega)⟩, p1, p2⟩
  · rw [if_neg hg]
    simp only [W_next]
    rw [W_seq]
    refine W_setI ?_
    have a1 : gMul (.int r) (.int 1181783497276652981) = some (.int (r * 1181783497276652981)) := mul_ok p1 (by omega)
    have a2 : gMod (.int (r * 1181783497276652981 + 12345678910987)) (.int 2305843009213693951) = some (.int ((r * 1181783497276652981 + 12345678910987) % 2305843009213693951)) := mod_ok (by omega)
    have b1 : 0 ≤ (r * 1181783497276652981 + 12345678910987) % 2305843009213693951 := Int.emod_nonneg _ (by omega)
    have b2 : (r * 1181783497276652981 + 12345678910987) % 2305843009213693951 < 2305843009213693951 := Int.emod_lt_of_pos _ (by omega)
    simp only [W_op, W_var, W_c, List.getElem?_cons_succ, List.getElem?_cons_zero, wo_some, rdO, pot1, a1, add_ok, a2, plO, Option.some.injEq, exists_eq_left', OV.slot.injEq, OV.val.injEq, PyData.int.injEq]
    generalize (r * 1181783497276652981 + 12345678910987) % 2305843009213693951 = s at b1 b2
    refine ⟨1, [.int g, .int r], 1, rfl, rfl, rfl, ?_⟩
    have pp : (PyData.list ([PyData.int g, .int r].set 1 (.int s))) = potL g s := rfl
    rw [pp]
    have c1 : gDiv (.int s) (.int 65537) = some (.int (s / 65537)) := div_ok (by omega) (by omega)
    have c2 : gMod (.int s) (.int 65537) = some (.int (s % 65537)) := mod_ok (by omega)
    have c3 : gMul (.int (s / 65537)) (.int (s % 65537 + 3)) = some (.int (s / 65537 * (s % 65537 + 3))) := mul_ok (by omega) (by omega)
    have c4 : gMod (.int (s / 65537 * (s % 65537 + 3))) (.int 2305843009213693921) = some (.int (s / 65537 * (s % 65537 + 3) % 2305843009213693921)) := mod_ok (by omega)
    generalize s / 65537 * (s % 65537 + 3) = u at c3 c4
    have c5 : gDiv (.int (u % 2305843009213693921)) (.int 97) = some (.int (u % 2305843009213693921 / 97)) := div_ok (by omega) (by omega)
    generalize u % 2305843009213693921 = v at c4 c5
    have c6 : gMod (.int (v / 97)) (.int m) = some (.int (v / 97 % m)) := mod_ok (by omega)
    simp only [List.set_cons_succ, List.set_cons_zero, W_ret, W_op, W_var, W_c, List.getElem?_cons_succ, List.getElem?_cons_zero, wo_some, rdO, pot1, c1, c2, add_ok, c3, c4, c5, c6, fzO]
    exact ⟨_, g, s, rfl, rfl, ⟨_, rfl, Int.emod_nonneg _ (by omega), Int.emod_lt_of_pos _ (by omega)⟩, b1, b2⟩
/-- a draw: fm tells how many, and leaves the pot as it is -/
theorem W_take {fm : F OV} {d : SD} {j : Nat} {Q : OV → SD → Prop} {g r : Int} {m : Int} (h0 : d[j]? = some (pot g r)) (p : Pot r) (e : fm d = some (.val (.int m), d)) (h1 : 1 ≤ m) (h2 : m < 1073741824) (q : ∀ (t : Nat) g' r', (t : Int) < m → Pot r' → Q (.val (.int (t : Nat))) (d.set j (pot g' r'))) : W (fCallP F__law_take (fCons (fVar j) (fCons fm fNil))) d Q := by
  refine W_callP (fun z => ∃ t, z = .int t ∧ 0 ≤ t ∧ t < m) ⟨_, _, h0⟩ ?_
  rw [W_cons]
  refine W_of e ?_
  simp only [W_nil]
  refine ⟨[.int m], g, r, rfl, h0, p, f_take h1 h2, ?_⟩
  rintro z g' r' ⟨t, rfl, t1, t2⟩ p'
  obtain ⟨t, rfl⟩ : ∃ t' : Nat, t = (t' : Nat) := ⟨t.toNat, by omega⟩
  exact q t g' r' t2 p'
end DL

set_option maxRecDepth 100000
set_option linter.all false
set_option maxHeartbeats 2000000
/-! M24: words. -/
namespace DL
open PySem PySem.W PyProof.Rows L2
abbrev sgs : Str := "abcdefghijklmnopqrstuvwxyz0123456789-"
def Sgn (w : Str) : Prop := ∀ c ∈ w.cps.toList, c ∈ sgs.cps.toList
structure Word (w : Str) : Prop where
  sg : Sgn w
  pos : 1 ≤ w.length
  len : w.length ≤ 12
def sgAt (i : Int) : Str := ⟨#[(sgs.cps.toList[i.toNat]?).getD 97]⟩
theorem sgs_len : sgs.length = 37 := by decide +kernel
theorem sgAt_sg (i : Int) : Sgn (sgAt i) := by
  intro c hc
  have : c = (sgs.cps.toList[i.toNat]?).getD 97 := by simpa [sgAt] using hc
  subst this
  cases e : sgs.cps.toList[i.toNat]? with
  | none => simp only [Option.getD_none]; decide +kernel
  | some x => exact List.mem_of_getElem? e
theorem sgAt_len (i : Int) : (sgAt i).length = 1 := rfl
theorem sg_ix {i : Int} (h : 0 ≤ i) (h' : i < 37) : gIx (.str sgs) (.int i) = some (.str (sgAt i)) := by
  show (if sgs.length ≤ sizeLine then (atI sgs.cps.toList i).bind fun c => some (PyData.str ⟨#[c]⟩) else none) = _
  rw [if_pos (by rw [sgs_len]; have h16 : sizeLine = 16777216 := sizeLine_eq; omega)]
  have hl : sgs.cps.toList.length = 37 := sgs_len
  have e : ixN sgs.cps.toList.length i = some i.toNat := by
    rw [hl]
    unfold ixN
    rw [if_pos h, if_pos (by omega)]
  unfold atI
  rw [e]
  simp only [Option.bind_some]
  have hi : i.toNat < sgs.cps.toList.length := by rw [hl]; omega
  unfold sgAt
  rw [List.getElem?_eq_getElem hi]
  rfl
theorem sgn_nil : Sgn "" := fun c hc => by
  have : ("" : Str).cps.toList = [] := by rfl
  rw [this] at hc
  cases hc
theorem len_app (x y : Str) : (x ++ y).length = x.length + y.length := by
  show (x.cps ++ y.cps).size = _
  rw [Array.size_append]; rfl
theorem sg_app {x y : Str} (h : Sgn x) (h' : Sgn y) : Sgn (x ++ y) := by
  intro c hc
  have : c ∈ (x.cps ++ y.cps).toList := hc
  rw [Array.toList_append, List.mem_append] at this
  exact this.elim (h c) (h' c)
theorem cat_ok {x y : Str} (h : x.length + y.length ≤ 10000) : gCatS (.str x) (.str y) = some (.str (x ++ y)) := by
  show (if _ then _ else _) = _
  rw [if_pos (by have h16 : sizeLine = 16777216 := sizeLine_eq; omega)]
theorem cut_lo {z : Str} {k : Nat} (h : k ≤ z.length) (hz : z.length ≤ 10000) : gSl (.str z) none (some (k : Int)) = some (.str ⟨(z.cps.toList.take k).toArray⟩) := by
  show (if z.length ≤ sizeLine then some (PyData.str (cutS z none (some (k : Int)))) else none) = _
  rw [if_pos (by have h16 : sizeLine = 16777216 := sizeLine_eq; omega)]
  unfold cutS
  rw [HT.sIx_none, HT.sIx_nat, Nat.min_eq_left h]
  simp
theorem cut_hi {z : Str} {k : Nat} (h : k ≤ z.length) (hz : z.length ≤ 10000) : gSl (.str z) (some (k : Int)) none = some (.str ⟨(z.cps.toList.drop k).toArray⟩) := by
  show (if z.length ≤ sizeLine then some (PyData.str (cutS z (some (k : Int)) none)) else none) = _
  rw [if_pos (by have h16 : sizeLine = 16777216 := sizeLine_eq; omega)]
  unfold cutS
  rw [HT.sIx_none, HT.sIx_nat, Nat.min_eq_left h, List.take_of_length_le (by rw [List.length_drop]; exact Nat.le_refl _)]
theorem mul_okr {i j : Int} (h : 0 ≤ j) (h' : j < 2305843009213693952) : gMul (.int i) (.int j) = some (.int (i * j)) := by
  show (if _ then _ else _) = _
  rw [if_pos ?_]
  unfold cMul
  simp only [Bool.or_eq_true, Bool.and_eq_true, decide_eq_true_eq]
  right
  constructor <;> omega
theorem len_ok {z : Str} (h : z.length ≤ 10000) : gLen [.str z] = some (.int (z.length : Nat)) := by
  show (if _ then _ else _) = _
  rw [if_pos (by have h16 : sizeLine = 16777216 := sizeLine_eq; omega)]
theorem f_words (many : Nat) (hm : many ≤ 100) : PS F__law_words [.int (many : Nat)] fun z => ∃ ws : List Str, z = .list (tx ws) ∧ ws.length = many ∧ ∀ w ∈ ws, Word w := by
  refine ps_of fun g r p => ?_
  change W (fb__law_words F__law_take) [pot g r, some (.fr (.int (many : Nat))), none, none, none, none, none, none] _
  unfold fb__law_words
  refine W_step (d1 := [pot g r, some (.fr (.int (many : Nat))), some (.fr (.str sgs)), some (.fr (.str "")), none, none, none, none]) (ev ?_) ?_
  · simp only [W_asg, W_tup, W_cons, W_nil, W_c, plOs, plO, Option.bind_some, wo_some, fzO, gT, gsC, gsN, gN, List.set_cons_succ, List.set_cons_zero]
    exact ⟨trivial, trivial⟩
  rw [W_seq, W_for, W_range]
  refine W_take (m := 12) (j := 0) rfl p rfl (by omega) (by omega) fun t g1 r1 ht p1 => ?_
  simp only [List.set_cons_zero, OV.val.injEq, PyData.int.injEq, exists_eq_left', Int.toNat_natCast]
  refine ⟨⟨by omega, by omega⟩, ?_⟩
  refine for_list (α := Nat) (fun i => PyData.int (i : Nat)) (List.range t) (fun pre d => ∃ g r stem v4, Pot r ∧ Sgn stem ∧ stem.length ≤ pre.length ∧ d = [pot g r, some (.fr (.int (many : Nat))), some (.fr (.str sgs)), some (.fr (.str stem)), v4, none, none, none] ∧ okW [4] d = true) ⟨g1, r1, "", none, p1, sgn_nil, Nat.zero_le _, rfl, rfl⟩ ?_ ?_
  · rintro pre i suf d e ⟨g2, r2, stem, v4, p2, s1, s2, rfl, s3⟩
    have hpre : pre.length < 12 := by
      have := congrArg List.length e
      rw [List.length_range, List.length_append, List.length_cons] at this
      omega
    simp only [gN, wo_some, List.set_cons_succ, List.set_cons_zero]
    rw [W_set, W_op]
    simp only [W_var, List.getElem?_cons_succ, List.getElem?_cons_zero, wo_some]
    rw [W_op, W_var]
    simp only [List.getElem?_cons_succ, List.getElem?_cons_zero, wo_some]
    refine W_take (m := 37) (j := 0) rfl p2 rfl (by omega) (by omega) fun u g3 r3 hu p3 => ?_
    simp only [List.set_cons_zero, rdO, wo_some, sg_ix (show (0 : Int) ≤ (u : Nat) by omega) hu]
    have hc : gCatS (.str stem) (.str (sgAt (u : Nat))) = some (.str (stem ++ sgAt (u : Nat))) := cat_ok (by rw [sgAt_len]; omega)
    simp only [hc, wo_some, fzO, List.set_cons_succ, List.set_cons_zero]
    refine ⟨g3, r3, stem ++ sgAt (u : Nat), _, p3, sg_app s1 (sgAt_sg _), ?_, rfl, rfl⟩
    rw [len_app, sgAt_len, List.length_append, List.length_singleton]
    omega
  · rintro d ⟨g2, r2, stem, v4, p2, s1, s2, rfl, s3⟩
    rw [List.length_range] at s2
    have hst : stem.length ≤ 11 := by omega
    dsimp only
    rw [W_seq, W_asg, W_tup]
    have hlen : fOp gAdd (fCB gLen (fCons (fVar 3) fNil)) (fC (.int 1)) [pot g2 r2, some (.fr (.int (many : Nat))), some (.fr (.str sgs)), some (.fr (.str stem)), v4, none, none, none] = some (.val (.int ((stem.length : Nat) + 1 : Int)), [pot g2 r2, some (.fr (.int (many : Nat))), some (.fr (.str sgs)), some (.fr (.str stem)), v4, none, none, none]) := by
      refine ev ?_
      simp only [W_op, W_cb, W_cons, W_nil, W_var, W_c, List.getElem?_cons_succ, List.getElem?_cons_zero, wo_some, rdOs, rdO, Option.bind_some, len_ok (show stem.length ≤ 10000 by omega), add_ok]
      exact ⟨trivial, trivial⟩
    rw [W_cons]
    refine W_take (m := (stem.length : Nat) + 1) (j := 0) rfl p2 hlen (by omega) (by omega) fun at_ g3 r3 hat p3 => ?_
    simp only [List.set_cons_zero]
    rw [W_cons]
    refine W_take (m := 37) (j := 0) rfl p3 rfl (by omega) (by omega) fun fi g4 r4 hfi p4 => ?_
    simp only [List.set_cons_zero]
    rw [W_cons, W_op]
    simp only [W_c]
    refine W_take (m := 36) (j := 0) rfl p4 rfl (by omega) (by omega) fun st g5 r5 hst2 p5 => ?_
    simp only [List.set_cons_zero, rdO, wo_some, add_ok, W_nil, plOs, plO, Option.bind_some, fzO, gT, gsC, gsN, gN, List.set_cons_succ]
    have hk : at_ ≤ stem.length := by omega
    generalize hD : [pot g5 r5, some (SV.fr (.int (many : Nat))), some (SV.fr (.str sgs)), some (SV.fr (.str stem)), v4, some (SV.fr (.int (at_ : Nat))), some (SV.fr (.int (fi : Nat))), some (SV.fr (.int (1 + (st : Nat))))] = D
    let wd : Nat → Str := fun i => (⟨(stem.cps.toList.take at_).toArray⟩ ++ sgAt (((fi : Nat) + (1 + (st : Nat) : Int) * (i : Nat)) % 37)) ++ ⟨(stem.cps.toList.drop at_).toArray⟩
    have l1 : (⟨(stem.cps.toList.take at_).toArray⟩ : Str).length = at_ := by
      show (stem.cps.toList.take at_).toArray.size = at_
      rw [List.size_toArray, List.length_take, Array.length_toList]
      exact Nat.min_eq_left hk
    have l2 : (⟨(stem.cps.toList.drop at_).toArray⟩ : Str).length = stem.length - at_ := by
      show (stem.cps.toList.drop at_).toArray.size = _
      rw [List.size_toArray, List.length_drop, Array.length_toList]
      rfl
    have okv : okW [4] D = true := by
      rw [← hD]
      exact s3
    have lc : fLc (fRange (fCons (fVar 1) fNil)) (gN 4) fYes (fOp gCatS (fOp gCatS (fSl (fVar 3) fPn (fPs (fVar 5))) (fOp gIx (fVar 2) (fOp gMod (fOp gAdd (fVar 6) (fOp gMul (fVar 7) (fVar 4))) (fC (.int 37))))) (fSl (fVar 3) (fPs (fVar 5)) fPn)) [4] D = some (.val (.list ((List.range many).map fun i => .str (wd i))), D) := by
      refine lc_all (as := List.range many) (fun i => PyData.int (i : Nat)) (fun i => .str (wd i)) (ev ?_) okv (fun i hi => ?_) (by rw [List.length_range]; have h16 : sizeLine = 16777216 := sizeLine_eq; omega)
      · subst hD
        simp only [W_range, W_var, List.getElem?_cons_succ, List.getElem?_cons_zero, wo_some, OV.val.injEq, PyData.int.injEq, exists_eq_left', Int.toNat_natCast]
        exact ⟨⟨by omega, by omega⟩, trivial, trivial⟩
      · subst hD
        have hi' : i < many := List.mem_range.mp hi
        have e0 : gMul (.int (1 + (st : Nat))) (.int (i : Nat)) = some (.int ((1 + (st : Nat)) * (i : Nat))) := mul_okr (by omega) (by omega)
        have e1 : gMod (.int ((fi : Nat) + (1 + (st : Nat)) * (i : Nat))) (.int 37) = some (.int (((fi : Nat) + (1 + (st : Nat) : Int) * (i : Nat)) % 37)) := mod_ok (by omega)
        have e2 := sg_ix (i := ((fi : Nat) + (1 + (st : Nat) : Int) * (i : Nat)) % 37) (Int.emod_nonneg _ (by omega)) (Int.emod_lt_of_pos _ (by omega))
        have e3 := cut_lo hk (show stem.length ≤ 10000 by omega)
        have e4 := cut_hi hk (show stem.length ≤ 10000 by omega)
        refine ⟨[pot g5 r5, some (SV.fr (.int (many : Nat))), some (SV.fr (.str sgs)), some (SV.fr (.str stem)), some (SV.fr (.int (i : Nat))), some (SV.fr (.int (at_ : Nat))), some (SV.fr (.int (fi : Nat))), some (SV.fr (.int (1 + (st : Nat))))], rfl, rfl, .val (.str (wd i)), ev ?_, rfl⟩
        have e5 : gCatS (.str ⟨(stem.cps.toList.take at_).toArray⟩) (.str (sgAt (((fi : Nat) + (1 + (st : Nat) : Int) * (i : Nat)) % 37))) = some (.str (⟨(stem.cps.toList.take at_).toArray⟩ ++ sgAt (((fi : Nat) + (1 + (st : Nat) : Int) * (i : Nat)) % 37))) := cat_ok (by rw [l1, sgAt_len]; omega)
        have e6 : gCatS (.str (⟨(stem.cps.toList.take at_).toArray⟩ ++ sgAt (((fi : Nat) + (1 + (st : Nat) : Int) * (i : Nat)) % 37))) (.str ⟨(stem.cps.toList.drop at_).toArray⟩) = some (.str (wd i)) := cat_ok (by rw [len_app, l1, l2, sgAt_len]; omega)
        simp only [W_op, W_sl, W_pn, W_ps, W_var, W_c, List.getElem?_cons_succ, List.getElem?_cons_zero, wo_some, OV.val.injEq, PyData.int.injEq, exists_eq_left', rdO, e0, add_ok, e1, e2, e3, e4, e5, e6]
        exact ⟨trivial, trivial⟩
    rw [W_ret]
    refine W_of lc ?_
    subst hD
    simp only [fzO, wo_some]
    refine ⟨_, g5, r5, rfl, rfl, ⟨(List.range many).map wd, by simp [Function.comp_def], by simp, fun w hw => ?_⟩, p5⟩
    obtain ⟨i, _, rfl⟩ := List.mem_map.mp hw
    refine ⟨sg_app (sg_app (fun c hc => ?_) (sgAt_sg _)) (fun c hc => ?_), ?_, ?_⟩
    · exact s1 c (List.mem_of_mem_take (by simpa using hc))
    · exact s1 c (List.mem_of_mem_drop (by simpa using hc))
    · show 1 ≤ ((_ ++ _) ++ _ : Str).length
      rw [len_app, len_app, l1, l2, sgAt_len]
      omega
    · show ((_ ++ _) ++ _ : Str).length ≤ 12
      rw [len_app, len_app, l1, l2, sgAt_len]
      omega
end DL

set_option maxRecDepth 100000
set_option linter.all false
set_option maxHeartbeats 2000000
/-! M25: some of a row, pairs, folders. -/
namespace DL
open PySem PySem.W PyProof.Rows L2
theorem ex_map {α : Type} {f : α → PyData} {P : α → Prop} : ∀ {xs : List PyData}, (∀ x ∈ xs, ∃ a, P a ∧ x = f a) → ∃ S : List α, xs = S.map f ∧ ∀ a ∈ S, P a
  | [], _ => ⟨[], rfl, by simp⟩
  | x :: xs, h => by
    obtain ⟨a, pa, rfl⟩ := h x (by simp)
    obtain ⟨S, rfl, hS⟩ := ex_map (xs := xs) fun y hy => h y (by simp [hy])
    refine ⟨a :: S, rfl, fun b hb => ?_⟩
    rcases List.mem_cons.mp hb with rfl | hb
    · exact pa
    · exact hS b hb
theorem ix_seq {xs : List PyData} {t : Nat} (h : t < xs.length) : atI xs (t : Nat) = xs[t]? := by
  unfold atI ixN
  rw [if_pos (by omega), if_pos (by omega)]
  rfl
theorem ix_lst {xs : List PyData} {t : Nat} (h : t < xs.length) : gIx (.list xs) (.int (t : Nat)) = xs[t]? := ix_seq h
theorem putD_len1 (kvs : List (PyData × PyData)) (k v : PyData) : (putD kvs k v).length ≤ kvs.length + 1 := by
  unfold putD
  split <;> simp
theorem putD_keys1 {kvs : List (PyData × PyData)} {k v : PyData} {P : PyData → Prop} (h : ∀ kv ∈ kvs, P kv.1) (hk : P k) : ∀ kv ∈ putD kvs k v, P kv.1 := by
  unfold putD
  split
  · intro kv hm
    obtain ⟨kv', hm', rfl⟩ := List.mem_map.mp hm
    split <;> exact h kv' hm'
  · intro kv hm
    rcases List.mem_append.mp hm with hm | hm
    · exact h kv hm
    · rw [List.mem_singleton.mp hm]; exact hk
theorem eq_nil_tx (ms : List PyData) : gEq false (.list ms) (.list []) = some (.bool (!ms.isEmpty)) := eq_nil false ms
theorem f_some' (ms : List Str) (hn : ms.length ≤ 1000) (most : Nat) (hmost : most ≤ 20) : PS F__law_some [.list (tx ms), .int (most : Nat)] fun z => ∃ S : List Str, z = .tuple (tx S) ∧ Up (tx S) ∧ (∀ x ∈ S, x ∈ ms) ∧ S.length ≤ most := by
  refine ps_of fun g r p => ?_
  change W (fb__law_some F__law_take) [pot g r, some (.fr (.list (tx ms))), some (.fr (.int (most : Nat))), none, none] _
  unfold fb__law_some
  refine W_step (d1 := [pot g r, some (.fr (.list (tx ms))), some (.fr (.int (most : Nat))), some (.own (.dict (sD []))), none]) (ev ?_) ?_
  · simp only [W_own, W_newS, List.set_cons_succ, List.set_cons_zero]
    exact ⟨trivial, rfl⟩
  rw [W_seq, W_for, W_range]
  refine W_take (m := (most : Nat) + 1) (j := 0) rfl p (ev ?_) (by omega) (by omega) fun t g1 r1 ht p1 => ?_
  · simp only [W_op, W_var, W_c, List.getElem?_cons_succ, List.getElem?_cons_zero, wo_some, rdO, add_ok]
    exact ⟨trivial, trivial⟩
  simp only [List.set_cons_zero, OV.val.injEq, PyData.int.injEq, exists_eq_left', Int.toNat_natCast]
  refine ⟨⟨by omega, by omega⟩, ?_⟩
  refine for_list (α := Nat) (fun i => PyData.int (i : Nat)) (List.range t) (fun pre d => ∃ g r K v4, Pot r ∧ K.Nodup ∧ (∀ x ∈ K, x ∈ ms) ∧ K.length ≤ pre.length ∧ d = [pot g r, some (.fr (.list (tx ms))), some (.fr (.int (most : Nat))), some (.own (.dict (sD K))), v4]) ⟨g1, r1, [], none, p1, List.nodup_nil, by simp, by simp, rfl⟩ ?_ ?_
  · rintro pre i suf d e ⟨g2, r2, K, v4, p2, k1, k2, k3, rfl⟩
    have hpre : pre.length < t := by
      have := congrArg List.length e
      rw [List.length_range, List.length_append, List.length_cons] at this
      omega
    simp only [gN, wo_some, List.set_cons_succ, List.set_cons_zero, W_if, W_b, W_op, W_var, List.getElem?_cons_succ, List.getElem?_cons_zero, W_lst, W_nil, plOs, rdO, eq_nil, OV.val.injEq, PyData.bool.injEq, exists_eq_left', Bool.false_eq_true, if_false]
    by_cases hms : ms = []
    · subst hms
      simp only [List.map_nil, List.isEmpty_nil, Bool.not_true, Bool.false_eq_true, if_false, W_next]
      exact ⟨g2, r2, K, _, p2, k1, k2, by rw [List.length_append]; omega, rfl⟩
    · have hb : (tx ms).isEmpty = false := by
        cases ms with
        | nil => exact absurd rfl hms
        | cons _ _ => rfl
      have hpos : 0 < ms.length := List.length_pos_iff.mpr hms
      simp only [hb, Bool.not_false, if_true]
      refine W_putS ?_
      have io : ∀ g r, isOS [pot g r, some (.fr (.list (tx ms))), some (.fr (.int (most : Nat))), some (.own (.dict (sD K))), some (.fr (.int (i : Nat)))] 3 = some (sD K) := fun g r => isOS_sD rfl (by omega)
      simp only [W_c, plO, Option.some.injEq, exists_eq_left']
      refine ⟨⟨_, io g2 r2⟩, ?_⟩
      rw [W_op, W_var]
      simp only [List.getElem?_cons_succ, List.getElem?_cons_zero, wo_some]
      refine W_take (m := (ms.length : Nat)) (j := 0) rfl p2 (ev ?_) (by omega) (by omega) fun u g3 r3 hu p3 => ?_
      · simp only [W_cb, W_cons, W_nil, W_var, List.getElem?_cons_succ, List.getElem?_cons_zero, wo_some, rdOs, rdO, Option.bind_some, gLen, List.length_map]
        exact ⟨trivial, trivial⟩
      have hu' : u < ms.length := by omega
      have e1 : gIx (.list (tx ms)) (.int (u : Nat)) = some (.str ms[u]) := by
        rw [ix_lst (by rw [List.length_map]; exact hu'), List.getElem?_map, List.getElem?_eq_getElem hu']
        rfl
      simp only [List.set_cons_zero, rdO, wo_some, e1, fzO, Option.some.injEq, PyData.str.injEq, exists_eq_left']
      refine ⟨_, io g3 r3, ?_⟩
      rw [sD_put]
      simp only [List.set_cons_succ, List.set_cons_zero]
      refine ⟨g3, r3, addS K ms[u], _, p3, addS_nodup k1, fun x hx => ?_, ?_, rfl⟩
      · rcases addS_mem.mp hx with hx | rfl
        · exact k2 x hx
        · exact List.getElem_mem hu'
      · have := addS_len (S := K) (x := ms[u])
        rw [List.length_append, List.length_singleton]
        omega
  · rintro d ⟨g2, r2, K, v4, p2, k1, k2, k3, rfl⟩
    rw [List.length_range] at k3
    dsimp only
    obtain ⟨S, eS, u, mem, hl⟩ := gsort_sD k1 (by omega)
    simp only [W_ret, W_cb, W_cons, W_nil, W_var, List.getElem?_cons_succ, List.getElem?_cons_zero, wo_some, rdOs, rdO, Option.bind_some, eS, gTuple, fzO]
    exact ⟨_, g2, r2, rfl, rfl, ⟨S, rfl, u, fun x hx => k2 x ((mem x).mp hx), by omega⟩, p2⟩
/-! ### rows of tuples of texts -/
theorem keys_tdic (kvs : List (PyData × PyData)) : keysOf (tdic kvs) = some (kvs.map (·.1)) := rfl
theorem isPa_path (p : List Str) : isPa (pathD p) = true := all_tx p
theorem srt_pa {ds : List PyData} (h : ∀ x ∈ ds, isPa x = true) (hn : ds.length ≤ 10000) : srtOk ds = true := by
  unfold srtOk
  rw [decide_eq_true (Nat.le_trans hn (by decide)), List.all_eq_true.mpr h]
  simp
theorem gsort_tdic {kvs : List (PyData × PyData)} (h : ∀ kv ∈ kvs, isPa kv.1 = true) (hn : kvs.length ≤ 10000) : gSorted [tdic kvs] = some (.list (sortD (kvs.map (·.1)))) := by
  show (keysOf (tdic kvs)).bind (fun ds => if srtOk ds = true then some (PyData.list (sortD ds)) else none) = _
  rw [keys_tdic]
  simp only [Option.bind_some]
  rw [if_pos (srt_pa (fun x hx => by obtain ⟨kv, hkv, rfl⟩ := List.mem_map.mp hx; exact h kv hkv) (by rw [List.length_map]; exact hn))]
theorem path_tup {p : List Str} (h : p.length ≤ 100) : tupKey (pathD p) = true := by
  have := depth_tx p
  simp only [tupKey, areKeys_tx, Bool.true_and, decide_eq_true_eq]
  omega
theorem f_someT (ps : List (List Str)) (hn : ps.length ≤ 1000) (h0 : ps ≠ []) (hp : ∀ p ∈ ps, p.length ≤ 100) (most : Nat) (hmost : most ≤ 20) : PS F__law_someT [.list (ps.map pathD), .int (most : Nat)] fun z => ∃ S : List (List Str), z = .tuple (S.map pathD) ∧ (∀ x ∈ S, x ∈ ps) ∧ S.length ≤ most := by
  refine ps_of fun g r p => ?_
  change W (fb__law_someT F__law_take) [pot g r, some (.fr (.list (ps.map pathD))), some (.fr (.int (most : Nat))), none, none] _
  unfold fb__law_someT
  refine W_step (d1 := [pot g r, some (.fr (.list (ps.map pathD))), some (.fr (.int (most : Nat))), some (.own (tdic [])), none]) (ev ?_) ?_
  · simp only [W_own, W_newT, List.set_cons_succ, List.set_cons_zero]
    exact ⟨trivial, trivial⟩
  rw [W_seq, W_for, W_range]
  refine W_take (m := (most : Nat) + 1) (j := 0) rfl p (ev ?_) (by omega) (by omega) fun t g1 r1 ht p1 => ?_
  · simp only [W_op, W_var, W_c, List.getElem?_cons_succ, List.getElem?_cons_zero, wo_some, rdO, add_ok]
    exact ⟨trivial, trivial⟩
  simp only [List.set_cons_zero, OV.val.injEq, PyData.int.injEq, exists_eq_left', Int.toNat_natCast]
  refine ⟨⟨by omega, by omega⟩, ?_⟩
  refine for_list (α := Nat) (fun i => PyData.int (i : Nat)) (List.range t) (fun pre d => ∃ g r kvs v4, Pot r ∧ (∀ kv ∈ kvs, ∃ p ∈ ps, kv.1 = pathD p) ∧ kvs.length ≤ pre.length ∧ d = [pot g r, some (.fr (.list (ps.map pathD))), some (.fr (.int (most : Nat))), some (.own (tdic kvs)), v4]) ⟨g1, r1, [], none, p1, by simp, by simp, rfl⟩ ?_ ?_
  · rintro pre i suf d e ⟨g2, r2, K, v4, p2, k2, k3, rfl⟩
    have hpre : pre.length < t := by
      have := congrArg List.length e
      rw [List.length_range, List.length_append, List.length_cons] at this
      omega
    have hb : (ps.map pathD).isEmpty = false := by
      cases ps with
      | nil => exact absurd rfl h0
      | cons _ _ => rfl
    have hpos : 0 < ps.length := List.length_pos_iff.mpr h0
    simp only [gN, wo_some, List.set_cons_succ, List.set_cons_zero, W_if, W_b, W_op, W_var, List.getElem?_cons_succ, List.getElem?_cons_zero, W_lst, W_nil, plOs, rdO, eq_nil, OV.val.injEq, PyData.bool.injEq, exists_eq_left', Bool.false_eq_true, if_false, hb, Bool.not_false, if_true]
    refine W_putT ?_
    have io : ∀ g r, isOT [pot g r, some (.fr (.list (ps.map pathD))), some (.fr (.int (most : Nat))), some (.own (tdic K)), some (.fr (.int (i : Nat)))] 3 = some K := fun g r => lab_isOT rfl (by omega)
    simp only [W_c, valO, Option.some.injEq, exists_eq_left']
    refine ⟨⟨_, io g2 r2⟩, ?_⟩
    rw [W_op, W_var]
    simp only [List.getElem?_cons_succ, List.getElem?_cons_zero, wo_some]
    refine W_take (m := (ps.length : Nat)) (j := 0) rfl p2 (ev ?_) (by omega) (by omega) fun u g3 r3 hu p3 => ?_
    · simp only [W_cb, W_cons, W_nil, W_var, List.getElem?_cons_succ, List.getElem?_cons_zero, wo_some, rdOs, rdO, Option.bind_some, gLen, List.length_map]
      exact ⟨trivial, trivial⟩
    have hu' : u < ps.length := by omega
    have e1 : gIx (.list (ps.map pathD)) (.int (u : Nat)) = some (pathD ps[u]) := by
      rw [ix_lst (by rw [List.length_map]; exact hu'), List.getElem?_map, List.getElem?_eq_getElem hu']
      rfl
    have hm := List.getElem_mem hu'
    simp only [List.set_cons_zero, rdO, wo_some, e1, fzO, Option.some.injEq, exists_eq_left']
    refine ⟨path_tup (hp _ hm), _, io g3 r3, ?_⟩
    simp only [List.set_cons_succ, List.set_cons_zero]
    refine ⟨g3, r3, putD K (pathD ps[u]) (.bool true), _, p3, putD_keys1 (P := fun k => ∃ p ∈ ps, k = pathD p) k2 ⟨_, hm, rfl⟩, ?_, rfl⟩
    have := putD_len1 K (pathD ps[u]) (.bool true)
    rw [List.length_append, List.length_singleton]
    omega
  · rintro d ⟨g2, r2, K, v4, p2, k2, k3, rfl⟩
    rw [List.length_range] at k3
    dsimp only
    have eS := gsort_tdic (kvs := K) (fun kv h => by obtain ⟨q, _, e⟩ := k2 kv h; rw [e]; exact isPa_path q) (by omega)
    obtain ⟨S, e2, hS⟩ := ex_map (f := pathD) (P := fun p => p ∈ ps) (xs := sortD (K.map (·.1))) (fun x hx => by
      obtain ⟨kv, hkv, rfl⟩ := List.mem_map.mp (sortD_mem.mp hx)
      obtain ⟨q, hq, e⟩ := k2 kv hkv
      exact ⟨q, hq, e⟩)
    have hl : S.length = K.length := by
      have := congrArg List.length e2
      rw [sortD_length, List.length_map, List.length_map] at this
      exact this.symm
    simp only [W_ret, W_cb, W_cons, W_nil, W_var, List.getElem?_cons_succ, List.getElem?_cons_zero, wo_some, rdOs, rdO, Option.bind_some, eS, gTuple, fzO]
    exact ⟨_, g2, r2, rfl, rfl, ⟨S, by rw [e2], hS, by omega⟩, p2⟩
end DL

set_option maxRecDepth 100000
set_option linter.all false
set_option maxHeartbeats 2000000
/-! M26: folders, pairs. -/
namespace DL
open PySem PySem.W PyProof.Rows L2
theorem in_pathsL {ps : List (List Str)} {p : List Str} (s : Bool) : gIn s (pathD p) (.list (ps.map pathD)) = some (.bool (if s = true then decide (p ∈ ps) else !decide (p ∈ ps))) := in_paths (ps := ps) (p := p) s
theorem not_lt_nil (p : List Str) : dataLt (pathD p) (pathD []) = false := by
  cases p with
  | nil => exact lt_irr _
  | cons a r =>
    rw [dataLt_tuple]
    show PyProof.Rows.lexLt itemOrd (keyToksAll (PyData.str a :: tx r)) (keyToksAll []) = false
    rw [toks_all_cons]
    show PyProof.Rows.lexLt itemOrd _ [Sum.inl 0] = false
    rw [lex_cons]
    have e1 : itemOrd.blt (Sum.inl 1) (Sum.inl 0) = false := by decide +kernel
    have e2 : itemOrd.blt (Sum.inl 0) (Sum.inl 1) = true := by decide +kernel
    rw [e1, e2]
    rfl
theorem eq_ii (s : Bool) (i j : Int) : gEq s (.int i) (.int j) = some (.bool (if s = true then decide (i = j) else !decide (i = j))) := by
  unfold gEq
  rw [if_pos ⟨rfl, rfl, by simp [PyData.depth]⟩]
  have : PyData.eqv (.int i) (.int j) = decide (i = j) := by
    rw [eqv_int, Bool.eq_iff_iff, beq_iff_eq, decide_eq_true_eq]
  rw [this]
theorem path_nodup {F : List (List Str)} (h : F.Nodup) : (F.map pathD).Nodup := List.Pairwise.map pathD (fun a b n e => n (path_inj e)) h
theorem f_folders (ws : List Str) (hw : ws ≠ []) (hn : ws.length ≤ 1000) (most : Nat) (hmost : most ≤ 20) : PS F__law_folders [.list (tx ws), .int (most : Nat)] fun z => ∃ fo : List (List Str), z = .tuple (fo.map pathD) ∧ Up ((([] : List Str) :: fo).map pathD) ∧ fo.length ≤ most ∧ ∀ p ∈ fo, p.length ≤ 50 := by
  refine ps_of fun g r p => ?_
  change W (fb__law_folders F__law_take) [pot g r, some (.fr (.list (tx ws))), some (.fr (.int (most : Nat))), none, none, none] _
  unfold fb__law_folders
  have h16 : sizeLine = 16777216 := sizeLine_eq
  refine W_step (d1 := [pot g r, some (.fr (.list (tx ws))), some (.fr (.int (most : Nat))), some (.own (.list (([[]] : List (List Str)).map pathD))), none, none]) (ev ?_) ?_
  · simp only [W_own, W_olst, W_tup, W_cons, W_nil, plOs, plO, Option.bind_some, wo_some, List.set_cons_succ, List.set_cons_zero]
    exact ⟨trivial, rfl⟩
  rw [W_seq, W_for, W_range]
  refine W_take (m := (most : Nat) + 1) (j := 0) rfl p (ev ?_) (by omega) (by omega) fun t g1 r1 ht p1 => ?_
  · simp only [W_op, W_var, W_c, List.getElem?_cons_succ, List.getElem?_cons_zero, wo_some, rdO, add_ok]
    exact ⟨trivial, trivial⟩
  simp only [List.set_cons_zero, OV.val.injEq, PyData.int.injEq, exists_eq_left', Int.toNat_natCast]
  refine ⟨⟨by omega, by omega⟩, ?_⟩
  have hwpos : 0 < ws.length := List.length_pos_iff.mpr hw
  refine for_list (α := Nat) (fun i => PyData.int (i : Nat)) (List.range t) (fun pre d => ∃ g r F v4 v5, Pot r ∧ F.Nodup ∧ ([] : List Str) ∈ F ∧ (∀ p ∈ F, p.length ≤ pre.length) ∧ F.length ≤ pre.length + 1 ∧ d = [pot g r, some (.fr (.list (tx ws))), some (.fr (.int (most : Nat))), some (.own (.list (F.map pathD))), v4, v5]) ⟨g1, r1, [[]], none, none, p1, by simp, by simp, by simp, by simp, rfl⟩ ?_ ?_
  · rintro pre i suf d e ⟨g2, r2, F, v4, v5, p2, k1, k2, k3, k4, rfl⟩
    have hpre : pre.length < t := by
      have := congrArg List.length e
      rw [List.length_range, List.length_append, List.length_cons] at this
      omega
    have hF : 0 < F.length := List.length_pos_of_mem k2
    simp only [gN, wo_some, List.set_cons_succ, List.set_cons_zero]
    rw [W_seq, W_set, W_op, W_op]
    simp only [W_var, List.getElem?_cons_succ, List.getElem?_cons_zero, wo_some]
    refine W_take (m := (F.length : Nat)) (j := 0) rfl p2 (ev ?_) (by omega) (by omega) fun u g3 r3 hu p3 => ?_
    · simp only [W_cb, W_cons, W_nil, W_var, List.getElem?_cons_succ, List.getElem?_cons_zero, wo_some, rdOs, rdO, Option.bind_some, gLen, List.length_map]
      exact ⟨trivial, trivial⟩
    have hu' : u < F.length := by omega
    have e1 : gIx (.list (F.map pathD)) (.int (u : Nat)) = some (pathD F[u]) := by
      rw [ix_lst (by rw [List.length_map]; exact hu'), List.getElem?_map, List.getElem?_eq_getElem hu']
      rfl
    have hFu := k3 _ (List.getElem_mem hu')
    generalize F[u] = q at e1 hFu
    simp only [List.set_cons_zero, rdO, List.getElem?_cons_succ, List.getElem?_cons_zero, wo_some, e1]
    rw [W_tup, W_cons, W_op, W_var]
    simp only [List.getElem?_cons_succ, List.getElem?_cons_zero, wo_some]
    refine W_take (m := (ws.length : Nat)) (j := 0) rfl p3 (ev ?_) (by omega) (by omega) fun v g4 r4 hv p4 => ?_
    · simp only [W_cb, W_cons, W_nil, W_var, List.getElem?_cons_succ, List.getElem?_cons_zero, wo_some, rdOs, rdO, Option.bind_some, gLen, List.length_map]
      exact ⟨trivial, trivial⟩
    have hv' : v < ws.length := by omega
    have e2 : gIx (.list (tx ws)) (.int (v : Nat)) = some (.str ws[v]) := by
      rw [ix_lst (by rw [List.length_map]; exact hv'), List.getElem?_map, List.getElem?_eq_getElem hv']
      rfl
    generalize ws[v] = w at e2
    have e3 : gCatT (pathD q) (.tuple [.str w]) = some (pathD (q ++ [w])) := by
      show (if _ then _ else _) = _
      rw [if_pos (by simp only [List.length_map, List.length_cons, List.length_nil]; omega)]
      simp
    simp only [List.set_cons_zero, rdO, wo_some, e2, W_nil, plOs, plO, Option.bind_some, e3, fzO, List.set_cons_succ]
    simp only [W_if, W_b, W_op, W_var, List.getElem?_cons_succ, List.getElem?_cons_zero, wo_some, rdO, in_pathsL, OV.val.injEq, PyData.bool.injEq, exists_eq_left', Bool.false_eq_true, if_false]
    by_cases hq : q ++ [w] ∈ F
    · simp only [hq, decide_true, Bool.not_true, Bool.false_eq_true, if_false, W_next]
      refine ⟨g4, r4, F, _, _, p4, k1, k2, fun x hx => ?_, ?_, rfl⟩
      · have := k3 x hx; rw [List.length_append]; omega
      · rw [List.length_append]; omega
    · simp only [hq, decide_false, Bool.not_false, if_true]
      refine W_app rfl ?_
      simp only [W_var, List.getElem?_cons_succ, List.getElem?_cons_zero, wo_some]
      refine ⟨_, F.map pathD, rfl, rfl, by rw [List.length_map]; omega, ?_⟩
      refine ⟨g4, r4, F ++ [q ++ [w]], some (.fr (.int (i : Nat))), some (.fr (pathD (q ++ [w]))), p4, ?_, by simp [k2], fun x hx => ?_, by simp; omega, ?_⟩
      · rw [List.nodup_append]
        refine ⟨k1, by simp, fun a ha b hb => ?_⟩
        rw [List.mem_singleton.mp hb]
        exact fun e => hq (e ▸ ha)
      · rw [List.length_append, List.length_singleton]
        rcases List.mem_append.mp hx with hx | hx
        · have := k3 x hx; omega
        · rw [List.mem_singleton.mp hx, List.length_append, List.length_singleton]; omega
      · rw [List.map_append]
        rfl
  · rintro d ⟨g2, r2, F, v4, v5, p2, k1, k2, k3, k4, rfl⟩
    rw [List.length_range] at k3 k4
    dsimp only
    obtain ⟨S, e2, hS⟩ := ex_map (f := pathD) (P := fun p => p ∈ F) (xs := sortD (F.map pathD)) (fun x hx => by
      obtain ⟨q, hq, rfl⟩ := List.mem_map.mp (sortD_mem.mp hx)
      exact ⟨q, hq, rfl⟩)
    have hl : S.length = F.length := by
      have := congrArg List.length e2
      rw [sortD_length, List.length_map, List.length_map] at this
      exact this.symm
    have up : Up (S.map pathD) := by
      rw [← e2]
      exact sortD_up (fun d hd => by obtain ⟨q, _, rfl⟩ := List.mem_map.mp hd; exact path_key q) (path_nodup k1)
    have hnil : ([] : List Str) ∈ S := by
      have : pathD [] ∈ S.map pathD := by
        rw [← e2]
        exact sortD_mem.mpr (List.mem_map.mpr ⟨[], k2, rfl⟩)
      obtain ⟨q, hq, e⟩ := List.mem_map.mp this
      exact path_inj e ▸ hq
    obtain ⟨S', rfl⟩ : ∃ S', S = [] :: S' := by
      cases S with
      | nil => cases hnil
      | cons s S' =>
        rcases List.mem_cons.mp hnil with e | e
        · exact ⟨S', by rw [← e]⟩
        · rw [List.map_cons] at up
          have := (List.pairwise_cons.mp up).1 (pathD []) (List.mem_map.mpr ⟨[], e, rfl⟩)
          rw [not_lt_nil] at this
          cases this
    have eS : gSorted [.list (F.map pathD)] = some (.list ((([] : List Str) :: S').map pathD)) := by
      show (if srtOk (F.map pathD) = true then some (PyData.list (sortD (F.map pathD))) else none) = _
      rw [if_pos (srt_pa (fun x hx => by obtain ⟨q, _, rfl⟩ := List.mem_map.mp hx; exact isPa_path q) (by rw [List.length_map]; omega)), e2]
    have hsl : gSl (.list ((([] : List Str) :: S').map pathD)) (some 1) none = some (.list (S'.map pathD)) := by
      show some (PyData.list (cutD _ (some (((1 : Nat)) : Int)) none)) = _
      rw [cut_from]
      rfl
    simp only [W_ret, W_cb, W_cons, W_nil, W_sl, W_ps, W_pn, W_c, W_var, List.getElem?_cons_succ, List.getElem?_cons_zero, wo_some, rdOs, rdO, Option.bind_some, eS, OV.val.injEq, PyData.int.injEq, exists_eq_left', hsl, gTuple, fzO]
    refine ⟨_, g2, r2, rfl, rfl, ⟨S', rfl, up, ?_, fun x hx => ?_⟩, p2⟩
    · rw [List.length_cons] at hl; omega
    · have := k3 x (hS x (by simp [hx])); omega
theorem qD_pa (q : Str × Str) : isPa (qD q) = true := rfl
theorem f_lawprs (ms : List Str) (hw : ms ≠ []) (hn : ms.length ≤ 1000) (most : Nat) (hmost : most ≤ 20) : PS F__law_pairs [.list (tx ms), .int (most : Nat)] fun z => ∃ S : List (Str × Str), z = .tuple (S.map qD) ∧ (∀ q ∈ S, q.1 ∈ ms ∧ q.2 ∈ ms) ∧ S.length ≤ most := by
  refine ps_of fun g r p => ?_
  change W (fb__law_pairs F__law_take) [pot g r, some (.fr (.list (tx ms))), some (.fr (.int (most : Nat))), none, none, none, none] _
  unfold fb__law_pairs
  have h16 : sizeLine = 16777216 := sizeLine_eq
  refine W_step (d1 := [pot g r, some (.fr (.list (tx ms))), some (.fr (.int (most : Nat))), some (.own (tdic [])), none, none, none]) (ev ?_) ?_
  · simp only [W_own, W_newT, List.set_cons_succ, List.set_cons_zero]
    exact ⟨trivial, trivial⟩
  rw [W_seq, W_for, W_range]
  refine W_take (m := (most : Nat) + 1) (j := 0) rfl p (ev ?_) (by omega) (by omega) fun t g1 r1 ht p1 => ?_
  · simp only [W_op, W_var, W_c, List.getElem?_cons_succ, List.getElem?_cons_zero, wo_some, rdO, add_ok]
    exact ⟨trivial, trivial⟩
  simp only [List.set_cons_zero, OV.val.injEq, PyData.int.injEq, exists_eq_left', Int.toNat_natCast]
  refine ⟨⟨by omega, by omega⟩, ?_⟩
  have hpos : 0 < ms.length := List.length_pos_iff.mpr hw
  refine for_list (α := Nat) (fun i => PyData.int (i : Nat)) (List.range t) (fun pre d => ∃ g r kvs v4 v5 v6, Pot r ∧ (∀ kv ∈ kvs, ∃ q : Str × Str, (q.1 ∈ ms ∧ q.2 ∈ ms) ∧ kv.1 = qD q) ∧ kvs.length ≤ pre.length ∧ d = [pot g r, some (.fr (.list (tx ms))), some (.fr (.int (most : Nat))), some (.own (tdic kvs)), v4, v5, v6]) ⟨g1, r1, [], none, none, none, p1, by simp, by simp, rfl⟩ ?_ ?_
  · rintro pre i suf d e ⟨g2, r2, K, v4, v5, v6, p2, k2, k3, rfl⟩
    have hpre : pre.length < t := by
      have := congrArg List.length e
      rw [List.length_range, List.length_append, List.length_cons] at this
      omega
    simp only [gN, wo_some, List.set_cons_succ, List.set_cons_zero]
    rw [W_seq, W_par2]
    refine W_take (m := (ms.length : Nat)) (j := 0) rfl p2 (ev ?_) (by omega) (by omega) fun u g3 r3 hu p3 => ?_
    · simp only [W_cb, W_cons, W_nil, W_var, List.getElem?_cons_succ, List.getElem?_cons_zero, wo_some, rdOs, rdO, Option.bind_some, gLen, List.length_map]
      exact ⟨trivial, trivial⟩
    simp only [List.set_cons_zero]
    refine W_take (m := (ms.length : Nat)) (j := 0) rfl p3 (ev ?_) (by omega) (by omega) fun v g4 r4 hv p4 => ?_
    · simp only [W_cb, W_cons, W_nil, W_var, List.getElem?_cons_succ, List.getElem?_cons_zero, wo_some, rdOs, rdO, Option.bind_some, gLen, List.length_map]
      exact ⟨trivial, trivial⟩
    simp only [List.set_cons_zero, fzO, wo_some, List.set_cons_succ]
    simp only [W_if, W_b, W_op, W_var, List.getElem?_cons_succ, List.getElem?_cons_zero, wo_some, rdO, eq_ii, OV.val.injEq, PyData.bool.injEq, exists_eq_left', Bool.false_eq_true, if_false]
    by_cases huv : ((u : Nat) : Int) = (v : Nat)
    · simp only [huv, decide_true, Bool.not_true, Bool.false_eq_true, if_false, W_next]
      exact ⟨g4, r4, K, _, _, _, p4, k2, by rw [List.length_append]; omega, rfl⟩
    · simp only [huv, decide_false, Bool.not_false, if_true]
      obtain ⟨a, ea, ha⟩ : ∃ a : Nat, gMin2 [.int (u : Nat), .int (v : Nat)] = some (.int (a : Nat)) ∧ a < ms.length := by
        show ∃ a : Nat, some (PyData.int (if ((v : Nat) : Int) < (u : Nat) then ((v : Nat) : Int) else (u : Nat))) = _ ∧ _
        by_cases c : ((v : Nat) : Int) < (u : Nat)
        · exact ⟨v, by rw [if_pos c], by omega⟩
        · exact ⟨u, by rw [if_neg c], by omega⟩
      obtain ⟨b, eb, hb⟩ : ∃ b : Nat, gMax2 [.int (u : Nat), .int (v : Nat)] = some (.int (b : Nat)) ∧ b < ms.length := by
        show ∃ a : Nat, some (PyData.int (if ((v : Nat) : Int) > (u : Nat) then ((v : Nat) : Int) else (u : Nat))) = _ ∧ _
        by_cases c : ((v : Nat) : Int) > (u : Nat)
        · exact ⟨v, by rw [if_pos c], by omega⟩
        · exact ⟨u, by rw [if_neg c], by omega⟩
      have e1 : gIx (.list (tx ms)) (.int (a : Nat)) = some (.str ms[a]) := by
        rw [ix_lst (by rw [List.length_map]; exact ha), List.getElem?_map, List.getElem?_eq_getElem ha]
        rfl
      have e2 : gIx (.list (tx ms)) (.int (b : Nat)) = some (.str ms[b]) := by
        rw [ix_lst (by rw [List.length_map]; exact hb), List.getElem?_map, List.getElem?_eq_getElem hb]
        rfl
      have m1 := List.getElem_mem ha
      have m2 := List.getElem_mem hb
      generalize ms[a] = x at e1 m1
      generalize ms[b] = y at e2 m2
      refine W_putT ?_
      have io : isOT [pot g4 r4, some (.fr (.list (tx ms))), some (.fr (.int (most : Nat))), some (.own (tdic K)), some (.fr (.int (i : Nat))), some (.fr (.int (u : Nat))), some (.fr (.int (v : Nat)))] 3 = some K := lab_isOT rfl (by omega)
      simp only [W_c, valO, Option.some.injEq, exists_eq_left']
      refine ⟨⟨_, io⟩, ?_⟩
      simp only [W_tup, W_cons, W_nil, W_op, W_cb, W_var, List.getElem?_cons_succ, List.getElem?_cons_zero, wo_some, rdOs, rdO, Option.bind_some, ea, eb, e1, e2, plOs, plO, fzO, Option.some.injEq, exists_eq_left']
      refine ⟨by simp [tupKey, areKeys, isKey, PyData.depthAll, PyData.depth], _, io, ?_⟩
      simp only [List.set_cons_succ, List.set_cons_zero]
      refine ⟨g4, r4, putD K (qD (x, y)) (.bool true), _, _, _, p4, putD_keys1 (P := fun k => ∃ q : Str × Str, (q.1 ∈ ms ∧ q.2 ∈ ms) ∧ k = qD q) k2 ⟨(x, y), ⟨m1, m2⟩, rfl⟩, ?_, rfl⟩
      have := putD_len1 K (qD (x, y)) (.bool true)
      rw [List.length_append, List.length_singleton]
      omega
  · rintro d ⟨g2, r2, K, v4, v5, v6, p2, k2, k3, rfl⟩
    rw [List.length_range] at k3
    dsimp only
    have eS := gsort_tdic (kvs := K) (fun kv h => by obtain ⟨q, _, e⟩ := k2 kv h; rw [e]; exact qD_pa q) (by omega)
    obtain ⟨S, e2, hS⟩ := ex_map (f := qD) (P := fun q => q.1 ∈ ms ∧ q.2 ∈ ms) (xs := sortD (K.map (·.1))) (fun x hx => by
      obtain ⟨kv, hkv, rfl⟩ := List.mem_map.mp (sortD_mem.mp hx)
      obtain ⟨q, hq, e⟩ := k2 kv hkv
      exact ⟨q, hq, e⟩)
    have hl : S.length = K.length := by
      have := congrArg List.length e2
      rw [sortD_length, List.length_map, List.length_map] at this
      exact this.symm
    simp only [W_ret, W_cb, W_cons, W_nil, W_var, List.getElem?_cons_succ, List.getElem?_cons_zero, wo_some, rdOs, rdO, Option.bind_some, eS, gTuple, fzO]
    exact ⟨_, g2, r2, rfl, rfl, ⟨S, by rw [e2], hS, by omega⟩, p2⟩
end DL

set_option maxRecDepth 100000
set_option linter.all false
set_option maxHeartbeats 2000000
/-! M27: forms, titles. -/
namespace DL
open PySem PySem.W PyProof.Rows L2
theorem ix_two (a b : PyData) {t : Nat} (h : t < 2) : gIx (.list [a, b]) (.int (t : Nat)) = some (if t = 0 then a else b) := by
  rw [ix_lst h]
  match t, h with
  | 0, _ => rfl
  | 1, _ => rfl
theorem gate_ok {t : Nat} (h : t < 9000) : ∃ s : Str, gStrI [.int (1000 + (t : Nat))] = some (.str s) ∧ s.length ≤ 4 := by
  have e : (1000 + (t : Nat) : Int) = ((1000 + t : Nat) : Int) := by omega
  rw [e]
  have h1 : (((1000 + t : Nat) : Int)).natAbs.log2 < 1920 := by
    rw [Int.natAbs_natCast, Nat.log2_lt (by omega)]
    exact Nat.lt_of_lt_of_le (show 1000 + t < 2 ^ 14 by omega) (Nat.pow_le_pow_right (by decide) (by decide))
  have h2 : PyData.strOk (Str.ofString (toString (((1000 + t : Nat) : Int)))) = true := by
    simp only [PyData.strOk]
    rw [Array.all_eq_true_iff_forall_mem]
    intro c hc
    refine decide_eq_true ?_
    by_cases q : c < 0x110000
    · exact q
    · have := int_text_free' c ⟨by omega, by omega⟩ (((1000 + t : Nat) : Int))
      exact absurd (by simpa using hc) this
  refine ⟨Str.ofString (toString (((1000 + t : Nat) : Int))), ?_, toString_length_le (by omega) (by decide) (by omega)⟩
  show (if _ then _ else _) = _
  rw [if_pos ⟨h1, h2⟩]
/-- a word drawn of a row -/
theorem W_word {ws : List Str} {d : SD} {i : Nat} {g r : Int} {Q : OV → SD → Prop} (h0 : d[0]? = some (pot g r)) (hi : d[i]? = some (some (.fr (.list (tx ws))))) (p : Pot r) (hw : ws ≠ []) (hn : ws.length ≤ 1000) (hi0 : i ≠ 0) (q : ∀ w ∈ ws, ∀ g' r', Pot r' → Q (.val (.str w)) (d.set 0 (pot g' r'))) : W (fOp gIx (fVar i) (fCallP F__law_take (fCons (fVar 0) (fCons (fCB gLen (fCons (fVar i) fNil)) fNil)))) d Q := by
  have hpos : 0 < ws.length := List.length_pos_iff.mpr hw
  rw [W_op, W_var, hi]
  simp only [wo_some]
  refine W_take (m := (ws.length : Nat)) (j := 0) h0 p (ev ?_) (by omega) (by omega) fun u g3 r3 hu p3 => ?_
  · rw [W_cb, W_cons, W_var, hi]
    simp only [wo_some, W_nil, rdOs, rdO, Option.bind_some, gLen, List.length_map]
    exact ⟨trivial, trivial⟩
  have hu' : u < ws.length := by omega
  have e1 : gIx (.list (tx ws)) (.int (u : Nat)) = some (.str ws[u]) := by
    rw [ix_lst (by rw [List.length_map]; exact hu'), List.getElem?_map, List.getElem?_eq_getElem hu']
    rfl
  simp only [rdO, wo_some, e1]
  exact q _ (List.getElem_mem hu') _ _ p3
theorem str_len (s : String) {n : Nat} (h : (Str.ofString s).length = n := by decide +kernel) : (Str.ofString s).length = n := h
structure Ws (ws : List Str) : Prop where
  ne : ws ≠ []
  n : ws.length ≤ 100
  wd : ∀ w ∈ ws, Word w
theorem cat_le {x y : Str} {a b : Nat} (h : x.length ≤ a) (h' : y.length ≤ b) (hn : a + b ≤ 10000) : ∃ z, gCatS (.str x) (.str y) = some (.str z) ∧ z.length ≤ a + b := by
  refine ⟨x ++ y, cat_ok (by omega), ?_⟩
  rw [len_app]; omega
theorem f_form {ws : List Str} (h : Ws ws) : PS F__law_form [.list (tx ws)] fun z => ∃ f : Str, z = .str f ∧ f.length ≤ 76 := by
  have hn : ws.length ≤ 1000 := Nat.le_trans h.n (by decide)
  refine ps_of fun g r p => ?_
  change W (fb__law_form F__law_take) [pot g r, some (.fr (.list (tx ws))), none, none, none, none] _
  unfold fb__law_form
  rw [W_seq, W_par2, W_op, W_lst, W_cons, W_c, W_cons, W_c]
  simp only [W_nil, plOs, plO, Option.bind_some, wo_some]
  refine W_take (m := 2) (j := 0) rfl p rfl (by omega) (by omega) fun t1 g1 r1 h1 p1 => ?_
  simp only [List.set_cons_zero, rdO, wo_some, ix_two _ _ (show t1 < 2 by omega)]
  rw [W_op, W_lst, W_cons, W_c, W_cons, W_op, W_c, W_cb, W_cons, W_op, W_c]
  refine W_take (m := 9000) (j := 0) rfl p1 rfl (by omega) (by omega) fun t2 g2 r2 h2 p2 => ?_
  obtain ⟨s, es, hs⟩ := gate_ok (t := t2) (by omega)
  have l1 : (":" : Str).length = 1 := by decide +kernel
  obtain ⟨gt, eg, hg⟩ := cat_le (x := ":") (y := s) (a := 1) (b := 4) (by omega) hs (by omega)
  simp only [List.set_cons_zero, rdO, wo_some, add_ok, W_nil, rdOs, Option.bind_some, es, eg, plOs, plO]
  refine W_take (m := 2) (j := 0) rfl p2 rfl (by omega) (by omega) fun t3 g3 r3 h3 p3 => ?_
  simp only [List.set_cons_zero, rdO, wo_some, ix_two _ _ (show t3 < 2 by omega)]
  obtain ⟨kd, ek, hk⟩ : ∃ kd : Str, (if t1 = 0 then PyData.str "leaf" else .str "seal") = .str kd ∧ kd.length ≤ 4 := by
    by_cases c : t1 = 0
    · exact ⟨"leaf", by rw [if_pos c], by decide +kernel⟩
    · exact ⟨"seal", by rw [if_neg c], by decide +kernel⟩
  obtain ⟨gg, egg, hgg⟩ : ∃ gg : Str, (if t3 = 0 then PyData.str "" else .str gt) = .str gg ∧ gg.length ≤ 5 := by
    by_cases c : t3 = 0
    · exact ⟨"", by rw [if_pos c], by decide +kernel⟩
    · exact ⟨gt, by rw [if_neg c], hg⟩
  rw [ek, egg]
  simp only [fzO, wo_some, List.set_cons_succ, List.set_cons_zero]
  -- kind "://" word "." word gate
  have l2 : ("://" : Str).length = 3 := by decide +kernel
  have l3 : ("." : Str).length = 1 := by decide +kernel
  have l4 : ("/" : Str).length = 1 := by decide +kernel
  have l5 : ("?" : Str).length = 1 := by decide +kernel
  rw [W_seq, W_set, W_op, W_op, W_op, W_op, W_op, W_var]
  simp only [List.getElem?_cons_succ, List.getElem?_cons_zero, wo_some, W_c, rdO]
  obtain ⟨a1, e1, b1⟩ := cat_le (x := kd) (y := "://") (a := 4) (b := 3) hk (by omega) (by omega)
  simp only [e1, wo_some]
  refine W_word (ws := ws) (i := 1) rfl rfl p3 h.ne hn (by omega) fun w1 m1 g4 r4 p4 => ?_
  have hw1 := (h.wd w1 m1).len
  obtain ⟨a2, e2, b2⟩ := cat_le (x := a1) (y := w1) (a := 7) (b := 12) b1 hw1 (by omega)
  obtain ⟨a3, e3, b3⟩ := cat_le (x := a2) (y := ".") (a := 19) (b := 1) b2 (by omega) (by omega)
  simp only [List.set_cons_zero, rdO, e2, e3, wo_some]
  refine W_word (ws := ws) (i := 1) rfl rfl p4 h.ne hn (by omega) fun w2 m2 g5 r5 p5 => ?_
  have hw2 := (h.wd w2 m2).len
  obtain ⟨a4, e4, b4⟩ := cat_le (x := a3) (y := w2) (a := 20) (b := 12) b3 hw2 (by omega)
  obtain ⟨a5, e5, b5⟩ := cat_le (x := a4) (y := gg) (a := 32) (b := 5) b4 hgg (by omega)
  simp only [List.set_cons_zero, rdO, W_var, List.getElem?_cons_succ, List.getElem?_cons_zero, e4, e5, wo_some, fzO, List.set_cons_succ]
  rw [W_seq, W_for, W_range]
  refine W_take (m := 3) (j := 0) rfl p5 rfl (by omega) (by omega) fun t4 g6 r6 h4 p6 => ?_
  simp only [List.set_cons_zero, OV.val.injEq, PyData.int.injEq, exists_eq_left', Int.toNat_natCast]
  refine ⟨⟨by omega, by omega⟩, ?_⟩
  refine for_list (α := Nat) (fun i => PyData.int (i : Nat)) (List.range t4) (fun pre d => ∃ g r f v5, Pot r ∧ f.length ≤ 37 + 13 * pre.length ∧ d = [pot g r, some (.fr (.list (tx ws))), some (.fr (.str kd)), some (.fr (.str gg)), some (.fr (.str f)), v5]) ⟨g6, r6, a5, none, p6, by simpa using b5, rfl⟩ ?_ ?_
  · rintro pre i suf d e ⟨g7, r7, f, v5, p7, b6, rfl⟩
    have hpre : pre.length < t4 := by
      have := congrArg List.length e
      rw [List.length_range, List.length_append, List.length_cons] at this
      omega
    simp only [gN, wo_some, List.set_cons_succ, List.set_cons_zero]
    obtain ⟨a6, e6, b7⟩ := cat_le (x := f) (y := "/") (a := 37 + 13 * pre.length) (b := 1) b6 (by omega) (by omega)
    rw [W_set, W_op, W_op, W_var]
    simp only [List.getElem?_cons_succ, List.getElem?_cons_zero, wo_some, W_c, rdO, e6]
    refine W_word (ws := ws) (i := 1) rfl rfl p7 h.ne hn (by omega) fun w3 m3 g8 r8 p8 => ?_
    have hw3 := (h.wd w3 m3).len
    obtain ⟨a7, e7, b8⟩ := cat_le (x := a6) (y := w3) (a := 37 + 13 * pre.length + 1) (b := 12) b7 hw3 (by omega)
    simp only [List.set_cons_zero, rdO, e7, wo_some, fzO, List.set_cons_succ]
    exact ⟨g8, r8, a7, _, p8, by rw [List.length_append, List.length_singleton]; omega, rfl⟩
  · rintro d ⟨g7, r7, f, v5, p7, b6, rfl⟩
    rw [List.length_range] at b6
    dsimp only
    rw [W_seq, W_if, W_b, W_op]
    refine W_take (m := 3) (j := 0) rfl p7 rfl (by omega) (by omega) fun t5 g8 r8 h5 p8 => ?_
    simp only [List.set_cons_zero, W_c, rdO, wo_some, eq_ii, if_true, OV.val.injEq, PyData.bool.injEq, exists_eq_left', decide_eq_true_eq]
    by_cases c : ((t5 : Nat) : Int) = 0
    · rw [if_pos c]
      obtain ⟨a6, e6, b7⟩ := cat_le (x := f) (y := "?") (a := 37 + 13 * t4) (b := 1) b6 (by omega) (by omega)
      rw [W_set, W_op, W_op, W_var]
      simp only [List.getElem?_cons_succ, List.getElem?_cons_zero, wo_some, W_c, rdO, e6]
      refine W_word (ws := ws) (i := 1) rfl rfl p8 h.ne hn (by omega) fun w3 m3 g9 r9 p9 => ?_
      have hw3 := (h.wd w3 m3).len
      obtain ⟨a7, e7, b8⟩ := cat_le (x := a6) (y := w3) (a := 37 + 13 * t4 + 1) (b := 12) b7 hw3 (by omega)
      simp only [List.set_cons_zero, rdO, e7, wo_some, fzO, List.set_cons_succ, W_ret, W_var, List.getElem?_cons_succ, List.getElem?_cons_zero]
      exact ⟨_, g9, r9, rfl, rfl, ⟨a7, rfl, by omega⟩, p9⟩
    · rw [if_neg c]
      simp only [W_next, W_ret, W_var, List.getElem?_cons_succ, List.getElem?_cons_zero, wo_some, fzO]
      exact ⟨_, g8, r8, rfl, rfl, ⟨f, rfl, by omega⟩, p8⟩
end DL

set_option maxRecDepth 100000
set_option linter.all false
set_option maxHeartbeats 2000000
/-! M28: titles. -/
namespace DL
open PySem PySem.W PyProof.Rows L2
theorem sgs_up : (sgs.cps.toList.all fun c => decide ((Unicode.upperOf c).length ≤ 1) && (Unicode.upperOf c).all fun x => decide (x < 0x110000)) = true := by decide +kernel
theorem flat_size : ∀ {xs : List (Array Nat)}, (∀ x ∈ xs, x.size ≤ 1) → (xs.map Array.size).sum ≤ xs.length
  | [], _ => by simp
  | x :: xs, h => by
    have h1 := h x (by simp)
    have h2 := flat_size (xs := xs) fun y hy => h y (by simp [hy])
    simp only [List.map_cons, List.sum_cons, List.length_cons]
    omega
theorem upper_ok {w : Str} (h : Sgn w) : PyData.strOk (Txt.upper w) = true ∧ (Txt.upper w).length ≤ w.length := by
  have key : ∀ x ∈ (w.cps.mapIdx fun _ c => (Unicode.upperOf c).toArray), ∃ c ∈ sgs.cps.toList, x = (Unicode.upperOf c).toArray := by
    intro x hx
    rw [Array.mem_mapIdx] at hx
    obtain ⟨i, hi, rfl⟩ := hx
    exact ⟨w.cps[i], h _ (by simp), rfl⟩
  have up := List.all_eq_true.mp sgs_up
  constructor
  · simp only [PyData.strOk]
    rw [Array.all_eq_true_iff_forall_mem]
    intro c hc
    have hc' : c ∈ (w.cps.mapIdx fun _ c => (Unicode.upperOf c).toArray).flatten := hc
    rw [Array.mem_flatten] at hc'
    obtain ⟨x, hx, hcx⟩ := hc'
    obtain ⟨c0, h0, rfl⟩ := key x hx
    have := up c0 h0
    rw [Bool.and_eq_true] at this
    exact List.all_eq_true.mp this.2 c (by simpa using hcx)
  · show (w.cps.mapIdx fun _ c => (Unicode.upperOf c).toArray).flatten.size ≤ _
    rw [Array.size_flatten]
    have := flat_size (xs := (w.cps.mapIdx fun _ c => (Unicode.upperOf c).toArray).toList) (fun x hx => by
      obtain ⟨c0, h0, rfl⟩ := key x (by simpa using hx)
      have := up c0 h0
      rw [Bool.and_eq_true, decide_eq_true_eq] at this
      simpa using this.1)
    have hl : (w.cps.mapIdx fun _ c => (Unicode.upperOf c).toArray).toList.length = w.length := by
      rw [Array.length_toList, Array.size_mapIdx]; rfl
    rw [hl] at this
    have e : ((w.cps.mapIdx fun _ c => (Unicode.upperOf c).toArray).map Array.size).sum = ((w.cps.mapIdx fun _ c => (Unicode.upperOf c).toArray).toList.map Array.size).sum := by
      rw [← Array.toList_map, Array.sum_toList]
    rw [e]
    exact this
theorem sgs_ok : (sgs.cps.toList.all fun c => decide (c < 0x110000)) = true := by decide +kernel
theorem sg_ok {w : Str} (h : Sgn w) : PyData.strOk w = true := by
  simp only [PyData.strOk]
  rw [Array.all_eq_true_iff_forall_mem]
  intro c hc
  exact List.all_eq_true.mp sgs_ok c (h c (by simpa using hc))
theorem fold_ok {sep : Str} (hs : PyData.strOk sep = true) : ∀ (rest : List Str) (acc : Array Nat), acc.all (· < 0x110000) = true → (∀ x ∈ rest, PyData.strOk x = true) → (rest.foldl (fun acc p => acc ++ sep.cps ++ p.cps) acc).all (· < 0x110000) = true
  | [], _, h, _ => h
  | x :: r, acc, h, hr => by
    rw [List.foldl_cons]
    refine fold_ok hs r _ ?_ fun y hy => hr y (by simp [hy])
    have h1 := hr x (by simp)
    simp only [PyData.strOk] at h1 hs
    rw [Array.all_append, Array.all_append, h, hs, h1]
    rfl
theorem join_ok {sep : Str} (hs : PyData.strOk sep = true) {ts : List Str} (h : ∀ x ∈ ts, PyData.strOk x = true) : PyData.strOk (Txt.join sep ts) = true := by
  show ((ts.drop 1).foldl (fun acc p => acc ++ sep.cps ++ p.cps) (ts.headD Str.empty).cps).all (· < 0x110000) = true
  refine fold_ok hs _ _ ?_ fun x hx => h x (List.mem_of_mem_drop hx)
  cases ts with
  | nil => show (Str.empty.cps.all fun x => decide (x < 0x110000)) = true; decide +kernel
  | cons t r => exact h t (by simp)
theorem W_upper {f : F OV} {d : SD} {Q : OV → SD → Prop} (h : W f d fun o d1 => ∃ a, fzO o = some (.str a) ∧ a.length ≤ 5592405 ∧ PyData.strOk (Txt.upper a) = true ∧ Q (.val (.str (Txt.upper a))) d1) : W (fUpper f) d Q := by
  obtain ⟨⟨o, d1⟩, e, a, e1, h1, h2, q⟩ := h
  refine W_of (d' := d1) ?_ q
  unfold fUpper
  rw [e]
  dsimp only [Option.bind_some] at e1 ⊢
  rw [e1]
  exact if_pos ⟨h1, h2⟩
theorem W_join {f g : F OV} {d : SD} {Q : OV → SD → Prop} (h : W f d fun o d1 => W g d1 fun o' d2 => ∃ a xs, fzO o = some (.str a) ∧ rdO o' d2 = some (.list xs) ∧ xs.all isTx = true ∧ ((xs.map txtD).map (·.length)).sum + xs.length * a.length ≤ 16777216 ∧ PyData.strOk (joinD a xs) = true ∧ Q (.val (.str (joinD a xs))) d2) : W (fJoin f g) d Q := by
  obtain ⟨⟨o, d1⟩, e, ⟨o', d2⟩, e2, a, xs, e1, e3, h1, h2, h3, q⟩ := h
  refine W_of (d' := d2) ?_ q
  unfold fJoin
  rw [e]
  simp only [Option.bind_some]
  rw [e2]
  dsimp only [Option.bind_some] at e1 e3 ⊢
  rw [e1, e3]
  exact if_pos ⟨h1, h2, h3⟩
theorem sum_le {n : Nat} : ∀ {ts : List Str}, (∀ x ∈ ts, x.length ≤ n) → (ts.map (·.length)).sum ≤ ts.length * n
  | [], _ => by simp
  | t :: ts, h => by
    have h1 := h t (by simp)
    have h2 := sum_le (ts := ts) fun y hy => h y (by simp [hy])
    simp only [List.map_cons, List.sum_cons, List.length_cons, Nat.add_mul]
    omega
theorem txt_tx (T : List Str) : (tx T).map txtD = T := by
  show (T.map PyData.str).map txtD = T
  rw [List.map_map]
  conv => rhs; rw [← List.map_id T]
  rfl
theorem f_title {ws : List Str} (h : Ws ws) : PS F__law_title [.list (tx ws)] fun z => plO (.val z) = some z := by
  have hn : ws.length ≤ 1000 := Nat.le_trans h.n (by decide)
  have h16 : sizeLine = 16777216 := sizeLine_eq
  refine ps_of fun g r p => ?_
  change W (fb__law_title F__law_take) [pot g r, some (.fr (.list (tx ws))), none, none, none] _
  unfold fb__law_title
  refine W_step (d1 := [pot g r, some (.fr (.list (tx ws))), some (.own (.list (tx []))), none, none]) (ev ?_) ?_
  · simp only [W_own, W_olst, W_nil, plOs, wo_some, List.set_cons_succ, List.set_cons_zero]
    exact ⟨trivial, rfl⟩
  rw [W_seq, W_for, W_range]
  refine W_take (m := 4) (j := 0) rfl p rfl (by omega) (by omega) fun t g1 r1 h1 p1 => ?_
  simp only [List.set_cons_zero, OV.val.injEq, PyData.int.injEq, exists_eq_left', Int.toNat_natCast]
  refine ⟨⟨by omega, by omega⟩, ?_⟩
  refine for_list (α := Nat) (fun i => PyData.int (i : Nat)) (List.range t) (fun pre d => ∃ g r T v3 v4, Pot r ∧ T.length ≤ pre.length ∧ (∀ x ∈ T, PyData.strOk x = true ∧ x.length ≤ 12) ∧ d = [pot g r, some (.fr (.list (tx ws))), some (.own (.list (tx T))), v3, v4]) ⟨g1, r1, [], none, none, p1, by simp, by simp, rfl⟩ ?_ ?_
  · rintro pre i suf d e ⟨g2, r2, T, v3, v4, p2, k1, k2, rfl⟩
    have hpre : pre.length < t := by
      have := congrArg List.length e
      rw [List.length_range, List.length_append, List.length_cons] at this
      omega
    simp only [gN, wo_some, List.set_cons_succ, List.set_cons_zero]
    rw [W_seq, W_set]
    refine W_word (ws := ws) (i := 1) rfl rfl p2 h.ne hn (by omega) fun w mw g3 r3 p3 => ?_
    have hw := h.wd w mw
    obtain ⟨u1, u2⟩ := upper_ok hw.sg
    simp only [List.set_cons_zero, fzO, wo_some, List.set_cons_succ]
    refine W_app rfl ?_
    rw [W_op, W_lst, W_cons, W_var]
    simp only [List.getElem?_cons_succ, List.getElem?_cons_zero, wo_some]
    rw [W_cons]
    refine W_upper ?_
    simp only [W_var, List.getElem?_cons_succ, List.getElem?_cons_zero, wo_some, fzO, Option.some.injEq, PyData.str.injEq, exists_eq_left']
    have hwl := hw.len
    refine ⟨by omega, u1, ?_⟩
    simp only [W_nil, plOs, plO, Option.bind_some, wo_some]
    refine W_take (m := 2) (j := 0) rfl p3 rfl (by omega) (by omega) fun u g4 r4 hu p4 => ?_
    simp only [List.set_cons_zero, rdO, wo_some, ix_two _ _ (show u < 2 by omega)]
    obtain ⟨x, ex, hx⟩ : ∃ x : Str, (if u = 0 then PyData.str w else .str (Txt.upper w)) = .str x ∧ (PyData.strOk x = true ∧ x.length ≤ 12) := by
      by_cases c : u = 0
      · exact ⟨w, by rw [if_pos c], sg_ok hw.sg, hw.len⟩
      · exact ⟨Txt.upper w, by rw [if_neg c], u1, Nat.le_trans u2 hw.len⟩
    rw [ex]
    refine ⟨.str x, tx T, rfl, rfl, by rw [List.length_map]; omega, g4, r4, T ++ [x], some (.fr (.int (i : Nat))), some (.fr (.str w)), p4, by rw [List.length_append, List.length_append]; simp; omega, fun y hy => ?_, ?_⟩
    rotate_left
    · rw [show tx (T ++ [x]) = tx T ++ [.str x] by simp]
      rfl
    · rcases List.mem_append.mp hy with hy | hy
      · exact k2 y hy
      · rw [List.mem_singleton.mp hy]; exact hx
  · rintro d ⟨g2, r2, T, v3, v4, p2, k1, k2, rfl⟩
    rw [List.length_range] at k1
    dsimp only
    rw [W_ret, W_ifE]
    simp only [W_b, W_op, W_var, List.getElem?_cons_succ, List.getElem?_cons_zero, wo_some, W_lst, W_nil, plOs, rdO, eq_nil, OV.val.injEq, PyData.bool.injEq, exists_eq_left', Bool.false_eq_true, if_false]
    by_cases hT : T = []
    · subst hT
      simp only [List.map_nil, List.isEmpty_nil, Bool.not_true, Bool.false_eq_true, if_false, W_c, fzO, wo_some]
      exact ⟨_, g2, r2, rfl, rfl, rfl, p2⟩
    · have hb : (tx T).isEmpty = false := by
        cases T with
        | nil => exact absurd rfl hT
        | cons _ _ => rfl
      simp only [hb, Bool.not_false, if_true]
      refine W_join ?_
      have l1 : (" " : Str).length = 1 := by decide +kernel
      have o1 : PyData.strOk " " = true := by decide +kernel
      simp only [W_c, W_var, List.getElem?_cons_succ, List.getElem?_cons_zero, wo_some]
      refine ⟨" ", tx T, rfl, rfl, all_tx T, ?_, ?_, ?_⟩
      · rw [txt_tx, l1, List.length_map]
        have := sum_le (n := 12) (ts := T) fun x hx => (k2 x hx).2
        omega
      · show PyData.strOk (Txt.join _ _) = true
        rw [txt_tx]
        exact join_ok o1 fun x hx => (k2 x hx).1
      · simp only [fzO, wo_some]
        exact ⟨_, g2, r2, rfl, rfl, rfl, p2⟩
end DL

set_option maxRecDepth 100000
set_option linter.all false
set_option maxHeartbeats 2000000
/-! M29: pages. -/
namespace DL
open PySem PySem.W PyProof.Rows L2
def pK (Ps : List Page) : List (PyData × PyData) := Ps.map fun g => (PyData.str g.form, g.d)
def putP (Ps : List Page) (g : Page) : List Page := if g.form ∈ Ps.map (·.form) then Ps.map (fun h => if h.form = g.form then g else h) else Ps ++ [g]
theorem pK_text (Ps : List Page) : textK (pK Ps) = true := by
  unfold textK pK
  rw [List.all_map]
  exact List.all_eq_true.mpr fun _ _ => rfl
theorem pK_any (Ps : List Page) (a : Str) : ((pK Ps).any fun kv => PyData.eqv kv.1 (.str a)) = decide (a ∈ Ps.map (·.form)) := by
  unfold pK
  rw [List.any_map, Bool.eq_iff_iff, List.any_eq_true, decide_eq_true_eq, List.mem_map]
  constructor
  · rintro ⟨x, hx, e⟩
    simp only [Function.comp, str_eqv, decide_eq_true_eq] at e
    exact ⟨x, hx, e⟩
  · rintro ⟨x, hx, e⟩
    exact ⟨x, hx, by simp only [Function.comp, str_eqv, decide_eq_true_eq]; exact e⟩
theorem pK_put (Ps : List Page) (g : Page) : putD (pK Ps) (.str g.form) g.d = pK (putP Ps g) := by
  unfold putD putP
  rw [pK_any]
  by_cases h : g.form ∈ Ps.map (·.form)
  · rw [if_pos (decide_eq_true h), if_pos h]
    unfold pK
    rw [List.map_map, List.map_map]
    refine List.map_congr_left fun y _ => ?_
    simp only [Function.comp, str_eqv, decide_eq_true_eq]
    by_cases c : y.form = g.form
    · rw [if_pos c, if_pos c, c]
    · rw [if_neg c, if_neg c]
  · rw [if_neg (by simpa using h), if_neg h]
    unfold pK
    rw [List.map_append]
    rfl
theorem putP_len (Ps : List Page) (g : Page) : (putP Ps g).length ≤ Ps.length + 1 := by
  unfold putP
  split <;> simp
theorem putP_mem {Ps : List Page} {g : Page} {P : Page → Prop} (h : ∀ x ∈ Ps, P x) (hg : P g) : ∀ x ∈ putP Ps g, P x := by
  unfold putP
  split
  · intro x hx
    obtain ⟨y, hy, rfl⟩ := List.mem_map.mp hx
    split
    · exact hg
    · exact h y hy
  · intro x hx
    rcases List.mem_append.mp hx with hx | hx
    · exact h x hx
    · rw [List.mem_singleton.mp hx]; exact hg
theorem putP_nodup {Ps : List Page} {g : Page} (h : (Ps.map (·.form)).Nodup) : ((putP Ps g).map (·.form)).Nodup := by
  unfold putP
  split
  · rw [List.map_map]
    have : (Ps.map ((fun x : Page => x.form) ∘ fun h => if h.form = g.form then g else h)) = Ps.map (·.form) := by
      refine List.map_congr_left fun y _ => ?_
      simp only [Function.comp]
      by_cases c : y.form = g.form
      · rw [if_pos c, c]
      · rw [if_neg c]
    rw [this]; exact h
  · rename_i c
    rw [List.map_append, List.nodup_append]
    refine ⟨h, by simp, fun a ha b hb => ?_⟩
    have : b = g.form := by simpa using hb
    rw [this]
    exact fun e => c (e ▸ ha)
theorem isOS_pK {d : SD} {i : Nat} {Ps : List Page} (h : d[i]? = some (some (.own (.dict (pK Ps))))) (hn : Ps.length ≤ 10000) : isOS d i = some (pK Ps) := by
  unfold isOS
  rw [h]
  show (if _ then _ else _) = _
  rw [if_pos ⟨pK_text Ps, by unfold pK; rw [List.length_map]; have h16 : sizeLine = 16777216 := sizeLine_eq; omega⟩]
theorem keys_pK (Ps : List Page) : keysOf (.dict (pK Ps)) = some (tx (Ps.map (·.form))) := by
  cases Ps with
  | nil => rfl
  | cons s S =>
    show (if textK (pK (s :: S)) = true then some ((pK (s :: S)).map (·.1)) else none) = _
    rw [if_pos (pK_text _)]
    simp [pK, Function.comp_def]
def pgOf (Ps : List Page) (f : Str) : Page := (Ps.find? fun g => decide (g.form = f)).getD ⟨f, .none, [], []⟩
theorem pg_find {Ps : List Page} {f : Str} (h : f ∈ Ps.map (·.form)) : ∃ g ∈ Ps, g.form = f ∧ pgOf Ps f = g ∧ valD (pK Ps) (.str f) = some g.d := by
  have hs : (Ps.find? fun g => decide (g.form = f)).isSome = true := by
    rw [List.find?_isSome]
    obtain ⟨g, hg, e⟩ := List.mem_map.mp h
    exact ⟨g, hg, decide_eq_true e⟩
  obtain ⟨g, hg⟩ := Option.isSome_iff_exists.mp hs
  have hgf := List.find?_some hg
  refine ⟨g, List.mem_of_find?_eq_some hg, by simpa using hgf, ?_, ?_⟩
  · unfold pgOf; rw [hg]; rfl
  · unfold valD pK
    rw [List.find?_map]
    have : ((fun kv : PyData × PyData => PyData.eqv kv.1 (.str f)) ∘ fun g : Page => (PyData.str g.form, g.d)) = fun g => decide (g.form = f) := by
      funext y; simp only [Function.comp, str_eqv]
    rw [this, hg]
    rfl
theorem W_getS {fd fy : F OV} {d : SD} {Q : OV → SD → Prop} (h : W fd d fun o d1 => W fy d1 fun o' d2 => ∃ kvs x z, rdO o d2 = some (.dict kvs) ∧ fzO o' = some (.str x) ∧ textK kvs = true ∧ valD kvs (.str x) = some z ∧ Q (.val z) d2) : W (fGetS fd fy) d Q := by
  obtain ⟨⟨o, d1⟩, e, ⟨o', d2⟩, e2, kvs, x, z, h1, h2, h3, h4, q⟩ := h
  refine W_of (d' := d2) ?_ q
  unfold fGetS
  rw [e]
  simp only [Option.bind_some]
  rw [e2]
  dsimp only [Option.bind_some] at h1 h2 ⊢
  rw [h1, h2]
  simp only [h3, if_true, h4, Option.bind_some]
/-- a page as the law makes them -/
structure PgOk (ms : List Str) (fo : List (List Str)) (g : Page) : Prop where
  fm : g.form.length ≤ 76
  mks : ∀ x ∈ g.marks, x ∈ ms
  ml : g.marks.length ≤ 3
theorem inc_of_up {S : List Str} (h : Up (tx S)) : Inc S := by
  refine (List.Pairwise.of_map PyData.str (R := fun a b => dataLt (.str a) (.str b) = true) (fun a b h => h) h).imp fun {a b} e => ?_
  rw [dataLt_str] at e
  exact of_decide_eq_true e
theorem f_pages {ws ms : List Str} {fo : List (List Str)} (h : Ws ws) (hm : ms.length ≤ 100) (hf : fo.length ≤ 100) (hp : ∀ p ∈ fo, p.length ≤ 100) (most : Nat) (hmost : most ≤ 30) : PS F__law_pages [.list (tx ws), .list (tx ms), .tuple (fo.map pathD), .int (most : Nat)] fun z => ∃ Ps : List Page, z = .tuple (Ps.map Page.d) ∧ Inc (Ps.map (·.form)) ∧ Ps.length ≤ most ∧ ∀ g ∈ Ps, PgOk ms fo g := by
  have h16 : sizeLine = 16777216 := sizeLine_eq
  refine ps_of fun g r p => ?_
  change W (fb__law_pages F__law_form F__law_some F__law_someT F__law_take F__law_title) [pot g r, some (.fr (.list (tx ws))), some (.fr (.list (tx ms))), some (.fr (.tuple (fo.map pathD))), some (.fr (.int (most : Nat))), none, none, none, none, none] _
  unfold fb__law_pages
  refine W_step (d1 := [pot g r, some (.fr (.list (tx ws))), some (.fr (.list (tx ms))), some (.fr (.tuple (fo.map pathD))), some (.fr (.int (most : Nat))), some (.own (.dict (pK []))), none, none, none, none]) (ev ?_) ?_
  · simp only [W_own, W_newS, List.set_cons_succ, List.set_cons_zero]
    exact ⟨trivial, rfl⟩
  rw [W_seq, W_for, W_range]
  refine W_take (m := (most : Nat) + 1) (j := 0) rfl p (ev ?_) (by omega) (by omega) fun t g1 r1 ht p1 => ?_
  · simp only [W_op, W_var, W_c, List.getElem?_cons_succ, List.getElem?_cons_zero, wo_some, rdO, add_ok]
    exact ⟨trivial, trivial⟩
  simp only [List.set_cons_zero, OV.val.injEq, PyData.int.injEq, exists_eq_left', Int.toNat_natCast]
  refine ⟨⟨by omega, by omega⟩, ?_⟩
  refine for_list (α := Nat) (fun i => PyData.int (i : Nat)) (List.range t) (fun pre d => ∃ g r Ps v6 v7 v8 v9, Pot r ∧ (Ps.map (·.form)).Nodup ∧ (∀ x ∈ Ps, PgOk ms fo x) ∧ Ps.length ≤ pre.length ∧ (∀ y, v7 ≠ some (.own y)) ∧ d = [pot g r, some (.fr (.list (tx ws))), some (.fr (.list (tx ms))), some (.fr (.tuple (fo.map pathD))), some (.fr (.int (most : Nat))), some (.own (.dict (pK Ps))), v6, v7, v8, v9]) ⟨g1, r1, [], none, none, none, none, p1, by simp, by simp, by simp, by simp, rfl⟩ ?_ ?_
  · rintro pre i suf d e ⟨g2, r2, Ps, v6, v7, v8, v9, p2, k1, k2, k3, k4, rfl⟩
    have hpre : pre.length < t := by
      have := congrArg List.length e
      rw [List.length_range, List.length_append, List.length_cons] at this
      omega
    simp only [gN, wo_some, List.set_cons_succ, List.set_cons_zero]
    rw [W_seq, W_par2]
    refine W_callP (fun z => ∃ f : Str, z = .str f ∧ f.length ≤ 76) ⟨_, _, rfl⟩ ?_
    simp only [W_cons, W_nil, W_var, List.getElem?_cons_succ, List.getElem?_cons_zero, wo_some]
    refine ⟨[.list (tx ws)], g2, r2, rfl, rfl, p2, f_form h, ?_⟩
    rintro z g3 r3 ⟨f, rfl, hfl⟩ p3
    simp only [List.set_cons_zero]
    refine W_callP (fun z => plO (.val z) = some z) ⟨_, _, rfl⟩ ?_
    simp only [W_cons, W_nil, W_var, List.getElem?_cons_succ, List.getElem?_cons_zero, wo_some]
    refine ⟨[.list (tx ws)], g3, r3, rfl, rfl, p3, f_title h, ?_⟩
    intro ttl g4 r4 htl p4
    simp only [List.set_cons_zero, fzO, wo_some, List.set_cons_succ]
    rw [W_seq, W_set]
    refine W_callP (fun z => ∃ S : List (List Str), z = .tuple (S.map pathD) ∧ (∀ x ∈ S, x ∈ (([] : List Str) :: fo)) ∧ S.length ≤ 3) ⟨_, _, rfl⟩ ?_
    have hcat : gCatL (.list [.tuple []]) (.list (fo.map pathD)) = some (.list ((([] : List Str) :: fo).map pathD)) := by
      show (if _ then _ else _) = _
      rw [if_pos (by simp only [List.length_map, List.length_cons, List.length_nil]; omega)]
      rfl
    simp only [W_cons, W_nil, W_op, W_lst, W_tup, W_cb, plOs, plO, Option.bind_some, W_var, W_c, List.getElem?_cons_succ, List.getElem?_cons_zero, wo_some, rdOs, rdO, gList, hcat]
    refine ⟨[.list ((([] : List Str) :: fo).map pathD), .int ((3 : Nat) : Int)], g4, r4, rfl, rfl, p4, f_someT (([] : List Str) :: fo) (by simp; omega) (by simp) (fun q hq => ?_) 3 (by omega), ?_⟩
    · rcases List.mem_cons.mp hq with rfl | hq
      · simp
      · exact hp q hq
    rintro z g5 r5 ⟨S, rfl, hS, hSl⟩ p5
    simp only [List.set_cons_zero, fzO, wo_some, List.set_cons_succ]
    refine W_putS ?_
    simp only [W_tup, W_cons, W_var, List.getElem?_cons_succ, List.getElem?_cons_zero, wo_some]
    refine W_callP (fun z => ∃ S : List Str, z = .tuple (tx S) ∧ Up (tx S) ∧ (∀ x ∈ S, x ∈ ms) ∧ S.length ≤ 3) ⟨_, _, rfl⟩ ?_
    simp only [W_cons, W_nil, W_c, W_var, List.getElem?_cons_succ, List.getElem?_cons_zero, wo_some]
    refine ⟨[.list (tx ms), .int ((3 : Nat) : Int)], g5, r5, rfl, rfl, p5, f_some' ms (by omega) 3 (by omega), ?_⟩
    rintro z g6 r6 ⟨T, rfl, _, hT, hTl⟩ p6
    obtain ⟨R, hR⟩ : ∃ R : List (List Str), fIfE (fB (fOp (gEq false) (fVar 9) (fTup fNil))) (fVar 9) (fTup (fCons (fTup fNil) fNil)) [pot g6 r6, some (.fr (.list (tx ws))), some (.fr (.list (tx ms))), some (.fr (.tuple (fo.map pathD))), some (.fr (.int (most : Nat))), some (.own (.dict (pK Ps))), some (.fr (.int (i : Nat))), some (.fr (.str f)), some (.fr ttl), some (.fr (.tuple (S.map pathD)))] = some (.val (.tuple (R.map pathD)), [pot g6 r6, some (.fr (.list (tx ws))), some (.fr (.list (tx ms))), some (.fr (.tuple (fo.map pathD))), some (.fr (.int (most : Nat))), some (.own (.dict (pK Ps))), some (.fr (.int (i : Nat))), some (.fr (.str f)), some (.fr ttl), some (.fr (.tuple (S.map pathD)))]) := by
      by_cases c : S = []
      · subst c
        refine ⟨[[]], ev ?_⟩
        simp only [W_ifE, W_b, W_op, W_var, List.getElem?_cons_succ, List.getElem?_cons_zero, wo_some, W_tup, W_cons, W_nil, plOs, plO, Option.bind_some, rdO, eq_tnil, OV.val.injEq, PyData.bool.injEq, exists_eq_left', Bool.false_eq_true, if_false, List.map_nil, List.isEmpty_nil, Bool.not_true]
        exact ⟨rfl, trivial⟩
      · refine ⟨S, ev ?_⟩
        have hb : (S.map pathD).isEmpty = false := by
          cases S with
          | nil => exact absurd rfl c
          | cons _ _ => rfl
        simp only [W_ifE, W_b, W_op, W_var, List.getElem?_cons_succ, List.getElem?_cons_zero, wo_some, W_tup, W_cons, W_nil, plOs, plO, Option.bind_some, rdO, eq_tnil, OV.val.injEq, PyData.bool.injEq, exists_eq_left', Bool.false_eq_true, if_false, hb, Bool.not_false, if_true]
        exact ⟨trivial, trivial⟩
    simp only [List.set_cons_zero]
    refine W_of hR ?_
    have hpl : plOs [.val (.str f), .val ttl, .val (.tuple (tx T)), .val (.tuple (R.map pathD))] = some [.str f, ttl, .tuple (tx T), .tuple (R.map pathD)] := by
      simp only [plOs, htl, Option.bind_some]
      rfl
    have io : isOS [pot g6 r6, some (.fr (.list (tx ws))), some (.fr (.list (tx ms))), some (.fr (.tuple (fo.map pathD))), some (.fr (.int (most : Nat))), some (.own (.dict (pK Ps))), some (.fr (.int (i : Nat))), some (.fr (.str f)), some (.fr ttl), some (.fr (.tuple (S.map pathD)))] 5 = some (pK Ps) := isOS_pK rfl (by omega)
    simp only [W_nil, hpl, wo_some, fzO]
    refine ⟨(⟨f, ttl, T, R⟩ : Page).d, rfl, ⟨_, io⟩, ?_⟩
    simp only [List.getElem?_cons_succ, List.getElem?_cons_zero, wo_some]
    refine ⟨f, rfl, _, io, ?_⟩
    have hput := pK_put Ps ⟨f, ttl, T, R⟩
    rw [show putD (pK Ps) (.str f) (⟨f, ttl, T, R⟩ : Page).d = pK (putP Ps ⟨f, ttl, T, R⟩) from hput]
    simp only [List.set_cons_succ, List.set_cons_zero]
    refine ⟨g6, r6, putP Ps ⟨f, ttl, T, R⟩, some (.fr (.int (i : Nat))), some (.fr (.str f)), some (.fr ttl), some (.fr (.tuple (S.map pathD))), p6, putP_nodup k1, putP_mem k2 ⟨hfl, hT, hTl⟩, ?_, (fun y z => by cases z), rfl⟩
    have := putP_len Ps ⟨f, ttl, T, R⟩
    rw [List.length_append, List.length_singleton]
    omega
  · rintro d ⟨g2, r2, Ps, v6, v7, v8, v9, p2, k1, k2, k3, k4, rfl⟩
    rw [List.length_range] at k3
    dsimp only
    obtain ⟨S, eS, u, mem, hl⟩ := sort_tx k1
    have hS : gSorted [.dict (pK Ps)] = some (.list (tx S)) := by
      show (keysOf (.dict (pK Ps))).bind (fun ds => if srtOk ds = true then some (PyData.list (sortD ds)) else none) = _
      rw [keys_pK]
      simp only [Option.bind_some]
      rw [if_pos (srt_tx (by rw [List.length_map]; omega)), eS]
    have hlen : S.length = Ps.length := by rw [hl, List.length_map]
    have okv : okW [7] [pot g2 r2, some (.fr (.list (tx ws))), some (.fr (.list (tx ms))), some (.fr (.tuple (fo.map pathD))), some (.fr (.int (most : Nat))), some (.own (.dict (pK Ps))), v6, v7, v8, v9] = true := by
      show ((match (some v7 : Option (Option SV)) with
        | some (some (.own _)) => false
        | _ => true) && true) = true
      cases v7 with
      | none => rfl
      | some v => cases v with
        | fr _ => rfl
        | own y => exact absurd rfl (k4 y)
    have lc : fLc (fItems (fCB gSorted (fCons (fVar 5) fNil))) (gN 7) fYes (fGetS (fVar 5) (fVar 7)) [7] [pot g2 r2, some (.fr (.list (tx ws))), some (.fr (.list (tx ms))), some (.fr (.tuple (fo.map pathD))), some (.fr (.int (most : Nat))), some (.own (.dict (pK Ps))), v6, v7, v8, v9] = some (.val (.list (S.map fun f => (pgOf Ps f).d)), [pot g2 r2, some (.fr (.list (tx ws))), some (.fr (.list (tx ms))), some (.fr (.tuple (fo.map pathD))), some (.fr (.int (most : Nat))), some (.own (.dict (pK Ps))), v6, v7, v8, v9]) := by
      refine lc_all (as := S) PyData.str (fun f => (pgOf Ps f).d) (ev ?_) okv (fun f hf => ?_) (by omega)
      · simp only [W_items, W_cb, W_cons, W_nil, W_var, List.getElem?_cons_succ, List.getElem?_cons_zero, wo_some, rdOs, rdO, Option.bind_some, hS, fzO, seqOf]
        exact ⟨trivial, trivial⟩
      · obtain ⟨x, hx, ex, e1, e2⟩ := pg_find ((mem f).mp hf)
        refine ⟨[pot g2 r2, some (.fr (.list (tx ws))), some (.fr (.list (tx ms))), some (.fr (.tuple (fo.map pathD))), some (.fr (.int (most : Nat))), some (.own (.dict (pK Ps))), v6, some (.fr (.str f)), v8, v9], rfl, rfl, .val (pgOf Ps f).d, ev ?_, rfl⟩
        refine W_getS ?_
        simp only [W_var, List.getElem?_cons_succ, List.getElem?_cons_zero, wo_some]
        exact ⟨pK Ps, f, _, rfl, rfl, pK_text Ps, e2, by rw [e1], trivial⟩
    rw [W_ret, W_cb, W_cons]
    refine W_of lc ?_
    simp only [W_nil, rdOs, rdO, Option.bind_some, wo_some, gTuple, fzO]
    have hforms : (S.map (pgOf Ps)).map (·.form) = S := by
      rw [List.map_map]
      conv => rhs; rw [← List.map_id S]
      refine List.map_congr_left fun f hf => ?_
      obtain ⟨x, hx, ex, e1, _⟩ := pg_find ((mem f).mp hf)
      simp only [Function.comp, e1, ex, id]
    refine ⟨_, g2, r2, rfl, rfl, ⟨S.map (pgOf Ps), by simp [Function.comp_def], ?_, by rw [List.length_map]; omega, fun x hx => ?_⟩, p2⟩
    · rw [hforms]; exact inc_of_up u
    · obtain ⟨f, hf, rfl⟩ := List.mem_map.mp hx
      obtain ⟨x, hx, ex, e1, _⟩ := pg_find ((mem f).mp hf)
      rw [e1]
      exact k2 x hx
end DL

set_option maxRecDepth 100000
set_option linter.all false
set_option maxHeartbeats 2000000
/-! M30: a listing drawn; the pot. -/
namespace DL
open PySem PySem.W PyProof.Rows L2
theorem cut_to {α : Type} (xs : List α) (n : Nat) : cutD xs none (some (n : Int)) = xs.take n := by
  unfold cutD
  rw [HT.sIx_nat, HT.sIx_none, List.drop_zero, Nat.sub_zero]
  by_cases h : n ≤ xs.length
  · rw [Nat.min_eq_left h]
  · rw [Nat.min_eq_right (by omega), List.take_of_length_le (Nat.le_refl _), List.take_of_length_le (by omega)]
theorem ws_of {ws : List Str} {n : Nat} (h : ws.length = n) (h0 : 0 < n) (hn : n ≤ 100) (hw : ∀ w ∈ ws, Word w) : Ws ws := ⟨fun e => by subst e; simp at h; omega, by omega, hw⟩
theorem ix_three (a b c : PyData) {t : Nat} (h : t < 3) : gIx (.list [a, b, c]) (.int (t : Nat)) = some (if t = 0 then a else if t = 1 then b else c) := by
  rw [ix_lst h]
  match t, h with
  | 0, _ => rfl
  | 1, _ => rfl
  | 2, _ => rfl
theorem f_set : PS F__law_set [] fun z => ∃ L : Lst, z = .tuple [L.fD, L.pD, L.qD] ∧ LstOk L ∧ ∀ g ∈ L.pages, g.form.length ≤ 76 := by
  have h16 : sizeLine = 16777216 := sizeLine_eq
  refine ps_of fun g r p => ?_
  change W (fb__law_set F__law_folders F__law_pages F__law_pairs F__law_take F__law_words) [pot g r, none, none, none, none, none] _
  unfold fb__law_set
  rw [W_seq, W_par2]
  refine W_callP (fun z => ∃ ws : List Str, z = .list (tx ws) ∧ ws.length = 8 ∧ ∀ w ∈ ws, Word w) ⟨_, _, rfl⟩ ?_
  simp only [W_cons, W_nil, W_c, List.getElem?_cons_succ, List.getElem?_cons_zero, wo_some]
  refine ⟨[.int ((8 : Nat) : Int)], g, r, rfl, rfl, p, f_words 8 (by omega), ?_⟩
  rintro z g1 r1 ⟨ws, rfl, hws, hwd⟩ p1
  simp only [List.set_cons_zero]
  refine W_callP (fun z => ∃ ws : List Str, z = .list (tx ws) ∧ ws.length = 4 ∧ ∀ w ∈ ws, Word w) ⟨_, _, rfl⟩ ?_
  simp only [W_cons, W_nil, W_c, List.getElem?_cons_succ, List.getElem?_cons_zero, wo_some]
  refine ⟨[.int ((4 : Nat) : Int)], g1, r1, rfl, rfl, p1, f_words 4 (by omega), ?_⟩
  rintro z g2 r2 ⟨ms, rfl, hms, hmd⟩ p2
  have hW : Ws ws := ws_of hws (by omega) (by omega) hwd
  simp only [List.set_cons_zero, fzO, wo_some, List.set_cons_succ]
  -- folders
  rw [W_seq, W_set]
  refine W_callP (fun z => ∃ fo : List (List Str), z = .tuple (fo.map pathD) ∧ Up ((([] : List Str) :: fo).map pathD) ∧ fo.length ≤ 4 ∧ ∀ p ∈ fo, p.length ≤ 50) ⟨_, _, rfl⟩ ?_
  rw [W_cons, W_var]
  simp only [List.getElem?_cons_succ, List.getElem?_cons_zero, wo_some]
  rw [W_cons]
  refine W_take (m := 5) (j := 0) rfl p2 rfl (by omega) (by omega) fun t3 g3 r3 h3 p3 => ?_
  simp only [List.set_cons_zero, W_nil]
  refine ⟨[.list (tx ws), .int (t3 : Nat)], g3, r3, rfl, rfl, p3, PS.mono (f_folders ws hW.ne (by omega) t3 (by omega)) ?_, ?_⟩
  · rintro z ⟨fo, rfl, h1, h2, h4⟩
    exact ⟨fo, rfl, h1, by omega, h4⟩
  rintro z g4 r4 ⟨fo, rfl, hup, hfl, hfp⟩ p4
  simp only [List.set_cons_zero, fzO, wo_some, List.set_cons_succ]
  -- marks
  obtain ⟨k, ek, hk1, hk2⟩ : ∃ k : Nat, gMin2 [.int 4, .int (6 - (fo.length : Nat))] = some (.int (k : Nat)) ∧ 2 ≤ k ∧ k + fo.length ≤ 6 := by
    show ∃ k : Nat, some (PyData.int (if (6 - (fo.length : Nat) : Int) < 4 then (6 - (fo.length : Nat) : Int) else 4)) = _ ∧ _
    by_cases c : (6 - (fo.length : Nat) : Int) < 4
    · refine ⟨6 - fo.length, ?_, by omega, by omega⟩
      rw [if_pos c]
      congr 2
      omega
    · exact ⟨4, by rw [if_neg c]; rfl, by omega, by omega⟩
  have hsl : gSl (.list (tx ms)) none (some ((k : Nat) : Int)) = some (.list (tx (ms.take k))) := by
    show some (PyData.list (cutD (tx ms) none (some ((k : Nat) : Int)))) = _
    rw [cut_to]
    have : tx (ms.take k) = (tx ms).take k := by simp
    rw [this]
  rw [W_seq, W_set]
  simp only [W_sl, W_pn, W_ps, W_cb, W_cons, W_nil, W_c, W_op, W_var, List.getElem?_cons_succ, List.getElem?_cons_zero, wo_some, rdOs, rdO, Option.bind_some, gLen, List.length_map, gSub_, gI, ek, OV.val.injEq, PyData.int.injEq, exists_eq_left', hsl, fzO, List.set_cons_succ, List.set_cons_zero]
  have hmk : (ms.take k).length = min k 4 := by rw [List.length_take, hms]
  generalize ms.take k = mt at hmk
  have hmne : mt ≠ [] := fun e => by subst e; simp at hmk; omega
  -- pairs
  rw [W_seq, W_set]
  have hgt : fB (fOp gGt (fCB gLen (fCons (fVar 2) fNil)) (fC (.int 1))) [pot g4 r4, some (.fr (.list (tx ws))), some (.fr (.list (tx mt))), some (.fr (.tuple (fo.map pathD))), none, none] = some (true, [pot g4 r4, some (.fr (.list (tx ws))), some (.fr (.list (tx mt))), some (.fr (.tuple (fo.map pathD))), none, none]) := by
    refine ev ?_
    simp only [W_b, W_op, W_cb, W_cons, W_nil, W_c, W_var, List.getElem?_cons_succ, List.getElem?_cons_zero, wo_some, rdOs, rdO, Option.bind_some, gLen, List.length_map, gGt, gIB, OV.val.injEq, PyData.bool.injEq, exists_eq_left', decide_eq_true_eq]
    exact ⟨by omega, trivial⟩
  rw [W_ifE]
  refine W_of hgt ?_
  simp only [if_true]
  refine W_callP (fun z => ∃ S : List (Str × Str), z = .tuple (S.map qD) ∧ (∀ q ∈ S, q.1 ∈ mt ∧ q.2 ∈ mt) ∧ S.length ≤ 3) ⟨_, _, rfl⟩ ?_
  simp only [W_cons, W_nil, W_c, W_var, List.getElem?_cons_succ, List.getElem?_cons_zero, wo_some]
  refine ⟨[.list (tx mt), .int ((3 : Nat) : Int)], g4, r4, rfl, rfl, p4, f_lawprs mt hmne (by omega) 3 (by omega), ?_⟩
  rintro z g5 r5 ⟨qs, rfl, hq, hql⟩ p5
  simp only [List.set_cons_zero, fzO, wo_some, List.set_cons_succ]
  -- pages
  rw [W_seq, W_set]
  refine W_callP (fun z => ∃ Ps : List Page, z = .tuple (Ps.map Page.d) ∧ Inc (Ps.map (·.form)) ∧ Ps.length ≤ 16 ∧ ∀ g ∈ Ps, PgOk mt fo g) ⟨_, _, rfl⟩ ?_
  simp only [W_cons, W_var, List.getElem?_cons_succ, List.getElem?_cons_zero, wo_some]
  rw [W_op, W_lst]
  simp only [W_cons, W_nil, W_c, plOs, plO, Option.bind_some, wo_some]
  refine W_take (m := 3) (j := 0) rfl p5 rfl (by omega) (by omega) fun t6 g6 r6 h6 p6 => ?_
  simp only [List.set_cons_zero, rdO, wo_some, ix_three _ _ _ (show t6 < 3 by omega)]
  obtain ⟨n, en, hn⟩ : ∃ n : Nat, (if t6 = 0 then PyData.int 4 else if t6 = 1 then .int 8 else .int 16) = .int (n : Nat) ∧ n ≤ 16 := by
    by_cases c : t6 = 0
    · exact ⟨4, by rw [if_pos c]; rfl, by omega⟩
    · by_cases c' : t6 = 1
      · exact ⟨8, by rw [if_neg c, if_pos c']; rfl, by omega⟩
      · exact ⟨16, by rw [if_neg c, if_neg c']; rfl, by omega⟩
  rw [en]
  refine ⟨[.list (tx ws), .list (tx mt), .tuple (fo.map pathD), .int (n : Nat)], g6, r6, rfl, rfl, p6, PS.mono (f_pages hW (by omega) (by omega) (fun q hq => Nat.le_trans (hfp q hq) (by decide)) n (by omega)) ?_, ?_⟩
  · rintro z ⟨Ps, rfl, h1, h2, h4⟩
    exact ⟨Ps, rfl, h1, by omega, h4⟩
  rintro z g7 r7 ⟨Ps, rfl, hinc, hPl, hPo⟩ p7
  simp only [List.set_cons_zero, fzO, wo_some, List.set_cons_succ, W_ret, W_tup, W_cons, W_nil, W_var, List.getElem?_cons_succ, List.getElem?_cons_zero, plOs, plO, Option.bind_some]
  refine ⟨_, g7, r7, rfl, rfl, ⟨⟨fo, Ps, qs⟩, rfl, ⟨hup, hfp, by show fo.length ≤ 6; omega, hPl, fun x hx => (hPo x hx).ml, hql, ⟨mt, by show mt.length + fo.length ≤ 6; omega, fun x hx => ?_⟩, hinc⟩, fun x hx => (hPo x hx).fm⟩, p7⟩
  unfold allM at hx
  rcases List.mem_append.mp hx with hx | hx
  · obtain ⟨y, hy, hxy⟩ := List.mem_flatMap.mp hx
    exact (hPo y hy).mks x hxy
  · obtain ⟨y, hy, hxy⟩ := List.mem_flatMap.mp hx
    have := hq y hy
    simp only [List.mem_cons, List.not_mem_nil, or_false] at hxy
    rcases hxy with rfl | rfl
    · exact this.1
    · exact this.2
end DL

set_option maxRecDepth 100000
set_option linter.all false
set_option maxHeartbeats 2000000
/-! M31: the law's papers; no node where the labels tell all apart. -/
namespace DL
open PySem PySem.W PyProof.Rows L2
theorem lcF_pot {α : Type} {gg : PyData → SD → Option SD} {te : F OV} {vs : List Nat} (k : α → PyData) (D : Int → Int → SD) (P : α → PyData → Prop) : ∀ (as : List α),
    (∀ x ∈ as, ∀ g r, Pot r → ∃ t1, gg (k x) (D g r) = some t1 ∧ ∃ y g' r' t2, te t1 = some (.val y, t2) ∧ plO (.val y) = some y ∧ wipeD t2 vs = D g' r' ∧ P x y ∧ Pot r') →
    ∀ g r, Pot r → ∃ ys g' r', lcF gg fYes te vs (as.map k) (D g r) = some (ys, D g' r') ∧ ys.length = as.length ∧ (∀ q ∈ List.zip as ys, P q.1 q.2) ∧ (∀ y ∈ ys, ∃ x ∈ as, P x y) ∧ Pot r'
  | [], _, g, r, p => ⟨[], g, r, rfl, rfl, by simp, by simp, p⟩
  | x :: as, h, g, r, p => by
    obtain ⟨t1, h1, y, g1, r1, t2, h2, h3, h4, h5, p1⟩ := h x (by simp) g r p
    obtain ⟨ys, g2, r2, e, e1, e2, e3, p2⟩ := lcF_pot k D P as (fun z hz => h z (by simp [hz])) g1 r1 p1
    refine ⟨y :: ys, g2, r2, ?_, by simp [e1], ?_, ?_, p2⟩
    · rw [List.map_cons]
      unfold lcF
      rw [h1]
      simp only [Option.bind_some]
      rw [show fYes t1 = some (true, t1) from rfl]
      simp only [Option.bind_some, if_true]
      rw [h2]
      simp only [Option.bind_some]
      rw [h3]
      simp only [Option.bind_some]
      rw [h4, e]
      rfl
    · intro q hq
      rw [List.zip_cons_cons, List.mem_cons] at hq
      rcases hq with rfl | hq
      · exact h5
      · exact e2 q hq
    · intro z hz
      rcases List.mem_cons.mp hz with rfl | hz
      · exact ⟨x, by simp, h5⟩
      · obtain ⟨w, hw, pw⟩ := e3 z hz
        exact ⟨w, by simp [hw], pw⟩
def MinOk (lt : LT) (forms : List Str) (many : Nat) : Prop := ∀ cs, (∀ c ∈ cs, c ∈ lt.map (·.1)) → cs.length ≤ many → hitsAll (pairsL lt forms) cs = false
theorem f_lawpaper {lt : LT} (h : LOK lt) {forms : List Str} (hi : Inc forms) (hn : forms.length ≤ 30) (many : Nat) (hm : many ≤ 100) :
    ∀ (n : Nat) (cs : List PyData), (∀ c ∈ cs, c ∈ lt.map (·.1)) → cs.length ≤ many → many < cs.length + n →
    PS (R__law_paper n) [.list (prs (pairsL lt forms)), .list cs, .int (many : Nat)] fun x => IsNd x ∧ (MinOk lt forms many → showsN lt forms many n cs x = true)
  | 0, cs, _, h1, h2 => by omega
  | n + 1, cs, hc, h1, h2 => by
    have h16 : sizeLine = 16777216 := sizeLine_eq
    have lbl : ∀ l ∈ lt.map (·.1), IsLb l := fun l hl => by
      obtain ⟨p, hp, rfl⟩ := List.mem_map.mp hl
      exact h.lb p hp
    have hN : (pairsL lt forms).length ≤ 900 := Nat.le_trans (pairsL_len lt forms) (Nat.mul_le_mul hn hn)
    have hok := pairsL_ok h hi
    show PS (runP N__law_paper (fb__law_paper (R__law_paper n) F__law_take)) _ _
    refine ps_of fun g r p => ?_
    change W (fb__law_paper (R__law_paper n) F__law_take) [pot g r, some (.fr (.list (prs (pairsL lt forms)))), some (.fr (.list cs)), some (.fr (.int (many : Nat))), none, none, none, none, none, none] _
    unfold fb__law_paper
    -- the pairs that none of the chosen tells apart
    have key : ∀ q ∈ pairsL lt forms, fB (fCB gAny (fCons (fLc (fItems (fOp gIx (fVar 5) (fC (.int 2)))) (gN 6) fYes (fOp (gIn true) (fVar 6) (fVar 2)) [6]) fNil)) [pot g r, some (.fr (.list (prs (pairsL lt forms)))), some (.fr (.list cs)), some (.fr (.int (many : Nat))), none, some (.fr q.d), none, none, none, none] = some (q.hit cs, [pot g r, some (.fr (.list (prs (pairsL lt forms)))), some (.fr (.list cs)), some (.fr (.int (many : Nat))), none, some (.fr q.d), none, none, none, none]) := by
      intro q hq
      have lc : fLc (fItems (fOp gIx (fVar 5) (fC (.int 2)))) (gN 6) fYes (fOp (gIn true) (fVar 6) (fVar 2)) [6] [pot g r, some (.fr (.list (prs (pairsL lt forms)))), some (.fr (.list cs)), some (.fr (.int (many : Nat))), none, some (.fr q.d), none, none, none, none] = some (.val (.list (q.bt.map fun l => .bool (decide (l ∈ cs)))), [pot g r, some (.fr (.list (prs (pairsL lt forms)))), some (.fr (.list cs)), some (.fr (.int (many : Nat))), none, some (.fr q.d), none, none, none, none]) := by
        refine lc_map (fun l => .bool (decide (l ∈ cs))) (xs := q.bt) rfl rfl (fun l hl => ?_) (Nat.le_trans (hok q hq).1 (by decide))
        refine ⟨[pot g r, some (.fr (.list (prs (pairsL lt forms)))), some (.fr (.list cs)), some (.fr (.int (many : Nat))), none, some (.fr q.d), some (.fr l), none, none, none], rfl, rfl, .val (.bool (decide (l ∈ cs))), ev ?_, rfl⟩
        have := in_val (a := .list cs) ((hok q hq).2 l hl) (fun c hcm => lbl c (hc c hcm)) rfl
        simp only [W_op, W_var, List.getElem?_cons_succ, List.getElem?_cons_zero, wo_some, rdO, this]
        exact ⟨trivial, trivial⟩
      refine ev ?_
      rw [W_b, W_cb, W_cons]
      refine W_of lc ?_
      simp only [W_nil, rdOs, rdO, Option.bind_some, wo_some, gAny, boolsOf_map, List.any_map, OV.val.injEq, PyData.bool.injEq, exists_eq_left', Pr.hit]
      exact ⟨rfl, trivial⟩
    have main : fLc (fItems (fVar 1)) (gN 5) (fNot (fB (fCB gAny (fCons (fLc (fItems (fOp gIx (fVar 5) (fC (.int 2)))) (gN 6) fYes (fOp (gIn true) (fVar 6) (fVar 2)) [6]) fNil)))) (fVar 5) [5] [pot g r, some (.fr (.list (prs (pairsL lt forms)))), some (.fr (.list cs)), some (.fr (.int (many : Nat))), none, none, none, none, none, none] = some (.val (.list (((pairsL lt forms).filter fun q => !q.hit cs).map Pr.d)), [pot g r, some (.fr (.list (prs (pairsL lt forms)))), some (.fr (.list cs)), some (.fr (.int (many : Nat))), none, none, none, none, none, none]) := by
      refine lc_as (as := pairsL lt forms) Pr.d (fun q => !q.hit cs) Pr.d rfl rfl (fun q hq => ?_) (by omega)
      refine ⟨[pot g r, some (.fr (.list (prs (pairsL lt forms)))), some (.fr (.list cs)), some (.fr (.int (many : Nat))), none, some (.fr q.d), none, none, none, none], rfl, rfl, ev ?_, fun _ => ⟨.val q.d, rfl, rfl⟩⟩
      rw [W_not]
      exact W_of (key q hq) ⟨rfl, rfl⟩
    rw [W_seq, W_set]
    refine W_of main ?_
    have hmin : MinOk lt forms many → (pairsL lt forms).filter (fun q => !q.hit cs) ≠ [] := by
      intro hmo hnil
      have hf := hmo cs hc h1
      unfold hitsAll at hf
      rw [List.all_eq_false] at hf
      obtain ⟨q, hq, hq'⟩ := hf
      have : q ∈ (pairsL lt forms).filter (fun q => !q.hit cs) := List.mem_filter.mpr ⟨hq, by simpa using hq'⟩
      rw [hnil] at this
      cases this
    have hfm : ∀ q ∈ (pairsL lt forms).filter (fun q => !q.hit cs), q ∈ pairsL lt forms ∧ q.hit cs = false := fun q hq => by
      obtain ⟨a, b⟩ := List.mem_filter.mp hq
      exact ⟨a, by simpa using b⟩
    have hfl : ((pairsL lt forms).filter (fun q => !q.hit cs)).length ≤ 900 := Nat.le_trans (List.length_filter_le _ _) hN
    generalize (pairsL lt forms).filter (fun q => !q.hit cs) = fl at hmin hfm hfl
    simp only [fzO, wo_some, List.set_cons_succ, List.set_cons_zero]
    rw [W_seq, W_if]
    simp only [W_b, W_op, W_var, List.getElem?_cons_succ, List.getElem?_cons_zero, wo_some, W_lst, W_nil, plOs, rdO, eq_nil, if_true, OV.val.injEq, PyData.bool.injEq, exists_eq_left']
    by_cases hnil : fl = []
    · subst hnil
      simp only [List.map_nil, List.isEmpty_nil, if_true, W_ret, W_c, fzO, wo_some]
      exact ⟨_, g, r, rfl, rfl, ⟨.no, fun hmo => absurd rfl (hmin hmo)⟩, p⟩
    · have hb : (fl.map Pr.d).isEmpty = false := by
        cases fl with
        | nil => exact absurd rfl hnil
        | cons _ _ => rfl
      have hpos : 0 < fl.length := List.length_pos_iff.mpr hnil
      simp only [hb, Bool.false_eq_true, if_false, W_next]
      rw [W_seq, W_asg, W_op, W_var]
      simp only [List.getElem?_cons_succ, List.getElem?_cons_zero, wo_some]
      refine W_take (m := (fl.length : Nat)) (j := 0) rfl p (ev ?_) (by omega) (by omega) fun u g3 r3 hu p3 => ?_
      · simp only [W_cb, W_cons, W_nil, W_var, List.getElem?_cons_succ, List.getElem?_cons_zero, wo_some, rdOs, rdO, Option.bind_some, gLen, List.length_map]
        exact ⟨trivial, trivial⟩
      have hu' : u < fl.length := by omega
      have e1 : gIx (.list (fl.map Pr.d)) (.int (u : Nat)) = some fl[u].d := by
        rw [ix_lst (by rw [List.length_map]; exact hu'), List.getElem?_map, List.getElem?_eq_getElem hu']
        rfl
      obtain ⟨hqp, hqh⟩ := hfm _ (List.getElem_mem hu')
      generalize fl[u] = q at e1 hqp hqh
      obtain ⟨m1, m2, m3, m4, m5⟩ := pairsL_mem hi q hqp
      have hbe : (btw lt q.a q.b).isEmpty = false := by
        cases e : btw lt q.a q.b with
        | nil => exact absurd e m5
        | cons _ _ => rfl
      have hph' : (btw lt q.a q.b).any (fun l => decide (l ∈ cs)) = false := by
        unfold Pr.hit at hqh
        rw [m4] at hqh
        exact hqh
      have bl : ∀ l ∈ btw lt q.a q.b, l ∈ lt.map (·.1) := fun l hl => by
        obtain ⟨x, hx, rfl⟩ := List.mem_map.mp hl
        exact List.mem_map.mpr ⟨x, (List.mem_filter.mp hx).1, rfl⟩
      simp only [List.set_cons_zero, rdO, wo_some, e1, fzO, Pr.d, pr, gT, gsC, gN, gsN, Option.bind_some, List.set_cons_succ]
      have e4 : gEq true (.int ((cs.length : Nat) : Int)) (.int (many : Nat)) = some (.bool (decide (cs.length = many))) := by
        rw [eq_ii, if_pos rfl]
        congr 3
        exact propext (by omega)
      rw [W_seq, W_if]
      simp only [W_b, W_op, W_cb, W_cons, W_nil, W_var, List.getElem?_cons_succ, List.getElem?_cons_zero, wo_some, rdOs, rdO, Option.bind_some, gLen, e4, OV.val.injEq, PyData.bool.injEq, exists_eq_left', decide_eq_true_eq]
      by_cases hq : cs.length = many
      · rw [if_pos hq]
        simp only [W_ret, W_tup, W_cons, W_nil, W_var, List.getElem?_cons_succ, List.getElem?_cons_zero, wo_some, plOs, plO, Option.bind_some, fzO]
        refine ⟨_, g3, r3, rfl, rfl, ⟨.nd (by simp) (by simp), fun _ => ?_⟩, p3⟩
        unfold showsN
        simp [m1, m2, m3, hbe, hph', hq]
      · rw [if_neg hq]
        simp only [W_next]
        rw [W_ret, W_tup, W_cons, W_var]
        simp only [List.getElem?_cons_succ, List.getElem?_cons_zero, wo_some]
        rw [W_cons, W_var]
        simp only [List.getElem?_cons_succ, List.getElem?_cons_zero, wo_some]
        rw [W_cons, W_cb, W_cons, W_lc]
        simp only [W_items, W_var, List.getElem?_cons_succ, List.getElem?_cons_zero, wo_some, fzO, seqOf]
        refine ⟨rfl, ?_⟩
        have hbl := btw_len h q.a q.b
        obtain ⟨ys, g4, r4, el, l1, l2, l3, p4⟩ := lcF_pot (gg := gN 6) (te := fCallP (R__law_paper n) (fCons (fVar 0) (fCons (fVar 1) (fCons (fOp gCatL (fVar 2) (fLst (fCons (fVar 6) fNil))) (fCons (fVar 3) fNil))))) (vs := [6]) id
          (fun g r => [pot g r, some (.fr (.list (prs (pairsL lt forms)))), some (.fr (.list cs)), some (.fr (.int (many : Nat))), some (.fr (.list (fl.map Pr.d))), none, none, some (.fr (.str q.a)), some (.fr (.str q.b)), some (.fr (.list q.bt))])
          (fun l x => IsNd x ∧ (MinOk lt forms many → showsN lt forms many n (cs ++ [l]) x = true)) q.bt (fun l hl g5 r5 p5 => by
            have hl' : l ∈ btw lt q.a q.b := m4 ▸ hl
            have lb := lbl l (bl l hl')
            have ih := f_lawpaper h hi hn many hm n (cs ++ [l]) (fun c hcm => by
              rcases List.mem_append.mp hcm with z | z
              · exact hc c z
              · rw [List.mem_singleton.mp z]; exact bl l hl') (by rw [List.length_append]; simp; omega) (by rw [List.length_append]; simp; omega)
            have hcat : gCatL (.list cs) (.list [l]) = some (.list (cs ++ [l])) := by
              show (if cs.length + 1 ≤ sizeLine then _ else _) = _
              rw [if_pos (by omega)]
            refine ⟨[pot g5 r5, some (.fr (.list (prs (pairsL lt forms)))), some (.fr (.list cs)), some (.fr (.int (many : Nat))), some (.fr (.list (fl.map Pr.d))), none, some (.fr l), some (.fr (.str q.a)), some (.fr (.str q.b)), some (.fr (.list q.bt))], rfl, ?_⟩
            obtain ⟨⟨o, t2⟩, e, y, g', r', e5, e6, e7, e8, e9⟩ : W (fCallP (R__law_paper n) (fCons (fVar 0) (fCons (fVar 1) (fCons (fOp gCatL (fVar 2) (fLst (fCons (fVar 6) fNil))) (fCons (fVar 3) fNil))))) [pot g5 r5, some (.fr (.list (prs (pairsL lt forms)))), some (.fr (.list cs)), some (.fr (.int (many : Nat))), some (.fr (.list (fl.map Pr.d))), none, some (.fr l), some (.fr (.str q.a)), some (.fr (.str q.b)), some (.fr (.list q.bt))] (fun o t2 => ∃ y g' r', o = .val y ∧ plO (.val y) = some y ∧ wipeD t2 [6] = [pot g' r', some (.fr (.list (prs (pairsL lt forms)))), some (.fr (.list cs)), some (.fr (.int (many : Nat))), some (.fr (.list (fl.map Pr.d))), none, none, some (.fr (.str q.a)), some (.fr (.str q.b)), some (.fr (.list q.bt))] ∧ (IsNd y ∧ (MinOk lt forms many → showsN lt forms many n (cs ++ [l]) y = true)) ∧ Pot r') := by
              refine W_callP (fun y => IsNd y ∧ (MinOk lt forms many → showsN lt forms many n (cs ++ [l]) y = true)) ⟨_, _, rfl⟩ ?_
              simp only [W_cons, W_nil, W_op, W_lst, W_var, List.getElem?_cons_succ, List.getElem?_cons_zero, wo_some, plOs, lb.plain, Option.bind_some, rdO, hcat]
              refine ⟨_, g5, r5, rfl, rfl, p5, ih, ?_⟩
              intro z g' r' pz p'
              exact ⟨z, g', r', rfl, pz.1.ndic, rfl, pz, p'⟩
            dsimp only at e e5 e7
            subst e5
            exact ⟨y, g', r', t2, e, e6, e7, e8, e9⟩) g3 r3 p3
        rw [List.map_id] at el
        have hwp : wipeD [pot g3 r3, some (.fr (.list (prs (pairsL lt forms)))), some (.fr (.list cs)), some (.fr (.int (many : Nat))), some (.fr (.list (fl.map Pr.d))), none, none, some (.fr (.str q.a)), some (.fr (.str q.b)), some (.fr (.list q.bt))] [6] = [pot g3 r3, some (.fr (.list (prs (pairsL lt forms)))), some (.fr (.list cs)), some (.fr (.int (many : Nat))), some (.fr (.list (fl.map Pr.d))), none, none, some (.fr (.str q.a)), some (.fr (.str q.b)), some (.fr (.list q.bt))] := rfl
        have el' : lcF (gN 6) fYes (fCallP (R__law_paper n) (fCons (fVar 0) (fCons (fVar 1) (fCons (fOp gCatL (fVar 2) (fLst (fCons (fVar 6) fNil))) (fCons (fVar 3) fNil))))) [6] q.bt (wipeD [pot g3 r3, some (.fr (.list (prs (pairsL lt forms)))), some (.fr (.list cs)), some (.fr (.int (many : Nat))), some (.fr (.list (fl.map Pr.d))), none, none, some (.fr (.str q.a)), some (.fr (.str q.b)), some (.fr (.list q.bt))] [6]) = some (ys, [pot g4 r4, some (.fr (.list (prs (pairsL lt forms)))), some (.fr (.list cs)), some (.fr (.int (many : Nat))), some (.fr (.list (fl.map Pr.d))), none, none, some (.fr (.str q.a)), some (.fr (.str q.b)), some (.fr (.list q.bt))]) := el
        refine ⟨_, el', ?_, ?_⟩
        · dsimp only
          rw [l1, m4]; omega
        · simp only [W_nil, rdOs, rdO, Option.bind_some, wo_some, gTuple, plOs, plO, fzO]
          refine ⟨_, g4, r4, rfl, rfl, ⟨.nd (fun x hx => ?_) (by rw [l1, m4]; omega), fun hmo => ?_⟩, p4⟩
          · obtain ⟨l, _, hx'⟩ := l3 x hx
            exact hx'.1
          · unfold showsN
            have zz : (List.zip (btw lt q.a q.b) ys).all (fun z => showsN lt forms many n (cs ++ [z.1]) z.2) = true := by
              refine List.all_eq_true.mpr fun z hz => ?_
              rw [← m4] at hz
              exact (l2 z hz).2 hmo
            have hyl : ys.length = (btw lt q.a q.b).length := by rw [l1, m4]
            simp [m1, m2, m3, hbe, hph', hq, zz, hyl]
/-! ### no node -/
theorem pairsL_has {lt : LT} : ∀ {fs : List Str}, Inc fs → ∀ {a b : Str}, a ∈ fs → b ∈ fs → a.cps.toList < b.cps.toList → btw lt a b ≠ [] → (⟨a, b, btw lt a b⟩ : Pr) ∈ pairsL lt fs
  | [], _, a, b, ha, _, _, _ => by cases ha
  | c :: r, hi, a, b, ha, hb, hab, hne => by
    obtain ⟨h1, h2⟩ := List.pairwise_cons.mp hi
    simp only [pairsL, List.mem_append, List.mem_filterMap]
    rcases List.mem_cons.mp ha with rfl | ha'
    · rcases List.mem_cons.mp hb with rfl | hb'
      · exact absurd hab (List.lt_irrefl _)
      · exact .inl ⟨b, hb', by unfold prOf; rw [if_neg hne]⟩
    · rcases List.mem_cons.mp hb with rfl | hb'
      · have := h1 a ha'
        exact absurd (List.lt_trans hab this) (List.lt_irrefl _)
      · exact .inr (pairsL_has h2 ha' hb' hab hne)
theorem shows_no {lt : LT} {forms : List Str} (hi : Inc forms) {H : List PyData} (hH : hitsAll (pairsL lt forms) H = true) {many : Nat} (hm : H.length ≤ many) : ∀ (n : Nat) (cs : List PyData) (x : PyData), cs.Nodup → (∀ c ∈ cs, c ∈ H) → IsNd x → showsN lt forms many n cs x = false
  | 0, _, _, _, _, _ => rfl
  | n + 1, cs, x, nd, hc, hx => by
    cases hx with
    | no => rfl
    | @nd a b sub hs hl =>
      cases hh : showsN lt forms many (n + 1) cs (.tuple [.str a, .str b, .tuple sub]) with
      | false => rfl
      | true =>
        exfalso
        unfold showsN at hh
        simp only [Bool.and_eq_true, decide_eq_true_eq, Bool.not_eq_true', List.any_eq_false] at hh
        obtain ⟨ha, hb, hab, hne, hno, hrest⟩ := hh
        have hne' : btw lt a b ≠ [] := fun e => by rw [e] at hne; cases hne
        have hp := List.all_eq_true.mp hH _ (pairsL_has hi ha hb hab hne')
        unfold Pr.hit at hp
        obtain ⟨l, hl1, hl2⟩ := List.any_eq_true.mp hp
        have hlH : l ∈ H := of_decide_eq_true hl2
        have hlc : l ∉ cs := hno l hl1
        have nd2 : (l :: cs).Nodup := List.nodup_cons.mpr ⟨hlc, nd⟩
        have hle := perm_len nd2 (m := H) fun z hz => by
          rcases List.mem_cons.mp hz with rfl | hz
          · exact hlH
          · exact hc z hz
        rw [List.length_cons] at hle
        rw [if_neg (by omega)] at hrest
        simp only [Bool.and_eq_true, decide_eq_true_eq, List.all_eq_true] at hrest
        obtain ⟨hlen, hall⟩ := hrest
        obtain ⟨i, hi', e⟩ := List.mem_iff_getElem.mp hl1
        have hi2 : i < sub.length := by rw [hlen]; exact hi'
        have hz : (l, sub[i]) ∈ List.zip (btw lt a b) sub := by
          rw [List.mem_iff_getElem]
          refine ⟨i, by rw [List.length_zip]; omega, ?_⟩
          rw [List.getElem_zip, e]
        have h1 := hall _ hz
        have h2 := shows_no hi hH hm n (cs ++ [l]) sub[i] (by
          rw [List.nodup_append]
          refine ⟨nd, by simp, fun x hx y hy => ?_⟩
          rw [List.mem_singleton.mp hy]
          exact fun e => hlc (e ▸ hx)) (fun c hcm => by
            rcases List.mem_append.mp hcm with z | z
            · exact hc c z
            · rw [List.mem_singleton.mp z]; exact hlH) (hs _ (List.getElem_mem hi2))
        rw [h2] at h1
        cases h1
end DL

set_option maxRecDepth 100000
set_option linter.all false
set_option maxHeartbeats 2000000
/-! M32: a page more changes nothing (mathematics). -/
namespace DL
open PySem PySem.W PyProof.Rows L2
theorem has_self (p : PyData × List Str) (a : Str) : has p a a = false := by unfold has; simp
theorem has_sym (p : PyData × List Str) (a b : Str) : has p a b = has p b a := by
  unfold has
  cases decide (a ∈ p.2) <;> cases decide (b ∈ p.2) <;> rfl
/-- labels tell all apart, said without pairs -/
def TellT (lt : LT) (fs : List Str) (cs : List PyData) : Prop := ∀ a ∈ fs, ∀ b ∈ fs, (∃ p ∈ lt, has p a b = true) → ∃ p ∈ lt, has p a b = true ∧ p.1 ∈ cs
theorem btw_mem {lt : LT} {a b : Str} {l : PyData} : l ∈ btw lt a b ↔ ∃ p ∈ lt, has p a b = true ∧ p.1 = l := by
  unfold btw
  rw [List.mem_map]
  constructor
  · rintro ⟨p, hp, e⟩
    obtain ⟨h1, h2⟩ := List.mem_filter.mp hp
    exact ⟨p, h1, h2, e⟩
  · rintro ⟨p, h1, h2, e⟩
    exact ⟨p, List.mem_filter.mpr ⟨h1, h2⟩, e⟩
theorem str_tri (a b : Str) : a.cps.toList < b.cps.toList ∨ a = b ∨ b.cps.toList < a.cps.toList := by
  cases h1 : dataLt (.str a) (.str b) with
  | true => rw [dataLt_str] at h1; exact .inl (of_decide_eq_true h1)
  | false =>
    cases h2 : dataLt (.str b) (.str a) with
    | true => rw [dataLt_str] at h2; exact .inr (.inr (of_decide_eq_true h2))
    | false =>
      have := lt_tot (x := .str a) (y := .str b) rfl rfl h1 h2
      injection this with e
      exact .inr (.inl e)
theorem hits_tell {lt : LT} {fs : List Str} (hi : Inc fs) (cs : List PyData) : hitsAll (pairsL lt fs) cs = true ↔ TellT lt fs cs := by
  have lt_case : ∀ (a b : Str), a ∈ fs → b ∈ fs → a.cps.toList < b.cps.toList → hitsAll (pairsL lt fs) cs = true → (∃ p ∈ lt, has p a b = true) → ∃ p ∈ lt, has p a b = true ∧ p.1 ∈ cs := by
    intro a b ha hb hab hh ⟨p, hp, hpab⟩
    have hne : btw lt a b ≠ [] := fun e => by
      have : p.1 ∈ btw lt a b := btw_mem.mpr ⟨p, hp, hpab, rfl⟩
      rw [e] at this; cases this
    have := List.all_eq_true.mp hh _ (pairsL_has hi ha hb hab hne)
    unfold Pr.hit at this
    obtain ⟨l, hl, hl2⟩ := List.any_eq_true.mp this
    obtain ⟨q, hq, h1, h2⟩ := btw_mem.mp hl
    exact ⟨q, hq, h1, h2 ▸ of_decide_eq_true hl2⟩
  constructor
  · intro hh a ha b hb hp
    rcases str_tri a b with h | rfl | h
    · exact lt_case a b ha hb h hh hp
    · obtain ⟨p, _, hp⟩ := hp
      rw [has_self] at hp; cases hp
    · have hp' : ∃ p ∈ lt, has p b a = true := by
        obtain ⟨p, h1, h2⟩ := hp
        exact ⟨p, h1, by rw [has_sym]; exact h2⟩
      obtain ⟨p, h1, h2, h3⟩ := lt_case b a hb ha h hh hp'
      exact ⟨p, h1, by rw [has_sym]; exact h2, h3⟩
  · intro hT
    unfold hitsAll
    refine List.all_eq_true.mpr fun p hp => ?_
    obtain ⟨m1, m2, m3, m4, m5⟩ := pairsL_mem hi p hp
    obtain ⟨l, hl⟩ := List.exists_mem_of_ne_nil _ m5
    obtain ⟨q, hq, h1, h2⟩ := btw_mem.mp hl
    obtain ⟨q', hq', h3, h4⟩ := hT _ m1 _ m2 ⟨q, hq, h1⟩
    unfold Pr.hit
    rw [m4]
    exact List.any_eq_true.mpr ⟨q'.1, btw_mem.mpr ⟨q', hq', h3, rfl⟩, decide_eq_true h4⟩
/-- two tables that tell the same, with f taking the forms of one to those of the other -/
structure Like (lt' lt : LT) (fs' fs : List Str) (f : Str → Str) : Prop where
  im : ∀ a ∈ fs', f a ∈ fs
  fix : ∀ a ∈ fs, a ∈ fs' ∧ f a = a
  to : ∀ p' ∈ lt', ∃ p ∈ lt, p.1 = p'.1 ∧ ∀ a ∈ fs', (a ∈ p'.2 ↔ f a ∈ p.2)
  back : ∀ p ∈ lt, ∃ p' ∈ lt', p.1 = p'.1 ∧ ∀ a ∈ fs', (a ∈ p'.2 ↔ f a ∈ p.2)
theorem has_like {p' p : PyData × List Str} {fs' : List Str} {f : Str → Str} (h : ∀ a ∈ fs', (a ∈ p'.2 ↔ f a ∈ p.2)) {a b : Str} (ha : a ∈ fs') (hb : b ∈ fs') : has p' a b = has p (f a) (f b) := by
  unfold has
  rw [show decide (a ∈ p'.2) = decide (f a ∈ p.2) from by simp only [h a ha], show decide (b ∈ p'.2) = decide (f b ∈ p.2) from by simp only [h b hb]]
theorem Like.tell {lt' lt : LT} {fs' fs : List Str} {f : Str → Str} (L : Like lt' lt fs' fs f) (cs : List PyData) : TellT lt' fs' cs ↔ TellT lt fs cs := by
  constructor
  · intro hT a ha b hb ⟨p, hp, hpab⟩
    obtain ⟨ha', ea⟩ := L.fix a ha
    obtain ⟨hb', eb⟩ := L.fix b hb
    obtain ⟨p', hp', _, h2⟩ := L.back p hp
    have e := has_like h2 ha' hb'
    rw [ea, eb] at e
    obtain ⟨q', hq', h3, h4⟩ := hT a ha' b hb' ⟨p', hp', by rw [e]; exact hpab⟩
    obtain ⟨q, hq, h5, h6⟩ := L.to q' hq'
    have e2 := has_like h6 ha' hb'
    rw [ea, eb] at e2
    exact ⟨q, hq, by rw [← e2]; exact h3, by rw [h5]; exact h4⟩
  · intro hT a ha b hb ⟨p', hp', hpab⟩
    obtain ⟨p, hp, _, h2⟩ := L.to p' hp'
    have e := has_like h2 ha hb
    obtain ⟨q, hq, h3, h4⟩ := hT _ (L.im a ha) _ (L.im b hb) ⟨p, hp, by rw [← e]; exact hpab⟩
    obtain ⟨q', hq', h5, h6⟩ := L.back q hq
    have e2 := has_like h6 ha hb
    exact ⟨q', hq', by rw [e2]; exact h3, by rw [← h5]; exact h4⟩
theorem Like.chosen {lt' lt : LT} {fs' fs : List Str} {f : Str → Str} (L : Like lt' lt fs' fs f) (h' : Inc fs') (h : Inc fs) (e : lt'.map (·.1) = lt.map (·.1)) : chosen lt' fs' = chosen lt fs := by
  have key : hitsAll (pairsL lt' fs') = hitsAll (pairsL lt fs) := by
    funext cs
    rw [Bool.eq_iff_iff, hits_tell h', hits_tell h, L.tell]
  unfold DL.chosen fewest
  rw [key, e]
theorem nodup_key {α β : Type} [DecidableEq β] {k : α → β} : ∀ {l : List α}, (l.map k).Nodup → ∀ {a b : α}, a ∈ l → b ∈ l → k a = k b → a = b
  | [], _, _, _, h, _, _ => by cases h
  | c :: r, hn, a, b, ha, hb, e => by
    rw [List.map_cons, List.nodup_cons] at hn
    rcases List.mem_cons.mp ha with rfl | ha'
    · rcases List.mem_cons.mp hb with rfl | hb'
      · rfl
      · exact absurd (List.mem_map.mpr ⟨b, hb', e.symm⟩) hn.1
    · rcases List.mem_cons.mp hb with rfl | hb'
      · exact absurd (List.mem_map.mpr ⟨a, ha', e⟩) hn.1
      · exact nodup_key hn.2 ha' hb' e
theorem Inc.nodup {fs : List Str} (h : Inc fs) : fs.Nodup := h.imp fun {a b} h e => by subst e; exact List.lt_irrefl _ h
/-- bearers of a label that looks only at marks and paths -/
theorem bear_like {pages pages' : List Page} {g0 mo : Page} (P : Page → Bool) (hn' : (pages'.map (·.form)).Nodup) (hm : ∀ g, g ∈ pages' ↔ g ∈ pages ∨ g = mo) (h0 : g0 ∈ pages) (hP : P mo = P g0) (hn : (pages.map (·.form)).Nodup) (hnew : mo.form ∉ pages.map (·.form)) :
    ∀ a ∈ pages'.map (·.form), (a ∈ (pages'.filter P).map (·.form) ↔ (if a = mo.form then g0.form else a) ∈ (pages.filter P).map (·.form)) := by
  intro a ha
  have hmem' : ∀ g ∈ pages', (g.form ∈ (pages'.filter P).map (·.form) ↔ P g = true) := fun g hg => by
    constructor
    · intro h
      obtain ⟨x, hx, e⟩ := List.mem_map.mp h
      obtain ⟨x1, x2⟩ := List.mem_filter.mp hx
      rw [← nodup_key hn' x1 hg e]; exact x2
    · intro h; exact List.mem_map.mpr ⟨g, List.mem_filter.mpr ⟨hg, h⟩, rfl⟩
  have hmem : ∀ g ∈ pages, (g.form ∈ (pages.filter P).map (·.form) ↔ P g = true) := fun g hg => by
    constructor
    · intro h
      obtain ⟨x, hx, e⟩ := List.mem_map.mp h
      obtain ⟨x1, x2⟩ := List.mem_filter.mp hx
      rw [← nodup_key hn x1 hg e]; exact x2
    · intro h; exact List.mem_map.mpr ⟨g, List.mem_filter.mpr ⟨hg, h⟩, rfl⟩
  obtain ⟨g, hg, rfl⟩ := List.mem_map.mp ha
  rw [hmem' g hg]
  by_cases c : g.form = mo.form
  · rw [if_pos c, hmem g0 h0]
    have : g = mo := by
      have hmo : mo ∈ pages' := (hm mo).mpr (.inr rfl)
      exact nodup_key hn' hg hmo c
    rw [this, hP]
  · rw [if_neg c]
    have hg' : g ∈ pages := by
      rcases (hm g).mp hg with h | rfl
      · exact h
      · exact absurd rfl c
    rw [hmem g hg']
theorem like_ok {L : Lst} {pages' : List Page} {S : List Str} {g0 mo : Page} (hn' : (pages'.map (·.form)).Nodup) (hm : ∀ g, g ∈ pages' ↔ g ∈ L.pages ∨ g = mo) (h0 : g0 ∈ L.pages) (hmk : mo.marks = g0.marks) (hpa : mo.paths = g0.paths) (hn : L.forms.Nodup) (hnew : mo.form ∉ L.forms) :
    Like (ltOf ⟨L.folders, pages', L.pairs⟩ S) (ltOf L S) (pages'.map (·.form)) L.forms (fun a => if a = mo.form then g0.form else a) := by
  have hforms : ∀ a, a ∈ pages'.map (·.form) ↔ a ∈ L.forms ∨ a = mo.form := fun a => by
    unfold Lst.forms
    rw [List.mem_map, List.mem_map]
    constructor
    · rintro ⟨g, hg, rfl⟩
      rcases (hm g).mp hg with h | rfl
      · exact .inl ⟨g, h, rfl⟩
      · exact .inr rfl
    · rintro (⟨g, hg, rfl⟩ | rfl)
      · exact ⟨g, (hm g).mpr (.inl hg), rfl⟩
      · exact ⟨mo, (hm mo).mpr (.inr rfl), rfl⟩
  have hb := fun (P : Page → Bool) (hP : P mo = P g0) => bear_like P hn' hm h0 hP hn hnew
  refine ⟨fun a ha => ?_, fun a ha => ⟨(hforms a).mpr (.inl ha), ?_⟩, fun p hp => ?_, fun p hp => ?_⟩
  · by_cases c : a = mo.form
    · rw [if_pos c]; exact List.mem_map.mpr ⟨g0, h0, rfl⟩
    · rw [if_neg c]; exact ((hforms a).mp ha).resolve_right c
  · have hne : ¬ a = mo.form := fun e => hnew (e ▸ ha)
    rw [if_neg hne]
  · unfold ltOf ltF ltM at hp ⊢
    rcases List.mem_append.mp hp with hp | hp
    · obtain ⟨q, hq, rfl⟩ := List.mem_map.mp hp
      exact ⟨(lbF q, atP L.pages q), List.mem_append.mpr (.inl (List.mem_map.mpr ⟨q, hq, rfl⟩)), rfl, hb (fun g => decide (q ∈ g.paths)) (by rw [hpa])⟩
    · obtain ⟨q, hq, rfl⟩ := List.mem_map.mp hp
      exact ⟨(lbM q, mkP L.pages L.pairs q), List.mem_append.mpr (.inr (List.mem_map.mpr ⟨q, hq, rfl⟩)), rfl, hb (fun g => g.marks.any fun x => decide (x ∈ insideL L.pairs q)) (by rw [hmk])⟩
  · unfold ltOf ltF ltM at hp ⊢
    rcases List.mem_append.mp hp with hp | hp
    · obtain ⟨q, hq, rfl⟩ := List.mem_map.mp hp
      exact ⟨(lbF q, atP pages' q), List.mem_append.mpr (.inl (List.mem_map.mpr ⟨q, hq, rfl⟩)), rfl, hb (fun g => decide (q ∈ g.paths)) (by rw [hpa])⟩
    · obtain ⟨q, hq, rfl⟩ := List.mem_map.mp hp
      exact ⟨(lbM q, mkP pages' L.pairs q), List.mem_append.mpr (.inr (List.mem_map.mpr ⟨q, hq, rfl⟩)), rfl, hb (fun g => g.marks.any fun x => decide (x ∈ insideL L.pairs q)) (by rw [hmk])⟩
end DL

set_option maxRecDepth 100000
set_option linter.all false
set_option maxHeartbeats 2000000
/-! M33: _law_like_right. -/
namespace DL
open PySem PySem.W PyProof.Rows L2
theorem pathsD_inj {a b : List (List Str)} (h : a.map pathD = b.map pathD) : a = b := (List.map_inj_right (fun x y e => path_inj e)).mp h
theorem page_inj {a b : Page} (h : a.d = b.d) : a = b := by
  unfold Page.d at h
  simp only [PyData.tuple.injEq, List.cons.injEq, PyData.str.injEq, and_true] at h
  obtain ⟨h1, h2, h3, h4⟩ := h
  cases a; cases b
  dsimp only at h1 h2 h3 h4
  rw [h1, h2, tx_inj h3, pathsD_inj h4]
theorem up_of_le {xs : List PyData} (h : xs.Pairwise fun a b => dataLt b a = false) (hn : xs.Nodup) (hk : ∀ x ∈ xs, isKey x = true) : Up xs := by
  have h3 : xs.Pairwise fun a b => a ∈ xs ∧ b ∈ xs := List.pairwise_iff_forall_sublist.mpr fun {a b} s => ⟨s.subset (by simp), s.subset (by simp)⟩
  refine ((h.and hn).and h3).imp fun {a b} h => ?_
  obtain ⟨⟨e1, e2⟩, e3, e4⟩ := h
  cases e : dataLt a b with
  | true => rfl
  | false => exact absurd (lt_tot (hk a e3) (hk b e4) e e1) e2
/-- pages sorted by their forms -/
theorem sort_pages {ps : List Page} (hn : (ps.map (·.form)).Nodup) : ∃ qs : List Page, (ps.map Page.d).mergeSort (dataLe false key0) = qs.map Page.d ∧ Inc (qs.map (·.form)) ∧ (∀ g, g ∈ qs ↔ g ∈ ps) ∧ qs.length = ps.length := by
  have perm := List.mergeSort_perm (ps.map Page.d) (dataLe false key0)
  obtain ⟨qs, e, hq⟩ := ex_map (f := Page.d) (P := fun g => g ∈ ps) (xs := (ps.map Page.d).mergeSort (dataLe false key0)) (fun x hx => by
    obtain ⟨g, hg, rfl⟩ := List.mem_map.mp (perm.mem_iff.mp hx)
    exact ⟨g, hg, rfl⟩)
  have key : ∀ qs : List Page, (qs.map Page.d).map key0 = tx (qs.map (·.form)) := fun qs => by
    show _ = (qs.map (·.form)).map PyData.str
    rw [List.map_map, List.map_map]
    rfl
  have nd0 : ((ps.map Page.d).map key0).Nodup := by
    rw [key]
    exact List.Pairwise.map PyData.str (fun a b n e => n (by injection e)) hn
  have nd : (tx (qs.map (·.form))).Nodup := by
    rw [← key, ← e]
    exact ((perm.map key0).nodup_iff).mpr nd0
  have srt : ((ps.map Page.d).mergeSort (dataLe false key0)).Pairwise (fun a b => dataLe false key0 a b = true) := sort_pairwise (sortLe_total (listOrd itemOrd) false _) _
  rw [e] at srt
  have srt2 : (tx (qs.map (·.form))).Pairwise fun a b => dataLt b a = false := by
    rw [← key]
    refine List.Pairwise.map key0 (fun a b h => ?_) srt
    have : (!dataLt (key0 b) (key0 a)) = true := h
    simpa using this
  have up : Up (tx (qs.map (·.form))) := up_of_le srt2 nd fun x hx => by
    obtain ⟨s, _, rfl⟩ := List.mem_map.mp hx; rfl
  refine ⟨qs, e, inc_of_up up, fun g => ⟨hq g, fun hg => ?_⟩, ?_⟩
  · have : g.d ∈ qs.map Page.d := by
      rw [← e]
      exact perm.mem_iff.mpr (List.mem_map.mpr ⟨g, hg, rfl⟩)
    obtain ⟨g', hg', e'⟩ := List.mem_map.mp this
    exact page_inj e' ▸ hg'
  · have := congrArg List.length e
    rw [List.length_mergeSort, List.length_map, List.length_map] at this
    exact this.symm
theorem W_key0 {f : F OV} {d : SD} {Q : OV → SD → Prop} (h : W f d fun o d1 => ∃ ds, fzO o = some (.tuple ds) ∧ ds.all isHd = true ∧ ds.length ≤ sizeLine ∧ Q (.val (.list (ds.mergeSort (dataLe false key0)))) d1) : W (fKey0 f) d Q := by
  obtain ⟨⟨o, d1⟩, e, ds, e1, h1, h2, q⟩ := h
  refine W_of (d' := d1) ?_ q
  unfold fKey0
  rw [e]
  dsimp only [Option.bind_some] at e1 ⊢
  rw [e1]
  exact if_pos ⟨h1, h2⟩
theorem W_make {f : F (List OV)} {d : SD} {Q : OV → SD → Prop} (h : W f d fun os d1 => ∃ a b c, plOs os = some [a, b, c] ∧ Q (.val (lis a b c)) d1) : W (fMake f) d Q := by
  obtain ⟨⟨os, d1⟩, e, a, b, c, e1, q⟩ := h
  refine W_of (d' := d1) ?_ q
  unfold fMake
  rw [e]
  dsimp only [Option.bind_some] at e1 ⊢
  rw [e1]
abbrev bbb : Str := timesS "b" 70
def moForm : Str := "leaf://a." ++ bbb
theorem bbb_ok : gMulS (.str "b") (.int 70) = some (.str bbb) := by
  show (if _ then _ else _) = _
  rw [if_pos (by decide +kernel)]
theorem bbb_len : bbb.length = 70 := by decide +kernel
theorem moForm_len : moForm.length = 79 := by decide +kernel
theorem moCat : gCatS (.str "leaf://a.") (.str bbb) = some (.str moForm) := cat_ok (by rw [bbb_len]; decide +kernel)
theorem keys_lb {cs : List PyData} (h : ∀ c ∈ cs, IsLb c) : areKeys cs = true ∧ PyData.depthAll cs ≤ 4 := by
  induction cs with
  | nil => exact ⟨by simp [areKeys], by simp [PyData.depthAll]⟩
  | cons c r ih =>
    obtain ⟨h1, h2⟩ := ih fun x hx => h x (by simp [hx])
    have h3 := (h c (by simp)).key
    have h4 := (h c (by simp)).depth
    refine ⟨by simp [areKeys, h1, h3], ?_⟩
    simp only [PyData.depthAll]
    omega
theorem eq_same {cs : List PyData} (h : ∀ c ∈ cs, IsLb c) : gEq true (.tuple cs) (.tuple cs) = some (.bool true) := by
  obtain ⟨h1, h2⟩ := keys_lb h
  unfold gEq
  rw [if_pos ⟨rfl, rfl, by simp only [PyData.depth]; omega⟩]
  have k : isKey (.tuple cs) = true := by simpa [isKey] using h1
  rw [key_eqv' k k]
  simp
theorem f_like {L : Lst} (h : LstOk L) (hf : ∀ g ∈ L.pages, g.form.length ≤ 76) {S : List Str} (u : Up (tx S)) (mem : ∀ x, x ∈ S ↔ x ∈ allM L.pages L.pairs) : F__law_like_right [L.fD, L.pD, L.qD, .tuple (chosen (ltOf L S) L.forms)] = some (.bool true) := by
  have h16 : sizeLine = 16777216 := sizeLine_eq
  obtain ⟨ok, h7⟩ := lt_ok h u mem
  have hlb : ∀ c ∈ chosen (ltOf L S) L.forms, IsLb c := fun c hc => by
    have hsub : (chosen (ltOf L S) L.forms).Sublist ((ltOf L S).map (·.1)) := fewest_sub
    obtain ⟨p, hp, rfl⟩ := List.mem_map.mp (hsub.subset hc)
    exact ok.lb p hp
  refine runF_of ?_
  change W (fb__law_like_right F_telling) [some (.fr L.fD), some (.fr (.tuple (L.pages.map Page.d))), some (.fr L.qD), some (.fr (.tuple (chosen (ltOf L S) L.forms))), none] _
  unfold fb__law_like_right
  rw [W_seq, W_if]
  have hgt : gGt (.int ((L.pages.length : Nat) : Int)) (.int 15) = some (.bool (decide (15 < L.pages.length))) := by
    show some (PyData.bool (decide ((15 : Int) < (L.pages.length : Nat)))) = _
    congr 3
    exact propext (by omega)
  simp only [W_or, W_b, W_op, W_cb, W_cons, W_nil, W_tup, plOs, W_c, W_var, List.getElem?_cons_succ, List.getElem?_cons_zero, wo_some, rdOs, rdO, Option.bind_some, gLen, List.length_map, eq_tnil, hgt, OV.val.injEq, PyData.bool.injEq, exists_eq_left', if_true]
  by_cases hnil : L.pages = []
  · rw [hnil]
    simp only [List.map_nil, List.isEmpty_nil, if_true, W_ret, W_c, fzO, wo_some]
  · have hb : (L.pages.map Page.d).isEmpty = false := by
      cases e : L.pages with
      | nil => exact absurd e hnil
      | cons _ _ => rfl
    simp only [hb, Bool.false_eq_true, if_false]
    by_cases h15 : 15 < L.pages.length
    · simp only [h15, decide_true, if_true, W_ret, W_c, fzO, wo_some]
    · simp only [h15, decide_false, Bool.false_eq_true, if_false, W_next]
      obtain ⟨g0, rest, hpg⟩ : ∃ g0 rest, L.pages = g0 :: rest := by
        cases e : L.pages with
        | nil => exact absurd e hnil
        | cons a r => exact ⟨a, r, rfl⟩
      have h0 : g0 ∈ L.pages := by rw [hpg]; simp
      have e0 : gIx (.tuple (L.pages.map Page.d)) (.int 0) = some g0.d := by
        rw [hpg]
        exact (ix_seq (xs := (g0 :: rest).map Page.d) (t := 0) (by simp)).trans rfl
      rw [W_seq, W_set]
      simp only [W_tup, W_cons, W_nil, W_op, W_c, W_var, List.getElem?_cons_succ, List.getElem?_cons_zero, wo_some, rdO, bbb_ok, moCat, e0, ix2, ix3, plOs, plO, Option.bind_some, fzO, List.set_cons_succ, List.set_cons_zero]
      have hmo : (PyData.tuple [.str moForm, .none, .tuple (tx g0.marks), .tuple (g0.paths.map pathD)]) = (⟨moForm, .none, g0.marks, g0.paths⟩ : Page).d := rfl
      rw [hmo]
      have hnewf : moForm ∉ L.forms := fun hc => by
        obtain ⟨g, hg, e⟩ := List.mem_map.mp hc
        have := hf g hg
        rw [e, moForm_len] at this
        omega
      have hnd : L.forms.Nodup := h.inc.nodup
      have hnd' : ((L.pages ++ [(⟨moForm, .none, g0.marks, g0.paths⟩ : Page)]).map (·.form)).Nodup := by
        rw [List.map_append, List.nodup_append]
        refine ⟨hnd, by simp, fun a ha b hb => ?_⟩
        have : b = moForm := by simpa using hb
        rw [this]
        exact fun e => hnewf (e ▸ ha)
      obtain ⟨qs, eq, hqi, hqm, hql⟩ := sort_pages hnd'
      have hcat : gCatT (.tuple (L.pages.map Page.d)) (.tuple [(⟨moForm, .none, g0.marks, g0.paths⟩ : Page).d]) = some (.tuple ((L.pages ++ [(⟨moForm, .none, g0.marks, g0.paths⟩ : Page)]).map Page.d)) := by
        show (if _ then _ else _) = _
        have := h.pn
        rw [if_pos (by simp only [List.length_map, List.length_cons, List.length_nil]; omega), List.map_append]
        rfl
      have hmem : ∀ g, g ∈ qs ↔ g ∈ L.pages ∨ g = (⟨moForm, .none, g0.marks, g0.paths⟩ : Page) := fun g => by
        rw [hqm, List.mem_append, List.mem_singleton]
      have hqn : (qs.map (·.form)).Nodup := hqi.nodup
      -- the listing with a page more
      have hall : ∀ x, x ∈ allM qs L.pairs ↔ x ∈ allM L.pages L.pairs := fun x => by
        unfold allM
        rw [List.mem_append, List.mem_append]
        simp only [List.mem_flatMap (l := qs), List.mem_flatMap (l := L.pages)]
        constructor
        · rintro (⟨g, hg, hx⟩ | hx)
          · rcases (hmem g).mp hg with hg | rfl
            · exact .inl ⟨g, hg, hx⟩
            · exact .inl ⟨g0, h0, hx⟩
          · exact .inr hx
        · rintro (⟨g, hg, hx⟩ | hx)
          · exact .inl ⟨g, (hmem g).mpr (.inl hg), hx⟩
          · exact .inr hx
      have ok' : LstOk ⟨L.folders, qs, L.pairs⟩ := by
        refine ⟨h.fo, h.fl, h.fn, ?_, fun g hg => ?_, h.qn, ?_, hqi⟩
        · show qs.length ≤ 16
          rw [hql, List.length_append, List.length_singleton]; omega
        · rcases (hmem g).mp hg with hg | rfl
          · exact h.mk3 g hg
          · exact h.mk3 g0 h0
        · obtain ⟨U, h1, h2⟩ := h.un
          exact ⟨U, h1, fun x hx => h2 x ((hall x).mp hx)⟩
      obtain ⟨S', u', mem', eL⟩ := f_labels ok'
      have hSS : S' = S := tx_unique u' u fun x => by rw [mem', hall, mem]
      subst hSS
      obtain ⟨okT, h7'⟩ := lt_ok ok' u' mem'
      obtain ⟨x, ex, _, _⟩ := f_telling okT ok'.pn h7' hqi eL
      have lk : Like (ltOf ⟨L.folders, qs, L.pairs⟩ S') (ltOf L S') (qs.map (·.form)) L.forms (fun a => if a = (⟨moForm, .none, g0.marks, g0.paths⟩ : Page).form then g0.form else a) := like_ok hqn hmem h0 rfl rfl hnd hnewf
      have hlab : (ltOf ⟨L.folders, qs, L.pairs⟩ S').map (·.1) = (ltOf L S').map (·.1) := by
        unfold ltOf ltF ltM
        rw [List.map_append, List.map_append, List.map_map, List.map_map, List.map_map, List.map_map]
        rfl
      have hch : chosen (ltOf ⟨L.folders, qs, L.pairs⟩ S') (Lst.forms ⟨L.folders, qs, L.pairs⟩) = chosen (ltOf L S') L.forms := lk.chosen hqi h.inc hlab
      rw [hch] at ex
      rw [W_ret, W_op, W_op, W_call, W_cons]
      refine W_make ?_
      rw [W_cons, W_var]
      simp only [List.getElem?_cons_succ, List.getElem?_cons_zero, wo_some]
      rw [W_cons, W_cb, W_cons]
      refine W_key0 ?_
      have hpm : plO (.val (⟨moForm, .none, g0.marks, g0.paths⟩ : Page).d) = some (⟨moForm, .none, g0.marks, g0.paths⟩ : Page).d := rfl
      simp only [W_op, W_tup, W_cons, W_nil, W_var, List.getElem?_cons_succ, List.getElem?_cons_zero, wo_some, plOs, hpm, Option.bind_some, rdO, hcat, fzO]
      refine ⟨_, rfl, ?_, ?_, ?_⟩
      · rw [List.all_map]
        exact List.all_eq_true.mpr fun g _ => rfl
      · have := h.pn
        simp only [List.length_map, List.length_append, List.length_singleton]
        omega
      · rw [eq]
        simp only [rdOs, rdO, Option.bind_some, wo_some, gTuple, plOs, plO]
        refine ⟨L.fD, .tuple (qs.map Page.d), L.qD, rfl, ?_⟩
        have hd : lis L.fD (.tuple (qs.map Page.d)) L.qD = Lst.d ⟨L.folders, qs, L.pairs⟩ := rfl
        rw [hd]
        have ei : gIx (.tuple [.tuple (chosen (ltOf L S') L.forms), x]) (.int 0) = some (.tuple (chosen (ltOf L S') L.forms)) := rfl
        simp only [W_nil, fzOs, fzO, Option.bind_some, wo_some, ex, W_c, W_var, List.getElem?_cons_succ, List.getElem?_cons_zero, rdO, ei, eq_same hlb]
end DL

set_option maxRecDepth 100000
set_option linter.all false
set_option maxHeartbeats 2000000
/-! M34: the pot of a cell. -/
namespace DL
open PySem PySem.W PyProof.Rows L2
theorem fold_rep (c : Nat) : ∀ (n : Nat) (acc : Array Nat), ((List.replicate n #[c]).foldl (· ++ ·) acc).toList = acc.toList ++ List.replicate n c
  | 0, acc => by simp
  | n + 1, acc => by
    rw [List.replicate_succ, List.foldl_cons, fold_rep c n, List.replicate_succ, Array.toList_append]
    simp
theorem times_list (c n : Nat) : (timesS ⟨#[c]⟩ (n : Int)).cps.toList = List.replicate n c := by
  show ((List.replicate ((n : Int)).toNat #[c]).foldl (· ++ ·) #[]).toList = _
  rw [fold_rep, Int.toNat_natCast]
  rfl
theorem rep_ok (c n : Nat) (h2 : 2 ≤ n) (hn : n ≤ 4000) (hc : c < 0x110000) : ∃ zs : Str, gMulS (.str ⟨#[c]⟩) (.int (n : Nat)) = some (.str zs) ∧ zs.cps.toList = List.replicate n c := by
  have hl := times_list c n
  generalize hz : timesS ⟨#[c]⟩ (n : Int) = zs at hl
  refine ⟨zs, ?_, hl⟩
  have h3 : zs.length = n := by
    show zs.cps.size = n
    rw [← Array.length_toList, hl, List.length_replicate]
  have h4 : PyData.strOk zs = true := by
    simp only [PyData.strOk]
    rw [Array.all_eq_true_iff_forall_mem]
    intro x hx
    have : x ∈ zs.cps.toList := by simpa using hx
    rw [hl] at this
    rw [(List.mem_replicate.mp this).2]
    exact decide_eq_true hc
  unfold gMulS
  dsimp only
  rw [hz]
  exact if_pos ⟨by omega, by omega, rfl, by omega, h4⟩
theorem zero_str : ("0" : Str) = ⟨#[48]⟩ := by decide +kernel
theorem one_str : ("1" : Str) = ⟨#[49]⟩ := by decide +kernel
theorem big_ok (m : Nat) (h1 : 700 ≤ m) (h2 : m ≤ 4000) : ∃ zs b : Str, gMulS (.str "0") (.int (m : Nat)) = some (.str zs) ∧ gCatS (.str "1") (.str zs) = some (.str b) ∧ ∃ n : Int, gIntT [.str b] = some (.int n) ∧ 0 < n := by
  rw [zero_str, one_str]
  obtain ⟨zs, e1, e2⟩ := rep_ok 48 m (by omega) h2 (by omega)
  have hzl : zs.length = m := by
    show zs.cps.size = m
    rw [← Array.length_toList, e2, List.length_replicate]
  have hb : (⟨#[49]⟩ ++ zs : Str).cps.toList = 49 :: List.replicate m 48 := by
    show (#[49] ++ zs.cps).toList = _
    rw [Array.toList_append, e2]
    rfl
  have hc : gCatS (.str ⟨#[49]⟩) (.str zs) = some (.str (⟨#[49]⟩ ++ zs)) := cat_ok (by rw [hzl]; show 1 + m ≤ 10000; omega)
  generalize (⟨#[49]⟩ ++ zs : Str) = b at hb hc
  refine ⟨zs, b, e1, hc, ?_⟩
  have hd : NumText.AllDigits b.cps.toList := by
    intro c hcm
    rw [hb] at hcm
    rcases List.mem_cons.mp hcm with rfl | hcm
    · omega
    · rw [(List.mem_replicate.mp hcm).2]; omega
  have hl : b.length = m + 1 := by
    show b.cps.size = _
    rw [← Array.length_toList, hb, List.length_cons, List.length_replicate]
  have hs := (numText_signs (x := b) fun c hcm => .inr (hd c hcm)).2
  have hi := intText_digits hd (by rw [hb]; exact List.cons_ne_nil _ _) (by omega)
  refine ⟨((NumText.digitsVal b.cps.toList : Nat) : Int), ?_, ?_⟩
  · unfold gIntT
    dsimp only
    rw [if_pos ⟨by rw [hs, hb, List.length_cons, List.length_replicate]; omega, by omega⟩, hi]
    rfl
  · have : 0 < NumText.digitsVal b.cps.toList := by rw [hb]; exact NumText.digitsVal_pos (by omega)
    omega
end DL

set_option maxRecDepth 100000
set_option linter.all false
set_option maxHeartbeats 2000000
/-! M34: the pot of a cell. -/
namespace DL
open PySem PySem.W PyProof.Rows L2
theorem pow_ok : ∃ pw : Int, gPow (.int 10) (.int 18) = some (.int pw) := by
  refine ⟨(10 : Int) ^ (18 : Int).toNat, ?_⟩
  show (if cPow 10 18 = true then some (PyData.int ((10 : Int) ^ (18 : Int).toNat)) else none) = _
  exact if_pos (by decide +kernel)
theorem f_pot (ns : List Int) (hn : ns.length ≤ 1000) (k : Nat) (hk : k ≤ 10) : ∃ g r, F__law_pot [scr ns, .int (k : Nat)] = some (potL g r) ∧ Pot r := by
  have core : ∀ cell : Int, ∃ g r, Pot r ∧ W (fSeq (fSet 3 (fOp gMul (fOp gMod (fCB gAbs (fCons (fVar 2) fNil)) (fCB gIntT (fCons (fOp gCatS (fC (.str "1")) (fOp gMulS (fC (.str "0")) (fC (.int 900)))) fNil))) (fCB gIntB (fCons (fOp gGe (fCB gAbs (fCons (fVar 2) fNil)) (fOp gPow (fC (.int 10)) (fC (.int 18)))) fNil))))
    (fRO (fOLst (fCons (fVar 3) (fCons (fOp gMod (fOp gMul (fOp gAdd (fOp gAdd (fOp gMod (fVar 2) (fC (.int 2305843009213693951))) (fOp gMul (fOp gMul (fC (.int 7919)) (fVar 1)) (fVar 1))) (fC (.int 11))) (fC (.int 48271))) (fC (.int 2305843009213693951))) fNil))))) [some (.fr (scr ns)), some (.fr (.int (k : Nat))), some (.fr (.int cell)), none] (fun fl _ => fl = .ro (potL g r)) := by
    intro cell
    obtain ⟨zs, b, zeros_ok, big_cat, n, en, hnp⟩ := big_ok 900 (by omega) (by omega)
    have zeros_ok : gMulS (.str "0") (.int 900) = some (.str zs) := zeros_ok
    have e1 : gAbs [.int cell] = some (.int (if cell < 0 then -cell else cell)) := rfl
    generalize (if cell < 0 then -cell else cell) = a at e1
    have e2 : gMod (.int a) (.int n) = some (.int (a % n)) := mod_ok hnp
    obtain ⟨pw, epw⟩ := pow_ok
    have e3 : gGe (.int a) (.int pw) = some (.bool (decide (pw ≤ a))) := rfl
    generalize decide (pw ≤ a) = t at e3
    have e4 : gIntB [.bool t] = some (.int (if t = true then 1 else 0)) := rfl
    have e5 : gMul (.int (a % n)) (.int (if t = true then 1 else 0)) = some (.int (a % n * (if t = true then 1 else 0))) := mul_okr (by split <;> omega) (by split <;> omega)
    generalize a % n * (if t = true then 1 else 0) = g at e5
    have f1 : gMod (.int cell) (.int 2305843009213693951) = some (.int (cell % 2305843009213693951)) := mod_ok (by omega)
    have f2 : gMul (.int 7919) (.int (k : Nat)) = some (.int (7919 * (k : Nat))) := mul_ok (by omega) (by omega)
    have f3 : gMul (.int (7919 * (k : Nat))) (.int (k : Nat)) = some (.int (7919 * (k : Nat) * (k : Nat))) := mul_ok (by omega) (by omega)
    generalize (7919 * (k : Nat) * (k : Nat) : Int) = kk at f3
    generalize cell % 2305843009213693951 = cm at f1
    have f4 : gMul (.int (cm + kk + 11)) (.int 48271) = some (.int ((cm + kk + 11) * 48271)) := mul_okr (by omega) (by omega)
    generalize (cm + kk + 11) * 48271 = s at f4
    have f5 : gMod (.int s) (.int 2305843009213693951) = some (.int (s % 2305843009213693951)) := mod_ok (by omega)
    refine ⟨g, s % 2305843009213693951, ⟨Int.emod_nonneg _ (by omega), Int.emod_lt_of_pos _ (by omega)⟩, ?_⟩
    simp only [W_seq, W_set, W_op, W_cb, W_cons, W_nil, W_c, W_var, List.getElem?_cons_succ, List.getElem?_cons_zero, wo_some, rdOs, rdO, Option.bind_some, e1, zeros_ok, big_cat, en, e2, epw, e3, e4, e5, fzO, List.set_cons_succ, List.set_cons_zero, W_ro, W_olst, f1, f2, f3, add_ok, f4, f5, plOs, plO]
    rfl
  have hlen : gLenC [scr ns] = some (.int (ns.length : Nat)) := by
    show some (PyData.int (((ns.map PyData.int).length : Nat))) = _
    rw [List.length_map]
  have e0 : gMul (.int 3) (.int (k : Nat)) = some (.int (3 * (k : Nat))) := mul_ok (by omega) (by omega)
  by_cases hk2 : k < ns.length
  · obtain ⟨g, r, p, w⟩ := core ns[k]
    refine ⟨g, r, runO_of ?_, p⟩
    change W fb__law_pot [some (.fr (scr ns)), some (.fr (.int (k : Nat))), none, none] _
    unfold fb__law_pot
    have ei : gIxC (scr ns) (.int (k : Nat)) = some (.int ns[k]) := by
      show atI (ns.map PyData.int) (k : Nat) = _
      rw [ix_seq (by rw [List.length_map]; exact hk2), List.getElem?_map, List.getElem?_eq_getElem hk2]
      rfl
    have el : gLt (.int (k : Nat)) (.int (ns.length : Nat)) = some (.bool true) := by
      show some (PyData.bool (decide (((k : Nat) : Int) < (ns.length : Nat)))) = _
      rw [decide_eq_true (by omega)]
    rw [W_seq, W_set]
    simp only [W_op, W_cb, W_cons, W_nil, W_c, W_var, List.getElem?_cons_succ, List.getElem?_cons_zero, wo_some, rdOs, rdO, Option.bind_some, e0, hlen, add_ok, fzO, List.set_cons_succ, List.set_cons_zero]
    rw [W_seq, W_if]
    simp only [W_b, W_op, W_cb, W_cons, W_nil, W_c, W_var, List.getElem?_cons_succ, List.getElem?_cons_zero, wo_some, rdOs, rdO, Option.bind_some, hlen, el, OV.val.injEq, PyData.bool.injEq, exists_eq_left', if_true, W_set, ei, fzO, List.set_cons_succ, List.set_cons_zero]
    exact w
  · obtain ⟨g, r, p, w⟩ := core (3 * (k : Nat) + (ns.length : Nat))
    refine ⟨g, r, runO_of ?_, p⟩
    change W fb__law_pot [some (.fr (scr ns)), some (.fr (.int (k : Nat))), none, none] _
    unfold fb__law_pot
    have el : gLt (.int (k : Nat)) (.int (ns.length : Nat)) = some (.bool false) := by
      show some (PyData.bool (decide (((k : Nat) : Int) < (ns.length : Nat)))) = _
      rw [decide_eq_false (by omega)]
    rw [W_seq, W_set]
    simp only [W_op, W_cb, W_cons, W_nil, W_c, W_var, List.getElem?_cons_succ, List.getElem?_cons_zero, wo_some, rdOs, rdO, Option.bind_some, e0, hlen, add_ok, fzO, List.set_cons_succ, List.set_cons_zero]
    rw [W_seq, W_if]
    simp only [W_b, W_op, W_cb, W_cons, W_nil, W_c, W_var, List.getElem?_cons_succ, List.getElem?_cons_zero, wo_some, rdOs, rdO, Option.bind_some, hlen, el, OV.val.injEq, PyData.bool.injEq, exists_eq_left', Bool.false_eq_true, if_false, W_next]
    exact w
end DL

set_option maxRecDepth 100000
set_option linter.all false
set_option maxHeartbeats 2000000
/-! M35: what the law asks of one listing, each by itself. -/
namespace DL
open PySem PySem.W PyProof.Rows L2
structure One (L : Lst) (lt : LT) (ch : List PyData) (x : PyData) : Prop where
  ok : LOK lt
  h7 : lt.length ≤ 7
  n16 : L.pages.length ≤ 16
  inc : Inc L.forms
  eL : F_labels_of [L.d] = some (labsD lt)
  hc : ch = chosen lt L.forms
  nd : IsNd x
  tl : tellsB lt L.forms ch x = true
section
variable {L : Lst} {lt : LT} {ch : List PyData} {x : PyData}
theorem One.sub (o : One L lt ch x) : ch.Sublist (lt.map (·.1)) := by rw [o.hc]; exact fewest_sub
theorem One.len (o : One L lt ch x) : ch.length ≤ 7 := by
  have := o.sub.length_le
  rw [List.length_map] at this
  have := o.h7
  omega
theorem One.up (o : One L lt ch x) : Up ch := up_sub o.ok.up o.sub
theorem One.lb (o : One L lt ch x) : ∀ c ∈ ch, IsLb c := fun c hc => by
  obtain ⟨p, hp, rfl⟩ := List.mem_map.mp (o.sub.subset hc)
  exact o.ok.lb p hp
theorem One.fl (o : One L lt ch x) : L.forms.length ≤ 30 := by
  unfold Lst.forms
  rw [List.length_map]
  have := o.n16
  omega
theorem One.hit (o : One L lt ch x) : hitsAll (pairsL lt L.forms) ch = true := by
  rw [o.hc]
  exact fewest_hits (btw_keys o.inc)
theorem One.min (o : One L lt ch x) {cs : List PyData} (h : cs.length < ch.length) : hitsAll (pairsL lt L.forms) cs = false := by
  rw [o.hc] at h
  exact fewest_min o.ok.up.nodup (fun p hp => (btw_keys o.inc p hp).2) h
theorem One.shows (o : One L lt ch x) {y : PyData} (hy : IsNd y) : F_shows_telling [L.d, .tuple ch, y] = some (.bool (tellsB lt L.forms ch y)) :=
  f_tellsB o.ok (Nat.le_trans o.n16 (by decide)) o.eL (fun c hc => o.sub.subset hc) o.up (Nat.le_trans o.len (by decide)) hy
/-- a paper drawn for the told labels is taken -/
theorem One.own (o : One L lt ch x) (h : 0 < ch.length) : PS F__law_paper [.list (prs (pairsL lt L.forms)), .list [], .int ((ch.length - 1 : Nat) : Int)] fun y => IsNd y ∧ F_shows_telling [L.d, .tuple ch, y] = some (.bool true) := by
  have hl := o.len
  refine PS.mono (f_lawpaper o.ok o.inc o.fl (ch.length - 1) (by omega) 10 [] (by simp) (by simp) (by simp; omega)) ?_
  rintro y ⟨h1, h2⟩
  refine ⟨h1, ?_⟩
  rw [o.shows h1]
  have hs := h2 fun cs _ hcs => o.min (by omega)
  unfold tellsB tellB
  rw [o.hit, if_neg (fun e => by rw [e] at h; simp at h), hs]
  rfl
/-- and a paper for one label more is a node, or None -/
theorem One.more (o : One L lt ch x) : PS F__law_paper [.list (prs (pairsL lt L.forms)), .list [], .int ((ch.length : Nat) : Int)] fun y => IsNd y := by
  have hl := o.len
  refine PS.mono (f_lawpaper o.ok o.inc o.fl ch.length (by omega) 10 [] (by simp) (by simp) (by simp; omega)) ?_
  rintro y ⟨h1, _⟩
  exact h1
theorem srt_lbs {cs : List PyData} (h : ∀ c ∈ cs, IsLb c) (hn : cs.length ≤ 10000) : srtOk cs = true := by
  unfold srtOk
  simp only [Bool.and_eq_true, Bool.or_eq_true, decide_eq_true_eq]
  refine ⟨Nat.le_trans hn (by decide), .inr ⟨⟨List.all_eq_true.mpr fun l hl => (h l hl).hd, ?_⟩, List.all_eq_true.mpr fun l hl => decide_eq_true (Nat.le_trans (h l hl).depth (by decide))⟩⟩
  unfold cmpAll
  exact List.all_eq_true.mpr fun a ha => List.all_eq_true.mpr fun b hb => (h a ha).cmp (h b hb)
/-- labels that are more than the fewest: no paper is taken -/
theorem One.wide (o : One L lt ch x) {l : PyData} (hl : l ∈ lt.map (·.1)) (hn : l ∉ ch) : ∃ wd, gSorted [.tuple (ch ++ [l])] = some (.list wd) ∧ ∀ y, IsNd y → F_shows_telling [L.d, .tuple wd, y] = some (.bool false) := by
  have hlen := o.len
  have lbl : IsLb l := by
    obtain ⟨p, hp, rfl⟩ := List.mem_map.mp hl
    exact o.ok.lb p hp
  have lbs : ∀ c ∈ ch ++ [l], IsLb c := fun c hc => by
    rcases List.mem_append.mp hc with hc | hc
    · exact o.lb c hc
    · rw [List.mem_singleton.mp hc]; exact lbl
  have nd : (ch ++ [l]).Nodup := by
    rw [List.nodup_append]
    refine ⟨o.up.nodup, by simp, fun a ha b hb => ?_⟩
    rw [List.mem_singleton.mp hb]
    exact fun e => hn (e ▸ ha)
  have hsl : (sortD (ch ++ [l])).length = ch.length + 1 := by rw [sortD_length, List.length_append, List.length_singleton]
  refine ⟨sortD (ch ++ [l]), ?_, fun y hy => ?_⟩
  · show (if srtOk (ch ++ [l]) = true then some (PyData.list (sortD (ch ++ [l]))) else none) = _
    rw [if_pos (srt_lbs lbs (by rw [List.length_append, List.length_singleton]; omega))]
  · have e := f_tellsB o.ok (L := L) (Nat.le_trans o.n16 (by decide)) o.eL (cs := sortD (ch ++ [l])) (fun c hc => by
      rcases List.mem_append.mp (sortD_mem.mp hc) with hc | hc
      · exact o.sub.subset hc
      · rw [List.mem_singleton.mp hc]; exact hl) (sortD_up (fun c hc => (lbs c hc).key) nd) (by omega) hy
    rw [e]
    unfold tellsB
    rw [if_neg (fun z => by rw [z] at hsl; simp at hsl), hsl, shows_no o.inc o.hit (by omega) 10 [] y List.nodup_nil (by simp) hy]
    simp
/-- one label left out -/
theorem One.left (o : One L lt ch x) {i : Nat} (hi : i < ch.length) : F__law_tell_all [.list ((pairsL lt L.forms).map fun p => .list p.bt), .tuple (ch.take i ++ ch.drop (i + 1))] = some (.bool false) := by
  have hl := o.len
  have hlen : (ch.take i ++ ch.drop (i + 1)).length < ch.length := by
    rw [List.length_append, List.length_take, List.length_drop]
    omega
  have hN : (pairsL lt L.forms).length ≤ 900 := Nat.le_trans (pairsL_len lt L.forms) (Nat.mul_le_mul o.fl o.fl)
  have hok := pairsL_ok o.ok o.inc
  have e := f_lawtell (bs := (pairsL lt L.forms).map (·.bt)) (cs := ch.take i ++ ch.drop (i + 1)) (fun bt hbt => by
    obtain ⟨p, hp, rfl⟩ := List.mem_map.mp hbt
    exact ⟨Nat.le_trans (hok p hp).1 (by decide), (hok p hp).2⟩) (by rw [List.length_map]; omega) (fun c hc => by
      rcases List.mem_append.mp hc with hc | hc
      · exact o.lb c (List.mem_of_mem_take hc)
      · exact o.lb c (List.mem_of_mem_drop hc))
  rw [List.map_map] at e
  have e2 : ((PyData.list ∘ fun p : Pr => p.bt) : Pr → PyData) = fun p => PyData.list p.bt := rfl
  rw [e2] at e
  rw [e, List.all_map]
  have := o.min hlen
  unfold hitsAll at this
  rw [show ((fun bt : List PyData => bt.any fun l => decide (l ∈ ch.take i ++ ch.drop (i + 1))) ∘ fun p : Pr => p.bt) = fun p : Pr => p.hit (ch.take i ++ ch.drop (i + 1)) from rfl, this]
end
/-- the one listing -/
theorem one_of {L : Lst} (h : LstOk L) {S : List Str} (u : Up (tx S)) (mem : ∀ x, x ∈ S ↔ x ∈ allM L.pages L.pairs) (eL : F_labels_of [L.d] = some (labsD (ltOf L S))) : ∃ x, F_telling [L.d] = some (.tuple [.tuple (chosen (ltOf L S) L.forms), x]) ∧ One L (ltOf L S) (chosen (ltOf L S) L.forms) x := by
  obtain ⟨ok, h7⟩ := lt_ok h u mem
  obtain ⟨x, e, h1, h2⟩ := f_telling ok h.pn h7 h.inc eL
  exact ⟨x, e, ok, h7, h.pn, h.inc, eL, rfl, h1, h2⟩
end DL

set_option maxRecDepth 100000
set_option linter.all false
set_option maxHeartbeats 2000000
/-! M36: the walk of the law. Printed by gen_m36.py. -/
namespace DL
open PySem PySem.W PyProof.Rows L2
def NO (v : Option SV) : Prop := ∀ y, v ≠ some (.own y)
theorem okW1 {d : SD} {i : Nat} {v : Option SV} (e : d[i]? = some v) (h : NO v) : okW [i] d = true := by
  unfold okW
  simp only [List.all_cons, List.all_nil, Bool.and_true, e]
  cases v with
  | none => rfl
  | some v => cases v with
    | fr _ => rfl
    | own y => exact absurd rfl (h y)
theorem okW2 {d : SD} {i j : Nat} {v u : Option SV} (e : d[i]? = some v) (h : NO v) (e' : d[j]? = some u) (h' : NO u) : okW [i, j] d = true := by
  have a := okW1 e h
  have b := okW1 e' h'
  unfold okW at a b ⊢
  simp only [List.all_cons, List.all_nil, Bool.and_true] at a b ⊢
  rw [a, b]; rfl
theorem isB_ok (s x y : Bool) : gIsB s (.bool x) (.bool y) = some (.bool (if s = true then decide (x = y) else !decide (x = y))) := rfl
theorem W_callO {f : List PyData → Option PyData} {fa : F (List OV)} {d : SD} {Q : PyData → SD → Prop} : W (fCallO f fa) d Q ↔ W fa d fun os d1 => wo (fzOs os) fun xs => wo (f xs) fun z => Q z d1 := by simp [W, fCallO]
theorem in_val' (s : Bool) {cs : List PyData} {l a : PyData} (hl : IsLb l) (hc : ∀ c ∈ cs, IsLb c) (ha : seqOf a = some cs) : gIn s l a = some (.bool (if s = true then decide (l ∈ cs) else !decide (l ∈ cs))) := by
  unfold gIn
  rw [if_pos ⟨hl.ndic, Nat.le_trans hl.depth (by decide)⟩, ha]
  simp only [Option.bind_some]
  rw [any_mem hl.key fun c h => (hc c h).key]
theorem chain_ok {ch : List PyData} {d : SD} (h : d[8]? = some (some (.fr (.tuple ch)))) : fChain gLt gLt (fC (.int 0)) (fCB gLen (fCons (fVar 8) fNil)) (fC (.int 4)) d = some (.val (.bool (decide (0 < ch.length ∧ ch.length < 4))), d) := by
  have hv : fCB gLen (fCons (fVar 8) fNil) d = some (.val (.int (ch.length : Nat)), d) := by
    refine ev ?_
    rw [W_cb, W_cons, W_var, h]
    simp only [wo_some, W_nil, rdOs, rdO, Option.bind_some, gLen]
    exact ⟨trivial, trivial⟩
  have e1 : gLt (.int 0) (.int (ch.length : Nat)) = some (.bool (decide (0 < ch.length))) := by
    show some (PyData.bool (decide ((0 : Int) < (ch.length : Nat)))) = _
    congr 3
    exact propext (by omega)
  have e2 : gLt (.int (ch.length : Nat)) (.int 4) = some (.bool (decide (ch.length < 4))) := by
    show some (PyData.bool (decide (((ch.length : Nat) : Int) < 4))) = _
    congr 3
    exact propext (by omega)
  unfold fChain
  rw [show fC (.int 0) d = some (.val (.int 0), d) from rfl]
  simp only [Option.bind_some]
  rw [hv]
  simp only [Option.bind_some, fzO, e1]
  by_cases c : 0 < ch.length
  · rw [decide_eq_true c]
    simp only
    rw [show fC (.int 4) d = some (.val (.int 4), d) from rfl]
    simp only [Option.bind_some, fzO, e2]
    rw [show decide (0 < ch.length ∧ ch.length < 4) = decide (ch.length < 4) from by simp [c]]
  · rw [decide_eq_false c, decide_eq_false (fun z => c z.1)]
theorem cutT (xs : List PyData) (i : Nat) : gSl (.tuple xs) none (some (i : Int)) = some (.tuple (xs.take i)) := by
  show some (PyData.tuple (cutD xs none (some (i : Int)))) = _
  rw [cut_to]
theorem cutT2 (xs : List PyData) (i : Nat) : gSl (.tuple xs) (some ((i : Nat) + 1 : Int)) none = some (.tuple (xs.drop (i + 1))) := by
  show some (PyData.tuple (cutD xs (some (((i + 1 : Nat)) : Int)) none)) = _
  rw [cut_from]
theorem catT {xs ys : List PyData} (h : xs.length + ys.length ≤ 10000) : gCatT (.tuple xs) (.tuple ys) = some (.tuple (xs ++ ys)) := by
  show (if _ then _ else _) = _
  rw [if_pos (by have h16 : sizeLine = 16777216 := sizeLine_eq; omega)]
/-- two papers drawn for the told labels -/
theorem walk_own {ns : List Int} {i : Nat} {L : Lst} {lt : LT} {ch : List PyData} {x : PyData} {g r : Int} {v12 v14 v15 v16 v17 v18 v19 v20 : Option SV} {Q : Fl → SD → Prop} (o : One L lt ch x) (p : Pot r)
    (q : ∀ g r v14, Pot r → Q .nx [some (.fr (scr ns)), some (.fr (.int (i : Nat))), pot g r, some (.fr (L.fD)), some (.fr (.tuple (L.pages.map Page.d))), some (.fr (L.qD)), some (.fr (L.d)), some (.fr (labsL lt)), some (.fr (.tuple ch)), some (.fr (x)), some (.fr (.list (tx L.forms))), some (.fr (.list ((pairsL lt L.forms).map fun p => .list p.bt))), v12, some (.fr (.list (prs (pairsL lt L.forms)))), v14, v15, v16, v17, v18, v19, v20]) : W (fFor (fRange (fCons (fOp gMul (fC (.int 2)) (fCB gIntB (fCons (fChain gLt gLt (fC (.int 0)) (fCB gLen (fCons (fVar 8) fNil)) (fC (.int 4))) fNil))) fNil)) (gN 14) (fIf (fB (fOp (gIsB false) (fCall F_shows_telling (fCons (fVar 6) (fCons (fVar 8) (fCons (fCallP F__law_paper (fCons (fVar 2) (fCons (fVar 13) (fCons (fLst fNil) (fCons (fOp gSub_ (fCB gLen (fCons (fVar 8) fNil)) (fC (.int 1))) fNil))))) fNil)))) (fC (.bool true)))) (fRet (fC (.bool false))) fNext)) [some (.fr (scr ns)), some (.fr (.int (i : Nat))), pot g r, some (.fr (L.fD)), some (.fr (.tuple (L.pages.map Page.d))), some (.fr (L.qD)), some (.fr (L.d)), some (.fr (labsL lt)), some (.fr (.tuple ch)), some (.fr (x)), some (.fr (.list (tx L.forms))), some (.fr (.list ((pairsL lt L.forms).map fun p => .list p.bt))), v12, some (.fr (.list (prs (pairsL lt L.forms)))), v14, v15, v16, v17, v18, v19, v20] Q := by
  have hl := o.len
  rw [W_for, W_range, W_op, W_c, W_cb, W_cons]
  refine W_of (chain_ok (ch := ch) rfl) ?_
  obtain ⟨b, eb, hb⟩ : ∃ b : Nat, gIntB [.bool (decide (0 < ch.length ∧ ch.length < 4))] = some (.int (b : Nat)) ∧ b ≤ 1 ∧ (0 < b → 0 < ch.length) := by
    by_cases c : 0 < ch.length ∧ ch.length < 4
    · exact ⟨1, by rw [decide_eq_true c]; rfl, by omega, fun _ => c.1⟩
    · exact ⟨0, by rw [decide_eq_false c]; rfl, by omega, fun h => by omega⟩
  have em : gMul (.int 2) (.int (b : Nat)) = some (.int (2 * (b : Nat))) := mul_ok (by omega) (by omega)
  simp only [W_nil, rdOs, rdO, Option.bind_some, wo_some, eb, em, OV.val.injEq, PyData.int.injEq, exists_eq_left']
  refine ⟨⟨by omega, by omega⟩, ?_⟩
  have et : (2 * (b : Nat) : Int).toNat = 2 * b := by omega
  rw [et]
  refine for_list (α := Nat) (fun i => PyData.int (i : Nat)) (List.range (2 * b)) (fun pre d => ∃ g r v14, Pot r ∧ d = [some (.fr (scr ns)), some (.fr (.int (i : Nat))), pot g r, some (.fr (L.fD)), some (.fr (.tuple (L.pages.map Page.d))), some (.fr (L.qD)), some (.fr (L.d)), some (.fr (labsL lt)), some (.fr (.tuple ch)), some (.fr (x)), some (.fr (.list (tx L.forms))), some (.fr (.list ((pairsL lt L.forms).map fun p => .list p.bt))), v12, some (.fr (.list (prs (pairsL lt L.forms)))), v14, v15, v16, v17, v18, v19, v20]) ⟨g, r, v14, p, rfl⟩ ?_ ?_
  · rintro pre a suf d e ⟨g, r, v14, p, rfl⟩
    have hb1 : 0 < b := by
      have := congrArg List.length e
      rw [List.length_range, List.length_append, List.length_cons] at this
      omega
    have hpos := hb.2 hb1
    simp only [gN, wo_some, List.set_cons_succ, List.set_cons_zero]
    rw [W_if, W_b, W_op, W_call, W_cons, W_var]
    simp only [List.getElem?_cons_succ, List.getElem?_cons_zero, wo_some]
    rw [W_cons, W_var]
    simp only [List.getElem?_cons_succ, List.getElem?_cons_zero, wo_some]
    rw [W_cons]
    refine W_callP (fun y => IsNd y ∧ F_shows_telling [L.d, .tuple ch, y] = some (.bool true)) ⟨_, _, rfl⟩ ?_
    have em1 : (((ch.length : Nat) : Int) - 1) = ((ch.length - 1 : Nat) : Int) := by omega
    simp only [W_cons, W_nil, W_lst, W_op, W_cb, W_c, W_var, List.getElem?_cons_succ, List.getElem?_cons_zero, wo_some, plOs, rdOs, rdO, Option.bind_some, gLen, gSub_, gI, em1]
    refine ⟨_, g, r, rfl, rfl, p, o.own hpos, ?_⟩
    rintro y g' r' ⟨_, hy⟩ p'
    simp only [List.set_cons_succ, List.set_cons_zero, fzOs, fzO, Option.bind_some, wo_some, hy, W_c, rdO, isB_ok, OV.val.injEq, PyData.bool.injEq, exists_eq_left', decide_true, Bool.not_true, Bool.false_eq_true, if_false, W_next]
    exact ⟨g', r', some (.fr (.int (a : Nat))), p', rfl⟩
  · rintro d ⟨g, r, v14, p, rfl⟩
    exact q g r v14 p
/-- one label left out -/
theorem walk_left {ns : List Int} {i : Nat} {L : Lst} {lt : LT} {ch : List PyData} {x : PyData} {g r : Int} {v12 v14 v15 v16 v17 v18 v19 v20 : Option SV} (o : One L lt ch x) (n15 : NO v15) :
    (fIf (fB (fCB gAny (fCons (fLc (fRange (fCons (fCB gLen (fCons (fVar 8) fNil)) fNil)) (gN 15) fYes (fCall F__law_tell_all (fCons (fVar 11) (fCons (fOp gCatT (fSl (fVar 8) fPn (fPs (fVar 15))) (fSl (fVar 8) (fPs (fOp gAdd (fVar 15) (fC (.int 1)))) fPn)) fNil))) [15]) fNil))) (fRet (fC (.bool false))) fNext) [some (.fr (scr ns)), some (.fr (.int (i : Nat))), pot g r, some (.fr (L.fD)), some (.fr (.tuple (L.pages.map Page.d))), some (.fr (L.qD)), some (.fr (L.d)), some (.fr (labsL lt)), some (.fr (.tuple ch)), some (.fr (x)), some (.fr (.list (tx L.forms))), some (.fr (.list ((pairsL lt L.forms).map fun p => .list p.bt))), v12, some (.fr (.list (prs (pairsL lt L.forms)))), v14, v15, v16, v17, v18, v19, v20] = some (.nx, [some (.fr (scr ns)), some (.fr (.int (i : Nat))), pot g r, some (.fr (L.fD)), some (.fr (.tuple (L.pages.map Page.d))), some (.fr (L.qD)), some (.fr (L.d)), some (.fr (labsL lt)), some (.fr (.tuple ch)), some (.fr (x)), some (.fr (.list (tx L.forms))), some (.fr (.list ((pairsL lt L.forms).map fun p => .list p.bt))), v12, some (.fr (.list (prs (pairsL lt L.forms)))), v14, v15, v16, v17, v18, v19, v20]) := by
  have hl := o.len
  have lc : (fLc (fRange (fCons (fCB gLen (fCons (fVar 8) fNil)) fNil)) (gN 15) fYes (fCall F__law_tell_all (fCons (fVar 11) (fCons (fOp gCatT (fSl (fVar 8) fPn (fPs (fVar 15))) (fSl (fVar 8) (fPs (fOp gAdd (fVar 15) (fC (.int 1)))) fPn)) fNil))) [15]) [some (.fr (scr ns)), some (.fr (.int (i : Nat))), pot g r, some (.fr (L.fD)), some (.fr (.tuple (L.pages.map Page.d))), some (.fr (L.qD)), some (.fr (L.d)), some (.fr (labsL lt)), some (.fr (.tuple ch)), some (.fr (x)), some (.fr (.list (tx L.forms))), some (.fr (.list ((pairsL lt L.forms).map fun p => .list p.bt))), v12, some (.fr (.list (prs (pairsL lt L.forms)))), v14, v15, v16, v17, v18, v19, v20] = some (.val (.list ((List.range ch.length).map fun _ => .bool false)), [some (.fr (scr ns)), some (.fr (.int (i : Nat))), pot g r, some (.fr (L.fD)), some (.fr (.tuple (L.pages.map Page.d))), some (.fr (L.qD)), some (.fr (L.d)), some (.fr (labsL lt)), some (.fr (.tuple ch)), some (.fr (x)), some (.fr (.list (tx L.forms))), some (.fr (.list ((pairsL lt L.forms).map fun p => .list p.bt))), v12, some (.fr (.list (prs (pairsL lt L.forms)))), v14, v15, v16, v17, v18, v19, v20]) := by
    refine lc_all (as := List.range ch.length) (fun j => PyData.int (j : Nat)) (fun _ => .bool false) (ev ?_) (okW1 rfl n15) (fun j hj => ?_) (by rw [List.length_range]; have h16 : sizeLine = 16777216 := sizeLine_eq; omega)
    · simp only [W_range, W_cb, W_cons, W_nil, W_var, List.getElem?_cons_succ, List.getElem?_cons_zero, wo_some, rdOs, rdO, Option.bind_some, gLen, OV.val.injEq, PyData.int.injEq, exists_eq_left', Int.toNat_natCast]
      exact ⟨⟨by omega, by omega⟩, trivial, trivial⟩
    · have hj' : j < ch.length := List.mem_range.mp hj
      have ec : gCatT (.tuple (ch.take j)) (.tuple (ch.drop (j + 1))) = some (.tuple (ch.take j ++ ch.drop (j + 1))) := catT (by rw [List.length_take, List.length_drop]; omega)
      refine ⟨[some (.fr (scr ns)), some (.fr (.int (i : Nat))), pot g r, some (.fr (L.fD)), some (.fr (.tuple (L.pages.map Page.d))), some (.fr (L.qD)), some (.fr (L.d)), some (.fr (labsL lt)), some (.fr (.tuple ch)), some (.fr (x)), some (.fr (.list (tx L.forms))), some (.fr (.list ((pairsL lt L.forms).map fun p => .list p.bt))), v12, some (.fr (.list (prs (pairsL lt L.forms)))), v14, some (.fr (.int (j : Nat))), v16, v17, v18, v19, v20], rfl, rfl, .val (.bool false), ev ?_, rfl⟩
      simp only [W_call, W_cons, W_nil, W_op, W_sl, W_pn, W_ps, W_c, W_var, List.getElem?_cons_succ, List.getElem?_cons_zero, wo_some, OV.val.injEq, PyData.int.injEq, exists_eq_left', rdO, add_ok, cutT, cutT2, ec, fzOs, fzO, Option.bind_some, o.left hj']
      exact ⟨trivial, trivial⟩
  refine ev ?_
  rw [W_if, W_b, W_cb, W_cons]
  refine W_of lc ?_
  have hany : gAny [.list ((List.range ch.length).map fun _ => .bool false)] = some (.bool false) := by
    show (boolsOf _).bind _ = _
    rw [boolsOf_map (fun _ => false)]
    simp
  simp only [W_nil, rdOs, rdO, Option.bind_some, wo_some, hany, OV.val.injEq, PyData.bool.injEq, exists_eq_left', Bool.false_eq_true, if_false, W_next]
  exact ⟨trivial, trivial⟩
/-- labels that are more than the fewest -/
theorem walk_wide {ns : List Int} {i : Nat} {L : Lst} {lt : LT} {ch : List PyData} {x : PyData} {g r : Int} {v12 v14 v15 v16 v17 v18 v19 v20 : Option SV} {Q : Fl → SD → Prop} (o : One L lt ch x) (p : Pot r) (n17 : NO v17) (n18 : NO v18)
    (q : ∀ g r v16 v19 v20, Pot r → Q .nx [some (.fr (scr ns)), some (.fr (.int (i : Nat))), pot g r, some (.fr (L.fD)), some (.fr (.tuple (L.pages.map Page.d))), some (.fr (L.qD)), some (.fr (L.d)), some (.fr (labsL lt)), some (.fr (.tuple ch)), some (.fr (x)), some (.fr (.list (tx L.forms))), some (.fr (.list ((pairsL lt L.forms).map fun p => .list p.bt))), v12, some (.fr (.list (prs (pairsL lt L.forms)))), v14, v15, v16, v17, v18, v19, v20]) : W (fFor (fItems (fLc (fItems (fVar 7)) (gT (gsC (gN 17) (gsC (gN 18) gsN))) (fB (fOp (gIn false) (fVar 17) (fVar 8))) (fVar 17) [17, 18])) (gN 16) (fSeq (fPar 19 20 (fCons (fCB gTuple (fCons (fCB gSorted (fCons (fOp gCatT (fVar 8) (fTup (fCons (fVar 16) fNil))) fNil)) fNil)) (fCons (fC .none) fNil))) (fSeq (fIf (fB (fChain gLt gLt (fC (.int 0)) (fCB gLen (fCons (fVar 8) fNil)) (fC (.int 4)))) (fSet 20 (fCallP F__law_paper (fCons (fVar 2) (fCons (fVar 13) (fCons (fLst fNil) (fCons (fCB gLen (fCons (fVar 8) fNil)) fNil)))))) fNext) (fIf (fOr (fB (fOp (gIsB false) (fCall F_shows_telling (fCons (fVar 6) (fCons (fVar 19) (fCons (fVar 20) fNil)))) (fC (.bool false)))) (fB (fOp (gIsB false) (fCall F_shows_telling (fCons (fVar 6) (fCons (fVar 19) (fCons (fVar 9) fNil)))) (fC (.bool false))))) (fRet (fC (.bool false))) fNext)))) [some (.fr (scr ns)), some (.fr (.int (i : Nat))), pot g r, some (.fr (L.fD)), some (.fr (.tuple (L.pages.map Page.d))), some (.fr (L.qD)), some (.fr (L.d)), some (.fr (labsL lt)), some (.fr (.tuple ch)), some (.fr (x)), some (.fr (.list (tx L.forms))), some (.fr (.list ((pairsL lt L.forms).map fun p => .list p.bt))), v12, some (.fr (.list (prs (pairsL lt L.forms)))), v14, v15, v16, v17, v18, v19, v20] Q := by
  have hl := o.len
  have h7 := o.h7
  have lc : (fLc (fItems (fVar 7)) (gT (gsC (gN 17) (gsC (gN 18) gsN))) (fB (fOp (gIn false) (fVar 17) (fVar 8))) (fVar 17) [17, 18]) [some (.fr (scr ns)), some (.fr (.int (i : Nat))), pot g r, some (.fr (L.fD)), some (.fr (.tuple (L.pages.map Page.d))), some (.fr (L.qD)), some (.fr (L.d)), some (.fr (labsL lt)), some (.fr (.tuple ch)), some (.fr (x)), some (.fr (.list (tx L.forms))), some (.fr (.list ((pairsL lt L.forms).map fun p => .list p.bt))), v12, some (.fr (.list (prs (pairsL lt L.forms)))), v14, v15, v16, v17, v18, v19, v20] = some (.val (.list ((lt.filter fun p => !decide (p.1 ∈ ch)).map (·.1))), [some (.fr (scr ns)), some (.fr (.int (i : Nat))), pot g r, some (.fr (L.fD)), some (.fr (.tuple (L.pages.map Page.d))), some (.fr (L.qD)), some (.fr (L.d)), some (.fr (labsL lt)), some (.fr (.tuple ch)), some (.fr (x)), some (.fr (.list (tx L.forms))), some (.fr (.list ((pairsL lt L.forms).map fun p => .list p.bt))), v12, some (.fr (.list (prs (pairsL lt L.forms)))), v14, v15, v16, v17, v18, v19, v20]) := by
    refine lc_as (as := lt) rowD (fun p => !decide (p.1 ∈ ch)) (·.1) rfl (okW2 rfl n17 rfl n18) (fun p hp => ?_) (by have h16 : sizeLine = 16777216 := sizeLine_eq; omega)
    refine ⟨[some (.fr (scr ns)), some (.fr (.int (i : Nat))), pot g r, some (.fr (L.fD)), some (.fr (.tuple (L.pages.map Page.d))), some (.fr (L.qD)), some (.fr (L.d)), some (.fr (labsL lt)), some (.fr (.tuple ch)), some (.fr (x)), some (.fr (.list (tx L.forms))), some (.fr (.list ((pairsL lt L.forms).map fun p => .list p.bt))), v12, some (.fr (.list (prs (pairsL lt L.forms)))), v14, v15, v16, some (.fr (p.1)), some (.fr (.list (tx p.2))), v19, v20], rfl, rfl, ev ?_, fun _ => ⟨_, rfl, (o.ok.lb p hp).plain⟩⟩
    simp only [W_b, W_op, W_var, List.getElem?_cons_succ, List.getElem?_cons_zero, wo_some, rdO, in_val' false (a := .tuple ch) (o.ok.lb p hp) o.lb rfl, OV.val.injEq, PyData.bool.injEq, exists_eq_left', Bool.false_eq_true, if_false]
    exact ⟨trivial, trivial⟩
  rw [W_for, W_items]
  refine W_of lc ?_
  simp only [fzO, wo_some, seqOf]
  refine for_list (α := PyData × List Str) (·.1) (lt.filter fun p => !decide (p.1 ∈ ch)) (fun pre d => ∃ g r v16 v19 v20, Pot r ∧ d = [some (.fr (scr ns)), some (.fr (.int (i : Nat))), pot g r, some (.fr (L.fD)), some (.fr (.tuple (L.pages.map Page.d))), some (.fr (L.qD)), some (.fr (L.d)), some (.fr (labsL lt)), some (.fr (.tuple ch)), some (.fr (x)), some (.fr (.list (tx L.forms))), some (.fr (.list ((pairsL lt L.forms).map fun p => .list p.bt))), v12, some (.fr (.list (prs (pairsL lt L.forms)))), v14, v15, v16, v17, v18, v19, v20]) ⟨g, r, v16, v19, v20, p, rfl⟩ ?_ ?_
  · rintro pre a suf d e ⟨g, r, v16, v19, v20, p, rfl⟩
    have ham : a ∈ lt.filter fun p => !decide (p.1 ∈ ch) := by rw [e]; simp
    obtain ⟨ha, hac⟩ := List.mem_filter.mp ham
    have hal : a.1 ∈ lt.map (·.1) := List.mem_map.mpr ⟨a, ha, rfl⟩
    have hac' : a.1 ∉ ch := by simpa using hac
    have lb := o.ok.lb a ha
    obtain ⟨wd, ew, hw⟩ := o.wide hal hac'
    have ec : gCatT (.tuple ch) (.tuple [a.1]) = some (.tuple (ch ++ [a.1])) := catT (by simp only [List.length_cons, List.length_nil]; omega)
    generalize a.1 = l at lb ew ec
    simp only [gN, wo_some, List.set_cons_succ, List.set_cons_zero]
    rw [W_seq, W_par2]
    simp only [W_cb, W_cons, W_nil, W_op, W_tup, W_c, W_var, List.getElem?_cons_succ, List.getElem?_cons_zero, wo_some, plOs, lb.plain, Option.bind_some, rdOs, rdO, ec, ew, gTuple, fzO, List.set_cons_succ, List.set_cons_zero]
    have own : ∀ Q' : Fl → SD → Prop, (∀ y g r, IsNd y → Pot r → Q' .nx [some (.fr (scr ns)), some (.fr (.int (i : Nat))), pot g r, some (.fr (L.fD)), some (.fr (.tuple (L.pages.map Page.d))), some (.fr (L.qD)), some (.fr (L.d)), some (.fr (labsL lt)), some (.fr (.tuple ch)), some (.fr (x)), some (.fr (.list (tx L.forms))), some (.fr (.list ((pairsL lt L.forms).map fun p => .list p.bt))), v12, some (.fr (.list (prs (pairsL lt L.forms)))), v14, v15, some (.fr (l)), v17, v18, some (.fr (.tuple wd)), some (.fr (y))]) → W (fIf (fB (fChain gLt gLt (fC (.int 0)) (fCB gLen (fCons (fVar 8) fNil)) (fC (.int 4)))) (fSet 20 (fCallP F__law_paper (fCons (fVar 2) (fCons (fVar 13) (fCons (fLst fNil) (fCons (fCB gLen (fCons (fVar 8) fNil)) fNil)))))) fNext) [some (.fr (scr ns)), some (.fr (.int (i : Nat))), pot g r, some (.fr (L.fD)), some (.fr (.tuple (L.pages.map Page.d))), some (.fr (L.qD)), some (.fr (L.d)), some (.fr (labsL lt)), some (.fr (.tuple ch)), some (.fr (x)), some (.fr (.list (tx L.forms))), some (.fr (.list ((pairsL lt L.forms).map fun p => .list p.bt))), v12, some (.fr (.list (prs (pairsL lt L.forms)))), v14, v15, some (.fr (l)), v17, v18, some (.fr (.tuple wd)), some (.fr (.none))] Q' := by
      intro Q' hQ
      rw [W_if, W_b]
      refine W_of (chain_ok (ch := ch) rfl) ?_
      simp only [OV.val.injEq, PyData.bool.injEq, exists_eq_left']
      by_cases c : 0 < ch.length ∧ ch.length < 4
      · rw [decide_eq_true c, if_pos rfl, W_set]
        refine W_callP (fun y => IsNd y) ⟨_, _, rfl⟩ ?_
        simp only [W_cons, W_nil, W_lst, W_cb, W_c, W_var, List.getElem?_cons_succ, List.getElem?_cons_zero, wo_some, plOs, rdOs, rdO, Option.bind_some, gLen]
        refine ⟨_, g, r, rfl, rfl, p, o.more, ?_⟩
        intro y g' r' hy p'
        simp only [fzO, wo_some, List.set_cons_succ, List.set_cons_zero]
        exact hQ y g' r' hy p'
      · rw [decide_eq_false c, if_neg (by simp), W_next]
        exact hQ .none g r .no p
    rw [W_seq]
    refine own _ fun y g r hy p => ?_
    dsimp only
    rw [W_if]
    simp only [W_or, W_b, W_op, W_call, W_cons, W_nil, W_c, W_var, List.getElem?_cons_succ, List.getElem?_cons_zero, wo_some, fzOs, fzO, Option.bind_some, hw y hy, hw x o.nd, rdO, isB_ok, OV.val.injEq, PyData.bool.injEq, exists_eq_left', decide_true, Bool.not_true, Bool.false_eq_true, if_false, W_next]
    exact ⟨g, r, some (.fr l), some (.fr (.tuple wd)), some (.fr y), p, rfl⟩
  · rintro d ⟨g, r, v16, v19, v20, p, rfl⟩
    exact q g r v16 v19 v20 p
/-- one turn of the law -/
theorem walk_turn {ns : List Int} (hns : ns.length ≤ 1000) {i : Nat} (hi : i ≤ 10) {v2 v3 v4 v5 v6 v7 v8 v9 v10 v11 v12 v13 v14 v15 v16 v17 v18 v19 v20 : Option SV} (n12 : NO v12) (n15 : NO v15) (n17 : NO v17) (n18 : NO v18) {Q : Fl → SD → Prop}
    (q : ∀ v2 v3 v4 v5 v6 v7 v8 v9 v10 v11 v13 v14 v16 v19 v20, Q .nx [some (.fr (scr ns)), some (.fr (.int (i : Nat))), v2, v3, v4, v5, v6, v7, v8, v9, v10, v11, v12, v13, v14, v15, v16, v17, v18, v19, v20]) : W (fSeq (fOwn 2 (fCallO F__law_pot (fCons (fVar 0) (fCons (fVar 1) fNil)))) (fSeq (fAsg (gT (gsC (gN 3) (gsC (gN 4) (gsC (gN 5) gsN)))) (fCallP F__law_set (fCons (fVar 2) fNil))) (fSeq (fPar 6 7 (fCons (fMake (fCons (fVar 3) (fCons (fVar 4) (fCons (fVar 5) fNil)))) (fCons (fCall F__law_labels (fCons (fVar 3) (fCons (fVar 4) (fCons (fVar 5) fNil)))) fNil))) (fSeq (fAsg (gT (gsC (gN 8) (gsC (gN 9) gsN))) (fCall F_telling (fCons (fVar 6) fNil))) (fSeq (fAsg (gT (gsC (gN 10) (gsC (gN 11) gsN))) (fTup (fCons (fLc (fItems (fVar 4)) (gN 12) fYes (fOp gIx (fVar 12) (fC (.int 0))) [12]) (fCons (fCall F__law_betweens (fCons (fVar 7) (fCons (fVar 4) fNil))) fNil)))) (fSeq (fIf (fOr (fB (fOp (gIsB false) (fCall F_shows_telling (fCons (fVar 6) (fCons (fVar 8) (fCons (fVar 9) fNil)))) (fC (.bool true)))) (fNot (fB (fCall F__law_like_right (fCons (fVar 3) (fCons (fVar 4) (fCons (fVar 5) (fCons (fVar 8) fNil)))))))) (fRet (fC (.bool false))) fNext) (fSeq (fSet 13 (fCall F__law_pairs_apart (fCons (fVar 7) (fCons (fVar 10) fNil)))) (fSeq (fFor (fRange (fCons (fOp gMul (fC (.int 2)) (fCB gIntB (fCons (fChain gLt gLt (fC (.int 0)) (fCB gLen (fCons (fVar 8) fNil)) (fC (.int 4))) fNil))) fNil)) (gN 14) (fIf (fB (fOp (gIsB false) (fCall F_shows_telling (fCons (fVar 6) (fCons (fVar 8) (fCons (fCallP F__law_paper (fCons (fVar 2) (fCons (fVar 13) (fCons (fLst fNil) (fCons (fOp gSub_ (fCB gLen (fCons (fVar 8) fNil)) (fC (.int 1))) fNil))))) fNil)))) (fC (.bool true)))) (fRet (fC (.bool false))) fNext)) (fSeq (fIf (fB (fCB gAny (fCons (fLc (fRange (fCons (fCB gLen (fCons (fVar 8) fNil)) fNil)) (gN 15) fYes (fCall F__law_tell_all (fCons (fVar 11) (fCons (fOp gCatT (fSl (fVar 8) fPn (fPs (fVar 15))) (fSl (fVar 8) (fPs (fOp gAdd (fVar 15) (fC (.int 1)))) fPn)) fNil))) [15]) fNil))) (fRet (fC (.bool false))) fNext) (fFor (fItems (fLc (fItems (fVar 7)) (gT (gsC (gN 17) (gsC (gN 18) gsN))) (fB (fOp (gIn false) (fVar 17) (fVar 8))) (fVar 17) [17, 18])) (gN 16) (fSeq (fPar 19 20 (fCons (fCB gTuple (fCons (fCB gSorted (fCons (fOp gCatT (fVar 8) (fTup (fCons (fVar 16) fNil))) fNil)) fNil)) (fCons (fC .none) fNil))) (fSeq (fIf (fB (fChain gLt gLt (fC (.int 0)) (fCB gLen (fCons (fVar 8) fNil)) (fC (.int 4)))) (fSet 20 (fCallP F__law_paper (fCons (fVar 2) (fCons (fVar 13) (fCons (fLst fNil) (fCons (fCB gLen (fCons (fVar 8) fNil)) fNil)))))) fNext) (fIf (fOr (fB (fOp (gIsB false) (fCall F_shows_telling (fCons (fVar 6) (fCons (fVar 19) (fCons (fVar 20) fNil)))) (fC (.bool false)))) (fB (fOp (gIsB false) (fCall F_shows_telling (fCons (fVar 6) (fCons (fVar 19) (fCons (fVar 9) fNil)))) (fC (.bool false))))) (fRet (fC (.bool false))) fNext))))))))))))) [some (.fr (scr ns)), some (.fr (.int (i : Nat))), v2, v3, v4, v5, v6, v7, v8, v9, v10, v11, v12, v13, v14, v15, v16, v17, v18, v19, v20] Q := by
  obtain ⟨g, r, ep, p⟩ := f_pot ns hns i hi
  refine W_step (d1 := [some (.fr (scr ns)), some (.fr (.int (i : Nat))), pot g r, v3, v4, v5, v6, v7, v8, v9, v10, v11, v12, v13, v14, v15, v16, v17, v18, v19, v20]) (ev ?_) ?_
  · rw [W_own, W_callO]
    simp only [W_cons, W_nil, W_var, List.getElem?_cons_succ, List.getElem?_cons_zero, wo_some, fzOs, fzO, Option.bind_some, ep, List.set_cons_succ, List.set_cons_zero]
    exact ⟨trivial, trivial⟩
  rw [W_seq, W_asg]
  refine W_callP (fun z => ∃ L : Lst, z = .tuple [L.fD, L.pD, L.qD] ∧ LstOk L ∧ ∀ g ∈ L.pages, g.form.length ≤ 76) ⟨_, _, rfl⟩ ?_
  simp only [W_nil]
  refine ⟨[], g, r, rfl, rfl, p, f_set, ?_⟩
  rintro z g r ⟨L, rfl, hL, hfm⟩ p
  have hpD : L.pD = .tuple (L.pages.map Page.d) := rfl
  simp only [fzO, wo_some, gT, gsC, gsN, gN, Option.bind_some, List.set_cons_succ, List.set_cons_zero, hpD]
  -- the tables
  obtain ⟨S, u, mem, eL⟩ := f_labels hL
  have eLL : F__law_labels [L.fD, .tuple (L.pages.map Page.d), L.qD] = some (labsL (ltOf L S)) := f_lawlabels hL u mem
  have eK : F__law_like_right [L.fD, .tuple (L.pages.map Page.d), L.qD, .tuple (chosen (ltOf L S) L.forms)] = some (.bool true) := f_like hL hfm u mem
  obtain ⟨x, eT, o⟩ := one_of hL u mem eL
  generalize ltOf L S = lt at *
  generalize chosen lt L.forms = ch at *
  have hn30 : L.pages.length ≤ 30 := Nat.le_trans hL.pn (by decide)
  have h16 : sizeLine = 16777216 := sizeLine_eq
  refine W_step (d1 := [some (.fr (scr ns)), some (.fr (.int (i : Nat))), pot g r, some (.fr (L.fD)), some (.fr (.tuple (L.pages.map Page.d))), some (.fr (L.qD)), some (.fr (L.d)), some (.fr (labsL lt)), v8, v9, v10, v11, v12, v13, v14, v15, v16, v17, v18, v19, v20]) (ev ?_) ?_
  · rw [W_par2]
    refine W_make ?_
    simp only [W_cons, W_nil, W_var, List.getElem?_cons_succ, List.getElem?_cons_zero, wo_some, plOs, plO, Option.bind_some]
    refine ⟨L.fD, .tuple (L.pages.map Page.d), L.qD, rfl, ?_⟩
    simp only [W_call, W_cons, W_nil, W_var, List.getElem?_cons_succ, List.getElem?_cons_zero, wo_some, fzOs, fzO, Option.bind_some, eLL, List.set_cons_succ, List.set_cons_zero]
    exact ⟨trivial, rfl⟩
  refine W_step (d1 := [some (.fr (scr ns)), some (.fr (.int (i : Nat))), pot g r, some (.fr (L.fD)), some (.fr (.tuple (L.pages.map Page.d))), some (.fr (L.qD)), some (.fr (L.d)), some (.fr (labsL lt)), some (.fr (.tuple ch)), some (.fr (x)), v10, v11, v12, v13, v14, v15, v16, v17, v18, v19, v20]) (ev ?_) ?_
  · simp only [W_asg, W_call, W_cons, W_nil, W_var, List.getElem?_cons_succ, List.getElem?_cons_zero, wo_some, fzOs, fzO, Option.bind_some, eT, gT, gsC, gsN, gN, List.set_cons_succ, List.set_cons_zero]
    exact ⟨trivial, trivial⟩
  have lcf : ∀ g0 r0, (fLc (fItems (fVar 4)) (gN 12) fYes (fOp gIx (fVar 12) (fC (.int 0))) [12]) [some (.fr (scr ns)), some (.fr (.int (i : Nat))), pot g0 r0, some (.fr (L.fD)), some (.fr (.tuple (L.pages.map Page.d))), some (.fr (L.qD)), some (.fr (L.d)), some (.fr (labsL lt)), some (.fr (.tuple ch)), some (.fr (x)), v10, v11, v12, v13, v14, v15, v16, v17, v18, v19, v20] = some (.val (.list (tx L.forms)), [some (.fr (scr ns)), some (.fr (.int (i : Nat))), pot g0 r0, some (.fr (L.fD)), some (.fr (.tuple (L.pages.map Page.d))), some (.fr (L.qD)), some (.fr (L.d)), some (.fr (labsL lt)), some (.fr (.tuple ch)), some (.fr (x)), v10, v11, v12, v13, v14, v15, v16, v17, v18, v19, v20]) := by
    intro g0 r0
    have : tx L.forms = L.pages.map fun q => PyData.str q.form := by simp [Lst.forms]
    rw [this]
    refine lc_all (as := L.pages) Page.d (fun q => .str q.form) rfl (okW1 rfl n12) (fun g hg => ?_) (by omega)
    exact ⟨[some (.fr (scr ns)), some (.fr (.int (i : Nat))), pot g0 r0, some (.fr (L.fD)), some (.fr (.tuple (L.pages.map Page.d))), some (.fr (L.qD)), some (.fr (L.d)), some (.fr (labsL lt)), some (.fr (.tuple ch)), some (.fr (x)), v10, v11, some (.fr (g.d)), v13, v14, v15, v16, v17, v18, v19, v20], rfl, rfl, .val (.str g.form), rfl, rfl⟩
  have eB : F__law_betweens [labsL lt, .tuple (L.pages.map Page.d)] = some (.list ((pairsL lt L.forms).map fun p => .list p.bt)) := f_lawbetweens o.ok L.pages hn30
  refine W_step (d1 := [some (.fr (scr ns)), some (.fr (.int (i : Nat))), pot g r, some (.fr (L.fD)), some (.fr (.tuple (L.pages.map Page.d))), some (.fr (L.qD)), some (.fr (L.d)), some (.fr (labsL lt)), some (.fr (.tuple ch)), some (.fr (x)), some (.fr (.list (tx L.forms))), some (.fr (.list ((pairsL lt L.forms).map fun p => .list p.bt))), v12, v13, v14, v15, v16, v17, v18, v19, v20]) (ev ?_) ?_
  · rw [W_asg, W_tup, W_cons]
    refine W_of (lcf g r) ?_
    simp only [W_call, W_cons, W_nil, W_var, List.getElem?_cons_succ, List.getElem?_cons_zero, wo_some, fzOs, fzO, Option.bind_some, eB, plOs, plO, gT, gsC, gsN, gN, List.set_cons_succ, List.set_cons_zero]
    exact ⟨trivial, trivial⟩
  have eS := o.shows o.nd
  rw [o.tl] at eS
  refine W_step (d1 := [some (.fr (scr ns)), some (.fr (.int (i : Nat))), pot g r, some (.fr (L.fD)), some (.fr (.tuple (L.pages.map Page.d))), some (.fr (L.qD)), some (.fr (L.d)), some (.fr (labsL lt)), some (.fr (.tuple ch)), some (.fr (x)), some (.fr (.list (tx L.forms))), some (.fr (.list ((pairsL lt L.forms).map fun p => .list p.bt))), v12, v13, v14, v15, v16, v17, v18, v19, v20]) (ev ?_) ?_
  · simp only [W_if, W_or, W_not, W_b, W_op, W_call, W_cons, W_nil, W_c, W_var, List.getElem?_cons_succ, List.getElem?_cons_zero, wo_some, fzOs, fzO, Option.bind_some, eS, eK, rdO, isB_ok, OV.val.injEq, PyData.bool.injEq, exists_eq_left', decide_true, Bool.not_true, Bool.false_eq_true, if_false, W_next]
    exact ⟨trivial, trivial⟩
  refine W_step (d1 := [some (.fr (scr ns)), some (.fr (.int (i : Nat))), pot g r, some (.fr (L.fD)), some (.fr (.tuple (L.pages.map Page.d))), some (.fr (L.qD)), some (.fr (L.d)), some (.fr (labsL lt)), some (.fr (.tuple ch)), some (.fr (x)), some (.fr (.list (tx L.forms))), some (.fr (.list ((pairsL lt L.forms).map fun p => .list p.bt))), v12, some (.fr (.list (prs (pairsL lt L.forms)))), v14, v15, v16, v17, v18, v19, v20]) (ev ?_) ?_
  · simp only [W_set, W_call, W_cons, W_nil, W_var, List.getElem?_cons_succ, List.getElem?_cons_zero, wo_some, fzOs, fzO, Option.bind_some, f_lawpairs o.ok L.forms o.fl, List.set_cons_succ, List.set_cons_zero]
    exact ⟨trivial, trivial⟩
  rw [W_seq]
  refine walk_own o p fun g r v14 p => ?_
  dsimp only
  refine W_step (walk_left o n15) ?_
  refine walk_wide o p n17 n18 fun g r v16 v19 v20 p => ?_
  exact q _ _ _ _ _ _ _ _ _ _ _ _ _ _ _
end DL

set_option maxRecDepth 100000
set_option linter.all false
set_option maxHeartbeats 2000000
/-! M37: the law gives True. -/
namespace DL
open PySem PySem.W PyProof.Rows L2
theorem law_true (ns : List Int) (hn : ns.length ≤ 63) : F_law [scr ns] = some (.bool true) := by
  refine runF_of ?_
  change W (fb_law F__law_betweens F__law_labels F__law_like_right F__law_pairs_apart F__law_paper F__law_pot F__law_set F__law_tell_all F_shows_telling F_telling) [some (.fr (scr ns)), none, none, none, none, none, none, none, none, none, none, none, none, none, none, none, none, none, none, none, none] _
  unfold fb_law
  have hlen : gLenC [scr ns] = some (.int (ns.length : Nat)) := by
    show some (PyData.int (((ns.map PyData.int).length : Nat))) = _
    rw [List.length_map]
  obtain ⟨t, e1, ht⟩ : ∃ t : Nat, (gMin2 [.int 2, .int (ns.length : Nat)]).bind (fun y => gMax2 [.int 1, y]) = some (.int (t : Nat)) ∧ t ≤ 2 := by
    show ∃ t : Nat, gMax2 [.int 1, .int (if ((ns.length : Nat) : Int) < 2 then ((ns.length : Nat) : Int) else 2)] = _ ∧ _
    by_cases c : ((ns.length : Nat) : Int) < 2
    · rw [if_pos c]
      show ∃ t : Nat, some (PyData.int (if ((ns.length : Nat) : Int) > 1 then ((ns.length : Nat) : Int) else 1)) = _ ∧ _
      rw [if_neg (by omega)]
      exact ⟨1, rfl, by omega⟩
    · rw [if_neg c]
      exact ⟨2, rfl, by omega⟩
  rw [Option.bind_eq_some_iff] at e1
  obtain ⟨y, e2, e3⟩ := e1
  rw [W_seq, W_for, W_range]
  simp only [W_cb, W_cons, W_nil, W_c, W_var, List.getElem?_cons_succ, List.getElem?_cons_zero, wo_some, rdOs, rdO, Option.bind_some, hlen, e2, e3, OV.val.injEq, PyData.int.injEq, exists_eq_left', Int.toNat_natCast]
  refine ⟨⟨by omega, by omega⟩, ?_⟩
  refine for_list (α := Nat) (fun i => PyData.int (i : Nat)) (List.range t) (fun pre d => ∃ v1 v2 v3 v4 v5 v6 v7 v8 v9 v10 v11 v12 v13 v14 v15 v16 v17 v18 v19 v20, NO v12 ∧ NO v15 ∧ NO v17 ∧ NO v18 ∧ d = [some (.fr (scr ns)), v1, v2, v3, v4, v5, v6, v7, v8, v9, v10, v11, v12, v13, v14, v15, v16, v17, v18, v19, v20])
    ⟨none, none, none, none, none, none, none, none, none, none, none, none, none, none, none, none, none, none, none, none, (fun _ z => by cases z), (fun _ z => by cases z), (fun _ z => by cases z), (fun _ z => by cases z), rfl⟩ ?_ ?_
  · rintro pre i suf d e ⟨v1, v2, v3, v4, v5, v6, v7, v8, v9, v10, v11, v12, v13, v14, v15, v16, v17, v18, v19, v20, n12, n15, n17, n18, rfl⟩
    have hi : i < t := by
      have : i ∈ List.range t := by rw [e]; simp
      exact List.mem_range.mp this
    simp only [gN, wo_some, List.set_cons_succ, List.set_cons_zero]
    refine walk_turn (by omega) (i := i) (by omega) n12 n15 n17 n18 ?_
    intro v2 v3 v4 v5 v6 v7 v8 v9 v10 v11 v13 v14 v16 v19 v20
    exact ⟨_, v2, v3, v4, v5, v6, v7, v8, v9, v10, v11, v12, v13, v14, v15, v16, v17, v18, v19, v20, n12, n15, n17, n18, rfl⟩
  · rintro d ⟨v1, v2, v3, v4, v5, v6, v7, v8, v9, v10, v11, v12, v13, v14, v15, v16, v17, v18, v19, v20, n12, n15, n17, n18, rfl⟩
    dsimp only
    simp only [W_ret, W_c, fzO, wo_some]
end DL

theorem PySem.Challenge.cw_keptpages_k77_whole_told_apart_holds : PySem.Challenge.rw_keptpages_k77_whole_told_apart.Holds :=
  DL.row_of fun ns h _ => DL.law_true ns h
