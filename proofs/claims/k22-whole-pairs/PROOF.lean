import PyProof.Rows.All
import Wide.All
import OpenK.AllK
import Wide.FinOn
import HandS.Base
import HandS.Call
import HandS.List
import HandS.Comp
import HandS.Ends
import HandS.Evl
import HandS.Exc
import HandS.Lambda
import HandS.ExcOwn
import HandS.Words
import HandS.WordsExc
import HandS.Defaults
import HandS.HeadHook1
import HandS.HeadHook2
import HandS.Style
import HandS.TupAny
import HandS.TupMul
import HandS.Wide
import HandS.IsInst
import KE.DataEq
import KE.DataFind
import KE.DataMinMax
import KE.SortData
import PyProof.Rows.SumAny
import KE.KIndexOf
import HandS.SetFor
import HandS.Deep
import HandS.Zip
import KE.GoesEnum
import KE.GoesNew
import HandS.Set
import HandS.Conv
import HandS.Strs
import HandS.TupSets
import KE.KRevSl
import KE.KDictZip
import HandS.ExcIs
import HandS.Dict
import HandS.More
import HandS.DictComp
import HandS.Iter
import HandS.Text
import HandS.Codes
import HandS.HeadEnd
import KE.KLam
import HandS.HotCalls
import HandS.Nested
import HandS.EndTab
import HandS.HeadHook4
import KE.KStateDown
import Lean
import HandS.Head0
import HandS.Head1
import HandS.Head2
import PySem.Challenge.RW_bucketdata_k22_whole_pairs
set_option Elab.async false
set_option linter.all false
set_option maxRecDepth 100000
set_option autoImplicit false
set_option maxHeartbeats 1000000
/-! PyA: a pure layer over HandS: values as data, slots that hold data or an owned list; the core. -/
namespace Py
open PySem L2
open Evl (Ex ex_l ex_t)
abbrev Sl := L2.St
/-- the written part that may hold the script -/
class KK where
  K : PySem.W.Frag
  T : List (Addr × Str)
class OK [KK] (X : Cx) : Prop where
  eq : X.K = KK.K
variable [KK]
instance {CX : CXT} {P : Program} {w : World} {mg : Str → Option Value} {base : Heap} {N : List Str} {qual : Str} {scope : Scope} {f : Addr} {cd : Value} {A : Around} {outer : List Env} {s : Shared} {H : Hp} {E : XK} : OK (cxOf CX P w KK.K mg base N qual scope f cd A outer s H E) := ⟨rfl⟩
instance {X : Cx} [h : OK X] {s : Shared} {H : Hp} {scope : Scope} {cenv : Env} {fp : List Addr} : OK (X.blk s H scope cenv fp) := ⟨h.eq⟩
instance {X : Cx} [h : OK X] {pn : List (Addr × Obj)} {xe : Value → Shared → Prop} : OK (X.tr pn xe) := ⟨h.eq⟩
instance {X : Cx} [h : OK X] {a : Addr} {pn : List (Addr × Obj)} : OK (X.suite a pn) := ⟨h.eq⟩
/-- a list, read off the heap; or of the written part -/
def Rl (H : Hp) (a : Addr) (xs : List V) : Prop := Rd H a (.lst xs) ∨ ∃ (its : List Value) (n : Nat), KK.K.lookup a = some { cls := .type "list", data := .seq its.toArray n } ∧ its.length ≤ sizeLine ∧ Vals xs its
theorem Rl.up {H H' : Hp} {a : Addr} {xs : List V} (e : Ex H H') : Rl H a xs → Rl H' a xs
  | .inl h => .inl (Evl.ex_rd e h)
  | .inr h => .inr h
theorem Rl.sqK {H : Hp} {a : Addr} {xs : List V} : Rl H a xs → SqL KK.K H a xs
  | .inl h => .inl h
  | .inr ⟨its, n, h1, h2, h3⟩ => .inr ⟨_, its.toArray, n, h1, rfl, rfl, rfl, by rw [List.size_toArray]; exact h2, by simpa using h3⟩
theorem Rl.sq {X : Cx} [h : OK X] {H : Hp} {a : Addr} {xs : List V} (l : Rl H a xs) : SqL X.K H a xs := by rw [h.eq]; exact l.sqK

inductive R (α : Type) where
  | ok (a : α)
  | err (c : Str)
  | bad
def R.bind {α β : Type} : R α → (α → R β) → R β
  | .ok a, f => f a
  | .err c, _ => .err c
  | .bad, _ => .bad
instance : Monad R where
  pure := R.ok
  bind := R.bind
@[simp] theorem R.pure_eq {α : Type} (a : α) : (pure a : R α) = .ok a := id rfl
@[simp] theorem R.bind_ok {α β : Type} (a : α) (f : α → R β) : (R.ok a >>= f) = f a := id rfl
@[simp] theorem R.bind_err {α β : Type} (c : Str) (f : α → R β) : ((R.err c : R α) >>= f) = .err c := id rfl
@[simp] theorem R.bind_bad {α β : Type} (f : α → R β) : ((R.bad : R α) >>= f) = .bad := id rfl

/-- what a def gives -/
inductive Cr where
  | val (d : PyData)
  | own (ds : List PyData)
  | tpn (ds : List PyData)
/-- things that stay as they are: a dict that is being walked over -/
inductive Tg where
  | dfz (kvs : List (Int × PyData))
/-- what a slot holds; raw: the thing at a -/
inductive Cl where
  | val (d : PyData)
  | own (ds : List PyData)
  | raw (a : Addr)
  | dct (kvs : List (Int × PyData))
  | tpn (ds : List PyData)
  | kn (t : Tg)
abbrev En := List (Option Cl)
inductive Rv where
  | val (d : PyData)
  | own (ds : List PyData)
  | bor (i : Nat) (ds : List PyData)

/-- all but the tables of code objects stay -/
structure ExT (H H' : Hp) : Prop where
  st : ∀ b o, H b = some o → (∀ ps, o ≠ .tbl ps) → H' b = some o
  tb : ∀ b ps, H b = some (.tbl ps) → ∃ qs, H' b = some (.tbl qs)
  tabs : LamX.Tabs KK.T H → LamX.Tabs KK.T H'
theorem ExT.of {H H' : Hp} (e : Ex H H') : ExT H H' := ⟨fun b o h _ => e b o h, fun b ps h => ⟨ps, e _ _ h⟩, fun t => t.ext e⟩
theorem ExT.refl (H : Hp) : ExT H H := .of (Ex.refl H)
theorem ExT.trans {H H1 H2 : Hp} (a : ExT H H1) (b : ExT H1 H2) : ExT H H2 := ⟨fun c o h n => b.st c o (a.st c o h n) n, fun c ps h => let ⟨qs, q⟩ := a.tb c ps h; b.tb c qs q, fun t => b.tabs (a.tabs t)⟩
theorem ExT.back {H H' : Hp} {b : Addr} (e : ExT H H') (h : H' b = none) : H b = none := by
  cases q : H b with
  | none => rfl
  | some o =>
    by_cases z : ∃ ps, o = .tbl ps
    · obtain ⟨ps, rfl⟩ := z
      obtain ⟨qs, w⟩ := e.tb b ps q
      rw [h] at w
      cases w
    · have w := e.st b o q fun ps y => z ⟨ps, y⟩
      rw [h] at w
      cases w
theorem ExT.l {H H' : Hp} {b : Addr} {xs : List V} (e : ExT H H') (h : H b = some (.lst xs)) : H' b = some (.lst xs) := e.st _ _ h fun _ z => nomatch z
theorem ExT.d {H H' : Hp} {b : Addr} {ks : List (Key × V)} (e : ExT H H') (h : H b = some (.dK ks)) : H' b = some (.dK ks) := e.st _ _ h fun _ z => nomatch z
theorem ExT.z {H H' : Hp} {b : Addr} {o : Obj} {u : HO} (e : ExT H H') (h : H b = some (.frz o u)) : H' b = some (.frz o u) := e.st _ _ h fun _ z => nomatch z
theorem ExT.t {H H' : Hp} {b : Addr} {xs : List V} (e : ExT H H') (h : H b = some (.tup xs)) : H' b = some (.tup xs) := e.st _ _ h fun _ z => nomatch z
theorem tabs_mut {T : List (Addr × Str)} {H : Hp} {p : Addr} {o : HO} (t : LamX.Tabs T H) (hn : ∀ ps, H p ≠ some (.tbl ps)) (hc : ∀ c q, H p ≠ some (LamX.CodeO c q)) : LamX.Tabs T (upd H p o) := fun z hz => by
  obtain ⟨ps, h1, h2, h3⟩ := t z hz
  have ne : z.1 ≠ p := fun e => hn ps (by rw [← e]; exact h1)
  refine ⟨ps, by rw [upd_ne ne]; exact h1, h2, fun pos cv q => ?_⟩
  obtain ⟨c, e1, h4⟩ := h3 pos cv q
  exact ⟨c, e1, by rw [upd_ne (fun e => hc c z.2 (by rw [← e]; exact h4))]; exact h4⟩
theorem ExT.mut {H0 H : Hp} {p : Addr} {o : HO} (e : ExT H0 H) (h0 : H0 p = none) (hn : ∀ ps, H p ≠ some (.tbl ps)) (hc : ∀ c q, H p ≠ some (LamX.CodeO c q)) : ExT H0 (upd H p o) :=
  ⟨fun b u h n => by rw [upd_ne (ne_of_none h h0)]; exact e.st b u h n, fun b ps h => by rw [upd_ne (ne_of_none h h0)]; exact e.tb b ps h, fun t => tabs_mut (e.tabs t) hn hc⟩
theorem not_code {c : Addr} {q : Str} : LamX.CodeO c q = .ext fun h => ∃ (oc : Obj) (vs : Array Value) (t : Tok), h.get? c = some oc ∧ oc.data = .fields vs ∧ vs[1]? = some (.str q t) := rfl
theorem tabs_mutL {T : List (Addr × Str)} {H : Hp} {p : Addr} {o : HO} {xs : List V} (t : LamX.Tabs T H) (h : H p = some (.lst xs)) : LamX.Tabs T (upd H p o) := tabs_mut t (fun _ z => by rw [h] at z; cases z) fun _ _ z => by rw [h, not_code] at z; cases z
theorem tabs_mutD {T : List (Addr × Str)} {H : Hp} {p : Addr} {o : HO} {ks : List (Key × V)} (t : LamX.Tabs T H) (h : H p = some (.dK ks)) : LamX.Tabs T (upd H p o) := tabs_mut t (fun _ z => by rw [h] at z; cases z) fun _ _ z => by rw [h, not_code] at z; cases z
theorem ExT.mutL {H0 H : Hp} {p : Addr} {o : HO} {xs : List V} (e : ExT H0 H) (h0 : H0 p = none) (h : H p = some (.lst xs)) : ExT H0 (upd H p o) := e.mut h0 (fun _ z => by rw [h] at z; cases z) fun _ _ z => by rw [h, not_code] at z; cases z
theorem ExT.mutD {H0 H : Hp} {p : Addr} {o : HO} {ks : List (Key × V)} (e : ExT H0 H) (h0 : H0 p = none) (h : H p = some (.dK ks)) : ExT H0 (upd H p o) := e.mut h0 (fun _ z => by rw [h] at z; cases z) fun _ _ z => by rw [h, not_code] at z; cases z
/-- a dict is frozen, then freed -/
theorem ExT.swap {H H2 : Hp} {q : Addr} {od : Obj} {ks : List (Key × V)} (h : H q = some (.dK ks)) (g : ExT (upd H q (.frz od (.dK ks))) H2) (h2 : H2 q = some (.frz od (.dK ks))) : ExT H (upd H2 q (.dK ks)) := by
  refine ⟨fun a u z n => ?_, fun a ps z => ?_, fun t => ?_⟩
  · by_cases ha : a = q
    · subst ha; rw [upd_same]; rw [h] at z; exact z
    · rw [upd_ne ha]; exact g.st a u (by rw [upd_ne ha]; exact z) n
  · have ha : a ≠ q := fun w => by subst w; rw [h] at z; cases z
    rw [upd_ne ha]; exact g.tb a ps (by rw [upd_ne ha]; exact z)
  · exact tabs_mut (g.tabs (tabs_mutD t h)) (fun _ z => by rw [h2] at z; cases z) fun _ _ z => by rw [h2, not_code] at z; cases z
/-- the tables stand in H, and none is known for good -/
def TabK (Hk H : Hp) : Prop := LamX.Tabs KK.T H ∧ ∀ p ∈ KK.T, Hk p.1 = none
/-- heaps grow: Hk what is known for good, H all -/
structure Gr (Hk H Hk' H' : Hp) : Prop where
  k : Ex Hk Hk'
  h : ExT H H'
  kh : Ex Hk' H'
  fr : ∀ p, H p ≠ none → Hk p = none → Hk' p = none
theorem Gr.refl {Hk H : Hp} (e : Ex Hk H) : Gr Hk H Hk H := ⟨Ex.refl _, ExT.refl _, e, fun _ _ h => h⟩
theorem Gr.trans {Hk H Hk1 H1 Hk2 H2 : Hp} (a : Gr Hk H Hk1 H1) (b : Gr Hk1 H1 Hk2 H2) : Gr Hk H Hk2 H2 :=
  ⟨a.k.trans b.k, a.h.trans b.h, b.kh, fun p h n => b.fr p (fun z => h (a.h.back z)) (a.fr p h n)⟩
/-- a new object, known for good -/
theorem Gr.new {Hk H : Hp} {p : Addr} {o : HO} (e : Ex Hk H) (h : H p = none) : Gr Hk H (upd Hk p o) (upd H p o) := by
  have hk := Evl.fresh_back e h
  refine ⟨Ex.new hk, .of (Ex.new h), fun a u q => ?_, fun q n z => ?_⟩
  · by_cases ha : a = p
    · subst ha; rw [upd_same] at q ⊢; exact q
    · rw [upd_ne ha] at q ⊢; exact e a u q
  · rw [upd_ne (fun w => n (by rw [w]; exact h))]; exact z
/-- a new object, not known -/
theorem Gr.own {Hk H : Hp} {p : Addr} {o : HO} (e : Ex Hk H) (h : H p = none) : Gr Hk H Hk (upd H p o) :=
  ⟨Ex.refl _, .of (Ex.new h), fun a u q => by rw [upd_ne (ne_of_none (e a u q) h)]; exact e a u q, fun _ _ z => z⟩
/-- an object that is not of the elder heap becomes known -/
theorem Gr.frz {Hk H Hk' H' : Hp} {p : Addr} {o : HO} (g : Gr Hk H Hk' H') (h : H p = none) (ho : H' p = some o) (hk : Hk' p = none) : Gr Hk H (upd Hk' p o) H' := by
  refine ⟨fun a u q => ?_, g.h, fun a u q => ?_, fun q n z => ?_⟩
  · have : a ≠ p := ne_of_none (g.k a u q) hk
    rw [upd_ne this]; exact g.k a u q
  · by_cases ha : a = p
    · subst ha; rw [upd_same] at q; rw [ho]; exact q
    · rw [upd_ne ha] at q; exact g.kh a u q
  · rw [upd_ne (fun w => n (by rw [w]; exact h))]; exact g.fr q n z

mutual
/-- a value stands for data; lists and tuples are read off the heap -/
inductive Rp (H : Hp) : V → PyData → Prop
  | non : Rp H .non .none
  | bl (b : Bool) : Rp H (.bl b) (.bool b)
  | int (i : Int) : Rp H (.int i) (.int i)
  | str (x : Str) : Rp H (.str x) (.str x)
  | lst {a : Addr} {xs : List V} {ds : List PyData} (h : Rl H a xs) (r : RpAll H xs ds) : Rp H (.ref a) (.list ds)
  | tup {a : Addr} {xs : List V} {ds : List PyData} (h : Rd H a (.tup xs)) (r : RpAll H xs ds) : Rp H (.ref a) (.tuple ds)
inductive RpAll (H : Hp) : List V → List PyData → Prop
  | nil : RpAll H [] []
  | cons {v : V} {vs : List V} {d : PyData} {ds : List PyData} (h : Rp H v d) (r : RpAll H vs ds) : RpAll H (v :: vs) (d :: ds)
end
mutual
theorem Rp.up {H H' : Hp} (e : Ex H H') : ∀ {v : V} {d : PyData}, Rp H v d → Rp H' v d
  | _, _, .non => .non
  | _, _, .bl b => .bl b
  | _, _, .int i => .int i
  | _, _, .str x => .str x
  | _, _, .lst h a => .lst (Rl.up e h) (RpAll.up e a)
  | _, _, .tup h a => .tup (Evl.ex_rd e h) (RpAll.up e a)
theorem RpAll.up {H H' : Hp} (e : Ex H H') : ∀ {vs : List V} {ds : List PyData}, RpAll H vs ds → RpAll H' vs ds
  | _, _, .nil => .nil
  | _, _, .cons a b => .cons (Rp.up e a) (RpAll.up e b)
end
mutual
theorem Rp.dp {H : Hp} : ∀ {v : V} {d : PyData}, Rp H v d → Dp KK.K H v d
  | _, _, .non => .non
  | _, _, .bl b => .bl b
  | _, _, .int i => .int i
  | _, _, .str x => .str x
  | _, _, .lst h a => .lst h.sqK (RpAll.dp a)
  | _, _, .tup h a => .tup (.inl h) (RpAll.dp a)
theorem RpAll.dp {H : Hp} : ∀ {vs : List V} {ds : List PyData}, RpAll H vs ds → DpAll KK.K H vs ds
  | _, _, .nil => .nil
  | _, _, .cons a b => .cons (Rp.dp a) (RpAll.dp b)
end
theorem RpAll.length {H : Hp} : ∀ {vs : List V} {ds : List PyData}, RpAll H vs ds → vs.length = ds.length
  | _, _, .nil => rfl
  | _, _, .cons _ b => congrArg Nat.succ (RpAll.length b)
theorem RpAll.append {H : Hp} : ∀ {vs us : List V} {ds es : List PyData}, RpAll H vs ds → RpAll H us es → RpAll H (vs ++ us) (ds ++ es)
  | _, _, _, _, .nil, b => b
  | _, _, _, _, .cons a r, b => .cons a (RpAll.append r b)
theorem RpAll.one {H : Hp} {v : V} {d : PyData} (h : Rp H v d) : RpAll H [v] [d] := .cons h .nil
theorem RpAll.get {H : Hp} : ∀ {vs : List V} {ds : List PyData} {i : Nat} {d : PyData}, RpAll H vs ds → ds[i]? = some d → ∃ v, vs[i]? = some v ∧ Rp H v d
  | _, _, _, _, .nil, e => by simp at e
  | _, _, 0, _, .cons a _, e => by simp at e; subst e; exact ⟨_, rfl, a⟩
  | _, _, i + 1, d, .cons _ b, e => by
    obtain ⟨v, h1, h2⟩ := RpAll.get (i := i) (d := d) b (by simpa using e)
    exact ⟨v, by simpa using h1, h2⟩
theorem RpAll.getV {H : Hp} : ∀ {vs : List V} {ds : List PyData} {i : Nat} {v : V}, RpAll H vs ds → vs[i]? = some v → ∃ d, ds[i]? = some d ∧ Rp H v d
  | _, _, _, _, .nil, e => by simp at e
  | _, _, 0, _, .cons a _, e => by simp at e; subst e; exact ⟨_, rfl, a⟩
  | _, _, i + 1, d, .cons _ b, e => by
    obtain ⟨v, h1, h2⟩ := RpAll.getV (i := i) (v := d) b (by simpa using e)
    exact ⟨v, by simpa using h1, h2⟩
theorem RpAll.take {H : Hp} : ∀ {vs : List V} {ds : List PyData} (n : Nat), RpAll H vs ds → RpAll H (vs.take n) (ds.take n)
  | _, _, 0, _ => .nil
  | _, _, _ + 1, .nil => .nil
  | _, _, n + 1, .cons a b => .cons a (RpAll.take n b)
theorem RpAll.drop {H : Hp} : ∀ {vs : List V} {ds : List PyData} (n : Nat), RpAll H vs ds → RpAll H (vs.drop n) (ds.drop n)
  | _, _, 0, h => h
  | _, _, _ + 1, .nil => .nil
  | _, _, n + 1, .cons _ b => RpAll.drop n b
theorem RpAll.set {H : Hp} {v : V} {d : PyData} (h : Rp H v d) : ∀ {vs : List V} {ds : List PyData} (i : Nat), RpAll H vs ds → RpAll H (vs.set i v) (ds.set i d)
  | _, _, _, .nil => .nil
  | _, _, 0, .cons _ b => .cons h b
  | _, _, i + 1, .cons a b => .cons a (RpAll.set h i b)
theorem RpAll.reverse {H : Hp} : ∀ {vs : List V} {ds : List PyData}, RpAll H vs ds → RpAll H vs.reverse ds.reverse
  | _, _, .nil => .nil
  | _, _, .cons a b => by
    rw [List.reverse_cons, List.reverse_cons]
    exact RpAll.append (RpAll.reverse b) (RpAll.one a)
theorem RpAll.ints {H : Hp} : ∀ {vs : List V} {ns : List Int}, RpAll H vs (ns.map PyData.int) → vs = ns.map V.int
  | _, [], .nil => rfl
  | _, n :: ns, .cons a b => by
    cases a
    rw [RpAll.ints b]
    rfl
theorem RpAll.ofInts {H : Hp} : ∀ (ns : List Int), RpAll H (ns.map V.int) (ns.map PyData.int)
  | [] => .nil
  | n :: ns => .cons (.int n) (RpAll.ofInts ns)
theorem RpAll.bls {H : Hp} : ∀ {vs : List V} {ns : List Bool}, RpAll H vs (ns.map PyData.bool) → vs = ns.map V.bl
  | _, [], .nil => rfl
  | _, n :: ns, .cons a b => by
    cases a
    rw [RpAll.bls b]
    rfl

/-- the entries of a dict with int keys -/
def DR (Hk : Hp) (ks : List (Key × V)) (kvs : List (Int × PyData)) : Prop := ks.map (·.1) = kvs.map (fun p => Sum.inl p.1) ∧ RpAll Hk (ks.map (·.2)) (kvs.map (·.2))
theorem DR.up {Hk Hk' : Hp} {ks : List (Key × V)} {kvs : List (Int × PyData)} (e : Ex Hk Hk') (h : DR Hk ks kvs) : DR Hk' ks kvs := ⟨h.1, RpAll.up e h.2⟩
/-- a tuple without a dict of its own -/
def TN (Hk : Hp) (v : V) (ds : List PyData) : Prop := ∃ p xs o, v = .ref p ∧ Hk p = some (.frz o (.tup xs)) ∧ o.dict = none ∧ RpAll Hk xs ds
theorem TN.up {Hk Hk' : Hp} {v : V} {ds : List PyData} (e : Ex Hk Hk') (h : TN Hk v ds) : TN Hk' v ds := let ⟨p, xs, o, a, b, c, d⟩ := h; ⟨p, xs, o, a, e _ _ b, c, RpAll.up e d⟩
theorem TN.rp {Hk : Hp} {v : V} {ds : List PyData} (h : TN Hk v ds) : Rp Hk v (.tuple ds) := by
  obtain ⟨p, xs, o, rfl, b, c, d⟩ := h
  exact .tup (.inr ⟨o, b⟩) d
def Tg.In : Tg → Hp → V → Prop
  | .dfz kvs, Hk, v => ∃ p od ks, v = .ref p ∧ Hk p = some (.frz od (.dK ks)) ∧ DR Hk ks kvs
theorem Tg.up {Hk Hk' : Hp} {v : V} (e : Ex Hk Hk') : ∀ {t : Tg}, t.In Hk v → t.In Hk' v
  | .dfz _, ⟨p, od, ks, a, b, c⟩ => ⟨p, od, ks, a, e _ _ b, DR.up e c⟩
structure Rel (Hk0 H0 Hk H : Hp) (σ : Sl) (ρ : En) : Prop where
  len : σ.length = ρ.length
  gr : Gr Hk0 H0 Hk H
  val : ∀ (i : Nat) (d : PyData), ρ[i]? = some (some (Cl.val d)) → ∃ v, σ[i]? = some (some v) ∧ Rp Hk v d
  own : ∀ (i : Nat) (ds : List PyData), ρ[i]? = some (some (Cl.own ds)) → ∃ p xs, σ[i]? = some (some (.ref p)) ∧ H0 p = none ∧ Hk p = none ∧ H p = some (.lst xs) ∧ RpAll Hk xs ds
  sep : ∀ (i j : Nat) (ds es : List PyData) (p : Addr), ρ[i]? = some (some (Cl.own ds)) → ρ[j]? = some (some (Cl.own es)) → σ[i]? = some (some (.ref p)) → σ[j]? = some (some (.ref p)) → i = j
  raw : ∀ (i : Nat) (a : Addr), ρ[i]? = some (some (Cl.raw a)) → σ[i]? = some (some (.ref a))
  dct : ∀ (i : Nat) (kvs : List (Int × PyData)), ρ[i]? = some (some (Cl.dct kvs)) → ∃ p ks, σ[i]? = some (some (.ref p)) ∧ H0 p = none ∧ Hk p = none ∧ H p = some (.dK ks) ∧ DR Hk ks kvs
  tpn : ∀ (i : Nat) (ds : List PyData), ρ[i]? = some (some (Cl.tpn ds)) → ∃ v, σ[i]? = some (some v) ∧ TN Hk v ds
  dsep : ∀ (i j : Nat) (kvs ls : List (Int × PyData)) (p : Addr), ρ[i]? = some (some (Cl.dct kvs)) → ρ[j]? = some (some (Cl.dct ls)) → σ[i]? = some (some (.ref p)) → σ[j]? = some (some (.ref p)) → i = j
  kn : ∀ (i : Nat) (t : Tg), ρ[i]? = some (some (Cl.kn t)) → ∃ v, σ[i]? = some (some v) ∧ t.In Hk v
  t0 : TabK Hk0 H0
theorem TabK.up {Hk H Hk' H' : Hp} (t : TabK Hk H) (g : Gr Hk H Hk' H') : TabK Hk' H' := ⟨g.h.tabs t.1, fun p hp => g.fr p.1 (by obtain ⟨ps, h, _⟩ := t.1 p hp; rw [h]; exact fun z => nomatch z) (t.2 p hp)⟩
theorem Rel.tab {Hk0 H0 Hk H : Hp} {σ : Sl} {ρ : En} (r : Rel Hk0 H0 Hk H σ ρ) : TabK Hk H := r.t0.up r.gr
theorem Rel.up {Hk0 H0 Hk H Hk' H' : Hp} {σ : Sl} {ρ : En} (r : Rel Hk0 H0 Hk H σ ρ) (g : Gr Hk H Hk' H') : Rel Hk0 H0 Hk' H' σ ρ where
  len := r.len
  gr := r.gr.trans g
  val := fun i d e => let ⟨v, a, b⟩ := r.val i d e; ⟨v, a, Rp.up g.k b⟩
  own := fun i ds e => let ⟨p, xs, a, b, c, d, f⟩ := r.own i ds e; ⟨p, xs, a, b, g.fr p (by rw [d]; exact fun z => nomatch z) c, g.h.l d, RpAll.up g.k f⟩
  sep := r.sep
  raw := r.raw
  dct := fun i ds e => let ⟨p, xs, a, b, c, d, f⟩ := r.dct i ds e; ⟨p, xs, a, b, g.fr p (by rw [d]; exact fun z => nomatch z) c, g.h.d d, DR.up g.k f⟩
  tpn := fun i d e => let ⟨v, a, b⟩ := r.tpn i d e; ⟨v, a, TN.up g.k b⟩
  dsep := r.dsep
  kn := fun i d e => let ⟨v, a, b⟩ := r.kn i d e; ⟨v, a, Tg.up g.k b⟩
  t0 := r.t0
theorem Rel.kh {Hk0 H0 Hk H : Hp} {σ : Sl} {ρ : En} (r : Rel Hk0 H0 Hk H σ ρ) : Ex Hk H := r.gr.kh

def Den (Hk H : Hp) (σ : Sl) : Rv → V → Prop
  | .val d, v => Rp Hk v d
  | .own ds, v => ∃ p xs, v = .ref p ∧ Hk p = none ∧ H p = some (.lst xs) ∧ RpAll Hk xs ds
  | .bor i ds, v => ∃ p xs, v = .ref p ∧ σ[i]? = some (some v) ∧ Hk p = none ∧ H p = some (.lst xs) ∧ RpAll Hk xs ds
def New (H : Hp) : Rv → V → Prop
  | .own _, v => ∃ p, v = .ref p ∧ H p = none
  | _, _ => True
theorem New.back {H H' : Hp} (e : ExT H H') : ∀ {r : Rv} {v : V}, New H' r v → New H r v
  | .val _, _, _ => trivial
  | .bor _ _, _, _ => trivial
  | .own _, _, ⟨p, a, b⟩ => ⟨p, a, e.back b⟩
theorem Den.up {Hk H Hk' H' : Hp} {σ : Sl} (g : Gr Hk H Hk' H') : ∀ {r : Rv} {v : V}, Den Hk H σ r v → Den Hk' H' σ r v
  | .val _, _, h => Rp.up g.k h
  | .own _, _, ⟨p, xs, a, b, c, d⟩ => ⟨p, xs, a, g.fr p (by rw [c]; exact fun z => nomatch z) b, g.h.l c, RpAll.up g.k d⟩
  | .bor _ _, _, ⟨p, xs, a, s, b, c, d⟩ => ⟨p, xs, a, s, g.fr p (by rw [c]; exact fun z => nomatch z) b, g.h.l c, RpAll.up g.k d⟩

section
variable (K : PySem.W.Frag) (W : WX)
def PostE (Hk H : Hp) (σ : Sl) (Q : VK) : R Rv → Prop
  | .ok r => ∀ v Hk' H', Gr Hk H Hk' H' → New H r v → Den Hk' H' σ r v → Q v H'
  | .err c => ∀ Hk' H', Gr Hk H Hk' H' → W (.ref (He.ga K c)) none σ H'
  | .bad => False
def PostT (Hk H : Hp) (σ : Sl) (Q : Bool → Hp → Prop) : R Bool → Prop
  | .ok b => ∀ Hk' H', Gr Hk H Hk' H' → Q b H'
  | .err c => ∀ Hk' H', Gr Hk H Hk' H' → W (.ref (He.ga K c)) none σ H'
  | .bad => False
def te (φ : En → R Rv) : TE := fun σ H Q => ∃ Hk0 H0 Hk ρ, Rel Hk0 H0 Hk H σ ρ ∧ PostE K W Hk H σ Q (φ ρ)
def tt (φ : En → R Bool) : TT := fun σ H Q => ∃ Hk0 H0 Hk ρ, Rel Hk0 H0 Hk H σ ρ ∧ PostT K W Hk H σ Q (φ ρ)
end
section
variable {K : PySem.W.Frag} {W : WX} {Hk0 H0 Hk H Hk' H' : Hp} {σ : Sl} {ρ : En} {Q : VK}
theorem PostE.up {r : R Rv} (g : Gr Hk H Hk' H') (h : PostE K W Hk H σ Q r) : PostE K W Hk' H' σ Q r := by
  cases r with
  | ok r => exact fun v Hk2 H2 g2 n d => h v Hk2 H2 (g.trans g2) (n.back g.h) d
  | err c => exact fun Hk2 H2 g2 => h Hk2 H2 (g.trans g2)
  | bad => exact h
theorem PostT.up {Q : Bool → Hp → Prop} {r : R Bool} (g : Gr Hk H Hk' H') (h : PostT K W Hk H σ Q r) : PostT K W Hk' H' σ Q r := by
  cases r with
  | ok r => exact fun Hk2 H2 g2 => h Hk2 H2 (g.trans g2)
  | err c => exact fun Hk2 H2 g2 => h Hk2 H2 (g.trans g2)
  | bad => exact h
/-- an expression, then what is done with its value -/
theorem te_then {φ : En → R Rv} {g : Rv → R Rv} {Q' : VK} (r : Rel Hk0 H0 Hk H σ ρ) (p : PostE K W Hk H σ Q (φ ρ >>= g))
    (k : ∀ x v Hk' H', Gr Hk H Hk' H' → New H x v → Den Hk' H' σ x v → Rel Hk0 H0 Hk' H' σ ρ → PostE K W Hk H σ Q (g x) → Q' v H') : te K W φ σ H Q' := by
  refine ⟨Hk0, H0, Hk, ρ, r, ?_⟩
  cases e : φ ρ with
  | ok x =>
    rw [e] at p
    exact fun v Hk' H' gr n d => k x v Hk' H' gr n d (r.up gr) p
  | err c => rw [e] at p; exact p
  | bad => rw [e] at p; exact p
theorem te_thenT {φ : En → R Rv} {g : Rv → R Bool} {Q : Bool → Hp → Prop} {Q' : VK} (r : Rel Hk0 H0 Hk H σ ρ) (p : PostT K W Hk H σ Q (φ ρ >>= g))
    (k : ∀ x v Hk' H', Gr Hk H Hk' H' → New H x v → Den Hk' H' σ x v → Rel Hk0 H0 Hk' H' σ ρ → PostT K W Hk' H' σ Q (g x) → Q' v H') : te K W φ σ H Q' := by
  refine ⟨Hk0, H0, Hk, ρ, r, ?_⟩
  cases e : φ ρ with
  | ok x =>
    rw [e] at p
    exact fun v Hk' H' gr n d => k x v Hk' H' gr n d (r.up gr) (PostT.up gr p)
  | err c => rw [e] at p; exact p
  | bad => rw [e] at p; exact p
theorem tt_then {φ : En → R Bool} {g : Bool → R Rv} {Q' : Bool → Hp → Prop} (r : Rel Hk0 H0 Hk H σ ρ) (p : PostE K W Hk H σ Q (φ ρ >>= g))
    (k : ∀ x Hk' H', Gr Hk H Hk' H' → Rel Hk0 H0 Hk' H' σ ρ → PostE K W Hk' H' σ Q (g x) → Q' x H') : tt K W φ σ H Q' := by
  refine ⟨Hk0, H0, Hk, ρ, r, ?_⟩
  cases e : φ ρ with
  | ok x =>
    rw [e] at p
    exact fun Hk' H' gr => k x Hk' H' gr (r.up gr) (PostE.up gr p)
  | err c => rw [e] at p; exact p
  | bad => rw [e] at p; exact p
theorem tt_thenT {φ : En → R Bool} {g : Bool → R Bool} {Q Q' : Bool → Hp → Prop} (r : Rel Hk0 H0 Hk H σ ρ) (p : PostT K W Hk H σ Q (φ ρ >>= g))
    (k : ∀ x Hk' H', Gr Hk H Hk' H' → Rel Hk0 H0 Hk' H' σ ρ → PostT K W Hk' H' σ Q (g x) → Q' x H') : tt K W φ σ H Q' := by
  refine ⟨Hk0, H0, Hk, ρ, r, ?_⟩
  cases e : φ ρ with
  | ok x =>
    rw [e] at p
    exact fun Hk' H' gr => k x Hk' H' gr (r.up gr) (PostT.up gr p)
  | err c => rw [e] at p; exact p
  | bad => rw [e] at p; exact p
/-- the end: a value that needs no new object -/
theorem PostE.here {d : PyData} {v : V} (e : Ex Hk H) (p : PostE K W Hk H σ Q (.ok (.val d))) (h : Rp Hk v d) : Q v H := p v Hk H (Gr.refl e) trivial h
end
section
variable {X : Cx}
theorem pe_imp {e : Expr} {t t' : TE} (h : PE X e t) (w : ∀ σ H Q, t' σ H Q → t σ H Q) : PE X e t' := ⟨fun pins s σ H Q I q => h.run pins s σ H Q I (w σ H Q q)⟩
theorem pt_imp {e : Expr} {t t' : TT} (h : PT X e t) (w : ∀ σ H Q, t' σ H Q → t σ H Q) : PT X e t' := ⟨fun pins s σ H Q I q => h.run pins s σ H Q I (w σ H Q q)⟩
theorem pw_imp {e : Expr} {t t' : TT} (h : PW X e t) (w : ∀ σ H Q, t' σ H Q → t σ H Q) : PW X e t' := ⟨fun wh pins s σ H Q I q => h.run wh pins s σ H Q I (w σ H Q q)⟩
theorem pa_imp {e : List Expr} {t t' : TA} (h : PA X e t) (w : ∀ σ H Q, t' σ H Q → t σ H Q) : PA X e t' := ⟨fun pos pins s σ H Q I q => h.run pos pins s σ H Q I (w σ H Q q)⟩
theorem ps_imp {e : Stmt} {t t' : TS} (h : PS X e t) (w : ∀ D σ H, t' D σ H → t D σ H) : PS X e t' := ⟨fun pins s σ H D I q => h.run pins s σ H D I (w D σ H q)⟩
theorem pss_imp {e : List Stmt} {t t' : TS} (h : PSs X e t) (w : ∀ D σ H, t' D σ H → t D σ H) : PSs X e t' := ⟨fun pins s σ H D I q => h.run pins s σ H D I (w D σ H q)⟩
theorem pi_imp {tg e : Expr} {t t' : TI} (h : PI X tg e t) (w : ∀ σ H Q, t' σ H Q → t σ H Q) : PI X tg e t' := ⟨fun pins s σ H Q I q => h.run pins s σ H Q I (w σ H Q q)⟩
end

/-! ### expressions -/
/-- a temporary list is known for good -/
def frz : Rv → Rv
  | .own ds => .val (.list ds)
  | r => r
def Rv.toVal : Rv → R PyData
  | .val d => .ok d
  | .own ds => .ok (.list ds)
  | .bor _ _ => .bad
/-- its data -/
def Rv.dat : Rv → PyData
  | .val d => d
  | .own ds => .list ds
  | .bor _ ds => .list ds
/-- its items -/
def Rv.items : Rv → R (List PyData)
  | .val (.list ds) => .ok ds
  | .val (.tuple ds) => .ok ds
  | .own ds => .ok ds
  | .bor _ ds => .ok ds
  | _ => .bad
def Rv.toInt : Rv → R Int
  | .val (.int i) => .ok i
  | _ => .bad
def Rv.toBool : Rv → R Bool
  | .val (.bool b) => .ok b
  | _ => .bad
def Rv.toStr : Rv → R Str
  | .val (.str b) => .ok b
  | _ => .bad
theorem toInt_ok {r : Rv} {i : Int} (h : r.toInt = .ok i) : r = .val (.int i) := by
  cases r with
  | val d => cases d <;> first | (cases h; rfl) | cases h
  | own _ => cases h
  | bor _ _ => cases h
theorem toBool_ok {r : Rv} {i : Bool} (h : r.toBool = .ok i) : r = .val (.bool i) := by
  cases r with
  | val d => cases d <;> first | (cases h; rfl) | cases h
  | own _ => cases h
  | bor _ _ => cases h
theorem toStr_ok {r : Rv} {i : Str} (h : r.toStr = .ok i) : r = .val (.str i) := by
  cases r with
  | val d => cases d <;> first | (cases h; rfl) | cases h
  | own _ => cases h
  | bor _ _ => cases h
section
variable {Hk H : Hp} {σ : Sl}
theorem Den.dat (e : Ex Hk H) : ∀ {r : Rv} {v : V}, Den Hk H σ r v → Rp H v r.dat
  | .val _, _, h => Rp.up e h
  | .own _, _, ⟨p, xs, a, _, c, d⟩ => by subst a; exact .lst (.inl (.inl c)) (RpAll.up e d)
  | .bor _ _, _, ⟨p, xs, a, _, _, c, d⟩ => by subst a; exact .lst (.inl (.inl c)) (RpAll.up e d)
theorem Den.int {r : Rv} {v : V} {i : Int} (h : Den Hk H σ r v) (e : r.toInt = .ok i) : v = .int i := by
  rw [toInt_ok e] at h; cases (show Rp Hk v (.int i) from h); rfl
theorem Den.bool {r : Rv} {v : V} {i : Bool} (h : Den Hk H σ r v) (e : r.toBool = .ok i) : v = .bl i := by
  rw [toBool_ok e] at h; cases (show Rp Hk v (.bool i) from h); rfl
theorem Den.str {r : Rv} {v : V} {i : Str} (h : Den Hk H σ r v) (e : r.toStr = .ok i) : v = .str i := by
  rw [toStr_ok e] at h; cases (show Rp Hk v (.str i) from h); rfl
/-- the items of a sequence -/
theorem Den.items (e : Ex Hk H) {r : Rv} {v : V} {ds : List PyData} (h : Den Hk H σ r v) (q : r.items = .ok ds) : ∃ a xs, v = .ref a ∧ (Rl H a xs ∨ Rd H a (.tup xs)) ∧ RpAll Hk xs ds := by
  cases r with
  | val d =>
    cases d with
    | list es => cases q; cases (show Rp Hk v (.list ds) from h) with | lst s a => exact ⟨_, _, rfl, .inl (Rl.up e s), a⟩
    | tuple es => cases q; cases (show Rp Hk v (.tuple ds) from h) with | tup s a => exact ⟨_, _, rfl, .inr (Evl.ex_rd e s), a⟩
    | _ => cases q
  | own es => cases q; obtain ⟨p, xs, a, _, c, d⟩ := h; exact ⟨p, xs, a, .inl (.inl (.inl c)), d⟩
  | bor i es => cases q; obtain ⟨p, xs, a, _, _, c, d⟩ := h; exact ⟨p, xs, a, .inl (.inl (.inl c)), d⟩
end
section
variable {X : Cx} {W : WX}
/-- own lists made known as they come -/
theorem e_frz {e : Expr} {φ : En → R Rv} (h : PE X e (te X.K W φ)) : PE X e (te X.K W fun ρ => φ ρ >>= fun r => .ok (frz r)) := pe_imp h fun σ H Q ⟨Hk0, H0, Hk, ρ, r, p⟩ => by
  refine te_then r p fun x v Hk' H' g n d r' p' => ?_
  cases x with
  | val d' => exact p' v Hk' H' g trivial d
  | own ds =>
    obtain ⟨q, xs, a, b, c, f⟩ := d
    obtain ⟨q', a', b'⟩ := n
    subst a
    cases a'
    exact p' _ _ H' (g.frz b' c b) trivial (.lst (.inl (.inl upd_same)) (RpAll.up (Ex.new b) f))
  | bor i ds => exact p' v Hk' H' g trivial d
end
end Py

set_option Elab.async false
set_option linter.all false
set_option maxRecDepth 100000
set_option autoImplicit false
set_option maxHeartbeats 1000000
/-! PyB: expressions. -/
namespace Py
variable [KK]
open PySem L2
open Evl (Ex)

def Rv.isOwn : Rv → Bool
  | .own _ => true
  | _ => false
theorem frz_not (x : Rv) : (frz x).isOwn = false := by cases x <;> rfl
section
variable {K : PySem.W.Frag} {W : WX} {Hk0 H0 Hk H Hk' H' : Hp} {σ : Sl} {ρ : En} {Q : VK}
theorem te_thenF {φ : En → R Rv} {g : Rv → R Rv} {Q' : VK} (r : Rel Hk0 H0 Hk H σ ρ) (p : PostE K W Hk H σ Q (φ ρ >>= fun x => g (frz x)))
    (k : ∀ x v Hk' H', Gr Hk H Hk' H' → Den Hk' H' σ x v → x.isOwn = false → Rel Hk0 H0 Hk' H' σ ρ → PostE K W Hk H σ Q (g x) → Q' v H') : te K W φ σ H Q' :=
  te_then r p fun x v Hk' H' g n d r' p' => by
    cases x with
    | val d' => exact k _ v Hk' H' g d rfl r' p'
    | own ds =>
      obtain ⟨q, xs, a, b, c, f⟩ := d
      obtain ⟨q', a', b'⟩ := n
      subst a
      cases a'
      have g2 := g.frz b' c b
      refine k (.val (.list ds)) _ (upd Hk' q (.lst xs)) H' g2 (.lst (.inl (.inl upd_same)) (RpAll.up (Ex.new b) f)) rfl ?_ p'
      exact ⟨r.len, r.gr.trans g2, fun i d e => let ⟨v, a, b⟩ := r.val i d e; ⟨v, a, Rp.up g2.k b⟩, fun i ds e => let ⟨p, xs, a, b, c, d, f⟩ := r.own i ds e; ⟨p, xs, a, b, g2.fr p (by rw [d]; exact fun z => nomatch z) c, g2.h.l d, RpAll.up g2.k f⟩, r.sep, r.raw, fun i ds e => let ⟨p, xs, a, b, c, d, f⟩ := r.dct i ds e; ⟨p, xs, a, b, g2.fr p (by rw [d]; exact fun z => nomatch z) c, g2.h.d d, DR.up g2.k f⟩, fun i d e => let ⟨v, a, b⟩ := r.tpn i d e; ⟨v, a, TN.up g2.k b⟩, r.dsep, fun i d e => let ⟨v, a, b⟩ := r.kn i d e; ⟨v, a, Tg.up g2.k b⟩, r.t0⟩
    | bor i ds => exact k _ v Hk' H' g d rfl r' p'
/-- a test as a value -/
def eT (φ : En → R Bool) : En → R Rv := fun ρ => φ ρ >>= fun b => .ok (.val (.bool b))
theorem R.assoc {α β γ : Type} (m : R α) (f : α → R β) (g : β → R γ) : ((m >>= f) >>= g) = (m >>= fun x => f x >>= g) := by cases m <;> rfl
theorem PostT.toE {Q : Bool → Hp → Prop} {r : R Bool} (p : PostT K W Hk H σ Q r) : PostE K W Hk H σ (fun x H' => ∃ k, x = .bl k ∧ Q k H') (r >>= fun b => .ok (.val (.bool b))) := by
  cases r with
  | ok b => exact fun v Hk' H' g n d => by cases (show Rp Hk' v (.bool b) from d); exact ⟨b, rfl, p Hk' H' g⟩
  | err c => exact p
  | bad => exact p
theorem PostE.toT {Q : Bool → Hp → Prop} {r : R Bool} (p : PostE K W Hk H σ (fun x H' => ∃ k, x = .bl k ∧ Q k H') (r >>= fun b => .ok (.val (.bool b)))) : PostT K W Hk H σ Q r := by
  cases r with
  | ok b =>
    intro Hk' H' g
    obtain ⟨k, e, q⟩ := p (.bl b) Hk' H' g trivial (Rp.bl b)
    cases e
    exact q
  | err c => exact p
  | bad => exact p
theorem te_thenFT {φ : En → R Rv} {g : Rv → R Bool} {Q : Bool → Hp → Prop} {Q' : VK} (r : Rel Hk0 H0 Hk H σ ρ) (p : PostT K W Hk H σ Q (φ ρ >>= fun x => g (frz x)))
    (k : ∀ x v Hk' H', Gr Hk H Hk' H' → Den Hk' H' σ x v → x.isOwn = false → Rel Hk0 H0 Hk' H' σ ρ → PostT K W Hk H σ Q (g x) → Q' v H') : te K W φ σ H Q' := by
  have p2 := p.toE
  rw [R.assoc] at p2
  exact te_thenF (g := fun x => g x >>= fun b => .ok (.val (.bool b))) r p2 fun x v Hk' H' gr d n r' p3 => k x v Hk' H' gr d n r' p3.toT
theorem PostE.bindT {φ : R Bool} {g : Bool → R Rv} (p : PostE K W Hk H σ Q (φ >>= g)) : PostT K W Hk H σ (fun b H' => True) φ := by
  cases φ with
  | ok b => exact fun _ _ _ => trivial
  | err c => exact p
  | bad => exact p
end

/-! ### names, constants -/
def eVar (i : Nat) : En → R Rv := fun ρ => match ρ[i]? with
  | some (some (.val d)) => .ok (.val d)
  | some (some (.own ds)) => .ok (.bor i ds)
  | some (some (.tpn ds)) => .ok (.val (.tuple ds))
  | _ => .bad
def eK (d : PyData) : En → R Rv := fun _ => .ok (.val d)
section
variable {X : Cx} [OK X] {W : WX}
theorem d_var (i : Nat) {x : Str} {pos : Pos} (hN : X.N[i]? = some x := by rfl) (hv : Vis X.env.scope x := by first | exact Or.inl rfl | exact Or.inr (Or.inl rfl) | exact Or.inr (Or.inr rfl)) (hd : (x == ("__debug__" : Str)) = false := by decide)
    (hcd : (x == ("__classdict__" : Str)) = false := by decide) : PE X (.Name x pos) (te X.K W (eVar i)) := pe_imp (pv i hN hv hd hcd) fun σ H Q ⟨Hk0, H0, Hk, ρ, r, p⟩ => by
  unfold eVar at p
  split at p
  · rename_i d e
    obtain ⟨v, h1, h2⟩ := r.val i d e
    exact ⟨v, h1, p v Hk H (Gr.refl r.kh) trivial h2⟩
  · rename_i ds e
    obtain ⟨q, xs, h1, h2, h3, h4, h5⟩ := r.own i ds e
    exact ⟨_, h1, p _ Hk H (Gr.refl r.kh) trivial ⟨q, xs, rfl, h1, h3, h4, h5⟩⟩
  · rename_i ds e
    obtain ⟨v, h1, h2⟩ := r.tpn i ds e
    exact ⟨v, h1, p v Hk H (Gr.refl r.kh) trivial h2.rp⟩
  · exact p.elim
theorem d_c {e : Expr} {v : V} {d : PyData} (h : PE X e (tC v)) (hd : ∀ Hk, Rp Hk v d) : PE X e (te X.K W (eK d)) := pe_imp h fun σ H Q ⟨Hk0, H0, Hk, ρ, r, p⟩ => p v Hk H (Gr.refl r.kh) trivial (hd Hk)
theorem d_int {i : Int} {j : Nat} {pos : Pos} : PE X (.Constant (.int i) j pos) (te X.K W (eK (.int i))) := d_c pe_int fun _ => .int i
theorem d_bl {i : Bool} {j : Nat} {pos : Pos} : PE X (.Constant (.bool i) j pos) (te X.K W (eK (.bool i))) := d_c pe_bl fun _ => .bl i
theorem d_non {j : Nat} {pos : Pos} : PE X (.Constant .none j pos) (te X.K W (eK .none)) := d_c pe_non fun _ => .non
theorem d_str {i : Str} {j : Nat} {pos : Pos} : PE X (.Constant (.str i) j pos) (te X.K W (eK (.str i))) := d_c pe_str fun _ => .str i
theorem d_gint {x : Str} {i : Int} {pos : Pos} (hm : ∃ t, X.mg x = some (.int i t)) (hg : Gl X x := by rfl) (hd : (x == ("__debug__" : Str)) = false := by decide) : PE X (.Name x pos) (te X.K W (eK (.int i))) := by
  obtain ⟨t, hm⟩ := hm
  exact d_c (pe_glob (v := .int i) hg hm ⟨t, rfl⟩ hd) fun _ => .int i
theorem d_gstr {x : Str} {i : Str} {pos : Pos} (hm : ∃ t, X.mg x = some (.str i t)) (hg : Gl X x := by rfl) (hd : (x == ("__debug__" : Str)) = false := by decide) : PE X (.Name x pos) (te X.K W (eK (.str i))) := by
  obtain ⟨t, hm⟩ := hm
  exact d_c (pe_glob (v := .str i) hg hm ⟨t, rfl⟩ hd) fun _ => .str i
end

/-! ### operators by values -/
section
variable (K : PySem.W.Frag) (W : WX)
def rD (g : Rv → Rv → R Rv) : R2 := fun x y H Q => ∃ Hk σ a b, Ex Hk H ∧ Den Hk H σ a x ∧ Den Hk H σ b y ∧ PostE K W Hk H σ Q (g a b)
def rD1 (g : Rv → R Rv) : V → Hp → VK → Prop := fun x H Q => ∃ Hk σ a, Ex Hk H ∧ Den Hk H σ a x ∧ PostE K W Hk H σ Q (g a)
end
def e2 (g : Rv → Rv → R Rv) (φ ψ : En → R Rv) : En → R Rv := fun ρ => φ ρ >>= fun x => ψ ρ >>= fun y => g (frz x) (frz y)
def t2 (g : Rv → Rv → R Bool) (φ ψ : En → R Rv) : En → R Bool := fun ρ => φ ρ >>= fun x => ψ ρ >>= fun y => g (frz x) (frz y)
def e1 (g : Rv → R Rv) (φ : En → R Rv) : En → R Rv := fun ρ => φ ρ >>= fun x => g (frz x)
def gB (c : Rv → Rv → R Bool) : Rv → Rv → R Rv := fun a b => c a b >>= fun k => .ok (.val (.bool k))
def eChain (c c' : Rv → Rv → R Bool) (φ ψ χ : En → R Rv) : En → R Bool := fun ρ => φ ρ >>= fun x => ψ ρ >>= fun y => c (frz x) (frz y) >>= fun b => if b = true then χ ρ >>= fun z => c' (frz y) (frz z) else .ok false
section
variable {X : Cx} [OK X] {W : WX} {a b c : Expr} {φ ψ χ : En → R Rv} {pos : Pos}
theorem d_bin {op : Operator} {g : Rv → Rv → R Rv} (ho : OpR X (binaryOp op) (rD X.K W g)) (ha : PE X a (te X.K W φ)) (hb : PE X b (te X.K W ψ)) : PE X (.BinOp a op b pos) (te X.K W (e2 g φ ψ)) :=
  pe_imp (pe_op ho ha hb) fun σ H Q ⟨Hk0, H0, Hk, ρ, r, p⟩ => te_thenF (g := fun x => ψ ρ >>= fun y => g x (frz y)) r p fun x v Hk1 H1 g1 d1 n1 r1 p1 =>
    te_thenF (g := fun y => g x y) r1 (PostE.up g1 p1) fun y u Hk2 H2 g2 d2 n2 r2 p2 => ⟨Hk2, σ, x, y, g2.kh, Den.up g2 d1, d2, PostE.up g2 p2⟩
theorem d_cmp {op : CmpOp} {g : Rv → Rv → R Bool} (ho : OpR X (compareOp op) (rD X.K W (gB g))) (ha : PE X a (te X.K W φ)) (hb : PE X b (te X.K W ψ)) (hm : behindInMarks op b = false := by first | exact nomark _ | rfl) : PE X (.Compare a [op] [b] pos) (te X.K W (eT (t2 g φ ψ))) :=
  pe_imp (pe_cmpR ho ha hb hm) fun σ H Q ⟨Hk0, H0, Hk, ρ, r, p⟩ => by
    unfold eT t2 at p
    rw [R.assoc] at p
    refine te_thenF (g := fun x => (ψ ρ >>= fun y => g x (frz y)) >>= fun b => .ok (.val (.bool b))) r p fun x v Hk1 H1 g1 d1 n1 r1 p1 => ?_
    rw [R.assoc] at p1
    exact te_thenF (g := fun y => gB g x y) r1 (PostE.up g1 p1) fun y u Hk2 H2 g2 d2 n2 r2 p2 => ⟨Hk2, σ, x, y, g2.kh, Den.up g2 d1, d2, PostE.up g2 p2⟩
theorem d_cmpT {op : CmpOp} {g : Rv → Rv → R Bool} (ho : OpR X (compareOp op) (rD X.K W (gB g))) (ha : PE X a (te X.K W φ)) (hb : PE X b (te X.K W ψ)) (hm : behindInMarks op b = false := by first | exact nomark _ | rfl) : PT X (.Compare a [op] [b] pos) (tt X.K W (t2 g φ ψ)) :=
  pt_imp (pt_cmpR ho ha hb hm) fun σ H Q ⟨Hk0, H0, Hk, ρ, r, p⟩ =>
    te_thenFT (g := fun x => ψ ρ >>= fun y => g x (frz y)) r p fun x v Hk1 H1 g1 d1 n1 r1 p1 =>
      te_thenFT (g := fun y => g x y) r1 (PostT.up g1 p1) fun y u Hk2 H2 g2 d2 n2 r2 p2 => ⟨Hk2, σ, x, y, g2.kh, Den.up g2 d1, d2, PostT.toE (PostT.up g2 p2)⟩
theorem chain_read {g g' : Rv → Rv → R Bool} {σ : Sl} {H : Hp} {Q : VK} (h : te X.K W (eT (eChain g g' φ ψ χ)) σ H Q) : tChain (rD X.K W (gB g)) (rD X.K W (gB g')) (te X.K W φ) (te X.K W ψ) (te X.K W χ) σ H Q := by
  obtain ⟨Hk0, H0, Hk, ρ, r, p⟩ := h
  unfold eT eChain at p
  rw [R.assoc] at p
  refine te_thenF (g := fun x => (ψ ρ >>= fun y => g x (frz y) >>= fun b => if b = true then χ ρ >>= fun z => g' (frz y) (frz z) else .ok false) >>= fun b => .ok (.val (.bool b))) r p fun x v Hk1 H1 g1 d1 n1 r1 p1 => ?_
  rw [R.assoc] at p1
  refine te_thenF (g := fun y => (g x y >>= fun b => if b = true then χ ρ >>= fun z => g' y (frz z) else .ok false) >>= fun b => .ok (.val (.bool b))) r1 (PostE.up g1 p1) fun y u Hk2 H2 g2 d2 n2 r2 p2 => ?_
  have p3 := PostE.up g2 p2
  rw [R.assoc] at p3
  refine ⟨Hk2, σ, x, y, g2.kh, Den.up g2 d1, d2, ?_⟩
  show PostE _ _ _ _ _ _ (g x y >>= fun k => .ok (.val (.bool k)))
  cases e : g x y with
  | ok b =>
    rw [e] at p3
    intro z Hk3 H3 g3 n3 d3
    cases (show Rp Hk3 z (.bool b) from d3)
    refine ⟨b, rfl, ?_⟩
    cases b with
    | false => 
      rw [if_neg Bool.false_ne_true]
      exact p3 (.bl false) Hk3 H3 g3 trivial (Rp.bl false)
    | true =>
      rw [if_pos rfl]
      have p4 : PostE X.K W Hk2 H2 σ Q ((χ ρ >>= fun z => g' y (frz z)) >>= fun b => .ok (.val (.bool b))) := p3
      rw [R.assoc] at p4
      exact te_thenF (g := fun z => gB g' y z) (r2.up g3) (PostE.up g3 p4) fun z w Hk4 H4 g4 d4 n4 r4 p5 => ⟨Hk4, σ, y, z, g4.kh, Den.up g4 (Den.up g3 d2), d4, PostE.up g4 p5⟩
  | err c => rw [e] at p3; exact p3
  | bad => rw [e] at p3; exact p3
theorem d_chain {op op' : CmpOp} {g g' : Rv → Rv → R Bool} (ho : OpR X (compareOp op) (rD X.K W (gB g))) (ho' : OpR X (compareOp op') (rD X.K W (gB g'))) (ha : PE X a (te X.K W φ)) (hb : PE X b (te X.K W ψ)) (hc : PE X c (te X.K W χ))
    (hm : lastMarks [op, op'] [b, c] = false := by with_unfolding_all rfl) : PE X (.Compare a [op, op'] [b, c] pos) (te X.K W (eT (eChain g g' φ ψ χ))) := pe_imp (pe_chain ho ho' ha hb hc hm) fun σ H Q h => chain_read h
theorem d_chainT {op op' : CmpOp} {g g' : Rv → Rv → R Bool} (ho : OpR X (compareOp op) (rD X.K W (gB g))) (ho' : OpR X (compareOp op') (rD X.K W (gB g'))) (ha : PE X a (te X.K W φ)) (hb : PE X b (te X.K W ψ)) (hc : PE X c (te X.K W χ))
    (hm : lastMarks [op, op'] [b, c] = false := by with_unfolding_all rfl) : PT X (.Compare a [op, op'] [b, c] pos) (tt X.K W (eChain g g' φ ψ χ)) := pt_imp (pt_chain ho ho' ha hb hc hm) fun σ H Q ⟨Hk0, H0, Hk, ρ, r, p⟩ =>
  chain_read ⟨Hk0, H0, Hk, ρ, r, PostT.toE p⟩
/-- a value as a test -/
def tE (φ : En → R Rv) : En → R Bool := fun ρ => φ ρ >>= fun x => (frz x).toBool
theorem d_val (h : PE X a (te X.K W φ)) (he : ∀ whole, isTrue a X.env whole = (do let v ← whole; standAt a.pos; holding [v] (truthy v)) := by intro _; rfl) : PT X a (tt X.K W (tE φ)) := pt_imp (pt_val h he) fun σ H Q ⟨Hk0, H0, Hk, ρ, r, p⟩ => by
  refine te_thenFT (g := fun x => x.toBool) r p fun x v Hk' H' g d n r' p' => ?_
  cases e : x.toBool with
  | ok b => rw [e] at p'; exact ⟨b, d.bool e, p' Hk' H' g⟩
  | err c => cases x with
    | val d => cases d <;> cases e
    | own _ => cases e
    | bor _ _ => cases e
  | bad => rw [e] at p'; exact p'.elim
end

/-! ### and, or, not, if -/
def tAnd (φ ψ : En → R Bool) : En → R Bool := fun ρ => φ ρ >>= fun b => if b = true then ψ ρ else .ok false
def tOr (φ ψ : En → R Bool) : En → R Bool := fun ρ => φ ρ >>= fun b => if b = true then .ok true else ψ ρ
def tNot (φ : En → R Bool) : En → R Bool := fun ρ => φ ρ >>= fun b => .ok (!b)
def eAnd (φ : En → R Rv) (ψ : En → R Rv) : En → R Rv := fun ρ => tE φ ρ >>= fun b => if b = true then ψ ρ else .ok (.val (.bool false))
def eOr (φ : En → R Rv) (ψ : En → R Rv) : En → R Rv := fun ρ => tE φ ρ >>= fun b => if b = true then .ok (.val (.bool true)) else ψ ρ
def eNot (φ : En → R Rv) : En → R Rv := eT (tNot (tE φ))
def eIf (t : En → R Bool) (φ ψ : En → R Rv) : En → R Rv := fun ρ => t ρ >>= fun b => if b = true then φ ρ else ψ ρ
section
variable {X : Cx} [OK X] {W : WX} {a b c : Expr} {φ ψ χ : En → R Rv} {s t : En → R Bool} {pos : Pos} {rest : List Expr}
theorem d_and1 (ha : PT X a (tt X.K W s)) : PW X (.BoolOp .And [a] pos) (tt X.K W s) := pw_and1 ha
theorem d_or1 (ha : PT X a (tt X.K W s)) : PW X (.BoolOp .Or [a] pos) (tt X.K W s) := pw_or1 ha
theorem d_andC (ha : PT X a (tt X.K W s)) (hb : PW X (.BoolOp .And (b :: rest) pos) (tt X.K W t)) : PW X (.BoolOp .And (a :: b :: rest) pos) (tt X.K W (tAnd s t)) := pw_imp (pw_and ha hb) fun σ H Q ⟨Hk0, H0, Hk, ρ, r, p⟩ =>
  tt_thenT r p fun x Hk' H' g r' p' => by
    cases x with
    | true => rw [if_pos rfl]; exact ⟨Hk0, H0, Hk', ρ, r', p'⟩
    | false => rw [if_neg Bool.false_ne_true]; exact p' Hk' H' (Gr.refl g.kh)
theorem d_orC (ha : PT X a (tt X.K W s)) (hb : PW X (.BoolOp .Or (b :: rest) pos) (tt X.K W t)) : PW X (.BoolOp .Or (a :: b :: rest) pos) (tt X.K W (tOr s t)) := pw_imp (pw_or ha hb) fun σ H Q ⟨Hk0, H0, Hk, ρ, r, p⟩ =>
  tt_thenT r p fun x Hk' H' g r' p' => by
    cases x with
    | true => rw [if_pos rfl]; exact p' Hk' H' (Gr.refl g.kh)
    | false => rw [if_neg Bool.false_ne_true]; exact ⟨Hk0, H0, Hk', ρ, r', p'⟩
theorem d_notT (ha : PT X a (tt X.K W s)) : PT X (.UnaryOp .Not a pos) (tt X.K W (tNot s)) := pt_imp (pt_not ha) fun σ H Q ⟨Hk0, H0, Hk, ρ, r, p⟩ =>
  tt_thenT r p fun x Hk' H' g r' p' => p' Hk' H' (Gr.refl g.kh)
theorem tE_read {σ : Sl} {H : Hp} {Hk0 H0 Hk : Hp} {ρ : En} {Q Q' : VK} {g : Bool → R Rv} (r : Rel Hk0 H0 Hk H σ ρ) (p : PostE X.K W Hk H σ Q (tE φ ρ >>= g)) (k : ∀ b Hk' H', Gr Hk H Hk' H' → Rel Hk0 H0 Hk' H' σ ρ → PostE X.K W Hk' H' σ Q (g b) → Q' (.bl b) H') : te X.K W φ σ H Q' := by
  unfold tE at p
  rw [R.assoc] at p
  refine te_thenF (g := fun x => x.toBool >>= g) r p fun x v Hk' H' gr d n r' p' => ?_
  cases e : x.toBool with
  | ok b =>
    rw [e] at p'
    rw [d.bool e]
    exact k b Hk' H' gr r' (PostE.up gr p')
  | err c => cases x with
    | val d => cases d <;> cases e
    | own _ => cases e
    | bor _ _ => cases e
  | bad => rw [e] at p'; exact p'.elim
theorem d_one {op : BoolOp} (h : PE X a (te X.K W φ)) : PE X (.BoolOp op [a] pos) (te X.K W φ) := pe_one h
theorem d_and (ha : PE X a (te X.K W φ)) (hb : PE X (.BoolOp .And (b :: rest) pos) (te X.K W ψ)) : PE X (.BoolOp .And (a :: b :: rest) pos) (te X.K W (eAnd φ ψ)) := pe_imp (pe_and ha hb) fun σ H Q ⟨Hk0, H0, Hk, ρ, r, p⟩ =>
  tE_read r p fun x Hk' H' g r' p' => by
    refine ⟨x, rfl, ?_⟩
    cases x with
    | true => rw [if_pos rfl]; exact ⟨Hk0, H0, Hk', ρ, r', p'⟩
    | false => rw [if_neg Bool.false_ne_true]; exact p' (.bl false) Hk' H' (Gr.refl g.kh) trivial (Rp.bl false)
theorem d_or (ha : PE X a (te X.K W φ)) (hb : PE X (.BoolOp .Or (b :: rest) pos) (te X.K W ψ)) : PE X (.BoolOp .Or (a :: b :: rest) pos) (te X.K W (eOr φ ψ)) := pe_imp (pe_or ha hb) fun σ H Q ⟨Hk0, H0, Hk, ρ, r, p⟩ =>
  tE_read r p fun x Hk' H' g r' p' => by
    refine ⟨x, rfl, ?_⟩
    cases x with
    | true => rw [if_pos rfl]; exact p' (.bl true) Hk' H' (Gr.refl g.kh) trivial (Rp.bl true)
    | false => rw [if_neg Bool.false_ne_true]; exact ⟨Hk0, H0, Hk', ρ, r', p'⟩
theorem d_not (ha : PE X a (te X.K W φ)) : PE X (.UnaryOp .Not a pos) (te X.K W (eNot φ)) := pe_imp (pe_not ha) fun σ H Q ⟨Hk0, H0, Hk, ρ, r, p⟩ => by
  unfold eNot eT tNot at p
  rw [R.assoc] at p
  exact tE_read r p fun x Hk' H' g r' p' => ⟨x, rfl, p' (.bl (!x)) Hk' H' (Gr.refl g.kh) trivial (Rp.bl _)⟩
theorem d_if (hc : PT X c (tt X.K W s)) (ha : PE X a (te X.K W φ)) (hb : PE X b (te X.K W ψ)) : PE X (.IfExp c a b pos) (te X.K W (eIf s φ ψ)) := pe_imp (pe_ifExp hc ha hb) fun σ H Q ⟨Hk0, H0, Hk, ρ, r, p⟩ =>
  tt_then r p fun x Hk' H' g r' p' => by
    cases x with
    | true => rw [if_pos rfl]; exact ⟨Hk0, H0, Hk', ρ, r', p'⟩
    | false => rw [if_neg Bool.false_ne_true]; exact ⟨Hk0, H0, Hk', ρ, r', p'⟩
end

/-! ### argument lists: all known for good; or by values -/
def evA : List (En → R Rv) → En → R (List PyData)
  | [], _ => .ok []
  | φ :: φs, ρ => φ ρ >>= fun r => (frz r).toVal >>= fun d => evA φs ρ >>= fun ds => .ok (d :: ds)
def evR : List (En → R Rv) → En → R (List Rv)
  | [], _ => .ok []
  | φ :: φs, ρ => φ ρ >>= fun r => evR φs ρ >>= fun ds => .ok (frz r :: ds)
inductive DenAll (Hk H : Hp) (σ : Sl) : List Rv → List V → Prop
  | nil : DenAll Hk H σ [] []
  | cons {r : Rv} {rs : List Rv} {v : V} {vs : List V} (h : Den Hk H σ r v) (t : DenAll Hk H σ rs vs) : DenAll Hk H σ (r :: rs) (v :: vs)
theorem DenAll.up {Hk H Hk' H' : Hp} {σ : Sl} (g : Gr Hk H Hk' H') : ∀ {rs : List Rv} {vs : List V}, DenAll Hk H σ rs vs → DenAll Hk' H' σ rs vs
  | _, _, .nil => .nil
  | _, _, .cons a b => .cons (Den.up g a) (DenAll.up g b)
section
variable (K : PySem.W.Frag) (W : WX)
def PostA (Hk H : Hp) (σ : Sl) (Q : List V → Hp → Prop) : R (List PyData) → Prop
  | .ok ds => ∀ vs Hk' H', Gr Hk H Hk' H' → RpAll Hk' vs ds → Q vs H'
  | .err c => ∀ Hk' H', Gr Hk H Hk' H' → W (.ref (He.ga K c)) none σ H'
  | .bad => False
def PostR (Hk H : Hp) (σ : Sl) (Q : List V → Hp → Prop) : R (List Rv) → Prop
  | .ok rs => ∀ vs Hk' H', Gr Hk H Hk' H' → DenAll Hk' H' σ rs vs → Q vs H'
  | .err c => ∀ Hk' H', Gr Hk H Hk' H' → W (.ref (He.ga K c)) none σ H'
  | .bad => False
def ta (φs : List (En → R Rv)) : TA := fun σ H Q => ∃ Hk0 H0 Hk ρ, Rel Hk0 H0 Hk H σ ρ ∧ PostA K W Hk H σ Q (evA φs ρ)
def tr (φs : List (En → R Rv)) : TA := fun σ H Q => ∃ Hk0 H0 Hk ρ, Rel Hk0 H0 Hk H σ ρ ∧ PostR K W Hk H σ Q (evR φs ρ)
end
theorem toVal_den {Hk H : Hp} {σ : Sl} {x : Rv} {v : V} {d : PyData} (h : Den Hk H σ x v) (n : x.isOwn = false) (e : x.toVal = .ok d) : Rp Hk v d := by
  cases x with
  | val d' => cases e; exact h
  | own ds => cases n
  | bor i ds => cases e
section
variable {X : Cx} [OK X] {W : WX} {e : Expr} {es : List Expr} {φ : En → R Rv} {φs : List (En → R Rv)}
theorem d_anil : PA X [] (ta X.K W []) := pa_imp pa_nil fun σ H Q ⟨Hk0, H0, Hk, ρ, r, p⟩ => p [] Hk H (Gr.refl r.kh) .nil
theorem d_acons (ha : PE X e (te X.K W φ)) (hr : PA X es (ta X.K W φs)) (hs : starEach (e :: es) X.env = (false, eval e X.env) :: starEach es X.env := by rfl) : PA X (e :: es) (ta X.K W (φ :: φs)) :=
  pa_imp (pa_cons ha hr hs) fun σ H Q ⟨Hk0, H0, Hk, ρ, r, p⟩ => by
    refine ⟨Hk0, H0, Hk, ρ, r, ?_⟩
    have p : PostA X.K W Hk H σ Q (φ ρ >>= fun r => (frz r).toVal >>= fun d => evA φs ρ >>= fun ds => .ok (d :: ds)) := p
    cases e1 : φ ρ with
    | err c => rw [e1] at p; exact p
    | bad => rw [e1] at p; exact p
    | ok x =>
      rw [e1] at p
      have p : PostA X.K W Hk H σ Q ((frz x).toVal >>= fun d => evA φs ρ >>= fun ds => .ok (d :: ds)) := p
      intro v Hk1 H1 g1 n1 d1
      cases e2 : (frz x).toVal with
      | err c => cases x <;> cases e2
      | bad => rw [e2] at p; exact p.elim
      | ok d =>
        rw [e2] at p
        have p : PostA X.K W Hk H σ Q (evA φs ρ >>= fun ds => .ok (d :: ds)) := p
        obtain ⟨Hk2, g2, d2⟩ : ∃ Hk2, Gr Hk H Hk2 H1 ∧ Rp Hk2 v d := by
          cases x with
          | val d' => cases e2; exact ⟨Hk1, g1, d1⟩
          | own ds =>
            cases e2
            obtain ⟨q, xs, a, b, c, f⟩ := d1
            obtain ⟨q', a', b'⟩ := n1
            subst a
            cases a'
            exact ⟨_, g1.frz b' c b, .lst (.inl (.inl upd_same)) (RpAll.up (Ex.new b) f)⟩
          | bor i ds => cases e2
        refine ⟨Hk0, H0, Hk2, ρ, r.up g2, ?_⟩
        cases e3 : evA φs ρ with
        | err c => rw [e3] at p; exact fun Hk3 H3 g3 => p Hk3 H3 (g2.trans g3)
        | bad => rw [e3] at p; exact p
        | ok ds =>
          rw [e3] at p
          exact fun vs Hk3 H3 g3 d3 => p (v :: vs) Hk3 H3 (g2.trans g3) (.cons (Rp.up g3.k d2) d3)
theorem d_rnil : PA X [] (tr X.K W []) := pa_imp pa_nil fun σ H Q ⟨Hk0, H0, Hk, ρ, r, p⟩ => p [] Hk H (Gr.refl r.kh) .nil
theorem d_rcons (ha : PE X e (te X.K W φ)) (hr : PA X es (tr X.K W φs)) (hs : starEach (e :: es) X.env = (false, eval e X.env) :: starEach es X.env := by rfl) : PA X (e :: es) (tr X.K W (φ :: φs)) :=
  pa_imp (pa_cons ha hr hs) fun σ H Q ⟨Hk0, H0, Hk, ρ, r, p⟩ => by
    refine ⟨Hk0, H0, Hk, ρ, r, ?_⟩
    have p : PostR X.K W Hk H σ Q (φ ρ >>= fun r => evR φs ρ >>= fun ds => .ok (frz r :: ds)) := p
    cases e1 : φ ρ with
    | err c => rw [e1] at p; exact p
    | bad => rw [e1] at p; exact p
    | ok x =>
      rw [e1] at p
      have p : PostR X.K W Hk H σ Q (evR φs ρ >>= fun ds => .ok (frz x :: ds)) := p
      intro v Hk1 H1 g1 n1 d1
      obtain ⟨Hk2, g2, d2⟩ : ∃ Hk2, Gr Hk H Hk2 H1 ∧ Den Hk2 H1 σ (frz x) v := by
        cases x with
        | val d' => exact ⟨Hk1, g1, d1⟩
        | own ds =>
          obtain ⟨q, xs, a, b, c, f⟩ := d1
          obtain ⟨q', a', b'⟩ := n1
          subst a
          cases a'
          exact ⟨_, g1.frz b' c b, .lst (.inl (.inl upd_same)) (RpAll.up (Ex.new b) f)⟩
        | bor i ds => exact ⟨Hk1, g1, d1⟩
      refine ⟨Hk0, H0, Hk2, ρ, r.up g2, ?_⟩
      cases e3 : evR φs ρ with
      | err c => rw [e3] at p; exact fun Hk3 H3 g3 => p Hk3 H3 (g2.trans g3)
      | bad => rw [e3] at p; exact p
      | ok ds =>
        rw [e3] at p
        exact fun vs Hk3 H3 g3 d3 => p (v :: vs) Hk3 H3 (g2.trans g3) (.cons (Den.up g3 d2) d3)
end

/-! ### displays -/
def eTup (φs : List (En → R Rv)) : En → R Rv := fun ρ => evA φs ρ >>= fun ds => .ok (.val (.tuple ds))
def eLst (φs : List (En → R Rv)) : En → R Rv := fun ρ => evA φs ρ >>= fun ds => .ok (.own ds)
theorem evA_len : ∀ {φs : List (En → R Rv)} {ρ : En} {ds : List PyData}, evA φs ρ = .ok ds → ds.length = φs.length
  | [], _, _, h => by cases h; rfl
  | φ :: φs, ρ, ds, h => by
    have h : (φ ρ >>= fun r => (frz r).toVal >>= fun d => evA φs ρ >>= fun ds => .ok (d :: ds)) = .ok ds := h
    cases e1 : φ ρ with
    | err c => rw [e1] at h; cases h
    | bad => rw [e1] at h; cases h
    | ok x =>
      rw [e1] at h
      have h : ((frz x).toVal >>= fun d => evA φs ρ >>= fun ds => .ok (d :: ds)) = .ok ds := h
      cases e2 : (frz x).toVal with
      | err c => rw [e2] at h; cases h
      | bad => rw [e2] at h; cases h
      | ok d =>
        rw [e2] at h
        have h : (evA φs ρ >>= fun ds => .ok (d :: ds)) = .ok ds := h
        cases e3 : evA φs ρ with
        | err c => rw [e3] at h; cases h
        | bad => rw [e3] at h; cases h
        | ok es =>
          rw [e3] at h
          cases h
          exact congrArg Nat.succ (evA_len e3)
section
variable {X : Cx} [OK X] {W : WX} {es : List Expr} {φs : List (En → R Rv)} {pos : Pos}
theorem ta_then {σ : Sl} {H Hk0 H0 Hk : Hp} {ρ : En} {Q : VK} {Q' : List V → Hp → Prop} {g : List PyData → R Rv} (r : Rel Hk0 H0 Hk H σ ρ) (p : PostE X.K W Hk H σ Q (evA φs ρ >>= g))
    (k : ∀ ds vs Hk' H', ds.length = φs.length → Gr Hk H Hk' H' → RpAll Hk' vs ds → Rel Hk0 H0 Hk' H' σ ρ → PostE X.K W Hk' H' σ Q (g ds) → Q' vs H') : ta X.K W φs σ H Q' := by
  refine ⟨Hk0, H0, Hk, ρ, r, ?_⟩
  cases e : evA φs ρ with
  | ok ds => rw [e] at p; exact fun vs Hk' H' gr d => k ds vs Hk' H' (evA_len e) gr d (r.up gr) (PostE.up gr p)
  | err c => rw [e] at p; exact p
  | bad => rw [e] at p; exact p
theorem tr_then {σ : Sl} {H Hk0 H0 Hk : Hp} {ρ : En} {Q : VK} {Q' : List V → Hp → Prop} {g : List Rv → R Rv} (r : Rel Hk0 H0 Hk H σ ρ) (p : PostE X.K W Hk H σ Q (evR φs ρ >>= g))
    (k : ∀ ds vs Hk' H', Gr Hk H Hk' H' → DenAll Hk' H' σ ds vs → Rel Hk0 H0 Hk' H' σ ρ → PostE X.K W Hk' H' σ Q (g ds) → Q' vs H') : tr X.K W φs σ H Q' := by
  refine ⟨Hk0, H0, Hk, ρ, r, ?_⟩
  cases e : evR φs ρ with
  | ok ds => rw [e] at p; exact fun vs Hk' H' gr d => k ds vs Hk' H' gr d (r.up gr) (PostE.up gr p)
  | err c => rw [e] at p; exact p
  | bad => rw [e] at p; exact p
theorem d_tup {x1 : Nat} (h : PA X es (ta X.K W φs)) (hl : φs.length ≤ sizeLine := by show _ ≤ 16777216; decide) : PE X (.Tuple es x1 pos) (te X.K W (eTup φs)) := pe_imp (pe_tup h) fun σ H Q ⟨Hk0, H0, Hk, ρ, r, p⟩ =>
  ta_then r p fun ds vs Hk' H' l g d r' p' => ⟨by rw [RpAll.length d, l]; exact hl, fun q hq => p' (.ref q) _ _ (Gr.new g.kh hq) trivial (.tup (.inl upd_same) (RpAll.up (Ex.new (Evl.fresh_back g.kh hq)) d))⟩
theorem d_lst (h : PA X es (ta X.K W φs)) (hl : φs.length ≤ sizeLine := by show _ ≤ 16777216; decide) : PE X (.List es pos) (te X.K W (eLst φs)) := pe_imp (pe_lst h) fun σ H Q ⟨Hk0, H0, Hk, ρ, r, p⟩ =>
  ta_then r p fun ds vs Hk' H' l g d r' p' => ⟨by rw [RpAll.length d, l]; exact hl, fun q hq => p' (.ref q) _ _ (Gr.own g.kh hq) ⟨q, rfl, hq⟩ ⟨q, vs, rfl, Evl.fresh_back g.kh hq, upd_same, d⟩⟩
end

/-! ### calls of defs -/
def Cr.rv : Cr → Rv
  | .val d => .val d
  | .own ds => .own ds
  | .tpn ds => .val (.tuple ds)
def DenC (Hk H : Hp) : Cr → V → Prop
  | .tpn ds, v => TN Hk v ds
  | .val d, v => Den Hk H [] (.val d) v
  | .own ds, v => Den Hk H [] (.own ds) v
def PostC (K : PySem.W.Frag) (Hk H : Hp) (Q : VK) (E : XK) : R Cr → Prop
  | .ok r => ∀ v Hk' H', Gr Hk H Hk' H' → New H r.rv v → DenC Hk' H' r v → Q v H'
  | .err c => ∀ Hk' H', Gr Hk H Hk' H' → E (.ref (He.ga K c)) none H'
  | .bad => False
/-- the promise: so many values, data F of them -/
def spF (K : PySem.W.Frag) (n : Nat) (F : List PyData → R Cr) : Sp := fun vs H Q E => ∃ Hk ds, (Ex Hk H ∧ TabK Hk H) ∧ RpAll Hk vs ds ∧ ds.length = n ∧ PostC K Hk H Q E (F ds)
def eCall (F : List PyData → R Cr) (φs : List (En → R Rv)) : En → R Rv := fun ρ => evA φs ρ >>= fun ds => F ds >>= fun r => .ok r.rv
theorem den_cl {Hk H : Hp} {σ' : Sl} {r : Cr} {v : V} (h : DenC Hk H r v) : Den Hk H σ' r.rv v := by
  cases r with
  | val d => exact h
  | own d => exact h
  | tpn d => exact TN.rp h
section
variable {X : Cx} [OK X] {W : WX} {e : Expr} {es : List Expr} {φs : List (En → R Rv)} {x : Str} {p pos : Pos} {k n : Nat} {f : Addr} {fd : FuncData} {ps : List Str} {G : List PyData → R Cr}
theorem d_call (F : FnOk X.prog X.w X.K X.mg X.base (L2.CX X.prog X.w) k f fd ps (spF X.K n G)) (hr : Room k X.A) (hm : X.mg x = some (.ref f)) (hk : PySem.W.keepIn X.K (.ref f) = true) (hb : Binds X.K fd ps []) (tk : Takes X W)
    (ha : PA X (e :: es) (ta X.K W φs)) (hn : φs.length = n := by rfl) (hg : Gl X x := by rfl) (hdb : (x == ("__debug__" : Str)) = false := by decide) (he : starEach (e :: es) X.env = (false, eval e X.env) :: starEach es X.env := by rfl)
    (hpl : (backTo pos (starEach es X.env)).any (·.1) = false := by rfl) : PE X (.Call (.Name x p) (e :: es) [] pos) (te X.K W (eCall G φs)) :=
  pe_imp (pe_callS (E := WE W) F hr hg hm hk hb (fun σ => passAt tk σ) ha hdb he hpl) fun σ H Q ⟨Hk0, H0, Hk, ρ, r, p⟩ =>
    ta_then r p fun ds vs Hk' H' l g d r' p' => by
      refine ⟨Hk', ds, ⟨g.kh, r'.tab⟩, d, l.trans hn, ?_⟩
      cases e : G ds with
      | ok r => rw [e] at p'; exact fun v Hk2 H2 g2 n2 d2 => p' v Hk2 H2 g2 n2 (den_cl d2)
      | err c => rw [e] at p'; exact p'
      | bad => rw [e] at p'; exact p'
end
end Py

set_option Elab.async false
set_option linter.all false
set_option maxRecDepth 100000
set_option autoImplicit false
set_option maxHeartbeats 1000000
/-! PyC: operators and built-ins, by values. -/
namespace Py
variable [KK]
open PySem L2
open Evl (Ex)
open PySem.SeqAt (eq_plain ne_plain in_list_data in_tuple_data notIn_list_data notIn_tuple_data)
section
variable {Hk H : Hp} {σ : Sl} {r : Rv} {v : V}
theorem Den.kInt {i : Int} (h : Den Hk H σ r v) (e : r.dat = .int i) : v = .int i := by
  cases r with
  | val d => cases e; cases (show Rp Hk v (.int i) from h); rfl
  | own _ => cases e
  | bor _ _ => cases e
theorem Den.kStr {i : Str} (h : Den Hk H σ r v) (e : r.dat = .str i) : v = .str i := by
  cases r with
  | val d => cases e; cases (show Rp Hk v (.str i) from h); rfl
  | own _ => cases e
  | bor _ _ => cases e
theorem Den.kBool {i : Bool} (h : Den Hk H σ r v) (e : r.dat = .bool i) : v = .bl i := by
  cases r with
  | val d => cases e; cases (show Rp Hk v (.bool i) from h); rfl
  | own _ => cases e
  | bor _ _ => cases e
theorem Den.kNone (h : Den Hk H σ r v) (e : r.dat = .none) : v = .non := by
  cases r with
  | val d => cases e; cases (show Rp Hk v .none from h); rfl
  | own _ => cases e
  | bor _ _ => cases e
theorem Den.kList {ds : List PyData} (x : Ex Hk H) (h : Den Hk H σ r v) (e : r.dat = .list ds) : ∃ a xs, v = .ref a ∧ Rl H a xs ∧ RpAll Hk xs ds := by
  cases r with
  | val d => cases e; cases (show Rp Hk v (.list ds) from h) with | lst s a => exact ⟨_, _, rfl, Rl.up x s, a⟩
  | own es => cases e; obtain ⟨p, xs, a, _, c, d⟩ := h; exact ⟨p, xs, a, .inl (.inl c), d⟩
  | bor i es => cases e; obtain ⟨p, xs, a, _, _, c, d⟩ := h; exact ⟨p, xs, a, .inl (.inl c), d⟩
theorem Den.kTuple {ds : List PyData} (x : Ex Hk H) (h : Den Hk H σ r v) (e : r.dat = .tuple ds) : ∃ a xs, v = .ref a ∧ Rd H a (.tup xs) ∧ RpAll Hk xs ds ∧ Rp Hk v (.tuple ds) := by
  cases r with
  | val d => cases e; cases (show Rp Hk v (.tuple ds) from h) with | tup s a => exact ⟨_, _, rfl, Evl.ex_rd x s, a, h⟩
  | own _ => cases e
  | bor _ _ => cases e
end
section
variable {X : Cx} [ok : OK X] {pins : List (Addr × Obj)} {σ : Sl} {H : Hp} {s : Shared}
theorem rd_list {l : Addr} {xs : List V} (I : Inv X pins σ H s) (h : Rl H l xs) :
    xs.length ≤ sizeLine ∧ ∃ (its : List Value) (n : Nat), Vals xs its ∧ xs.length = its.length ∧ s.heap.get? l = some { cls := .type "list", data := .seq its.toArray n } := by
  rcases h with h | ⟨its, n, h1, h2, h3⟩
  · obtain ⟨z, its, n, r, e⟩ := h.ok I.hok
    exact ⟨z, its, n, r, r.length, e⟩
  · exact ⟨by rw [h3.length]; exact h2, its, n, h3, h3.length, I.kIn l _ (by rw [ok.eq]; exact h1)⟩
end
theorem big_fits {n : Nat} (h : n ≤ 1000000) : n ≤ sizeLine := by rw [sizeLine_eq]; omega

/-! ### + - * // % ** -/
def gAdd (a b : Rv) : R Rv := match a.dat, b.dat with
  | .int i, .int j => .ok (.val (.int (i + j)))
  | .str x, .str y => if x.length + y.length ≤ 1000000 then .ok (.val (.str (x ++ y))) else .bad
  | .tuple xs, .tuple ys => if xs.length + ys.length ≤ 1000000 then .ok (.val (.tuple (xs ++ ys))) else .bad
  | .list xs, .list ys => if xs.length + ys.length ≤ 1000000 then .ok (.own (xs ++ ys)) else .bad
  | _, _ => .bad
def gInt (C : Int → Int → Bool) (f : Int → Int → Int) (a b : Rv) : R Rv := match a.dat, b.dat with
  | .int i, .int j => if C i j = true then .ok (.val (.int (f i j))) else .bad
  | _, _ => .bad
def gSub : Rv → Rv → R Rv := gInt (fun _ _ => true) fun i j => i - j
def gMod : Rv → Rv → R Rv := gInt (fun _ j => decide (0 < j)) fun i j => i % j
def gDiv : Rv → Rv → R Rv := gInt (fun _ j => decide (0 < j) && decide (j < 2 ^ 100)) fun i j => i / j
def gPow : Rv → Rv → R Rv := gInt (fun i j => decide (0 ≤ j) && (decide (j ≤ 1000) && (decide (0 ≤ i) && decide (i < 2 ^ 60)))) fun i j => i ^ j.toNat
def gMul (a b : Rv) : R Rv := match a.dat, b.dat with
  | .int i, .int j => if (decide (-(2 ^ 64) < i) && decide (i < 2 ^ 64)) || (decide (-(2 ^ 64) < j) && decide (j < 2 ^ 64)) then .ok (.val (.int (i * j))) else .bad
  | .list xs, .int k => if -(2 ^ 62) ≤ k ∧ k < 2 ^ 62 ∧ xs.length * k.toNat ≤ 1000000 then .ok (.own (List.replicate k.toNat xs).flatten) else .bad
  | .tuple xs, .int k => if 1 ≤ k ∧ k ≤ 1000 ∧ xs.isEmpty = false ∧ xs.length ≤ 1000 then .ok (.val (.tuple (List.replicate k.toNat xs).flatten)) else .bad
  | _, _ => .bad
section
variable {X : Cx} [OK X] {W : WX}
theorem cat_rd {pins : List (Addr × Obj)} {s : Shared} {σ : Sl} {H : Hp} {l b : Addr} {xs zs : List V} {Q : VK} (I : Inv X pins σ H s) (hl : Rl H l xs) (hb : Rl H b zs) (hz : xs.length + zs.length ≤ sizeLine)
    (q : ∀ p, H p = none → Q (.ref p) (upd H p (.lst (xs ++ zs)))) : wpAny (model X.prog X.w) X.A (binaryOp .Add (.ref l) (.ref b)) (EP X pins σ Q) X.xe s := by
  obtain ⟨_, its, n, r, e1, g1⟩ := rd_list I hl
  obtain ⟨_, its', n', r', e2, g2⟩ := rd_list I hb
  refine PySem.P.add_list g1 g2 ?_ (by simp only [List.size_toArray]; omega)
  have ea : its.toArray ++ its'.toArray = (its ++ its').toArray := by simp
  rw [ea]
  have hs : (xs ++ zs).length ≤ sizeLine := by simp only [List.length_append]; omega
  exact ⟨.ref _, _, I.lnew (t' := s.toks) (Vals.append r r') hs, rfl, q _ I.fresh⟩
theorem own_new {K : PySem.W.Frag} {Hk H : Hp} {σ : Sl} {Q : VK} {ds : List PyData} {xs : List V} (e : Ex Hk H) (p : PostE K W Hk H σ Q (.ok (.own ds))) (h : RpAll Hk xs ds) : ∀ q, H q = none → Q (.ref q) (upd H q (.lst xs)) := fun q hq =>
  p _ _ _ (Gr.own e hq) ⟨q, rfl, hq⟩ ⟨q, xs, rfl, Evl.fresh_back e hq, upd_same, h⟩
theorem tup_new {K : PySem.W.Frag} {Hk H : Hp} {σ : Sl} {Q : VK} {ds : List PyData} {xs : List V} (e : Ex Hk H) (p : PostE K W Hk H σ Q (.ok (.val (.tuple ds)))) (h : RpAll Hk xs ds) : ∀ q, H q = none → Q (.ref q) (upd H q (.tup xs)) := fun q hq =>
  p _ _ _ (Gr.new e hq) trivial (.tup (.inl upd_same) (RpAll.up (Ex.new (Evl.fresh_back e hq)) h))
theorem o_add : OpR X (binaryOp .Add) (rD X.K W gAdd) := by
  intro pins s σ' H x y v u Q I rx ry h
  obtain ⟨Hk, σ, a, b, e, da, db, p⟩ := h
  unfold gAdd at p
  split at p
  · rename_i i j h1 h2
    rw [da.kInt h1] at rx
    rw [db.kInt h2] at ry
    exact op_add pins s σ' H _ _ v u Q I rx ry ⟨i, j, rfl, rfl, p _ Hk H (Gr.refl e) trivial (Rp.int _)⟩
  · rename_i i j h1 h2
    split at p
    · rename_i hz
      rw [da.kStr h1] at rx
      rw [db.kStr h2] at ry
      exact op_add_str pins s σ' H _ _ v u Q I rx ry ⟨i, j, rfl, rfl, big_fits hz, p _ Hk H (Gr.refl e) trivial (Rp.str _)⟩
    · exact p.elim
  · rename_i i j h1 h2
    split at p
    · rename_i hz
      obtain ⟨a1, xs, rfl, s1, r1, q1⟩ := da.kTuple e h1
      obtain ⟨a2, ys, rfl, s2, r2, q2⟩ := db.kTuple e h2
      refine op_catA pins s σ' H _ _ v u Q I rx ry ⟨a1, a2, xs, ys, rfl, rfl, .inl s1, .inl s2, ?_, ?_, ?_, fun _ _ => tup_new e p (RpAll.append r1 r2)⟩
      · rw [RpAll.length r1, RpAll.length r2]; exact big_fits hz
      · intro z
        subst z
        have : i = [] := List.eq_nil_of_length_eq_zero (RpAll.length r1).symm
        subst this
        exact p _ Hk H (Gr.refl e) trivial q2
      · intro _ z
        subst z
        have : j = [] := List.eq_nil_of_length_eq_zero (RpAll.length r2).symm
        subst this
        rw [List.append_nil] at p
        exact p _ Hk H (Gr.refl e) trivial q1
    · exact p.elim
  · rename_i i j h1 h2
    split at p
    · rename_i hz
      obtain ⟨a1, xs, rfl, s1, r1⟩ := da.kList e h1
      obtain ⟨a2, ys, rfl, s2, r2⟩ := db.kList e h2
      cases rx
      cases ry
      exact cat_rd I s1 s2 (by rw [RpAll.length r1, RpAll.length r2]; exact big_fits hz) (own_new e p (RpAll.append r1 r2))
    · exact p.elim
  · exact p.elim
theorem o_int {op : Operator} {C : Int → Int → Bool} {C' : Int → Int → Prop} {f : Int → Int → Int} (h : OpR X (binaryOp op) (rI C' fun i j => .int (f i j))) (hC : ∀ i j, C i j = true → C' i j) : OpR X (binaryOp op) (rD X.K W (gInt C f)) := by
  intro pins s σ' H x y v u Q I rx ry h1
  obtain ⟨Hk, σ, a, b, e, da, db, p⟩ := h1
  unfold gInt at p
  split at p
  · rename_i i j h1 h2
    split at p
    · rename_i hc
      rw [da.kInt h1] at rx
      rw [db.kInt h2] at ry
      exact h pins s σ' H _ _ v u Q I rx ry ⟨i, j, rfl, rfl, hC i j hc, p _ Hk H (Gr.refl e) trivial (Rp.int _)⟩
    · exact p.elim
  · exact p.elim
theorem o_sub : OpR X (binaryOp .Sub) (rD X.K W gSub) := by
  intro pins s σ' H x y v u Q I rx ry h1
  obtain ⟨Hk, σ, a, b, e, da, db, p⟩ := h1
  unfold gSub gInt at p
  split at p
  · rename_i i j h1 h2
    rw [da.kInt h1] at rx
    rw [db.kInt h2] at ry
    rw [if_pos rfl] at p
    exact op_sub pins s σ' H _ _ v u Q I rx ry ⟨i, j, rfl, rfl, p _ Hk H (Gr.refl e) trivial (Rp.int _)⟩
  · exact p.elim
theorem o_mod : OpR X (binaryOp .Mod) (rD X.K W gMod) := o_int op_mod fun i j h => of_decide_eq_true h
theorem o_div : OpR X (binaryOp .FloorDiv) (rD X.K W gDiv) := o_int op_fdivW fun i j h => by
  obtain ⟨h1, h2⟩ := Bool.and_eq_true_iff.mp h
  have h1 := of_decide_eq_true h1
  have h2 := of_decide_eq_true h2
  exact wide_div (b := 100) h1 (by omega) (by decide) (by decide)
theorem o_pow : OpR X (binaryOp .Pow) (rD X.K W gPow) := o_int op_pow fun i j h => by
  simp only [Bool.and_eq_true, decide_eq_true_eq] at h
  obtain ⟨h1, h2, h3, h4⟩ := h
  exact ⟨h1, by omega, by omega⟩

theorem rep_rd {pins : List (Addr × Obj)} {s : Shared} {σ : Sl} {H : Hp} {l : Addr} {k : Int} {t : Tok} {xs : List V} {Q : VK} (I : Inv X pins σ H s) (hl : Rl H l xs) (h1 : -(2 ^ 62) ≤ k) (h2 : k < 2 ^ 62) (hz : xs.length * k.toNat ≤ sizeLine)
    (q : ∀ p, H p = none → Q (.ref p) (upd H p (.lst (List.replicate k.toNat xs).flatten))) : wpAny (model X.prog X.w) X.A (binaryOp .Mult (.ref l) (.int k t)) (EP X pins σ Q) X.xe s := by
  obtain ⟨_, its, n, r, e1, g⟩ := rd_list I hl
  have z1 : its.toArray.size * k.toNat ≤ sizeLine := by simp only [List.size_toArray]; rw [← e1]; exact hz
  have hs : (List.replicate k.toNat xs).flatten.length ≤ sizeLine := by
    rw [PyProof.Rows.lm_len_rep_flat, Nat.mul_comm]; exact hz
  have big : (sizeLine : Nat) ≤ (2 ^ 63 - 1) / 8 := by decide
  have eq1 : List.foldl (fun x1 x2 => x1 ++ x2) #[] (List.replicate (if its.toArray.isEmpty = true then 0 else k.toNat) its.toArray) = (List.replicate k.toNat its).flatten.toArray := by
    have f0 := foldl_rep its (if its.toArray.isEmpty = true then 0 else k.toNat) []
    rw [List.nil_append] at f0
    refine f0.trans ?_
    cases its with
    | nil => simp
    | cons a r' => rw [if_neg (by simp)]
  refine wpAny_binaryOp_repeat_ref (T := "list") (U := "int") (by decide) ⟨_, g, rfl⟩ (fun s' => typeIs_int s' k t) noFill_list_mul F.fills_int_mul F.slot_int_rmul repeat_list F.slot_int_index.lookup ?_
  refine call_meets F.slot_int_rmul (typeIs_int s k t) F.entry_int_rmul (F.args_int_rmul_2 _ _) (int___rmul___int_list k t l its.toArray n) ⟨g, rfl, ⟨_, g, rfl⟩, ?_⟩
  refine call_meets F.slot_list_mul ⟨_, g, rfl⟩ F.entry_list_mul (F.args_list_mul_2 _ _) (AutoListH.list___mul___list_int_3 l its.toArray n k t ?_ ?_ ?_) ⟨g, ?_⟩
  · rw [fitsIndex_both (by omega) (by omega)]; exact Bool.false_ne_true
  · omega
  · rw [notLongL z1]; exact Bool.false_ne_true
  · rw [eq1]
    exact ⟨.ref _, _, I.lnew (t' := s.toks) (r.rep k.toNat) hs, rfl, q _ I.fresh⟩
theorem RpAll.rep {Hk : Hp} {xs : List V} {ds : List PyData} (h : RpAll Hk xs ds) : ∀ k : Nat, RpAll Hk (List.replicate k xs).flatten (List.replicate k ds).flatten
  | 0 => .nil
  | k + 1 => RpAll.append h (RpAll.rep h k)
theorem tup_mul1 (l : Addr) (items : Array Value) (n : Nat) (dd : Option Addr) (sl : Array (Option Value)) (u : Tok) :
    Meets (Builtin.«tuple.__mul__» ⟨[.ref l, .int 1 u], []⟩) (fun _ R s => s.heap.get? l = some { cls := .type "tuple", dict := dd, data := .seq items n, slots := sl } ∧ R (.ok (.ret (Value.ref l))) s) :=
  .of_wp fun prog w A R s h => by
    obtain ⟨hp, g, d, tk, os⟩ := s; obtain ⟨hl, h⟩ := h
    have f1 := AutoSeq1.idx_int
    wp_walk using AutoSeq1.wpAny_loadPart' hl
    exact ⟨_, rfl, h⟩
theorem o_mul : OpR X (binaryOp .Mult) (rD X.K W gMul) := by
  intro pins s σ' H x y v u Q I rx ry h
  obtain ⟨Hk, σ, a, b, e, da, db, p⟩ := h
  unfold gMul at p
  split at p
  · rename_i i j h1 h2
    split at p
    · rename_i hc
      rw [da.kInt h1] at rx
      rw [db.kInt h2] at ry
      refine op_mul pins s σ' H _ _ v u Q I rx ry ⟨i, j, rfl, rfl, ?_, p _ Hk H (Gr.refl e) trivial (Rp.int _)⟩
      simp only [Bool.or_eq_true, Bool.and_eq_true, decide_eq_true_eq] at hc
      exact hc
    · exact p.elim
  · rename_i xs j h1 h2
    split at p
    · rename_i hc
      obtain ⟨c1, c2, c3⟩ := hc
      obtain ⟨a1, vs, rfl, s1, r1⟩ := da.kList e h1
      rw [db.kInt h2] at ry
      cases rx
      obtain ⟨t, rfl⟩ := ry
      exact rep_rd I s1 c1 c2 (by rw [RpAll.length r1]; exact big_fits c3) (own_new e p (RpAll.rep r1 _))
    · exact p.elim
  · rename_i xs j h1 h2
    split at p
    · rename_i hc
      obtain ⟨c1, c2, c3, c4⟩ := hc
      obtain ⟨a1, vs, rfl, s1, r1, rp⟩ := da.kTuple e h1
      rw [db.kInt h2] at ry
      have hl := RpAll.length r1
      by_cases k1 : j = 1
      · subst k1
        cases rx
        obtain ⟨t, rfl⟩ := ry
        have er : (List.replicate (1 : Int).toNat xs).flatten = xs := by simp
        rw [er] at p
        obtain ⟨its, rv, ⟨⟨cls, dd, data, sl⟩, ho, hcl, n, hd⟩, _⟩ := I.tuple (a := a1) (xs := vs) (.inl s1)
        simp only at hcl hd
        subst hcl hd
        exact wpAny_binaryOp_repeat_ref (T := "tuple") (U := "int") (by decide) ⟨_, ho, rfl⟩ (fun s' => typeIs_int s' 1 t) noFill_tuple_mul F.fills_int_mul F.slot_int_rmul repeat_tuple F.slot_int_index.lookup (call_meets F.slot_int_rmul (typeIs_int s 1 t) F.entry_int_rmul (F.args_int_rmul_2 _ _) (int_rmul_tuple 1 t a1 its.toArray n dd sl) ⟨ho, rfl, ⟨_, ho, rfl⟩, call_meets F.slot_tuple_mul ⟨_, ho, rfl⟩ F.entry_tuple_mul (F.args_tuple_mul_2 _ _) (tup_mul1 a1 its.toArray n dd sl t) ⟨ho, ⟨.ref a1, H, I, rfl, p _ Hk H (Gr.refl e) trivial rp⟩⟩⟩)
      · exact op_repT pins s σ' H _ _ v u Q I rx ry ⟨a1, j, vs, rfl, rfl, .inl s1, fun z => by rw [z] at hl; cases xs with | nil => cases c3 | cons q w => simp at hl, by omega, c2, by omega, tup_new e p (RpAll.rep r1 _)⟩
    · exact p.elim
  · exact p.elim
end

/-! ### comparisons -/
mutual
theorem Rp.plain {H : Hp} : ∀ {v : V} {d : PyData}, Rp H v d → d.plain = true
  | _, _, .non => rfl
  | _, _, .bl _ => rfl
  | _, _, .int _ => rfl
  | _, _, .str _ => rfl
  | _, _, .lst _ a => by rw [PyData.plain]; exact RpAll.plain a
  | _, _, .tup _ a => by rw [PyData.plain]; exact RpAll.plain a
theorem RpAll.plain {H : Hp} : ∀ {vs : List V} {ds : List PyData}, RpAll H vs ds → PyData.plainAll ds = true
  | _, _, .nil => rfl
  | _, _, .cons a b => by rw [PyData.plainAll, Rp.plain a, RpAll.plain b]; rfl
end
def cEq (a b : Rv) : R Bool := if min a.dat.depth b.dat.depth ≤ 60 then .ok (PyData.eqv a.dat b.dat) else .bad
def cNe (a b : Rv) : R Bool := if min a.dat.depth b.dat.depth ≤ 60 then .ok (!PyData.eqv a.dat b.dat) else .bad
def cInt (f : Int → Int → Bool) (a b : Rv) : R Bool := match a.dat, b.dat with
  | .int i, .int j => .ok (f i j)
  | _, _ => .bad
def cLt : Rv → Rv → R Bool := cInt fun i j => decide (i < j)
def cLe : Rv → Rv → R Bool := cInt fun i j => decide (i ≤ j)
def cGt : Rv → Rv → R Bool := cInt fun i j => decide (j < i)
def cGe : Rv → Rv → R Bool := cInt fun i j => decide (j ≤ i)
def cIn (a b : Rv) : R Bool := match b.dat with
  | .list ds => if min (PyData.depthAll ds) a.dat.depth ≤ 60 then .ok (ds.any fun y => PyData.eqv y a.dat) else .bad
  | .tuple ds => if min (PyData.depthAll ds) a.dat.depth ≤ 60 then .ok (ds.any fun y => PyData.eqv y a.dat) else .bad
  | .str z => match a.dat with
    | .str y => .ok (!(Builtin.Str.occurrences z y 0 z.length 1).isEmpty)
    | _ => .bad
  | _ => .bad
def cNotIn (a b : Rv) : R Bool := match b.dat with
  | .list ds => if min (PyData.depthAll ds) a.dat.depth ≤ 60 then .ok (!ds.any fun y => PyData.eqv y a.dat) else .bad
  | .tuple ds => if min (PyData.depthAll ds) a.dat.depth ≤ 60 then .ok (!ds.any fun y => PyData.eqv y a.dat) else .bad
  | _ => .bad
def isNoneD : PyData → Bool
  | .none => true
  | _ => false
def cIs (a b : Rv) : R Bool := match b.dat with
  | .none => .ok (isNoneD a.dat)
  | .bool c => match a.dat with
    | .bool e => .ok (decide (e = c))
    | _ => .bad
  | _ => .bad
def cIsNot (a b : Rv) : R Bool := match b.dat with
  | .none => .ok (!isNoneD a.dat)
  | .bool c => match a.dat with
    | .bool e => .ok (!decide (e = c))
    | _ => .bad
  | _ => .bad
section
variable {X : Cx} [ok : OK X] {W : WX}
theorem units60 {k n : Nat} (hr : Room k X.A) (h : n ≤ 60) : X.A.units + n < cLine := by have := hr.units; omega
theorem units61 {k n : Nat} (hr : Room k X.A) (h : n ≤ 60) : X.A.units + 1 + n < cLine := by have := hr.units; omega
theorem den_reads {pins : List (Addr × Obj)} {s : Shared} {σ σ' : Sl} {Hk H : Hp} {a : Rv} {x : V} {v : Value} (I : Inv X pins σ' H s) (e : Ex Hk H) (d : Den Hk H σ a x) (r : RelV x v) : ∃ as, Reads s.heap v a.dat as :=
  Dp.reads I _ _ _ (by rw [ok.eq]; exact Rp.dp (Den.dat e d)) r
theorem den_plain {σ : Sl} {Hk H : Hp} {a : Rv} {x : V} (e : Ex Hk H) (d : Den Hk H σ a x) : a.dat.plain = true := Rp.plain (Den.dat e d)
theorem PostB {K : PySem.W.Frag} {Hk H : Hp} {σ σ' : Sl} {Q : VK} {pins : List (Addr × Obj)} {s : Shared} {b : Bool} (I : Inv X pins σ' H s) (e : Ex Hk H) (p : PostE K W Hk H σ Q (.ok (.val (.bool b)))) : EP X pins σ' Q (.bool b) s :=
  ⟨.bl b, H, I, rfl, p _ Hk H (Gr.refl e) trivial (Rp.bl b)⟩
theorem o_eq {k : Nat} (hr : Room k X.A) : OpR X (compareOp .Eq) (rD X.K W (gB cEq)) := by
  intro pins s σ' H x y v u Q I rx ry h
  obtain ⟨Hk, σ, a, b, e, da, db, p⟩ := h
  obtain ⟨as, ra⟩ := den_reads I e da rx
  obtain ⟨bs, rb⟩ := den_reads I e db ry
  unfold gB cEq at p
  split at p
  · rename_i h1
    exact eq_plain ra rb (den_plain e da) (den_plain e db) (units60 hr h1) (PostB I e p)
  · exact p.elim
theorem o_ne {k : Nat} (hr : Room k X.A) : OpR X (compareOp .NotEq) (rD X.K W (gB cNe)) := by
  intro pins s σ' H x y v u Q I rx ry h
  obtain ⟨Hk, σ, a, b, e, da, db, p⟩ := h
  obtain ⟨as, ra⟩ := den_reads I e da rx
  obtain ⟨bs, rb⟩ := den_reads I e db ry
  unfold gB cNe at p
  split at p
  · rename_i h1
    exact ne_plain ra rb (den_plain e da) (den_plain e db) (units60 hr h1) (PostB I e p)
  · exact p.elim
theorem o_cmpI {op : CmpOp} {f : Int → Int → Bool} (h : OpR X (compareOp op) (rI0 fun i j => .bl (f i j))) : OpR X (compareOp op) (rD X.K W (gB (cInt f))) := by
  intro pins s σ' H x y v u Q I rx ry h1
  obtain ⟨Hk, σ, a, b, e, da, db, p⟩ := h1
  unfold gB cInt at p
  split at p
  · rename_i i j h1 h2
    rw [da.kInt h1] at rx
    rw [db.kInt h2] at ry
    exact h pins s σ' H _ _ v u Q I rx ry ⟨i, j, rfl, rfl, p _ Hk H (Gr.refl e) trivial (Rp.bl _)⟩
  · exact p.elim
theorem o_lt : OpR X (compareOp .Lt) (rD X.K W (gB cLt)) := o_cmpI op_lt
theorem o_le : OpR X (compareOp .LtE) (rD X.K W (gB cLe)) := o_cmpI op_le
theorem o_gt : OpR X (compareOp .Gt) (rD X.K W (gB cGt)) := o_cmpI op_gt
theorem o_ge : OpR X (compareOp .GtE) (rD X.K W (gB cGe)) := o_cmpI op_ge
theorem o_in {k : Nat} (hr : Room k X.A) : OpR X (compareOp .In) (rD X.K W (gB cIn)) := by
  intro pins s σ' H x y v u Q I rx ry h
  obtain ⟨Hk, σ, a, b, e, da, db, p⟩ := h
  obtain ⟨as, ra⟩ := den_reads I e da rx
  obtain ⟨bs, rb⟩ := den_reads I e db ry
  have pb := den_plain e db
  unfold gB cIn at p
  split at p
  · rename_i ds h2
    rw [h2] at rb pb
    split at p
    · rename_i h1
      exact in_list_data rb ra (by rw [PyData.plain] at pb; exact pb) (den_plain e da) (units61 hr h1) (PostB I e p)
    · exact p.elim
  · rename_i ds h2
    rw [h2] at rb pb
    split at p
    · rename_i h1
      exact in_tuple_data rb ra (by rw [PyData.plain] at pb; exact pb) (den_plain e da) (units61 hr h1) (PostB I e p)
    · exact p.elim
  · rename_i z h2
    split at p
    · rename_i y' h1
      rw [da.kStr h1] at rx
      rw [db.kStr h2] at ry
      exact op_in_str pins s σ' H _ _ v u Q I rx ry ⟨y', z, rfl, rfl, p _ Hk H (Gr.refl e) trivial (Rp.bl _)⟩
    · exact p.elim
  · exact p.elim
theorem o_notIn {k : Nat} (hr : Room k X.A) : OpR X (compareOp .NotIn) (rD X.K W (gB cNotIn)) := by
  intro pins s σ' H x y v u Q I rx ry h
  obtain ⟨Hk, σ, a, b, e, da, db, p⟩ := h
  obtain ⟨as, ra⟩ := den_reads I e da rx
  obtain ⟨bs, rb⟩ := den_reads I e db ry
  have pb := den_plain e db
  unfold gB cNotIn at p
  split at p
  · rename_i ds h2
    rw [h2] at rb pb
    split at p
    · rename_i h1
      exact notIn_list_data rb ra (by rw [PyData.plain] at pb; exact pb) (den_plain e da) (units61 hr h1) (PostB I e p)
    · exact p.elim
  · rename_i ds h2
    rw [h2] at rb pb
    split at p
    · rename_i h1
      exact notIn_tuple_data rb ra (by rw [PyData.plain] at pb; exact pb) (den_plain e da) (units61 hr h1) (PostB I e p)
    · exact p.elim
  · exact p.elim
theorem den_none {σ : Sl} {Hk H : Hp} {a : Rv} {x : V} (e : Ex Hk H) (d : Den Hk H σ a x) : decide (x = V.non) = isNoneD a.dat := by
  have h := Den.dat e d
  cases h' : a.dat <;> rw [h'] at h <;> cases h <;> rfl
theorem o_is : OpR X (compareOp .Is) (rD X.K W (gB cIs)) := by
  intro pins s σ' H x y v u Q I rx ry h
  obtain ⟨Hk, σ, a, b, e, da, db, p⟩ := h
  unfold gB cIs at p
  split at p
  · rename_i h2
    rw [db.kNone h2] at ry
    exact op_isN pins s σ' H _ _ v u Q I rx ry ⟨rfl, p _ Hk H (Gr.refl e) trivial (by rw [den_none e da]; exact Rp.bl _)⟩
  · rename_i c h2
    split at p
    · rename_i c' h1
      rw [da.kBool h1] at rx
      rw [db.kBool h2] at ry
      exact op_isBl pins s σ' H _ _ v u Q I rx ry ⟨c', c, rfl, rfl, p _ Hk H (Gr.refl e) trivial (Rp.bl _)⟩
    · exact p.elim
  · exact p.elim
theorem o_isNot : OpR X (compareOp .IsNot) (rD X.K W (gB cIsNot)) := by
  intro pins s σ' H x y v u Q I rx ry h
  obtain ⟨Hk, σ, a, b, e, da, db, p⟩ := h
  unfold gB cIsNot at p
  split at p
  · rename_i h2
    rw [db.kNone h2] at ry
    exact op_notN pins s σ' H _ _ v u Q I rx ry ⟨rfl, p _ Hk H (Gr.refl e) trivial (by rw [den_none e da]; exact Rp.bl _)⟩
  · rename_i c h2
    split at p
    · rename_i c' h1
      rw [da.kBool h1] at rx
      rw [db.kBool h2] at ry
      exact op_notBl pins s σ' H _ _ v u Q I rx ry ⟨c', c, rfl, rfl, p _ Hk H (Gr.refl e) trivial (Rp.bl _)⟩
    · exact p.elim
  · exact p.elim
end
end Py

set_option Elab.async false
set_option linter.all false
set_option maxRecDepth 100000
set_option autoImplicit false
set_option maxHeartbeats 1000000
/-! PyD: subscripts, slices, calls of built-ins. -/
namespace Py
variable [KK]
open PySem L2
open Evl (Ex)

/-! ### a[i] -/
def gIx (a b : Rv) : R Rv := match b.dat with
  | .int i => match a.dat with
    | .list ds => match atI ds i with
      | some d => .ok (.val d)
      | none => .bad
    | .tuple ds => match atI ds i with
      | some d => .ok (.val d)
      | none => .bad
    | .str z => if z.length ≤ 1000000 then (match atI z.cps.toList i with
      | some c => .ok (.val (.str ⟨#[c]⟩))
      | none => .bad) else .bad
    | _ => .bad
  | _ => .bad
theorem atI_rp {Hk : Hp} {xs : List V} {ds : List PyData} {i : Int} {d : PyData} (h : RpAll Hk xs ds) (e : atI ds i = some d) : ∃ v, atI xs i = some v ∧ Rp Hk v d := by
  unfold atI at e ⊢
  rw [RpAll.length h]
  cases q : ixN ds.length i with
  | none => rw [q] at e; cases e
  | some j =>
    rw [q] at e
    exact RpAll.get h e
section
variable {X : Cx} [ok : OK X] {W : WX}
theorem i_ix : IxR X (rD X.K W gIx) := by
  intro value slice pins s σ' H x y v u Q I rx ry h hs
  obtain ⟨Hk, σ, a, b, e, da, db, p⟩ := h
  unfold gIx at p
  split at p
  · rename_i i h2
    rw [db.kInt h2] at ry
    split at p
    · rename_i ds h1
      obtain ⟨l, xs, rfl, s1, r1⟩ := da.kList e h1
      split at p
      · rename_i d hd
        obtain ⟨w, hw, rw'⟩ := atI_rp r1 hd
        exact ix_list value slice pins s σ' H _ _ v u Q I rx ry ⟨l, xs, i, w, rfl, rfl, s1.sq, hw, p _ Hk H (Gr.refl e) trivial rw'⟩ hs
      · exact p.elim
    · rename_i ds h1
      obtain ⟨l, xs, rfl, s1, r1, _⟩ := da.kTuple e h1
      split at p
      · rename_i d hd
        obtain ⟨w, hw, rw'⟩ := atI_rp r1 hd
        exact ix_tup value slice pins s σ' H _ _ v u Q I rx ry ⟨l, xs, i, w, rfl, rfl, .inl s1, hw, p _ Hk H (Gr.refl e) trivial rw'⟩ hs
      · exact p.elim
    · rename_i z h1
      rw [da.kStr h1] at rx
      split at p
      · rename_i hz
        split at p
        · rename_i c hc
          exact ix_str value slice pins s σ' H _ _ v u Q I rx ry ⟨z, i, c, rfl, rfl, big_fits hz, hc, p _ Hk H (Gr.refl e) trivial (Rp.str _)⟩ hs
        · exact p.elim
      · exact p.elim
    · exact p.elim
  · exact p.elim
theorem d_ix {a b : Expr} {φ ψ : En → R Rv} {pos : Pos} (ha : PE X a (te X.K W φ)) (hb : PE X b (te X.K W ψ)) (hs : PlainIx b := by exact fun _ _ => rfl) : PE X (.Subscript a b pos) (te X.K W (e2 gIx φ ψ)) :=
  pe_imp (pe_ix i_ix ha hb hs) fun σ H Q ⟨Hk0, H0, Hk, ρ, r, p⟩ => te_thenF (g := fun x => ψ ρ >>= fun y => gIx x (frz y)) r p fun x v Hk1 H1 g1 d1 n1 r1 p1 =>
    te_thenF (g := fun y => gIx x y) r1 (PostE.up g1 p1) fun y u Hk2 H2 g2 d2 n2 r2 p2 => ⟨Hk2, σ, x, y, g2.kh, Den.up g2 d1, d2, PostE.up g2 p2⟩
end

/-! ### a[lo:hi] -/
def cut {α : Type} (xs : List α) (lo hi : Option Int) : List α := (xs.drop (HT.sIx xs.length 0 lo)).take (HT.sIx xs.length xs.length hi - HT.sIx xs.length 0 lo)
theorem cut_rp {Hk : Hp} {xs : List V} {ds : List PyData} (h : RpAll Hk xs ds) (lo hi : Option Int) : RpAll Hk (cutV xs lo hi) (cut ds lo hi) := by
  unfold cutV cut
  rw [RpAll.length h]
  exact RpAll.take _ (RpAll.drop _ h)
def gSl (a : Rv) (lo hi : Option Int) : R Rv := match a.dat with
  | .list ds => .ok (.own (cut ds lo hi))
  | .tuple ds => .ok (.val (.tuple (cut ds lo hi)))
  | _ => .bad
section
variable (K : PySem.W.Frag) (W : WX)
def rS (g : Rv → Option Int → Option Int → R Rv) : V → Option Int → Option Int → Hp → VK → Prop := fun x lo hi H Q => ∃ Hk σ a, Ex Hk H ∧ Den Hk H σ a x ∧ PostE K W Hk H σ Q (g a lo hi)
def PostO (Hk H : Hp) (σ : Sl) (Q : Option Int → Hp → Prop) : R (Option Int) → Prop
  | .ok o => ∀ Hk' H', Gr Hk H Hk' H' → Q o H'
  | .err c => ∀ Hk' H', Gr Hk H Hk' H' → W (.ref (He.ga K c)) none σ H'
  | .bad => False
def tp (φ : En → R (Option Int)) : TO := fun σ H Q => ∃ Hk0 H0 Hk ρ, Rel Hk0 H0 Hk H σ ρ ∧ PostO K W Hk H σ Q (φ ρ)
end
def pNo : En → R (Option Int) := fun _ => .ok none
def pSo (φ : En → R Rv) : En → R (Option Int) := fun ρ => φ ρ >>= fun r => (frz r).toInt >>= fun i => .ok (some i)
def eSl (φ : En → R Rv) (lo hi : En → R (Option Int)) : En → R Rv := fun ρ => φ ρ >>= fun x => lo ρ >>= fun l => hi ρ >>= fun h => gSl (frz x) l h
theorem cut_whole {α : Type} {xs : List α} {lo hi : Option Int} (h : HT.sIx xs.length 0 lo = 0 ∧ HT.sIx xs.length xs.length hi = xs.length) : cut xs lo hi = xs := by
  unfold cut
  rw [h.1, h.2, List.drop_zero, Nat.sub_zero, List.take_length]
section
variable {X : Cx} [ok : OK X] {W : WX} {e : Expr} {φ : En → R Rv} {lo hi : Option Expr} {plo phi : En → R (Option Int)} {p2 pos : Pos}
theorem s_sl : SlR X (rS X.K W gSl) := by
  intro pins s σ' H x v vl vu lo hi sl Q I rx hs pl pu h
  obtain ⟨Hk, σ, a, e, da, p⟩ := h
  unfold gSl at p
  split at p
  · rename_i ds h1
    obtain ⟨l, xs, rfl, s1, r1⟩ := da.kList e h1
    exact sl_list pins s σ' H _ v vl vu lo hi sl Q I rx hs pl pu ⟨l, xs, rfl, s1.sq, own_new e p (cut_rp r1 lo hi)⟩
  · rename_i ds h1
    obtain ⟨l, xs, rfl, s1, r1, q1⟩ := da.kTuple e h1
    refine sl_tupA pins s σ' H _ v vl vu lo hi sl Q I rx hs pl pu ⟨l, xs, rfl, .inl s1, fun hw => ?_, fun _ => tup_new e p (cut_rp r1 lo hi)⟩
    rw [RpAll.length r1] at hw
    rw [cut_whole hw] at p
    exact p _ Hk H (Gr.refl e) trivial q1
  · exact p.elim
theorem d_pno : PO X none (tp X.K W pNo) := ⟨fun pins s σ H Q I h => by
  obtain ⟨Hk0, H0, Hk, ρ, r, p⟩ := h
  exact po_none.run pins s σ H Q I (p Hk H (Gr.refl r.kh))⟩
theorem d_pso (he : PE X e (te X.K W φ)) : PO X (some e) (tp X.K W (pSo φ)) := ⟨fun pins s σ H Q I h => by
  obtain ⟨Hk0, H0, Hk, ρ, r, p⟩ := h
  refine (po_some he).run pins s σ H Q I ?_
  unfold pSo at p
  refine ⟨Hk0, H0, Hk, ρ, r, ?_⟩
  cases e1 : φ ρ with
  | err c => rw [e1] at p; exact p
  | bad => rw [e1] at p; exact p
  | ok x =>
    rw [e1] at p
    have p : PostO X.K W Hk H σ Q ((frz x).toInt >>= fun i => .ok (some i)) := p
    intro v Hk' H' g n d
    cases x with
    | own ds => exact p.elim
    | bor i ds => exact p.elim
    | val d' =>
      cases d' with
      | int i =>
        cases (show Rp Hk' v (.int i) from d)
        exact ⟨i, rfl, p Hk' H' g⟩
      | _ => exact p.elim⟩
theorem d_slice (he : PE X e (te X.K W φ)) (hl : PO X lo (tp X.K W plo)) (hu : PO X hi (tp X.K W phi)) : PE X (.Subscript e (.Slice lo hi none p2) pos) (te X.K W (eSl φ plo phi)) :=
  pe_imp (pe_slice s_sl he hl hu) fun σ H Q ⟨Hk0, H0, Hk, ρ, r, p⟩ => by
    refine te_thenF (g := fun x => plo ρ >>= fun l => phi ρ >>= fun h => gSl x l h) r p fun x v Hk1 H1 g1 d1 n1 r1 p1 => ?_
    have p1 := PostE.up g1 p1
    refine ⟨Hk0, H0, Hk1, ρ, r1, ?_⟩
    cases e1 : plo ρ with
    | err c => rw [e1] at p1; exact p1
    | bad => rw [e1] at p1; exact p1
    | ok l =>
      rw [e1] at p1
      have p1 : PostE X.K W Hk1 H1 σ Q (phi ρ >>= fun h => gSl x l h) := p1
      intro Hk2 H2 g2
      have p2 := PostE.up g2 p1
      refine ⟨Hk0, H0, Hk2, ρ, r1.up g2, ?_⟩
      cases e2 : phi ρ with
      | err c => rw [e2] at p2; exact p2
      | bad => rw [e2] at p2; exact p2
      | ok h =>
        rw [e2] at p2
        intro Hk3 H3 g3
        exact ⟨Hk3, σ, x, g3.kh, Den.up g3 (Den.up g2 d1), PostE.up g3 p2⟩
end

/-! ### calls of built-ins -/
def rC (K : PySem.W.Frag) (W : WX) (g : List Rv → R Rv) : List V → Hp → VK → Prop := fun vs H Q => ∃ Hk σ rs, Ex Hk H ∧ DenAll Hk H σ rs vs ∧ PostE K W Hk H σ Q (g rs)
def eB (g : List Rv → R Rv) (φs : List (En → R Rv)) : En → R Rv := fun ρ => evR φs ρ >>= g
section
variable {X : Cx} [ok : OK X] {W : WX} {e : Expr} {es : List Expr} {φs : List (En → R Rv)} {x : Str} {p pos : Pos} {id T : String} {g : List Rv → R Rv}
theorem d_callB (hc : CallR X (.builtin id) (rC X.K W g)) (hm : X.mg x = none) (hv : bootBuiltins x = some (.builtin id)) (ha : PA X (e :: es) (tr X.K W φs)) (hg : Gl X x := by rfl) (hn : x ≠ "__name__" := by decide) (hdb : (x == ("__debug__" : Str)) = false := by decide)
    (he : starEach (e :: es) X.env = (false, eval e X.env) :: starEach es X.env := by rfl) (hpl : (backTo pos (starEach es X.env)).any (·.1) = false := by rfl) : PE X (.Call (.Name x p) (e :: es) [] pos) (te X.K W (eB g φs)) :=
  pe_imp (pe_callB hc hg hm hv ha hn hdb he hpl) fun σ H Q ⟨Hk0, H0, Hk, ρ, r, p⟩ => tr_then r p fun rs vs Hk' H' g' d r' p' => ⟨Hk', σ, rs, g'.kh, d, p'⟩
theorem d_callTy (hc : CallR X (.type T) (rC X.K W g)) (hm : X.mg x = none) (hv : bootBuiltins x = some (.type T)) (ha : PA X (e :: es) (tr X.K W φs)) (hg : Gl X x := by rfl) (hn : x ≠ "__name__" := by decide) (hdb : (x == ("__debug__" : Str)) = false := by decide)
    (he : starEach (e :: es) X.env = (false, eval e X.env) :: starEach es X.env := by rfl) (hpl : (backTo pos (starEach es X.env)).any (·.1) = false := by rfl) : PE X (.Call (.Name x p) (e :: es) [] pos) (te X.K W (eB g φs)) :=
  pe_imp (pe_callTy hc hg hm hv ha hn hdb he hpl) fun σ H Q ⟨Hk0, H0, Hk, ρ, r, p⟩ => tr_then r p fun rs vs Hk' H' g' d r' p' => ⟨Hk', σ, rs, g'.kh, d, p'⟩
end
/-! len, all, any, tuple, list -/
def asInts : List PyData → Option (List Int)
  | [] => some []
  | .int i :: r => (asInts r).map (i :: ·)
  | _ :: _ => none
def asBools : List PyData → Option (List Bool)
  | [] => some []
  | .bool i :: r => (asBools r).map (i :: ·)
  | _ :: _ => none
theorem asInts_eq : ∀ {ds : List PyData} {ns : List Int}, asInts ds = some ns → ds = ns.map PyData.int
  | [], _, h => by cases h; rfl
  | .int i :: r, ns, h => by
    have h : (asInts r).map (i :: ·) = some ns := h
    cases e : asInts r with
    | none => rw [e] at h; cases h
    | some ms => rw [e] at h; cases h; rw [asInts_eq e]; rfl
  | .none :: _, _, h => by cases h
  | .bool _ :: _, _, h => by cases h
  | .str _ :: _, _, h => by cases h
  | .list _ :: _, _, h => by cases h
  | .tuple _ :: _, _, h => by cases h
  | .dict _ :: _, _, h => by cases h
theorem asBools_eq : ∀ {ds : List PyData} {ns : List Bool}, asBools ds = some ns → ds = ns.map PyData.bool
  | [], _, h => by cases h; rfl
  | .bool i :: r, ns, h => by
    have h : (asBools r).map (i :: ·) = some ns := h
    cases e : asBools r with
    | none => rw [e] at h; cases h
    | some ms => rw [e] at h; cases h; rw [asBools_eq e]; rfl
  | .none :: _, _, h => by cases h
  | .int _ :: _, _, h => by cases h
  | .str _ :: _, _, h => by cases h
  | .list _ :: _, _, h => by cases h
  | .tuple _ :: _, _, h => by cases h
  | .dict _ :: _, _, h => by cases h
@[simp] theorem asInts_map (ns : List Int) : asInts (ns.map PyData.int) = some ns := by
  induction ns with
  | nil => rfl
  | cons n ns ih => show (asInts (ns.map PyData.int)).map (n :: ·) = _; rw [ih]; rfl
@[simp] theorem asBools_map (ns : List Bool) : asBools (ns.map PyData.bool) = some ns := by
  induction ns with
  | nil => rfl
  | cons n ns ih => show (asBools (ns.map PyData.bool)).map (n :: ·) = _; rw [ih]; rfl
def gLen : List Rv → R Rv
  | [a] => match a.dat with
    | .list ds => .ok (.val (.int ds.length))
    | .tuple ds => .ok (.val (.int ds.length))
    | .str z => if z.length ≤ 1000000 then .ok (.val (.int z.length)) else .bad
    | _ => .bad
  | _ => .bad
def gAll : List Rv → R Rv
  | [a] => match a.dat with
    | .list ds => match asBools ds with
      | some bs => .ok (.val (.bool (bs.all id)))
      | none => .bad
    | _ => .bad
  | _ => .bad
def gAny : List Rv → R Rv
  | [a] => match a.dat with
    | .list ds => match asBools ds with
      | some bs => .ok (.val (.bool (bs.any id)))
      | none => .bad
    | _ => .bad
  | _ => .bad
def gTuple : List Rv → R Rv
  | [a] => match a.dat with
    | .list ds => .ok (.val (.tuple ds))
    | .tuple ds => .ok (.val (.tuple ds))
    | _ => .bad
  | _ => .bad
def gList : List Rv → R Rv
  | [a] => match a.dat with
    | .list ds => .ok (.own ds)
    | .tuple ds => .ok (.own ds)
    | _ => .bad
  | _ => .bad
def gSum : List Rv → R Rv
  | [a] => match a.dat with
    | .list ds => match asInts ds with
      | some ns => .ok (.val (.int ns.sum))
      | none => .bad
    | .tuple ds => match asInts ds with
      | some ns => .ok (.val (.int ns.sum))
      | none => .bad
    | _ => .bad
  | _ => .bad
theorem DenAll.one {Hk H : Hp} {σ : Sl} {rs : List Rv} {vs : List V} {a : Rv} (h : DenAll Hk H σ [a] vs) : ∃ v, vs = [v] ∧ Den Hk H σ a v := by
  cases h with
  | cons h t => cases t; exact ⟨_, rfl, h⟩
theorem DenAll.two {Hk H : Hp} {σ : Sl} {vs : List V} {a b : Rv} (h : DenAll Hk H σ [a, b] vs) : ∃ v u, vs = [v, u] ∧ Den Hk H σ a v ∧ Den Hk H σ b u := by
  cases h with
  | cons h t => cases t with | cons h' t' => cases t'; exact ⟨_, _, rfl, h, h'⟩
section
variable {X : Cx} [ok : OK X] {W : WX}
theorem c_len : CallR X (.builtin "len") (rC X.K W gLen) := by
  intro pins s σ' H vs us Q I rv h
  obtain ⟨Hk, σ, rs, e, d, p⟩ := h
  unfold gLen at p
  split at p
  · rename_i a
    obtain ⟨v, rfl, da⟩ := DenAll.one (rs := []) d
    split at p
    · rename_i ds h1
      obtain ⟨l, xs, rfl, s1, r1⟩ := da.kList e h1
      exact call_len_seq pins s σ' H _ us Q I rv ⟨l, xs, rfl, .inl s1.sq, by rw [RpAll.length r1]; exact p _ Hk H (Gr.refl e) trivial (Rp.int _)⟩
    · rename_i ds h1
      obtain ⟨l, xs, rfl, s1, r1, _⟩ := da.kTuple e h1
      exact call_len_seq pins s σ' H _ us Q I rv ⟨l, xs, rfl, .inr (.inl s1), by rw [RpAll.length r1]; exact p _ Hk H (Gr.refl e) trivial (Rp.int _)⟩
    · rename_i z h1
      rw [da.kStr h1] at rv
      split at p
      · rename_i hz
        exact call_len_str pins s σ' H _ us Q I rv ⟨z, rfl, big_fits hz, p _ Hk H (Gr.refl e) trivial (Rp.int _)⟩
      · exact p.elim
    · exact p.elim
  · exact p.elim
theorem c_all (hc : X.calm = true) : CallR X (.builtin "all") (rC X.K W gAll) := by
  intro pins s σ' H vs us Q I rv h
  obtain ⟨Hk, σ, rs, e, d, p⟩ := h
  unfold gAll at p
  split at p
  · rename_i a
    obtain ⟨v, rfl, da⟩ := DenAll.one (rs := []) d
    split at p
    · rename_i ds h1
      obtain ⟨l, xs, rfl, s1, r1⟩ := da.kList e h1
      split at p
      · rename_i bs hb
        rw [asBools_eq hb] at r1
        rw [RpAll.bls r1] at s1
        exact cr_all hc pins s σ' H _ us Q I rv ⟨l, bs, rfl, s1.sq, p _ Hk H (Gr.refl e) trivial (Rp.bl _)⟩
      · exact p.elim
    · exact p.elim
  · exact p.elim
theorem c_any (hc : X.calm = true) : CallR X (.builtin "any") (rC X.K W gAny) := by
  intro pins s σ' H vs us Q I rv h
  obtain ⟨Hk, σ, rs, e, d, p⟩ := h
  unfold gAny at p
  split at p
  · rename_i a
    obtain ⟨v, rfl, da⟩ := DenAll.one (rs := []) d
    split at p
    · rename_i ds h1
      obtain ⟨l, xs, rfl, s1, r1⟩ := da.kList e h1
      split at p
      · rename_i bs hb
        rw [asBools_eq hb] at r1
        rw [RpAll.bls r1] at s1
        exact cr_any hc pins s σ' H _ us Q I rv ⟨l, bs, rfl, s1.sq, p _ Hk H (Gr.refl e) trivial (Rp.bl _)⟩
      · exact p.elim
    · exact p.elim
  · exact p.elim
theorem c_tuple : CallR X (.type "tuple") (rC X.K W gTuple) := by
  intro pins s σ' H vs us Q I rv h
  obtain ⟨Hk, σ, rs, e, d, p⟩ := h
  unfold gTuple at p
  split at p
  · rename_i a
    obtain ⟨v, rfl, da⟩ := DenAll.one (rs := []) d
    split at p
    · rename_i ds h1
      obtain ⟨l, xs, rfl, s1, r1⟩ := da.kList e h1
      exact call_tuple_of pins s σ' H _ us Q I rv ⟨l, xs, rfl, .inl ⟨s1.sq, tup_new e p r1⟩⟩
    · rename_i ds h1
      obtain ⟨l, xs, rfl, s1, r1, q1⟩ := da.kTuple e h1
      exact call_tuple_of pins s σ' H _ us Q I rv ⟨l, xs, rfl, .inr ⟨.inl s1, p _ Hk H (Gr.refl e) trivial q1⟩⟩
    · exact p.elim
  · exact p.elim
theorem c_list : CallR X (.type "list") (rC X.K W gList) := by
  intro pins s σ' H vs us Q I rv h
  obtain ⟨Hk, σ, rs, e, d, p⟩ := h
  unfold gList at p
  split at p
  · rename_i a
    obtain ⟨v, rfl, da⟩ := DenAll.one (rs := []) d
    split at p
    · rename_i ds h1
      obtain ⟨l, xs, rfl, s1, r1⟩ := da.kList e h1
      exact call_list_of pins s σ' H _ us Q I rv ⟨l, xs, rfl, .inl s1.sq, own_new e p r1⟩
    · rename_i ds h1
      obtain ⟨l, xs, rfl, s1, r1, q1⟩ := da.kTuple e h1
      exact call_list_of pins s σ' H _ us Q I rv ⟨l, xs, rfl, .inr (.inl s1), own_new e p r1⟩
    · exact p.elim
  · exact p.elim
theorem sum_tup {pins : List (Addr × Obj)} {s : Shared} {σ : Sl} {H : Hp} {a : Addr} {ns : List Int} {Q : VK} (hc : X.calm = true) (I : Inv X pins σ H s) (h : Rd H a (.tup (ns.map V.int))) (q : Q (.int ns.sum) H) :
    wpAny (model X.prog X.w) X.A (call (.builtin "sum") [.ref a]) (EP X pins σ Q) X.xe s := by
  obtain ⟨its, rv, ht, hz⟩ := I.tuple (a := a) (xs := ns.map V.int) (.inl h)
  have hi := rv.ints
  obtain ⟨xs, ex⟩ := hi.allInts.items
  have hn : numsOf (intItems xs).toList = ns := by rw [← ex]; exact hi.numsOf
  rw [nums_intItems] at hn
  rw [ex] at ht
  have hh := I.ok.hd hc
  have hlt : a < s.heap.objs.size := ht.lt
  refine call_sum_walkG (wpAny_pyIter_tuple ht ?_)
  refine ⟨_, _, _, _, _, _, numAt xs, rfl, Walks.tuple (A := X.A.in1) hh _ a (Nat.ne_of_lt hlt) (intItems xs), ⟨⟨_, Heap.get?_push_size _ rfl, rfl, rfl⟩, ht.push _⟩, ?_, (fun _ _ => intItems_at), ?_⟩
  · intro b hb
    rw [Heap.size_push]
    simp only [List.mem_cons, List.not_mem_nil, or_false] at hb
    rcases hb with rfl | rfl
    · exact Nat.lt_succ_self _
    · exact Nat.lt_succ_of_lt hlt
  · intro h' tk t' hk
    have e1 : preSum (numAt xs) (intItems xs).size = ns.sum := by
      have e2 : (intItems xs).size = xs.size := by simp [intItems]
      rw [e2, preSum_eq, List.take_of_length_le (by simp), hn]
    rw [e1]
    refine ⟨.int ns.sum, H, I.kept (h' := h') (t' := tk) fun b u eb => hk b u ?_ (Heap.get?_push_of_some _ eb), ⟨_, rfl⟩, q⟩
    simp only [List.mem_cons, List.not_mem_nil, or_false]
    exact Nat.ne_of_lt (Heap.lt_size eb)
theorem c_sum (hc : X.calm = true) : CallR X (.builtin "sum") (rC X.K W gSum) := by
  intro pins s σ' H vs us Q I rv h
  obtain ⟨Hk, σ, rs, e, d, p⟩ := h
  unfold gSum at p
  split at p
  · rename_i a
    obtain ⟨v, rfl, da⟩ := DenAll.one (rs := []) d
    split at p
    · rename_i ds h1
      obtain ⟨l, xs, rfl, s1, r1⟩ := da.kList e h1
      split at p
      · rename_i bs hb
        rw [asInts_eq hb] at r1
        rw [RpAll.ints r1] at s1
        exact cr_sum hc pins s σ' H _ us Q I rv ⟨l, bs, rfl, s1.sq, p _ Hk H (Gr.refl e) trivial (Rp.int _)⟩
      · exact p.elim
    · rename_i ds h1
      obtain ⟨l, xs, rfl, s1, r1, q1⟩ := da.kTuple e h1
      split at p
      · rename_i bs hb
        rw [asInts_eq hb] at r1
        rw [RpAll.ints r1] at s1
        rw [Vals.ref1 rv]
        exact sum_tup hc I s1 (p _ Hk H (Gr.refl e) trivial (Rp.int _))
      · exact p.elim
    · exact p.elim
  · exact p.elim
end
/-! max, min -/
def alikeB (ds : List PyData) : Bool := ds.all (fun x => ds.all fun y => PySem.W.alike x y) && (ds.all fun x => !isNoneD x) && decide (PyData.depthAll ds ≤ 60)
theorem alikeB_ok {ds : List PyData} (h : alikeB ds = true) : PySem.W.AlikeAll ds ∧ PyData.depthAll ds ≤ 60 := by
  unfold alikeB at h
  simp only [Bool.and_eq_true, List.all_eq_true, decide_eq_true_eq] at h
  refine ⟨⟨fun x hx y hy => h.1.1 x hx y hy, fun x hx e => ?_⟩, h.2⟩
  have := h.1.2 x hx
  rw [e] at this
  cases this
def gBest (f : PyData → List PyData → PyData) : List Rv → R Rv
  | [a] => match a.dat with
    | .list (x :: xs) => if alikeB (x :: xs) = true then .ok (.val (f x xs)) else .bad
    | .tuple (x :: xs) => if alikeB (x :: xs) = true then .ok (.val (f x xs)) else .bad
    | _ => .bad
  | _ => .bad
def gMax1 : List Rv → R Rv := gBest PySem.W.maxD
def gMin1 : List Rv → R Rv := gBest PySem.W.minD
def gInt2 (f : Int → Int → Int) : List Rv → R Rv
  | [a, b] => match a.dat, b.dat with
    | .int i, .int j => .ok (.val (.int (f i j)))
    | _, _ => .bad
  | _ => .bad
def gMax2 : List Rv → R Rv := gInt2 fun i j => if j > i then j else i
def gMin2 : List Rv → R Rv := gInt2 fun i j => if j < i then j else i
section
variable {X : Cx} [ok : OK X] {W : WX}
/-- an item that reads as d is the value that stands for d -/
theorem best_back {pins : List (Addr × Obj)} {s : Shared} {σ : Sl} {Hk H : Hp} {xs : List V} {ds : List PyData} {its : List Value} {i : Nat} {v : Value} {d : PyData} {h' : Heap} {bs : List Addr}
    (I : Inv X pins σ H s) (e : Ex Hk H) (r : RpAll Hk xs ds) (rv : Vals xs its) (hv : its.toArray[i]? = some v) (hr : Reads h' v d bs) (k : ∀ b o, s.heap.get? b = some o → h'.get? b = some o) (hp : d.plain = true) : ∃ x, RelV x v ∧ Rp Hk x d := by
  have hv' : its[i]? = some v := by simpa using hv
  have hi : i < its.length := (List.getElem?_eq_some_iff.mp hv').1
  have hx : i < xs.length := by rw [rv.length]; exact hi
  obtain ⟨u, hu, ru⟩ := rv.get (List.getElem?_eq_getElem hx)
  rw [hv'] at hu
  cases hu
  obtain ⟨d', _, hd'⟩ := RpAll.getV r (List.getElem?_eq_getElem hx)
  obtain ⟨as, ra⟩ := Dp.reads I _ _ _ (by rw [ok.eq]; exact Rp.dp (Rp.up e hd')) ru
  have : d' = d := (PySem.SeqAt.plain_unique d d' v _ _ hp hr (PyProof.Rows.Reads.keeps k ra)).symm
  exact ⟨_, ru, this ▸ hd'⟩
theorem readsAll_of {pins : List (Addr × Obj)} {s : Shared} {σ : Sl} {Hk H : Hp} {xs : List V} {ds : List PyData} {its : List Value} (I : Inv X pins σ H s) (e : Ex Hk H) (r : RpAll Hk xs ds) (rv : Vals xs its) : ∃ as, ReadsAll s.heap its.toArray.toList ds as := by
  obtain ⟨as, h⟩ := Dp.readsAll I ds xs its (by rw [ok.eq]; exact RpAll.dp (RpAll.up e r)) rv
  exact ⟨as, by simpa using h⟩
theorem fold_mem {α : Type} (f : α → α → α) (hf : ∀ a b, f a b = a ∨ f a b = b) : ∀ (xs : List α) (x : α), xs.foldl f x = x ∨ xs.foldl f x ∈ xs
  | [], x => .inl rfl
  | y :: ys, x => by
    rw [List.foldl_cons]
    rcases fold_mem f hf ys (f x y) with h | h
    · rcases hf x y with z | z
      · rw [h, z]; exact .inl rfl
      · rw [h, z]; exact .inr List.mem_cons_self
    · exact .inr (List.mem_cons_of_mem _ h)
theorem plain_mem {ds : List PyData} {d : PyData} (h : PyData.plainAll ds = true) (m : d ∈ ds) : d.plain = true := by
  induction ds with
  | nil => cases m
  | cons x xs ih =>
    rw [PyData.plainAll, Bool.and_eq_true] at h
    rcases List.mem_cons.mp m with e | e
    · rw [e]; exact h.1
    · exact ih h.2 e
theorem maxD_plain {x : PyData} {xs : List PyData} (h : PyData.plainAll (x :: xs) = true) : (PySem.W.maxD x xs).plain = true := by
  refine plain_mem h ?_
  rcases fold_mem (fun a y => if PySem.W.dataLt a y then y else a) (fun a b => by split; exact .inr rfl; exact .inl rfl) xs x with e | e
  · unfold PySem.W.maxD; rw [e]; exact List.mem_cons_self
  · exact List.mem_cons_of_mem _ e
theorem minD_plain {x : PyData} {xs : List PyData} (h : PyData.plainAll (x :: xs) = true) : (PySem.W.minD x xs).plain = true := by
  refine plain_mem h ?_
  rcases fold_mem (fun a y => if PySem.W.dataLt y a then y else a) (fun a b => by split; exact .inr rfl; exact .inl rfl) xs x with e | e
  · unfold PySem.W.minD; rw [e]; exact List.mem_cons_self
  · exact List.mem_cons_of_mem _ e
theorem c_best {id : String} {f : PyData → List PyData → PyData} (hc : X.calm = true) {k : Nat} (hr : Room k X.A)
    (hf : ∀ x xs, PyData.plainAll (x :: xs) = true → (f x xs).plain = true)
    (hl : ∀ {s : Shared} {l : Addr} {vs : Array Value} {x : PyData} {xs : List PyData} {as : List Addr} {Q : Value → Shared → Prop}, X.A.handled = none → s.heap.IsList l vs → ReadsAll s.heap vs.toList (x :: xs) as → PySem.W.AlikeAll (x :: xs) → X.A.units + 1 + PyData.depthAll (x :: xs) < cLine →
      (∀ (i : Nat) v h' tk bs, vs[i]? = some v → Reads h' v (f x xs) bs → (∀ b o, s.heap.get? b = some o → h'.get? b = some o) → Q v { s with heap := h', toks := tk }) → wpAny (model X.prog X.w) X.A (call (.builtin id) [.ref l]) Q X.xe s)
    (ht : ∀ {s : Shared} {l : Addr} {vs : Array Value} {x : PyData} {xs : List PyData} {as : List Addr} {Q : Value → Shared → Prop}, X.A.handled = none → s.heap.IsTuple l vs → ReadsAll s.heap vs.toList (x :: xs) as → PySem.W.AlikeAll (x :: xs) → X.A.units + 1 + PyData.depthAll (x :: xs) < cLine →
      (∀ (i : Nat) v h' tk bs, vs[i]? = some v → Reads h' v (f x xs) bs → (∀ b o, s.heap.get? b = some o → h'.get? b = some o) → Q v { s with heap := h', toks := tk }) → wpAny (model X.prog X.w) X.A (call (.builtin id) [.ref l]) Q X.xe s) :
    CallR X (.builtin id) (rC X.K W (gBest f)) := by
  intro pins s σ' H vs us Q I rv h
  obtain ⟨Hk, σ, rs, e, d, p⟩ := h
  unfold gBest at p
  split at p
  · rename_i a
    obtain ⟨v, rfl, da⟩ := DenAll.one (rs := []) d
    split at p
    · rename_i x xs h1
      split at p
      · rename_i hal
        obtain ⟨l, zs, rfl, s1, r1⟩ := da.kList e h1
        obtain ⟨_, its, n, rz, _, g⟩ := rd_list I s1
        obtain ⟨as, ra⟩ := readsAll_of I e r1 rz
        obtain ⟨al, dp⟩ := alikeB_ok hal
        rw [Vals.ref1 rv]
        refine hl (I.ok.hd hc) ⟨_, g, rfl, n, rfl⟩ ra al (units61 hr dp) fun i v h' tk bs hv hrd hk => ?_
        obtain ⟨w, rw', rp⟩ := best_back I e r1 rz hv hrd hk (hf x xs (RpAll.plain r1))
        exact ⟨w, H, I.kept hk, rw', p _ Hk H (Gr.refl e) trivial rp⟩
      · exact p.elim
    · rename_i x xs h1
      split at p
      · rename_i hal
        obtain ⟨l, zs, rfl, s1, r1, _⟩ := da.kTuple e h1
        obtain ⟨its, rz, tz, _⟩ := I.tuple (a := l) (xs := zs) (.inl s1)
        obtain ⟨as, ra⟩ := readsAll_of I e r1 rz
        obtain ⟨al, dp⟩ := alikeB_ok hal
        rw [Vals.ref1 rv]
        refine ht (I.ok.hd hc) tz ra al (units61 hr dp) fun i v h' tk bs hv hrd hk => ?_
        obtain ⟨w, rw', rp⟩ := best_back I e r1 rz hv hrd hk (hf x xs (RpAll.plain r1))
        exact ⟨w, H, I.kept hk, rw', p _ Hk H (Gr.refl e) trivial rp⟩
      · exact p.elim
    · exact p.elim
  · exact p.elim
theorem c_max1 (hc : X.calm = true) {k : Nat} (hr : Room k X.A) : CallR X (.builtin "max") (rC X.K W gMax1) := c_best hc hr (fun _ _ => maxD_plain) PySem.W.max_list_data PySem.W.max_tuple_data
theorem c_min1 (hc : X.calm = true) {k : Nat} (hr : Room k X.A) : CallR X (.builtin "min") (rC X.K W gMin1) := c_best hc hr (fun _ _ => minD_plain) PySem.W.min_list_data PySem.W.min_tuple_data
theorem c_int2 {id : String} {f : Int → Int → Int} (hf : CallR X (.builtin id) (fun xs H Q => ∃ i j, xs = [.int i, .int j] ∧ Q (.int (f i j)) H)) : CallR X (.builtin id) (rC X.K W (gInt2 f)) := by
  intro pins s σ' H vs us Q I rv h
  obtain ⟨Hk, σ, rs, e, d, p⟩ := h
  unfold gInt2 at p
  split at p
  · rename_i a b
    obtain ⟨v, u, rfl, da, db⟩ := DenAll.two d
    split at p
    · rename_i i j h1 h2
      rw [da.kInt h1, db.kInt h2] at rv
      exact hf pins s σ' H _ us Q I rv ⟨i, j, rfl, p _ Hk H (Gr.refl e) trivial (Rp.int _)⟩
    · exact p.elim
  · exact p.elim
theorem c_max2 (hc : X.calm = true) : CallR X (.builtin "max") (rC X.K W gMax2) := c_int2 (call_max2 hc)
theorem c_min2 (hc : X.calm = true) : CallR X (.builtin "min") (rC X.K W gMin2) := c_int2 (call_min2 hc)
end
/-! sorted -/
def sortD (ds : List PyData) : List PyData := ds.mergeSort (PySem.W.dataLe false fun d : PyData => d)
def sortB (ds : List PyData) : Bool := ds.all (fun x => ds.all fun y => PySem.W.alike x y) && decide (PyData.depthAll ds ≤ 60) && ((ds.all fun d => match d with
  | .tuple (_ :: _) => true
  | _ => false) || (ds.all fun d => match d with
  | .tuple _ => false
  | .none => false
  | _ => true))
def gSorted : List Rv → R Rv
  | [a] => match a.dat with
    | .list ds => if sortB ds = true ∧ ds.length ≤ 1000000 then .ok (.own (sortD ds)) else .bad
    | _ => .bad
  | _ => .bad
theorem depth_mem {ds : List PyData} {d : PyData} (m : d ∈ ds) : d.depth ≤ PyData.depthAll ds := by
  induction ds with
  | nil => cases m
  | cons x xs ih =>
    rw [PyData.depthAll]
    rcases List.mem_cons.mp m with e | e
    · rw [e]; exact Nat.le_max_left _ _
    · exact Nat.le_trans (ih e) (Nat.le_max_right _ _)
theorem sortB_ok {ds : List PyData} (h : sortB ds = true) : PySem.W.AllAlike ds ∧ PyData.depthAll ds ≤ 60 ∧ PySem.W.Sortable ds := by
  unfold sortB at h
  simp only [Bool.and_eq_true, Bool.or_eq_true, List.all_eq_true, decide_eq_true_eq] at h
  refine ⟨fun x hx y hy => h.1.1 x hx y hy, h.1.2, ?_⟩
  rcases h.2 with z | z
  · refine .inl fun d hd => ?_
    have q := z d hd
    split at q
    · exact ⟨_, _, rfl⟩
    · cases q
  · refine .inr fun d hd => ?_
    have q := z d hd
    cases d with
    | none => cases q
    | tuple xs => cases q
    | _ => exact ⟨(fun e => nomatch e), (fun _ e => nomatch e)⟩
section
variable {X : Cx} [ok : OK X] {W : WX}
theorem each_of {Hk : Hp} : ∀ {xs : List V} {ds : List PyData} {its : List Value}, RpAll Hk xs ds → Vals xs its → PySem.W.EachIs (fun v d => ∃ x, RelV x v ∧ Rp Hk x d) its ds
  | _, _, _, .nil, .nil => .nil
  | _, _, _, .cons a b, .cons r t => .cons ⟨_, r, a⟩ (each_of b t)
theorem of_each {Hk : Hp} : ∀ {ds : List PyData} {its : List Value}, PySem.W.EachIs (fun v d => ∃ x, RelV x v ∧ Rp Hk x d) its ds → ∃ xs, RpAll Hk xs ds ∧ Vals xs its
  | _, _, .nil => ⟨[], .nil, .nil⟩
  | _, _, .cons ⟨x, r, a⟩ t => by
    obtain ⟨xs, h1, h2⟩ := of_each t
    exact ⟨x :: xs, .cons a h1, .cons r h2⟩
theorem c_sorted {k : Nat} (hr : Room k X.A) : CallR X (.builtin "sorted") (rC X.K W gSorted) := by
  intro pins s σ' H vs us Q I rv h
  obtain ⟨Hk, σ, rs, e, d, p⟩ := h
  unfold gSorted at p
  split at p
  · rename_i a
    obtain ⟨v, rfl, da⟩ := DenAll.one (rs := []) d
    split at p
    · rename_i ds h1
      split at p
      · rename_i hal
        obtain ⟨hal, hz⟩ := hal
        obtain ⟨l, zs, rfl, s1, r1⟩ := da.kList e h1
        obtain ⟨_, its, n, rz, _, g⟩ := rd_list I s1
        obtain ⟨al, dp, so⟩ := sortB_ok hal
        rw [Vals.ref1 rv]
        have er : PySem.W.EachIs (fun v d => ∃ as, Reads s.heap v d as) its ds := PySem.W.EachIs.mono (fun v d h => by
          obtain ⟨x, rx, hx⟩ := h
          exact Dp.reads I _ _ _ (by rw [ok.eq]; exact Rp.dp (Rp.up e hx)) rx) (each_of r1 rz)
        refine PySem.W.sorted_data (enc := fun d : PyData => d) (R := fun v d => ∃ x, RelV x v ∧ Rp Hk x d) ⟨_, g, rfl, n, rfl⟩ (each_of r1 rz) er (by rw [List.map_id']; exact al) (by rw [List.map_id']; exact so) (big_fits hz) (fun b hb => ?_) fun out hlen ho => ?_
        · have := hr.units
          have := depth_mem hb
          omega
        · obtain ⟨xs', r', rv'⟩ := of_each ho
          obtain ⟨ep, he'⟩ := PyProof.Rows.sortedAll_at s.heap its (List.toArray out)
          have hl' : xs'.length ≤ sizeLine := by
            rw [RpAll.length r', List.length_mergeSort]
            exact big_fits hz
          refine ⟨.ref _, upd H (s.heap.objs.size + 1) (.lst xs'), I.laid (t' := s.toks) (fun _ _ => PyProof.Rows.sortedAll_old) (Nat.le_succ _) ⟨hl', out, ep, rv', he'⟩, rfl, own_new e p r' _ (I.hok.fresh (Nat.le_succ _))⟩
      · exact p.elim
    · exact p.elim
  · exact p.elim
end
/-! isinstance -/
def tyN : PyData → String
  | .none => "NoneType"
  | .bool _ => "bool"
  | .int _ => "int"
  | .str _ => "str"
  | .list _ => "list"
  | .tuple _ => "tuple"
  | .dict _ => "dict"
def isiD (T : String) (d : PyData) : R Bool := match kitB (tyN d) T with
  | some b => .ok b
  | none => .bad
def eIsi (T : String) (φ : En → R Rv) : En → R Rv := fun ρ => φ ρ >>= fun x => isiD T (frz x).dat >>= fun b => .ok (.val (.bool b))
theorem rp_ty {H : Hp} {v : V} {d : PyData} (h : Rp H v d) : TyX KK.K H v (.type (tyN d)) := by
  cases h with
  | non => exact .base .non
  | bl b => exact .base (.bl b)
  | int i => exact .base (.int i)
  | str x => exact .base (.str x)
  | lst h r =>
    rcases h with (h | ⟨o, h⟩) | ⟨its, n, h, _⟩
    · exact .base (.lst h)
    · exact .base (.frz h)
    · exact .kList h rfl
  | tup h r =>
    rcases h with h | ⟨o, h⟩
    · exact .base (.tup h)
    · exact .fTuple h
section
variable {X : Cx} [ok : OK X] {W : WX} {e : Expr} {φ : En → R Rv} {x y : Str} {p p2 pos : Pos} {T : String}
theorem d_isi (he : PE X e (te X.K W φ)) (hm : X.mg "isinstance" = none) (hy : X.mg y = none) (hv : bootBuiltins y = some (.type T)) (hg : Gl X "isinstance" := by rfl) (hgy : Gl X y := by rfl) (hny : y ≠ "__name__" := by decide) (hdy : (y == ("__debug__" : Str)) = false := by decide)
    (h1 : starEach [e, .Name y p2] X.env = (false, eval e X.env) :: starEach [.Name y p2] X.env := by rfl) (h2 : starEach [.Name y p2] X.env = (false, eval (.Name y p2) X.env) :: starEach [] X.env := by rfl)
    (hpl : (backTo pos (starEach [.Name y p2] X.env)).any (·.1) = false := by rfl) : PE X (.Call (.Name "isinstance" p) [e, .Name y p2] [] pos) (te X.K W (eIsi T φ)) :=
  pe_imp (pe_callB call_isi hg hm (by decide +kernel) (pa_cons he (pa_cons (pe_bltn (v := .ty T) hgy hy hv rfl hny hdy) pa_nil h2) h1) (by decide) (by decide) h1 hpl) fun σ H Q ⟨Hk0, H0, Hk, ρ, r, p⟩ => by
    refine te_thenF (g := fun x => isiD T x.dat >>= fun b => .ok (.val (.bool b))) r p fun x v Hk1 H1 g1 d1 n1 r1 p1 => ?_
    unfold isiD at p1
    split at p1
    · rename_i b hb
      exact ⟨v, .ty T, _, _, b, rfl, .ty T, (by rw [ok.eq]; exact rp_ty (Den.dat g1.kh d1)), kit_ty hb, p1 _ Hk1 H1 g1 trivial (Rp.bl b)⟩
    · exact p1.elim
end
end Py

set_option Elab.async false
set_option linter.all false
set_option maxRecDepth 100000
set_option autoImplicit false
set_option maxHeartbeats 1000000
/-! PyE: targets, what is walked, comprehensions, statements. -/
namespace Py
variable [KK]
open PySem L2
open Evl (Ex)

/-! ### stores -/
section
variable {Hk0 H0 Hk H : Hp} {σ : Sl} {ρ : En}
theorem get_set {α : Type} {l : List α} {i j : Nat} {a : α} : (l.set i a)[j]? = if i = j then (if i < l.length then some a else none) else l[j]? := by
  by_cases h : i = j
  · subst h
    rw [if_pos rfl]
    by_cases h2 : i < l.length
    · rw [List.getElem?_set_self h2, if_pos h2]
    · rw [if_neg h2, List.getElem?_eq_none (by simpa using h2)]
  · rw [if_neg h, List.getElem?_set_ne h]
theorem Rel.setVal {v : V} {d : PyData} {i : Nat} (r : Rel Hk0 H0 Hk H σ ρ) (h : Rp Hk v d) : Rel Hk0 H0 Hk H (σ.set i (some v)) (ρ.set i (some (.val d))) where
  len := by rw [List.length_set, List.length_set]; exact r.len
  gr := r.gr
  val := fun j e q => by
    rw [get_set] at q ⊢
    split at q
    · rename_i hj
      subst hj
      rw [if_pos rfl]
      split at q
      · rename_i hl
        cases q
        exact ⟨v, by rw [r.len, if_pos hl], h⟩
      · cases q
    · rename_i hj
      rw [if_neg hj]
      exact r.val j e q
  own := fun j ds q => by
    rw [get_set] at q
    split at q
    · split at q <;> cases q
    · rename_i hj
      rw [get_set, if_neg hj]
      exact r.own j ds q
  sep := fun j k ds es p q1 q2 h1 h2 => by
    rw [get_set] at q1 q2
    split at q1
    · split at q1 <;> cases q1
    · rename_i hj
      split at q2
      · split at q2 <;> cases q2
      · rename_i hk
        rw [get_set, if_neg hj] at h1
        rw [get_set, if_neg hk] at h2
        exact r.sep j k ds es p q1 q2 h1 h2
  raw := fun j a q => by
    rw [get_set] at q ⊢
    split at q
    · split at q <;> cases q
    · rename_i hj
      rw [if_neg hj]
      exact r.raw j a q
  dct := fun j ds q => by
    rw [get_set] at q
    split at q
    · split at q <;> cases q
    · rename_i hj
      rw [get_set, if_neg hj]
      exact r.dct j ds q
  tpn := fun j ds q => by
    rw [get_set] at q
    split at q
    · split at q <;> cases q
    · rename_i hj
      rw [get_set, if_neg hj]
      exact r.tpn j ds q
  kn := fun j ds q => by
    rw [get_set] at q
    split at q
    · split at q <;> cases q
    · rename_i hj
      rw [get_set, if_neg hj]
      exact r.kn j ds q
  t0 := r.t0
  dsep := fun j k ds es p q1 q2 h1 h2 => by
    rw [get_set] at q1 q2
    split at q1
    · split at q1 <;> cases q1
    · rename_i hj
      split at q2
      · split at q2 <;> cases q2
      · rename_i hk
        rw [get_set, if_neg hj] at h1
        rw [get_set, if_neg hk] at h2
        exact r.dsep j k ds es p q1 q2 h1 h2
theorem Rel.setOwn {p : Addr} {xs : List V} {ds : List PyData} {i : Nat} (r : Rel Hk0 H0 Hk H σ ρ) (h0 : H0 p = none) (hk : Hk p = none) (hp : H p = some (.lst xs)) (hd : RpAll Hk xs ds)
    (hs : ∀ (j : Nat) (es : List PyData), ρ[j]? = some (some (Cl.own es)) → j ≠ i → σ[j]? ≠ some (some (.ref p))) : Rel Hk0 H0 Hk H (σ.set i (some (.ref p))) (ρ.set i (some (.own ds))) where
  len := by rw [List.length_set, List.length_set]; exact r.len
  gr := r.gr
  val := fun j e q => by
    rw [get_set] at q
    split at q
    · split at q <;> cases q
    · rename_i hj
      rw [get_set, if_neg hj]
      exact r.val j e q
  own := fun j es q => by
    rw [get_set] at q ⊢
    split at q
    · rename_i hj
      subst hj
      rw [if_pos rfl]
      split at q
      · rename_i hl
        cases q
        exact ⟨p, xs, by rw [r.len, if_pos hl], h0, hk, hp, hd⟩
      · cases q
    · rename_i hj
      rw [if_neg hj]
      exact r.own j es q
  sep := fun j k ds' es p' q1 q2 h1 h2 => by
    rw [get_set] at q1 q2 h1 h2
    by_cases hj : i = j
    · subst hj
      by_cases hk' : i = k
      · exact hk'
      · rw [if_neg hk'] at q2 h2
        rw [if_pos rfl] at h1
        split at h1
        · cases h1
          exact absurd h2 (hs k es q2 (fun z => hk' z.symm))
        · cases h1
    · rw [if_neg hj] at q1 h1
      by_cases hk' : i = k
      · subst hk'
        rw [if_pos rfl] at h2
        split at h2
        · cases h2
          exact absurd h1 (hs j ds' q1 (fun z => hj z.symm))
        · cases h2
      · rw [if_neg hk'] at q2 h2
        exact r.sep j k ds' es p' q1 q2 h1 h2
  raw := fun j a q => by
    rw [get_set] at q ⊢
    split at q
    · split at q <;> cases q
    · rename_i hj
      rw [if_neg hj]
      exact r.raw j a q
  dct := fun j ds q => by
    rw [get_set] at q
    split at q
    · split at q <;> cases q
    · rename_i hj
      rw [get_set, if_neg hj]
      exact r.dct j ds q
  tpn := fun j ds q => by
    rw [get_set] at q
    split at q
    · split at q <;> cases q
    · rename_i hj
      rw [get_set, if_neg hj]
      exact r.tpn j ds q
  kn := fun j ds q => by
    rw [get_set] at q
    split at q
    · split at q <;> cases q
    · rename_i hj
      rw [get_set, if_neg hj]
      exact r.kn j ds q
  t0 := r.t0
  dsep := fun j k ds es p q1 q2 h1 h2 => by
    rw [get_set] at q1 q2
    split at q1
    · split at q1 <;> cases q1
    · rename_i hj
      split at q2
      · split at q2 <;> cases q2
      · rename_i hk
        rw [get_set, if_neg hj] at h1
        rw [get_set, if_neg hk] at h2
        exact r.dsep j k ds es p q1 q2 h1 h2
/-- fewer slots are told of -/
theorem Rel.less {σ' : Sl} {ρ' : En} (r : Rel Hk0 H0 Hk H σ ρ) (hl : σ'.length = ρ'.length) (h : ∀ (i : Nat) (c : Cl), ρ'[i]? = some (some c) → ρ[i]? = some (some c) ∧ σ'[i]? = σ[i]?) : Rel Hk0 H0 Hk H σ' ρ' where
  len := hl
  gr := r.gr
  val := fun i d q => by obtain ⟨a, b⟩ := h i _ q; rw [b]; exact r.val i d a
  own := fun i d q => by obtain ⟨a, b⟩ := h i _ q; rw [b]; exact r.own i d a
  sep := fun i j ds es p q1 q2 h1 h2 => by
    obtain ⟨a, b⟩ := h i _ q1
    obtain ⟨a', b'⟩ := h j _ q2
    rw [b] at h1
    rw [b'] at h2
    exact r.sep i j ds es p a a' h1 h2
  raw := fun i a q => by obtain ⟨b, c⟩ := h i _ q; rw [c]; exact r.raw i a b
  dct := fun i d q => by obtain ⟨a, b⟩ := h i _ q; rw [b]; exact r.dct i d a
  tpn := fun i d q => by obtain ⟨a, b⟩ := h i _ q; rw [b]; exact r.tpn i d a
  kn := fun i d q => by obtain ⟨a, b⟩ := h i _ q; rw [b]; exact r.kn i d a
  t0 := r.t0
  dsep := fun i j ds es p q1 q2 h1 h2 => by
    obtain ⟨a, b⟩ := h i _ q1
    obtain ⟨a', b'⟩ := h j _ q2
    rw [b] at h1
    rw [b'] at h2
    exact r.dsep i j ds es p a a' h1 h2
theorem Rel.drop (r : Rel Hk0 H0 Hk H σ ρ) (j : Nat) : Rel Hk0 H0 Hk H σ (ρ.set j none) := r.less (by rw [List.length_set]; exact r.len) fun i c q => by
  rw [get_set] at q
  split at q
  · split at q <;> cases q
  · exact ⟨q, rfl⟩
end

/-! ### targets -/
inductive Pat where
  | nm (i : Nat)
  | tp (ps : List Pat)
mutual
def asg : Pat → PyData → En → R En
  | .nm i, d, ρ => .ok (ρ.set i (some (.val d)))
  | .tp ps, .tuple ds, ρ => if ds.length = ps.length then asgs ps ds ρ else .bad
  | .tp _, _, _ => .bad
def asgs : List Pat → List PyData → En → R En
  | [], [], ρ => .ok ρ
  | p :: ps, d :: ds, ρ => asg p d ρ >>= fun ρ' => asgs ps ds ρ'
  | _, _, _ => .bad
def slots : Pat → List Nat
  | .nm i => [i]
  | .tp ps => slotsAll ps
def slotsAll : List Pat → List Nat
  | [] => []
  | p :: ps => slots p ++ slotsAll ps
end
def Off (vs : List Nat) (σ σ' : Sl) : Prop := σ'.length = σ.length ∧ ∀ j, j ∉ vs → σ'[j]? = σ[j]?
theorem Off.refl (vs : List Nat) (σ : Sl) : Off vs σ σ := ⟨rfl, fun _ _ => rfl⟩
theorem Off.set {vs : List Nat} {σ : Sl} {i : Nat} {v : Option V} (h : i ∈ vs) : Off vs σ (σ.set i v) := ⟨List.length_set, fun j hj => by rw [get_set, if_neg (show ¬ i = j from fun e => hj (by rw [← e]; exact h))]⟩
theorem Off.trans {vs us : List Nat} {a b c : Sl} (h : Off vs a b) (k : Off us b c) : Off (vs ++ us) a c := ⟨k.1.trans h.1, fun j hj => by
  rw [List.mem_append, not_or] at hj
  rw [k.2 j hj.2, h.2 j hj.1]⟩
def tg (p : Pat) : TG := fun v σ H Q => ∃ Hk0 H0 Hk ρ d, Rel Hk0 H0 Hk H σ ρ ∧ Rp Hk v d ∧ ∃ ρ', asg p d ρ = .ok ρ' ∧ ∀ σ', Rel Hk0 H0 Hk H σ' ρ' → Off (slots p) σ σ' → Q σ' H
def tgs (ps : List Pat) : TGs := fun vs σ H Q => ∃ Hk0 H0 Hk ρ ds, Rel Hk0 H0 Hk H σ ρ ∧ RpAll Hk vs ds ∧ ∃ ρ', asgs ps ds ρ = .ok ρ' ∧ ∀ σ', Rel Hk0 H0 Hk H σ' ρ' → Off (slotsAll ps) σ σ' → Q σ' H
section
variable {X : Cx} [ok : OK X] {pos : Pos}
theorem pg_imp {e : Expr} {t t' : TG} (h : PG X e t) (w : ∀ v σ H Q, t' v σ H Q → t v σ H Q) : PG X e t' := ⟨fun pins s σ H v u Q I r q => h.run pins s σ H v u Q I r (w v σ H Q q)⟩
theorem pgs_imp {e : List Expr} {t t' : TGs} (h : PGs X e t) (w : ∀ v σ H Q, t' v σ H Q → t v σ H Q) : PGs X e t' := ⟨fun pins s σ H v u Q I r q => h.run pins s σ H v u Q I r (w v σ H Q q)⟩
theorem g_nm {x : Str} (i : Nat) (hN : X.N.Nodup) (hi : X.N[i]? = some x := by rfl) (hx : Loc X.env.scope x := by first | exact Or.inl rfl | exact Or.inr rfl) (hf : X.fn x = true ∨ X.env.scope.names.lookup x = some .local := by first | exact .inl rfl | exact .inr rfl) : PG X (.Name x pos) (tg (.nm i)) :=
  pg_imp (pg_name hN hi hx hf) fun v σ H Q ⟨Hk0, H0, Hk, ρ, d, r, rv, ρ', e, k⟩ => by
    cases e
    exact k _ (r.setVal rv) (Off.set (by show i ∈ [i]; simp))
theorem g_nil : PGs X [] (tgs []) := pgs_imp pgs_nil fun v σ H Q ⟨Hk0, H0, Hk, ρ, ds, r, rv, ρ', e, k⟩ => by
  cases ds with
  | nil => cases rv; cases e; exact ⟨rfl, k σ r (Off.refl _ _)⟩
  | cons d ds => cases e
theorem g_cons {e : Expr} {es : List Expr} {p : Pat} {ps : List Pat} (h1 : PG X e (tg p)) (h2 : PGs X es (tgs ps)) (hs : (assignEach (e :: es) X.env).map (·.2) = assign e X.env :: (assignEach es X.env).map (·.2) := by rfl) : PGs X (e :: es) (tgs (p :: ps)) :=
  pgs_imp (pgs_cons h1 h2 hs) fun v σ H Q ⟨Hk0, H0, Hk, ρ, ds, r, rv, ρ', q, k⟩ => by
    cases ds with
    | nil => simp [asgs] at q
    | cons d ds =>
      cases rv with
      | cons a b =>
        rw [asgs] at q
        cases e1 : asg p d ρ with
        | err c => rw [e1] at q; cases q
        | bad => rw [e1] at q; cases q
        | ok ρ1 =>
          rw [e1] at q
          refine ⟨_, _, rfl, Hk0, H0, Hk, ρ, d, r, a, ρ1, e1, fun σ1 r1 o1 => ⟨Hk0, H0, Hk, ρ1, ds, r1, b, ρ', q, fun σ2 r2 o2 => k σ2 r2 (by rw [slotsAll]; exact o1.trans o2)⟩⟩
theorem g_tp {es : List Expr} {k n : Nat} {ps : List Pat} (hc : X.calm = true) (h : PGs X es (tgs ps)) (hn : (assignEach es X.env).length = n := by rfl) (hst : (assignEach es X.env).findIdx? (·.1) = none := by rfl) (hp : ps.length = n := by rfl) : PG X (.Tuple es k pos) (tg (.tp ps)) :=
  pg_imp (pg_tup hc h hn hst) fun v σ H Q ⟨Hk0, H0, Hk, ρ, d, r, rv, ρ', e, k⟩ => by
    cases d with
    | tuple ds =>
      rw [asg] at e
      split at e
      · rename_i hl
        cases rv with
        | tup s a => exact ⟨_, _, rfl, .inl (Evl.ex_rd r.kh s), by rw [RpAll.length a, hl, hp], Hk0, H0, Hk, ρ, ds, r, a, ρ', e, fun σ' r' o => k σ' r' (by rw [slots]; exact o)⟩
      · cases e
    | _ => simp [asg] at e
end

/-! ### what is walked -/
structure ItOk (J : It) (ds : List PyData) (Hk1 : Hp) (S : Hp → Prop) : Prop where
  go : ∀ i H, S H → i < ds.length → J.go i H
  stop : ∀ i H, S H → i = ds.length → J.stop i H
  yld : ∀ i H Hk x H', S H → Ex Hk1 Hk → Ex Hk H → J.yld i H x H' → ∀ d, ds[i]? = some d → ∃ Hk', Gr Hk H Hk' H' ∧ Rp Hk' x d
  mono : ∀ H H', ExT H H' → S H → S H'
section
variable (K : PySem.W.Frag) (W : WX)
def PostI (Hk H : Hp) (σ : Sl) (Q : It → Hp → Prop) : R (Bool × List PyData) → Prop
  | .ok (kn, ds) => ∀ J Hk' H' S, Gr Hk H Hk' H' → ItOk J ds Hk' S → S H' → (kn = true → S Hk') → Q J H'
  | .err c => ∀ Hk' H', Gr Hk H Hk' H' → W (.ref (He.ga K c)) none σ H'
  | .bad => False
def ti (φ : En → R (Bool × List PyData)) : TI := fun σ H Q => ∃ Hk0 H0 Hk ρ, Rel Hk0 H0 Hk H σ ρ ∧ PostI K W Hk H σ Q (φ ρ)
end
/-- a list, a tuple -/
def seqOf (r : Rv) : R (Bool × List PyData) := match r with
  | .val (.list ds) => .ok (true, ds)
  | .val (.tuple ds) => .ok (true, ds)
  | .bor _ ds => .ok (false, ds)
  | _ => .bad
def iSeq (φ : En → R Rv) : En → R (Bool × List PyData) := fun ρ => φ ρ >>= fun x => seqOf (frz x)
def rangeD (lo : Int) (n : Nat) : List PyData := (List.range n).map fun (k : Nat) => PyData.int (lo + (k : Int))
def iRg1 (φ : En → R Rv) : En → R (Bool × List PyData) := fun ρ => φ ρ >>= fun x => (frz x).toInt >>= fun j => if -(2 ^ 60) ≤ j ∧ j < 2 ^ 60 then .ok (true, rangeD 0 j.toNat) else .bad
def iRg2 (φ ψ : En → R Rv) : En → R (Bool × List PyData) := fun ρ => φ ρ >>= fun x => ψ ρ >>= fun y => (frz x).toInt >>= fun i => (frz y).toInt >>= fun j => if -(2 ^ 60) ≤ i ∧ i < 2 ^ 60 ∧ -(2 ^ 60) ≤ j ∧ j < 2 ^ 60 then .ok (true, rangeD i (j - i).toNat) else .bad
section
variable {K : PySem.W.Frag} {W : WX} {Hk0 H0 Hk H : Hp} {σ : Sl} {ρ : En}
theorem PostI.up {Q : It → Hp → Prop} {Hk' H' : Hp} {r : R (Bool × List PyData)} (g : Gr Hk H Hk' H') (h : PostI K W Hk H σ Q r) : PostI K W Hk' H' σ Q r := by
  cases r with
  | ok r => exact fun J Hk2 H2 S g2 => h J Hk2 H2 S (g.trans g2)
  | err c => exact fun Hk2 H2 g2 => h Hk2 H2 (g.trans g2)
  | bad => exact h
/-- an expression, then what is walked -/
theorem te_thenI {φ : En → R Rv} {g : Rv → R (Bool × List PyData)} {Q : It → Hp → Prop} {Q' : VK} (r : Rel Hk0 H0 Hk H σ ρ) (p : PostI K W Hk H σ Q (φ ρ >>= fun x => g (frz x)))
    (k : ∀ x v Hk' H', Gr Hk H Hk' H' → Den Hk' H' σ x v → x.isOwn = false → Rel Hk0 H0 Hk' H' σ ρ → PostI K W Hk' H' σ Q (g x) → Q' v H') : te K W φ σ H Q' := by
  refine ⟨Hk0, H0, Hk, ρ, r, ?_⟩
  cases e : φ ρ with
  | err c => rw [e] at p; exact p
  | bad => rw [e] at p; exact p
  | ok x =>
    rw [e] at p
    have p : PostI K W Hk H σ Q (g (frz x)) := p
    intro v Hk' H' gr n d
    cases x with
    | val d' => exact k _ v Hk' H' gr d rfl (r.up gr) (PostI.up gr p)
    | own ds =>
      obtain ⟨q, xs, a, b, c, f⟩ := d
      obtain ⟨q', a', b'⟩ := n
      subst a
      cases a'
      have g2 := gr.frz b' c b
      exact k (.val (.list ds)) _ (upd Hk' q (.lst xs)) H' g2 (Rp.lst (.inl (.inl upd_same)) (RpAll.up (Ex.new b) f)) rfl (r.up g2) (PostI.up g2 p)
    | bor i ds => exact k _ v Hk' H' gr d rfl (r.up gr) (PostI.up gr p)
end
theorem rd_mono {a : Addr} {xs : List V} : ∀ H H' : Hp, ExT H H' → Rd H a (.tup xs) → Rd H' a (.tup xs) := fun _ _ e h => h.elim (fun h => .inl (e.t h)) fun ⟨o, h⟩ => .inr ⟨o, e.z h⟩
theorem rl_mono {a : Addr} {xs : List V} : ∀ H H' : Hp, ExT H H' → Rl H a xs → Rl H' a xs := fun _ _ e h => match h with
  | .inl (.inl h) => .inl (.inl (e.l h))
  | .inl (.inr ⟨o, h⟩) => .inl (.inr ⟨o, e.z h⟩)
  | .inr h => .inr h
theorem rdT_inj {H : Hp} {a : Addr} {xs ys : List V} (h : Rd H a (.tup xs)) (k : Rd H a (.tup ys)) : xs = ys := by
  rcases h with h | ⟨o, h⟩ <;> rcases k with k | ⟨o', k⟩ <;> rw [h] at k <;> cases k <;> rfl
theorem itl_ok {K : PySem.W.Frag} (hK : K = KK.K) {a : Addr} {xs : List V} {ds : List PyData} {Hk1 : Hp} (h : RpAll Hk1 xs ds) : ItOk (Itl K a) ds Hk1 (fun H => Rl H a xs) where
  go := fun i H hs hi => by
    have hx : i < xs.length := by rw [RpAll.length h]; exact hi
    exact ⟨xs, xs[i], (by rw [hK]; exact Rl.sqK hs), List.getElem?_eq_getElem hx⟩
  stop := fun i H hs hi => ⟨xs, (by rw [hK]; exact Rl.sqK hs), by rw [RpAll.length h, hi]; exact Nat.le_refl _⟩
  yld := fun i H Hk x H' hs e1 e2 y d hd => by
    obtain ⟨rfl, f⟩ := y
    obtain ⟨v, hv, rv⟩ := RpAll.get h hd
    have := f xs ((by rw [hK]; exact Rl.sqK hs))
    rw [hv] at this
    cases this
    exact ⟨Hk, Gr.refl e2, Rp.up e1 rv⟩
  mono := rl_mono
theorem itt_ok {K : PySem.W.Frag} {a : Addr} {xs : List V} {ds : List PyData} {Hk1 : Hp} (h : RpAll Hk1 xs ds) : ItOk (Itt K a) ds Hk1 (fun H => Rd H a (.tup xs)) where
  go := fun i H hs hi => by
    have hx : i < xs.length := by rw [RpAll.length h]; exact hi
    exact ⟨xs, xs[i], .inl hs, List.getElem?_eq_getElem hx⟩
  stop := fun i H hs hi => ⟨xs, .inl hs, by rw [RpAll.length h, hi]; exact Nat.le_refl _⟩
  yld := fun i H Hk x H' hs e1 e2 y d hd => by
    obtain ⟨rfl, f⟩ := y
    obtain ⟨v, hv, rv⟩ := RpAll.get h hd
    have := f xs (.inl hs)
    rw [hv] at this
    cases this
    exact ⟨Hk, Gr.refl e2, Rp.up e1 rv⟩
  mono := rd_mono
theorem rangeD_len (lo : Int) (n : Nat) : (rangeD lo n).length = n := by unfold rangeD; rw [List.length_map, List.length_range]
theorem itr_ok {lo : Int} {n : Nat} {Hk1 : Hp} : ItOk (Itr lo n) (rangeD lo n) Hk1 (fun _ => True) where
  go := fun i H _ hi => by rw [rangeD_len] at hi; exact hi
  stop := fun i H _ hi => by rw [rangeD_len] at hi; exact Nat.le_of_eq hi.symm
  yld := fun i H Hk x H' _ e1 e2 y d hd => by
    obtain ⟨rfl, rfl⟩ := y
    unfold rangeD at hd
    rw [List.getElem?_map] at hd
    cases q : (List.range n)[i]? with
    | none => rw [q] at hd; cases hd
    | some k =>
      rw [q] at hd
      cases hd
      have : k = i := by
        obtain ⟨h1, h2⟩ := List.getElem?_eq_some_iff.mp q
        rw [List.getElem_range] at h2
        exact h2.symm
      subst this
      exact ⟨Hk, Gr.refl e2, Rp.int _⟩
  mono := fun _ _ _ h => h
section
variable {X : Cx} [ok : OK X] {W : WX} {tgt e e' : Expr} {φ ψ : En → R Rv} {p pos : Pos}
theorem seqOf_ok {r : Rv} {b : Bool} {ds : List PyData} {Hk H : Hp} {σ : Sl} {v : V} (h : seqOf r = .ok (b, ds)) (x : Ex Hk H) (d : Den Hk H σ r v) :
    ∃ a xs, v = .ref a ∧ RpAll Hk xs ds ∧ ((Rl H a xs ∧ (b = true → Rl Hk a xs)) ∨ (Rd H a (.tup xs) ∧ (b = true → Rd Hk a (.tup xs)))) := by
  cases r with
  | val d' =>
    cases d' with
    | list es => cases h; cases (show Rp Hk v (.list ds) from d) with | lst s a => exact ⟨_, _, rfl, a, .inl ⟨Rl.up x s, fun _ => s⟩⟩
    | tuple es => cases h; cases (show Rp Hk v (.tuple ds) from d) with | tup s a => exact ⟨_, _, rfl, a, .inr ⟨Evl.ex_rd x s, fun _ => s⟩⟩
    | _ => cases h
  | own es => cases h
  | bor i es => cases h; obtain ⟨q, xs, a, _, _, c, d⟩ := d; exact ⟨q, xs, a, d, .inl ⟨.inl (.inl c), fun z => nomatch z⟩⟩
theorem w_seq (h : PE X e (te X.K W φ)) : PI X tgt e (ti X.K W (iSeq φ)) := ⟨fun pins s σ H Q I hw => by
  obtain ⟨Hk0, H0, Hk, ρ, r, p⟩ := hw
  unfold iSeq at p
  cases hφ : φ ρ with
  | err c =>
    rw [hφ] at p
    exact (pi_list h).run pins s σ H Q I ⟨Hk0, H0, Hk, ρ, r, by rw [hφ]; exact p⟩
  | bad => rw [hφ] at p; exact p.elim
  | ok x =>
    rw [hφ] at p
    have p : PostI X.K W Hk H σ Q (seqOf (frz x)) := p
    cases x with
    | own es =>
      refine (pi_list h).run pins s σ H Q I ⟨Hk0, H0, Hk, ρ, r, ?_⟩
      rw [hφ]
      intro v Hk' H' g n d
      obtain ⟨q, xs, a, b, c, f⟩ := d
      obtain ⟨q', a', b'⟩ := n
      subst a
      cases a'
      have g2 := g.frz b' c b
      have f2 := RpAll.up (Ex.new (o := .lst xs) b) f
      exact ⟨q, rfl, ⟨xs, .inl (.inl c)⟩, p _ _ H' _ g2 (itl_ok ok.eq f2) (.inl (.inl c)) fun _ => .inl (.inl upd_same)⟩
    | bor i es =>
      refine (pi_list h).run pins s σ H Q I ⟨Hk0, H0, Hk, ρ, r, ?_⟩
      rw [hφ]
      intro v Hk' H' g n d
      obtain ⟨q, xs, a, _, b, c, f⟩ := d
      subst a
      exact ⟨q, rfl, ⟨xs, .inl (.inl c)⟩, p _ _ H' _ g (itl_ok ok.eq f) (.inl (.inl c)) fun z => nomatch z⟩
    | val d' =>
      cases d' with
      | list es =>
        refine (pi_list h).run pins s σ H Q I ⟨Hk0, H0, Hk, ρ, r, ?_⟩
        rw [hφ]
        intro v Hk' H' g n d
        cases (show Rp Hk' v (.list es) from d) with
        | lst hs ha => exact ⟨_, rfl, ⟨_, (Rl.up g.kh hs).sq⟩, p _ _ H' _ g (itl_ok ok.eq ha) (Rl.up g.kh hs) fun _ => hs⟩
      | tuple es =>
        refine (pi_tup h).run pins s σ H Q I ⟨Hk0, H0, Hk, ρ, r, ?_⟩
        rw [hφ]
        intro v Hk' H' g n d
        cases (show Rp Hk' v (.tuple es) from d) with
        | tup hs ha => exact ⟨_, rfl, ⟨_, .inl (Evl.ex_rd g.kh hs)⟩, p _ _ H' _ g (itt_ok ha) (Evl.ex_rd g.kh hs) fun _ => hs⟩
      | _ => exact p.elim⟩
theorem toInt_no {x : Rv} {c : Str} : x.toInt ≠ .err c := by
  cases x with
  | val d => cases d <;> exact fun h => nomatch h
  | own _ => exact fun h => nomatch h
  | bor _ _ => exact fun h => nomatch h
theorem w_rg1 (h : PE X e (te X.K W φ)) (hm : X.mg "range" = none) (hg : Gl X "range" := by rfl) (hs : starEach [e] X.env = [(false, eval e X.env)] := by rfl) : PI X tgt (.Call (.Name "range" p) [e] [] pos) (ti X.K W (iRg1 φ)) :=
  pi_imp (pi_range1 hg hm (pa_cons h pa_nil hs) hs) fun σ H Q ⟨Hk0, H0, Hk, ρ, r, p⟩ => by
    refine te_thenI (g := fun x => x.toInt >>= fun j => if -(2 ^ 60) ≤ j ∧ j < 2 ^ 60 then .ok (true, rangeD 0 j.toNat) else .bad) r p fun x v Hk' H' g d n r' p' => ?_
    cases q : x.toInt with
    | err c => exact absurd q toInt_no
    | bad => rw [q] at p'; exact p'.elim
    | ok j =>
      rw [q] at p'
      have p' : PostI X.K W Hk' H' σ Q (if -(2 ^ 60) ≤ j ∧ j < 2 ^ 60 then .ok (true, rangeD 0 j.toNat) else .bad) := p'
      split at p'
      · rename_i hj
        rw [d.int q]
        exact ⟨j, rfl, by omega, by omega, p' _ _ H' _ (Gr.refl g.kh) itr_ok trivial fun _ => trivial⟩
      · exact p'.elim
theorem w_rg2 (h : PE X e (te X.K W φ)) (h' : PE X e' (te X.K W ψ)) (hm : X.mg "range" = none) (hg : Gl X "range" := by rfl) (hs : starEach [e, e'] X.env = [(false, eval e X.env), (false, eval e' X.env)] := by rfl) (hs2 : starEach [e'] X.env = [(false, eval e' X.env)] := by rfl) :
    PI X tgt (.Call (.Name "range" p) [e, e'] [] pos) (ti X.K W (iRg2 φ ψ)) :=
  pi_imp (pi_range2 hg hm (pa_cons h (pa_cons h' pa_nil hs2) (by rw [hs, hs2])) hs hs2) fun σ H Q ⟨Hk0, H0, Hk, ρ, r, p⟩ => by
    refine te_thenI (g := fun x => ψ ρ >>= fun y => x.toInt >>= fun i => (frz y).toInt >>= fun j => if -(2 ^ 60) ≤ i ∧ i < 2 ^ 60 ∧ -(2 ^ 60) ≤ j ∧ j < 2 ^ 60 then .ok (true, rangeD i (j - i).toNat) else .bad) r p fun x v Hk1 H1 g1 d1 n1 r1 p1 => ?_
    refine te_thenI (g := fun y => x.toInt >>= fun i => y.toInt >>= fun j => if -(2 ^ 60) ≤ i ∧ i < 2 ^ 60 ∧ -(2 ^ 60) ≤ j ∧ j < 2 ^ 60 then .ok (true, rangeD i (j - i).toNat) else .bad) r1 p1 fun y u Hk' H' g d n r' p' => ?_
    cases q : x.toInt with
    | err c => exact absurd q toInt_no
    | bad => rw [q] at p'; exact p'.elim
    | ok i =>
      rw [q] at p'
      cases q2 : y.toInt with
      | err c => exact absurd q2 toInt_no
      | bad => rw [q2] at p'; exact p'.elim
      | ok j =>
        rw [q2] at p'
        have p' : PostI X.K W Hk' H' σ Q (if -(2 ^ 60) ≤ i ∧ i < 2 ^ 60 ∧ -(2 ^ 60) ≤ j ∧ j < 2 ^ 60 then .ok (true, rangeD i (j - i).toNat) else .bad) := p'
        split at p'
        · rename_i hj
          rw [d1.int q, d.int q2]
          exact ⟨i, j, rfl, ⟨by omega, by omega, by omega, by omega⟩, p' _ _ H' _ (Gr.refl g.kh) itr_ok trivial fun _ => trivial⟩
        · exact p'.elim
end
/-! zip of two lists, of two tuples -/
def zipD : List PyData → List PyData → List PyData
  | a :: as, b :: bs => .tuple [a, b] :: zipD as bs
  | _, _ => []
def isTupR : Rv → Bool
  | .val (.tuple _) => true
  | _ => false
def zip2 (x y : Rv) : R (Bool × List PyData) := seqOf x >>= fun a => seqOf y >>= fun b => if isTupR x = isTupR y then .ok (a.1 && b.1, zipD a.2 b.2) else .bad
def iZip2 (φ ψ : En → R Rv) : En → R (Bool × List PyData) := fun ρ => φ ρ >>= fun x => ψ ρ >>= fun y => zip2 (frz x) (frz y)
theorem zipD_len : ∀ as bs : List PyData, (zipD as bs).length = min as.length bs.length
  | [], _ => by simp [zipD]
  | _ :: _, [] => by simp [zipD]
  | a :: as, b :: bs => by rw [zipD, List.length_cons, zipD_len as bs, List.length_cons, List.length_cons]; omega
theorem zipD_get : ∀ {as bs : List PyData} {i : Nat} {d : PyData}, (zipD as bs)[i]? = some d → ∃ a b, as[i]? = some a ∧ bs[i]? = some b ∧ d = .tuple [a, b]
  | [], _, _, _, h => by simp [zipD] at h
  | _ :: _, [], _, _, h => by simp [zipD] at h
  | a :: as, b :: bs, 0, d, h => by simp [zipD] at h; exact ⟨a, b, rfl, rfl, h.symm⟩
  | a :: as, b :: bs, i + 1, d, h => by
    obtain ⟨x, y, h1, h2, h3⟩ := zipD_get (as := as) (bs := bs) (i := i) (d := d) (by simpa [zipD] using h)
    exact ⟨x, y, by simpa using h1, by simpa using h2, h3⟩
end Py

set_option Elab.async false
set_option linter.all false
set_option maxRecDepth 100000
set_option autoImplicit false
set_option maxHeartbeats 1000000
/-! PyF: zip, comprehensions, statements, defs. -/
namespace Py
variable [KK]
open PySem L2
open Evl (Ex)
open RZ (ItzT pi_zipA)
theorem seqOf_kind {r : Rv} {b : Bool} {ds : List PyData} {Hk H : Hp} {σ : Sl} {v : V} (h : seqOf r = .ok (b, ds)) (x : Ex Hk H) (d : Den Hk H σ r v) :
    ∃ a xs, v = .ref a ∧ RpAll Hk xs ds ∧ ((isTupR r = false ∧ Rl H a xs ∧ (b = true → Rl Hk a xs)) ∨ (isTupR r = true ∧ Rd H a (.tup xs) ∧ (b = true → Rd Hk a (.tup xs)))) := by
  cases r with
  | val d' =>
    cases d' with
    | list es => cases h; cases (show Rp Hk v (.list ds) from d) with | lst s a => exact ⟨_, _, rfl, a, .inl ⟨rfl, Rl.up x s, fun _ => s⟩⟩
    | tuple es => cases h; cases (show Rp Hk v (.tuple ds) from d) with | tup s a => exact ⟨_, _, rfl, a, .inr ⟨rfl, Evl.ex_rd x s, fun _ => s⟩⟩
    | _ => cases h
  | own es => cases h
  | bor i es => cases h; obtain ⟨q, xs, a, _, _, c, d⟩ := d; exact ⟨q, xs, a, d, .inl ⟨rfl, .inl (.inl c), fun z => nomatch z⟩⟩
theorem seqOf_no {x : Rv} {c : Str} : seqOf x ≠ .err c := by
  cases x with
  | val d => cases d <;> exact fun h => nomatch h
  | own _ => exact fun h => nomatch h
  | bor _ _ => exact fun h => nomatch h
theorem itz_ok {K : PySem.W.Frag} (hK : K = KK.K) {a b : Addr} {xs ys : List V} {ds es : List PyData} {Hk1 : Hp} (h : RpAll Hk1 xs ds) (k : RpAll Hk1 ys es) : ItOk (Itz K a b) (zipD ds es) Hk1 (fun H => Rl H a xs ∧ Rl H b ys) where
  go := fun i H hs hi => by
    rw [zipD_len] at hi
    have h1 : i < xs.length := by rw [RpAll.length h]; omega
    have h2 : i < ys.length := by rw [RpAll.length k]; omega
    exact ⟨xs, ys, xs[i], ys[i], (by rw [hK]; exact hs.1.sqK), (by rw [hK]; exact hs.2.sqK), List.getElem?_eq_getElem h1, List.getElem?_eq_getElem h2⟩
  stop := fun i H hs hi => ⟨xs, ys, (by rw [hK]; exact hs.1.sqK), (by rw [hK]; exact hs.2.sqK), by rw [zipD_len] at hi; rw [RpAll.length h, RpAll.length k]; omega⟩
  yld := fun i H Hk x H' hs e1 e2 y d hd => by
    obtain ⟨T, x1, y1, rfl, hT, rfl, f1, f2⟩ := y
    obtain ⟨a', b', h1, h2, rfl⟩ := zipD_get hd
    obtain ⟨v, hv, rv⟩ := RpAll.get h h1
    obtain ⟨u, hu, ru⟩ := RpAll.get k h2
    have q1 := f1 xs ((by rw [hK]; exact hs.1.sqK))
    have q2 := f2 ys ((by rw [hK]; exact hs.2.sqK))
    rw [hv] at q1
    rw [hu] at q2
    obtain rfl := Option.some.inj q1
    obtain rfl := Option.some.inj q2
    have n := Ex.new (o := .tup [v, u]) (Evl.fresh_back e2 hT)
    exact ⟨_, Gr.new e2 hT, .tup (.inl upd_same) (.cons (Rp.up n (Rp.up e1 rv)) (.cons (Rp.up n (Rp.up e1 ru)) .nil))⟩
  mono := fun _ _ e h => ⟨rl_mono _ _ e h.1, rl_mono _ _ e h.2⟩
theorem itzT_ok {K : PySem.W.Frag} {a b : Addr} {xs ys : List V} {ds es : List PyData} {Hk1 : Hp} (h : RpAll Hk1 xs ds) (k : RpAll Hk1 ys es) : ItOk (ItzT K a b) (zipD ds es) Hk1 (fun H => Rd H a (.tup xs) ∧ Rd H b (.tup ys)) where
  go := fun i H hs hi => by
    rw [zipD_len] at hi
    have h1 : i < xs.length := by rw [RpAll.length h]; omega
    have h2 : i < ys.length := by rw [RpAll.length k]; omega
    exact ⟨xs, ys, xs[i], ys[i], .inl hs.1, .inl hs.2, List.getElem?_eq_getElem h1, List.getElem?_eq_getElem h2⟩
  stop := fun i H hs hi => ⟨xs, ys, .inl hs.1, .inl hs.2, by rw [zipD_len] at hi; rw [RpAll.length h, RpAll.length k]; omega⟩
  yld := fun i H Hk x H' hs e1 e2 y d hd => by
    obtain ⟨T, x1, y1, rfl, hT, rfl, f1, f2⟩ := y
    obtain ⟨a', b', h1, h2, rfl⟩ := zipD_get hd
    obtain ⟨v, hv, rv⟩ := RpAll.get h h1
    obtain ⟨u, hu, ru⟩ := RpAll.get k h2
    have q1 := f1 xs (.inl hs.1)
    have q2 := f2 ys (.inl hs.2)
    rw [hv] at q1
    rw [hu] at q2
    obtain rfl := Option.some.inj q1
    obtain rfl := Option.some.inj q2
    have n := Ex.new (o := .tup [v, u]) (Evl.fresh_back e2 hT)
    exact ⟨_, Gr.new e2 hT, .tup (.inl upd_same) (.cons (Rp.up n (Rp.up e1 rv)) (.cons (Rp.up n (Rp.up e1 ru)) .nil))⟩
  mono := fun _ _ e h => ⟨rd_mono _ _ e h.1, rd_mono _ _ e h.2⟩
section
variable {X : Cx} [ok : OK X] {W : WX} {e e' : Expr} {φ ψ : En → R Rv} {p pos tpos : Pos} {elts : List Expr} {kk : Nat}
theorem w_zip2 (h : PE X e (te X.K W φ)) (h' : PE X e' (te X.K W ψ)) (hm : X.mg "zip" = none) (hg : Gl X "zip" := by rfl) (hs : starEach [e, e'] X.env = (false, eval e X.env) :: starEach [e'] X.env := by rfl) (hs2 : starEach [e'] X.env = (false, eval e' X.env) :: starEach [] X.env := by rfl)
    (hpl : (backTo pos (starEach [e'] X.env)).any (·.1) = false := by rfl) : PI X (.Tuple elts kk tpos) (.Call (.Name "zip" p) [e, e'] [] pos) (ti X.K W (iZip2 φ ψ)) :=
  pi_imp (pi_zipA hg hm (pa_cons h (pa_cons h' pa_nil hs2) hs) hs hpl) fun σ H Q ⟨Hk0, H0, Hk, ρ, r, p⟩ => by
    refine te_thenI (g := fun x => ψ ρ >>= fun y => zip2 x (frz y)) r p fun x v Hk1 H1 g1 d1 n1 r1 p1 => ?_
    refine te_thenI (g := fun y => zip2 x y) r1 p1 fun y u Hk' H' g d n r' p' => ?_
    unfold zip2 at p'
    cases q : seqOf x with
    | err c => exact absurd q seqOf_no
    | bad => rw [q] at p'; exact p'.elim
    | ok a =>
      rw [q] at p'
      cases q2 : seqOf y with
      | err c => exact absurd q2 seqOf_no
      | bad => rw [q2] at p'; exact p'.elim
      | ok b =>
        rw [q2] at p'
        have p' : PostI X.K W Hk' H' σ Q (if isTupR x = isTupR y then .ok (a.1 && b.1, zipD a.2 b.2) else .bad) := p'
        split at p'
        · rename_i ht
          obtain ⟨l1, xs, rfl, ra, ca⟩ := seqOf_kind q g.kh (Den.up g d1)
          obtain ⟨l2, ys, rfl, rb, cb⟩ := seqOf_kind q2 g.kh d
          rcases ca with ⟨t1, s1, k1⟩ | ⟨t1, s1, k1⟩ <;> rcases cb with ⟨t2, s2, k2⟩ | ⟨t2, s2, k2⟩
          · exact ⟨l1, l2, xs, ys, rfl, .inl ⟨s1.sq, s2.sq, p' _ _ H' _ (Gr.refl g.kh) (itz_ok ok.eq ra rb) ⟨s1, s2⟩ fun z => by
              rw [Bool.and_eq_true] at z
              exact ⟨k1 z.1, k2 z.2⟩⟩⟩
          · rw [t1, t2] at ht; cases ht
          · rw [t1, t2] at ht; cases ht
          · exact ⟨l1, l2, xs, ys, rfl, .inr ⟨.inl s1, .inl s2, p' _ _ H' _ (Gr.refl g.kh) (itzT_ok ra rb) ⟨s1, s2⟩ fun z => by
              rw [Bool.and_eq_true] at z
              exact ⟨k1 z.1, k2 z.2⟩⟩⟩
        · exact p'.elim
end

/-! ### comprehensions -/
def nerr {α : Type} : R α → R α
  | .err _ => .bad
  | r => r
def lcR (τ : Pat) (T : En → R Bool) (φ : En → R Rv) (ρ : En) : List PyData → R (List PyData)
  | [] => .ok []
  | d :: ds => asg τ d ρ >>= fun ρ1 => nerr (T ρ1) >>= fun b => if b = true then nerr (φ ρ1) >>= fun r => (frz r).toVal >>= fun e => lcR τ T φ ρ ds >>= fun es => .ok (e :: es) else lcR τ T φ ρ ds
def wipeE (ρ : En) : List Nat → En
  | [] => ρ
  | v :: vs => (wipeE ρ vs).set v none
def tYes : En → R Bool := fun _ => .ok true
def eLc (ι : En → R (Bool × List PyData)) (τ : Pat) (T : En → R Bool) (φ : En → R Rv) (vs : List Nat) : En → R Rv := fun ρ => ι ρ >>= fun a => if a.2.length ≤ 1000000 then lcR τ T φ (wipeE ρ vs) a.2 >>= fun es => .ok (.own es) else .bad
theorem wipeE_len (ρ : En) : ∀ vs, (wipeE ρ vs).length = ρ.length
  | [] => rfl
  | v :: vs => by rw [wipeE, List.length_set, wipeE_len ρ vs]
theorem wipeE_some {ρ : En} {i : Nat} {c : Cl} : ∀ {vs : List Nat}, (wipeE ρ vs)[i]? = some (some c) → ρ[i]? = some (some c) ∧ i ∉ vs
  | [], h => ⟨h, by simp⟩
  | v :: vs, h => by
    rw [wipeE, get_set] at h
    split at h
    · split at h <;> cases h
    · rename_i hv
      obtain ⟨h1, h2⟩ := wipeE_some h
      exact ⟨h1, by rw [List.mem_cons, not_or]; exact ⟨fun e => hv e.symm, h2⟩⟩
theorem wipe_get (σ : Sl) (i : Nat) : ∀ vs : List Nat, (wipe σ vs)[i]? = if i ∈ vs then (if i < σ.length then some none else none) else σ[i]?
  | [] => by simp [wipe]
  | v :: vs => by
    rw [wipe, get_set, wipe_length, wipe_get σ i vs]
    by_cases h : v = i
    · subst h
      simp
    · rw [if_neg h]
      have : (i ∈ v :: vs) ↔ i ∈ vs := by rw [List.mem_cons]; exact ⟨fun z => z.resolve_left (fun e => h e.symm), .inr⟩
      by_cases h2 : i ∈ vs
      · rw [if_pos h2, if_pos (this.mpr h2)]
      · rw [if_neg h2, if_neg (fun z => h2 (this.mp z))]
theorem wipe_off {σ σ2 : Sl} {us vs : List Nat} (h : Off us (wipe σ vs) σ2) (hs : ∀ i ∈ us, i ∈ vs) : wipe σ2 vs = wipe σ vs := by
  refine List.ext_getElem? fun i => ?_
  have hl : σ2.length = σ.length := by rw [h.1, wipe_length]
  rw [wipe_get, wipe_get, hl]
  split
  · rfl
  · rename_i hi
    rw [h.2 i (fun z => hi (hs i z)), wipe_get, if_neg hi]
theorem Rel.wiped {Hk0 H0 Hk H : Hp} {σ : Sl} {ρ : En} (r : Rel Hk0 H0 Hk H σ ρ) (vs : List Nat) : Rel Hk0 H0 Hk H (wipe σ vs) (wipeE ρ vs) := r.less (by rw [wipe_length, wipeE_len]; exact r.len) fun i c q => by
  obtain ⟨h1, h2⟩ := wipeE_some q
  exact ⟨h1, by rw [wipe_get, if_neg h2]⟩
theorem nerr_ok {α : Type} {r : R α} {a : α} (h : nerr r = .ok a) : r = .ok a := by
  cases r with
  | ok b => exact h
  | err c => cases h
  | bad => cases h
mutual
theorem asg_no : ∀ {p : Pat} {d : PyData} {ρ : En} {c : Str}, asg p d ρ ≠ .err c
  | .nm i, d, ρ, c => by rw [asg]; exact fun h => nomatch h
  | .tp ps, d, ρ, c => by
    cases d with
    | tuple ds =>
      rw [asg]
      split
      · exact asgs_no
      · exact fun h => nomatch h
    | _ => simp [asg]
theorem asgs_no : ∀ {p : List Pat} {d : List PyData} {ρ : En} {c : Str}, asgs p d ρ ≠ .err c
  | [], [], ρ, c => by rw [asgs]; exact fun h => nomatch h
  | [], _ :: _, ρ, c => by simp [asgs]
  | _ :: _, [], ρ, c => by simp [asgs]
  | p :: ps, d :: ds, ρ, c => by
    rw [asgs]
    cases e : asg p d ρ with
    | ok a => exact asgs_no
    | err c' => exact absurd e asg_no
    | bad => exact fun h => nomatch h
end
theorem toVal_no {x : Rv} {c : Str} : x.toVal ≠ .err c := by cases x <;> exact fun h => nomatch h
theorem nerr_no {α : Type} {r : R α} {c : Str} : nerr r ≠ .err c := by cases r <;> exact fun h => nomatch h
theorem bind_no {α β : Type} {m : R α} {f : α → R β} {c : Str} (h : ∀ c, m ≠ .err c) (k : ∀ a, f a ≠ .err c) : (m >>= f) ≠ .err c := by
  cases m with
  | ok a => exact k a
  | err c' => exact absurd rfl (h c')
  | bad => exact fun h => nomatch h
theorem lcR_no {τ : Pat} {T : En → R Bool} {φ : En → R Rv} {ρ : En} {c : Str} : ∀ {ds : List PyData}, lcR τ T φ ρ ds ≠ .err c
  | [] => fun h => nomatch h
  | d :: ds => by
    rw [lcR]
    refine bind_no (fun _ => asg_no) fun ρ1 => bind_no (fun _ => nerr_no) fun b => ?_
    cases b with
    | false => exact lcR_no
    | true =>
      rw [if_pos rfl]
      exact bind_no (fun _ => nerr_no) fun x => bind_no (fun _ => toVal_no) fun y => by
        cases e : lcR τ T φ ρ ds with
        | ok zs => exact fun h => nomatch h
        | err c' => exact absurd e lcR_no
        | bad => exact fun h => nomatch h
abbrev W0 : WX := fun _ _ _ _ => False
theorem lcR_len {τ : Pat} {T : En → R Bool} {φ : En → R Rv} {ρ : En} : ∀ {ds es : List PyData}, lcR τ T φ ρ ds = .ok es → es.length ≤ ds.length
  | [], es, h => by cases h; exact Nat.le_refl _
  | d :: ds, es, h => by
    rw [lcR] at h
    cases e1 : asg τ d ρ with
    | err c => rw [e1] at h; cases h
    | bad => rw [e1] at h; cases h
    | ok ρ1 =>
      rw [e1] at h
      have h : (nerr (T ρ1) >>= fun b => if b = true then nerr (φ ρ1) >>= fun r => (frz r).toVal >>= fun e => lcR τ T φ ρ ds >>= fun es => .ok (e :: es) else lcR τ T φ ρ ds) = .ok es := h
      cases e2 : nerr (T ρ1) with
      | err c => rw [e2] at h; cases h
      | bad => rw [e2] at h; cases h
      | ok b =>
        rw [e2] at h
        cases b with
        | false =>
          have h : lcR τ T φ ρ ds = .ok es := h
          have := lcR_len h
          rw [List.length_cons]; omega
        | true =>
          have h : (nerr (φ ρ1) >>= fun r => (frz r).toVal >>= fun e => lcR τ T φ ρ ds >>= fun es => .ok (e :: es)) = .ok es := h
          cases e3 : nerr (φ ρ1) with
          | err c => rw [e3] at h; cases h
          | bad => rw [e3] at h; cases h
          | ok x =>
            rw [e3] at h
            have h : ((frz x).toVal >>= fun e => lcR τ T φ ρ ds >>= fun es => .ok (e :: es)) = .ok es := h
            cases e4 : (frz x).toVal with
            | err c => rw [e4] at h; cases h
            | bad => rw [e4] at h; cases h
            | ok y =>
              rw [e4] at h
              have h : (lcR τ T φ ρ ds >>= fun es => .ok (y :: es)) = .ok es := h
              cases e5 : lcR τ T φ ρ ds with
              | err c => rw [e5] at h; cases h
              | bad => rw [e5] at h; cases h
              | ok zs =>
                rw [e5] at h
                cases h
                have := lcR_len e5
                simp only [List.length_cons]; omega
section
variable {K : PySem.W.Frag} {W : WX} {ι : En → R (Bool × List PyData)} {τ : Pat} {T : En → R Bool} {φ : En → R Rv} {vs : List Nat}
theorem lc_read {σ : Sl} {H : Hp} {Q : VK} (hv : ∀ i ∈ slots τ, i ∈ vs) (h : te K W (eLc ι τ T φ vs) σ H Q) : tLc (ti K W ι) (tg τ) (tt K W0 T) (te K W0 φ) vs σ H Q := by
  obtain ⟨Hk0, H0, Hk, ρ, r, p⟩ := h
  refine ⟨Hk0, H0, Hk, ρ, r, ?_⟩
  unfold eLc at p
  cases e1 : ι ρ with
  | err c => rw [e1] at p; exact p
  | bad => rw [e1] at p; exact p
  | ok a =>
    obtain ⟨kn, ds⟩ := a
    rw [e1] at p
    have p : PostE K W Hk H σ Q (if ds.length ≤ 1000000 then lcR τ T φ (wipeE ρ vs) ds >>= fun es => .ok (.own es) else .bad) := p
    split at p
    · rename_i hz
      intro J Hk1 H1 S g1 ok s1 _ D hD
      cases e2 : lcR τ T φ (wipeE ρ vs) ds with
      | err c => exact absurd e2 lcR_no
      | bad => rw [e2] at p; exact p.elim
      | ok all =>
        rw [e2] at p
        have p : PostE K W Hk H σ Q (.ok (.own all)) := p
        have r1 := r.up g1
        refine ⟨fun i m Hc => m = ds.length - i ∧ i ≤ ds.length ∧ ∃ Hk2 acc es es', Gr Hk1 H1 Hk2 Hc ∧ Hk2 D = none ∧ Hc D = some (.lst acc) ∧ RpAll Hk2 acc es ∧ lcR τ T φ (wipeE ρ vs) (ds.drop i) = .ok es' ∧ es ++ es' = all ∧ es.length ≤ i,
          ⟨ds.length, by simp, Nat.zero_le _, Hk1, [], [], all, Gr.own g1.kh hD, Evl.fresh_back g1.kh hD, upd_same, .nil, by rw [List.drop_zero]; exact e2, rfl, Nat.le_refl _⟩, ?_⟩
        rintro i m Hc ⟨rfl, hi, Hk2, acc, es, es', g2, kD, cD, ra, el, ea, hel⟩
        have sc : S Hc := ok.mono _ _ g2.h s1
        by_cases hlt : i < ds.length
        · refine .inr ⟨ok.go i Hc sc hlt, fun H' => i + 1 ≤ ds.length ∧ ∃ Hk2 acc es es', Gr Hk1 H1 Hk2 H' ∧ Hk2 D = none ∧ H' D = some (.lst acc) ∧ RpAll Hk2 acc es ∧ lcR τ T φ (wipeE ρ vs) (ds.drop (i + 1)) = .ok es' ∧ es ++ es' = all ∧ es.length ≤ i + 1, fun H' n => ⟨ds.length - (i + 1), by omega, rfl, n.1, n.2⟩, fun x H' y => ?_⟩
          obtain ⟨Hk3, g3, rx⟩ := ok.yld i Hc Hk2 x H' sc g2.k g2.kh y ds[i] (List.getElem?_eq_getElem hlt)
          have hdr : ds.drop i = ds[i] :: ds.drop (i + 1) := List.drop_eq_getElem_cons hlt
          rw [hdr, lcR] at el
          cases q1 : asg τ ds[i] (wipeE ρ vs) with
          | err c => rw [q1] at el; cases el
          | bad => rw [q1] at el; cases el
          | ok ρ1 =>
            rw [q1] at el
            have el : (nerr (T ρ1) >>= fun b => if b = true then nerr (φ ρ1) >>= fun r => (frz r).toVal >>= fun e => lcR τ T φ (wipeE ρ vs) (ds.drop (i + 1)) >>= fun es => .ok (e :: es) else lcR τ T φ (wipeE ρ vs) (ds.drop (i + 1))) = .ok es' := el
            have rw2 := ((r1.up g2).up g3).wiped vs
            have dD3 : H' D = some (.lst acc) := g3.h.l cD
            have kD3 : Hk3 D = none := g3.fr D (by rw [cD]; exact fun z => nomatch z) kD
            refine ⟨Hk0, H0, Hk3, wipeE ρ vs, ds[i], rw2, rx, ρ1, q1, fun σ2 r2 o2 => ⟨wipe_off o2 hv, Hk0, H0, Hk3, ρ1, r2, ?_⟩⟩
            cases q2 : T ρ1 with
            | err c => rw [q2] at el; cases el
            | bad => rw [q2] at el; cases el
            | ok b =>
              rw [q2] at el
              intro Hk4 H4 g4
              have dD4 : H4 D = some (.lst acc) := g4.h.l dD3
              have kD4 : Hk4 D = none := g4.fr D (by rw [dD3]; exact fun z => nomatch z) kD3
              cases b with
              | false =>
                rw [if_neg Bool.false_ne_true]
                exact ⟨hlt, Hk4, acc, es, es', g2.trans (g3.trans g4), kD4, dD4, RpAll.up (g3.trans g4).k ra, el, ea, Nat.le_succ_of_le hel⟩
              | true =>
                rw [if_pos rfl]
                have el : (nerr (φ ρ1) >>= fun r => (frz r).toVal >>= fun e => lcR τ T φ (wipeE ρ vs) (ds.drop (i + 1)) >>= fun es => .ok (e :: es)) = .ok es' := el
                refine ⟨Hk0, H0, Hk4, ρ1, r2.up g4, ?_⟩
                cases q3 : φ ρ1 with
                | err c => rw [q3] at el; cases el
                | bad => rw [q3] at el; cases el
                | ok y =>
                  rw [q3] at el
                  have el : ((frz y).toVal >>= fun e => lcR τ T φ (wipeE ρ vs) (ds.drop (i + 1)) >>= fun es => .ok (e :: es)) = .ok es' := el
                  intro v Hk5 H5 g5 n5 d5
                  cases q4 : (frz y).toVal with
                  | err c => rw [q4] at el; cases el
                  | bad => rw [q4] at el; cases el
                  | ok w =>
                    rw [q4] at el
                    have el : (lcR τ T φ (wipeE ρ vs) (ds.drop (i + 1)) >>= fun es => .ok (w :: es)) = .ok es' := el
                    cases q5 : lcR τ T φ (wipeE ρ vs) (ds.drop (i + 1)) with
                    | err c => rw [q5] at el; cases el
                    | bad => rw [q5] at el; cases el
                    | ok es2 =>
                      rw [q5] at el
                      cases el
                      obtain ⟨Hk6, g6, rp⟩ : ∃ Hk6, Gr Hk4 H4 Hk6 H5 ∧ Rp Hk6 v w := by
                        cases y with
                        | val d' => cases q4; exact ⟨Hk5, g5, d5⟩
                        | own zs =>
                          cases q4
                          obtain ⟨q, xs, a, b, c, f⟩ := d5
                          obtain ⟨q', a', b'⟩ := n5
                          subst a
                          cases a'
                          exact ⟨_, g5.frz b' c b, .lst (.inl (.inl upd_same)) (RpAll.up (Ex.new b) f)⟩
                        | bor j zs => cases q4
                      have dD5 : H5 D = some (.lst acc) := g6.h.l dD4
                      have kD6 : Hk6 D = none := g6.fr D (by rw [dD4]; exact fun z => nomatch z) kD4
                      have G := g2.trans (g3.trans (g4.trans g6))
                      have hacc : acc.length ≤ i := by rw [RpAll.length ra]; exact hel
                      refine ⟨acc, dD5, Nat.lt_of_lt_of_le (Nat.lt_succ_of_le hacc) (big_fits (by omega)), hlt, Hk6, acc ++ [v], es ++ [w], es2, ?_, kD6, upd_same, RpAll.append (RpAll.up (g3.trans (g4.trans g6)).k ra) (.one rp), rfl, by rw [List.append_assoc]; exact ea, by rw [List.length_append, List.length_singleton]; omega⟩
                      refine ⟨G.k, G.h.mutL hD dD5, fun a u q => ?_, G.fr⟩
                      have : a ≠ D := ne_of_none q kD6
                      rw [upd_ne this]
                      exact G.kh a u q
        · have e3 : i = ds.length := by omega
          rw [e3, List.drop_length] at el
          cases el
          rw [List.append_nil] at ea
          subst ea
          exact .inl ⟨ok.stop i Hc sc e3, p (.ref D) Hk2 Hc (g1.trans g2) ⟨D, rfl, g1.h.back hD⟩ ⟨D, acc, rfl, kD, cD, ra⟩⟩
    · exact p.elim
end

section
variable {X : Cx} [ok : OK X] {W : WX} {elt tgt iter : Expr} {ifs : List Expr} {scope : Scope} {own : List (Str × Nat)} {pos spos py : Pos} {ι : En → R (Bool × List PyData)} {τ : Pat} {T : En → R Bool} {φ : En → R Rv}
theorem d_tsNil {Y : Cx} : PTs Y [] (tt Y.K W0 tYes) := ⟨fun pins s σ H Q I h => by
  obtain ⟨Hk0, H0, Hk, ρ, r, p⟩ := h
  exact pts_nil.run pins s σ H Q I (p Hk H (Gr.refl r.kh))⟩
theorem d_tsOne {Y : Cx} {c : Expr} {t : En → R Bool} (h : PT Y c (tt Y.K W0 t)) : PTs Y [c] (tt Y.K W0 t) := pts_one h
theorem d_lc (hc : X.calm = true) (hN : X.N.Nodup) (ok : BlkOk X.N X.env.scope scope own) (hi : PI X tgt iter (ti X.K W ι))
    (hg : ∀ (s : Shared) (H : Hp) (C : Addr) (cl : List (Str × Addr)) (fp : List Addr), PG (X.blk s H scope (compEnvC scope cl C X.env) fp) tgt (tg τ))
    (ht : ∀ (s : Shared) (H : Hp) (C : Addr) (cl : List (Str × Addr)) (fp : List Addr), PTs (X.blk s H scope (compEnvC scope cl C X.env) fp) ifs (tt X.K W0 T))
    (he : ∀ (s : Shared) (H : Hp) (C : Addr) (cl : List (Str × Addr)) (fp : List Addr), PE (X.blk s H scope (compEnvC scope cl C X.env) fp) elt (te X.K W0 φ))
    (hv : ∀ i ∈ slots τ, i ∈ own.map (·.2) := by decide) (hs : ∀ x, foldedSetIterable iter X.env x = pure x := by intro _; rfl) :
    PE X (.ListComp elt [⟨tgt, iter, ifs, 0⟩] scope pos) (te X.K W (eLc ι τ T φ (own.map (·.2)))) := pe_imp (pe_lc hc hN hi ok hg ht he hs) fun σ H Q h => lc_read hv h
end

/-! ### statements -/
inductive Out where
  | nx (ρ : En)
  | rt (r : Cr)
  | bk (ρ : En)
  | ct (ρ : En)
section
variable (K : PySem.W.Frag) (W : WX)
def PostS (Hk0 H0 Hk : Hp) (D : Ends) : R Out → Prop
  | .ok (.nx ρ') => ∀ σ' Hk' H', Ex Hk Hk' → Rel Hk0 H0 Hk' H' σ' ρ' → D.nx σ' H'
  | .ok (.bk ρ') => ∀ σ' Hk' H', Ex Hk Hk' → Rel Hk0 H0 Hk' H' σ' ρ' → D.bk σ' H'
  | .ok (.ct ρ') => ∀ σ' Hk' H', Ex Hk Hk' → Rel Hk0 H0 Hk' H' σ' ρ' → D.ct σ' H'
  | .ok (.rt r) => ∀ v Hk' H', Gr Hk0 H0 Hk' H' → New H0 r.rv v → DenC Hk' H' r v → D.rt v H'
  | .err c => ∀ σ' Hk' H', Gr Hk0 H0 Hk' H' → W (.ref (He.ga K c)) none σ' H'
  | .bad => False
def ts (Φ : En → R Out) : TS := fun D σ H => ∃ Hk0 H0 Hk ρ, Rel Hk0 H0 Hk H σ ρ ∧ PostS K W Hk0 H0 Hk D (Φ ρ)
end
def seqK (Ψ : En → R Out) : Out → R Out
  | .nx ρ' => Ψ ρ'
  | o => .ok o
def sSeq (Φ Ψ : En → R Out) : En → R Out := fun ρ => Φ ρ >>= seqK Ψ
def sNil : En → R Out := fun ρ => .ok (.nx ρ)
section
variable {K : PySem.W.Frag} {W : WX} {Hk0 H0 Hk H : Hp} {σ : Sl} {ρ : En} {D : Ends}
theorem PostS.up {Hk' : Hp} {o : R Out} (e : Ex Hk Hk') (p : PostS K W Hk0 H0 Hk D o) : PostS K W Hk0 H0 Hk' D o := by
  cases o with
  | ok o => cases o with
    | nx ρ' => exact fun σ2 Hk2 H2 e2 r2 => p σ2 Hk2 H2 (e.trans e2) r2
    | bk ρ' => exact fun σ2 Hk2 H2 e2 r2 => p σ2 Hk2 H2 (e.trans e2) r2
    | ct ρ' => exact fun σ2 Hk2 H2 e2 r2 => p σ2 Hk2 H2 (e.trans e2) r2
    | rt r => exact p
  | err c => exact p
  | bad => exact p
/-- an expression's value, then what is done with it -/
theorem s_then {φ : En → R Rv} {g : Rv → R Out} {Q' : VK} (r : Rel Hk0 H0 Hk H σ ρ) (p : PostS K W Hk0 H0 Hk D (φ ρ >>= g))
    (k : ∀ x v Hk' H', Gr Hk H Hk' H' → New H x v → Den Hk' H' σ x v → Rel Hk0 H0 Hk' H' σ ρ → PostS K W Hk0 H0 Hk' D (g x) → Q' v H') : te K W φ σ H Q' := by
  refine ⟨Hk0, H0, Hk, ρ, r, ?_⟩
  cases e : φ ρ with
  | ok x => rw [e] at p; exact fun v Hk' H' gr n d => k x v Hk' H' gr n d (r.up gr) (PostS.up gr.k p)
  | err c => rw [e] at p; exact fun Hk' H' g => p σ Hk' H' (r.gr.trans g)
  | bad => rw [e] at p; exact p
theorem s_thenF {φ : En → R Rv} {g : Rv → R Out} {Q' : VK} (r : Rel Hk0 H0 Hk H σ ρ) (p : PostS K W Hk0 H0 Hk D (φ ρ >>= fun x => g (frz x)))
    (k : ∀ x v Hk' H', Gr Hk H Hk' H' → Den Hk' H' σ x v → x.isOwn = false → Rel Hk0 H0 Hk' H' σ ρ → PostS K W Hk0 H0 Hk' D (g x) → Q' v H') : te K W φ σ H Q' :=
  s_then r p fun x v Hk' H' g n d r' p' => by
    cases x with
    | val d' => exact k _ v Hk' H' g d rfl r' p'
    | own ds =>
      obtain ⟨q, xs, a, b, c, f⟩ := d
      obtain ⟨q', a', b'⟩ := n
      subst a
      cases a'
      have g2 := g.frz b' c b
      exact k (.val (.list ds)) _ (upd Hk' q (.lst xs)) H' g2 (Rp.lst (.inl (.inl upd_same)) (RpAll.up (Ex.new b) f)) rfl (r.up g2) (PostS.up (Ex.new b) p')
    | bor i ds => exact k _ v Hk' H' g d rfl r' p'
theorem s_thenT {φ : En → R Bool} {g : Bool → R Out} {Q' : Bool → Hp → Prop} (r : Rel Hk0 H0 Hk H σ ρ) (p : PostS K W Hk0 H0 Hk D (φ ρ >>= g))
    (k : ∀ x Hk' H', Gr Hk H Hk' H' → Rel Hk0 H0 Hk' H' σ ρ → PostS K W Hk0 H0 Hk' D (g x) → Q' x H') : tt K W φ σ H Q' := by
  refine ⟨Hk0, H0, Hk, ρ, r, ?_⟩
  cases e : φ ρ with
  | ok x => rw [e] at p; exact fun Hk' H' gr => k x Hk' H' gr (r.up gr) (PostS.up gr.k p)
  | err c => rw [e] at p; exact fun Hk' H' g => p σ Hk' H' (r.gr.trans g)
  | bad => rw [e] at p; exact p
end
section
variable {X : Cx} [ok : OK X] {W : WX} {st : Stmt} {rest : List Stmt} {Φ Ψ : En → R Out} {e c : Expr} {φ ψ : En → R Rv} {t : En → R Bool} {pos : Pos}
theorem s_nil : PSs X [] (ts X.K W sNil) := pss_imp pss_nil fun D σ H ⟨Hk0, H0, Hk, ρ, r, p⟩ => p σ Hk H (Ex.refl _) r
theorem s_cons (h1 : PS X st (ts X.K W Φ)) (h2 : PSs X rest (ts X.K W Ψ)) : PSs X (st :: rest) (ts X.K W (sSeq Φ Ψ)) := pss_imp (pss_cons h1 h2) fun D σ H ⟨Hk0, H0, Hk, ρ, r, p⟩ => by
  refine ⟨Hk0, H0, Hk, ρ, r, ?_⟩
  unfold sSeq at p
  cases e : Φ ρ with
  | ok o =>
    rw [e] at p
    cases o with
    | nx ρ' => exact fun σ' Hk' H' e' r' => ⟨Hk0, H0, Hk', ρ', r', PostS.up e' p⟩
    | _ => exact p
  | err c => rw [e] at p; exact p
  | bad => rw [e] at p; exact p
theorem s_one (h1 : PS X st (ts X.K W Φ)) : PSs X [st] (ts X.K W Φ) := pss_one h1
/-! x = e -/
def put (i : Nat) (r : Rv) (ρ : En) : En := match r with
  | .val d => ρ.set i (some (.val d))
  | .own ds => ρ.set i (some (.own ds))
  | .bor j _ => match ρ[j]? with
    | some (some (.own es)) => (ρ.set j none).set i (some (.own es))
    | _ => ρ.set i none
theorem Rel.put {Hk0 H0 Hk H Hk' H' : Hp} {σ : Sl} {ρ : En} {x : Rv} {v : V} {i : Nat} (r0 : Rel Hk0 H0 Hk H σ ρ) (g : Gr Hk H Hk' H') (n : New H x v) (d : Den Hk' H' σ x v) (r : Rel Hk0 H0 Hk' H' σ ρ) : Rel Hk0 H0 Hk' H' (σ.set i (some v)) (put i x ρ) := by
  cases x with
  | val d' => exact r.setVal d
  | own ds =>
    obtain ⟨q, xs, rfl, b, c, f⟩ := d
    obtain ⟨q', a', b'⟩ := n
    cases a'
    refine r.setOwn (r0.gr.h.back b') b c f fun j es hj _ hs => ?_
    obtain ⟨p, ys, h1, _, _, h2, _⟩ := r0.own j es hj
    rw [hs] at h1
    cases h1
    rw [b'] at h2
    cases h2
  | bor j ds =>
    obtain ⟨q, xs, rfl, s, b, c, f⟩ := d
    unfold Py.put
    dsimp only
    split
    · rename_i es hj
      obtain ⟨p, ys, h1, h0, h2, h3, h4⟩ := r.own j es hj
      rw [s] at h1
      cases h1
      refine (r.drop j).setOwn h0 b h3 h4 fun k es' hk hne hs => ?_
      rw [get_set] at hk
      split at hk
      · split at hk <;> cases hk
      · rename_i hjk
        exact hjk (r.sep j k es es' _ hj hk s hs)
    · refine r.less (by rw [List.length_set, List.length_set]; exact r.len) fun k c' q' => ?_
      rw [get_set] at q'
      split at q'
      · split at q' <;> cases q'
      · rename_i hk
        exact ⟨q', by rw [get_set, if_neg hk]⟩
def sSet (i : Nat) (φ : En → R Rv) : En → R Out := fun ρ => φ ρ >>= fun r => .ok (.nx (put i r ρ))
theorem set_read {D : Ends} {σ : Sl} {H : Hp} {i : Nat} (h : ts X.K W (sSet i φ) D σ H) : te X.K W φ σ H fun x H1 => gName i x σ H1 D.nx := by
  obtain ⟨Hk0, H0, Hk, ρ, r, p⟩ := h
  exact s_then r p fun x v Hk' H' g n d r' p' => p' _ Hk' H' (Ex.refl _) (r.put g n d r')
theorem s_set {x : Str} {pos' : Pos} (i : Nat) (hN : X.N.Nodup) (he : PE X e (te X.K W φ)) (hi : X.N[i]? = some x := by rfl) (hx : Loc X.env.scope x := by first | exact Or.inl rfl | exact Or.inr rfl) (hs : swapsWith e (some (.Name x pos')) pos.line X.env = pure false := by rfl)
    (hf : X.fn x = true ∨ X.env.scope.names.lookup x = some .local := by first | exact .inl rfl | exact .inr rfl) : PS X (.Assign [.Name x pos'] e pos) (ts X.K W (sSet i φ)) :=
  ps_imp (ps_set hN hi hx he hs hf) fun D σ H h => set_read h
theorem s_setLc {y : Str} {py : Pos} {elt tgt iter : Expr} {ifs : List Expr} {scope : Scope} {own : List (Str × Nat)} {spos : Pos} {ι : En → R (Bool × List PyData)} {τ : Pat} {T : En → R Bool} (i : Nat) (hc : X.calm = true) (hN : X.N.Nodup)
    (ok : BlkOk X.N X.env.scope scope own) (hi : PI X tgt iter (ti X.K W ι))
    (hg : ∀ (s : Shared) (H : Hp) (C : Addr) (cl : List (Str × Addr)) (fp : List Addr), PG (X.blk s H scope (compEnvC scope cl C X.env) fp) tgt (tg τ))
    (ht : ∀ (s : Shared) (H : Hp) (C : Addr) (cl : List (Str × Addr)) (fp : List Addr), PTs (X.blk s H scope (compEnvC scope cl C X.env) fp) ifs (tt X.K W0 T))
    (he : ∀ (s : Shared) (H : Hp) (C : Addr) (cl : List (Str × Addr)) (fp : List Addr), PE (X.blk s H scope (compEnvC scope cl C X.env) fp) elt (te X.K W0 φ))
    (hsw : swapsWith (.ListComp elt [⟨tgt, iter, ifs, 0⟩] scope pos) (some (.Name y py)) spos.line X.env = pure true)
    (hy : X.N[i]? = some y := by rfl) (hyl : X.env.scope.names.lookup y = some .local := by rfl)
    (hv : ∀ i ∈ slots τ, i ∈ own.map (·.2) := by decide) (hs : ∀ x, foldedSetIterable iter X.env x = pure x := by intro _; rfl) :
    PS X (.Assign [.Name y py] (.ListComp elt [⟨tgt, iter, ifs, 0⟩] scope pos) spos) (ts X.K W (sSet i (eLc ι τ T φ (own.map (·.2))))) :=
  ps_imp (ps_setLc hc hN hy hyl hsw hi ok hg ht he hs) fun D σ H h => lc_read hv (set_read h)
/-! a, b = e -/
def sUnp (τ : Pat) (φ : En → R Rv) : En → R Out := fun ρ => φ ρ >>= fun r => (frz r).toVal >>= fun d => asg τ d ρ >>= fun ρ' => .ok (.nx ρ')
theorem s_unp {tgt : Expr} {τ : Pat} (he : PE X e (te X.K W φ)) (hg : PG X tgt (tg τ)) (hs : swapsWithSole [tgt] e pos.line X.env = pure false := by rfl) (hw : swappedStores [tgt] e X.env = pure none := by rfl)
    (h1 : (assignEach [tgt] X.env).map (·.2) = [assign tgt X.env] := by rfl) : PS X (.Assign [tgt] e pos) (ts X.K W (sUnp τ φ)) := ps_imp (ps_asg he hg hs hw h1) fun D σ H ⟨Hk0, H0, Hk, ρ, r, p⟩ => by
  refine s_thenF (g := fun x => x.toVal >>= fun d => asg τ d ρ >>= fun ρ' => .ok (.nx ρ')) r p fun x v Hk' H' g d n r' p' => ?_
  cases e1 : x.toVal with
  | err c => exact absurd e1 toVal_no
  | bad => rw [e1] at p'; exact p'.elim
  | ok d' =>
    rw [e1] at p'
    have p' : PostS X.K W Hk0 H0 Hk' D (asg τ d' ρ >>= fun ρ' => .ok (.nx ρ')) := p'
    cases e2 : asg τ d' ρ with
    | err c => exact absurd e2 asg_no
    | bad => rw [e2] at p'; exact p'.elim
    | ok ρ' =>
      rw [e2] at p'
      exact ⟨Hk0, H0, Hk', ρ, d', r', toVal_den d n e1, ρ', e2, fun σ' r2 _ => p' σ' Hk' H' (Ex.refl _) r2⟩
/-! a, b = e1, e2 -/
def sPar (i j : Nat) (φ ψ : En → R Rv) : En → R Out := fun ρ => φ ρ >>= fun x => ψ ρ >>= fun y => if noB x && noB y then .ok (.nx (put j y (put i x ρ))) else .bad
  where noB : Rv → Bool
    | .bor _ _ => false
    | _ => true
theorem put_keep {i : Nat} {x : Rv} {ρ : En} (h : sPar.noB x = true) : ∀ {k : Nat} {c : Cl}, (put i x ρ)[k]? = some (some c) → k ≠ i → ρ[k]? = some (some c) := by
  intro k c q hk
  cases x with
  | val d =>
    have q : (ρ.set i (some (.val d)))[k]? = some (some c) := q
    rw [get_set, if_neg (fun e => hk e.symm)] at q; exact q
  | own d =>
    have q : (ρ.set i (some (.own d)))[k]? = some (some c) := q
    rw [get_set, if_neg (fun e => hk e.symm)] at q; exact q
  | bor _ _ => cases h
theorem s_par {x y : Str} {a b : Expr} {px py pt : Pos} {kt k2 : Nat} {pt2 : Pos} (i j : Nat) (hc : X.calm = true) (hN : X.N.Nodup) (ha : PE X a (te X.K W φ)) (hb : PE X b (te X.K W ψ))
    (hi : X.N[i]? = some x := by rfl) (hj : X.N[j]? = some y := by rfl) (hij : i ≠ j := by decide) (hx : X.env.scope.names.lookup x = some .local := by rfl) (hy : X.env.scope.names.lookup y = some .local := by rfl)
    (hw : swappedStores [.Tuple [.Name x px, .Name y py] kt pt] (.Tuple [a, b] k2 pt2) X.env = pure (some [x, y]) := by rfl)
    (hs : swapsWithSole [.Tuple [.Name x px, .Name y py] kt pt] (.Tuple [a, b] k2 pt2) pos.line X.env = pure false := by rfl)
    (h1 : starEach [a, b] X.env = (false, eval a X.env) :: starEach [b] X.env := by rfl) (h2 : starEach [b] X.env = (false, eval b X.env) :: starEach [] X.env := by rfl) :
    PS X (.Assign [.Tuple [.Name x px, .Name y py] kt pt] (.Tuple [a, b] k2 pt2) pos) (ts X.K W (sPar i j φ ψ)) :=
  ps_imp (ps_par hc hN hi hj hij hx hy (pa_cons ha (pa_cons hb pa_nil h2) h1) hw hs) fun D σ H ⟨Hk0, H0, Hk, ρ, r, p⟩ => by
    refine s_then r p fun x v Hk1 H1 g1 n1 d1 r1 p1 => ?_
    refine s_then r1 p1 fun y u Hk2 H2 g2 n2 d2 r2 p2 => ?_
    split at p2
    · rename_i hnb
      rw [Bool.and_eq_true] at hnb
      refine ⟨v, u, rfl, p2 _ Hk2 H2 (Ex.refl _) ?_⟩
      have ra : Rel Hk0 H0 Hk1 H1 (σ.set i (some v)) (put i x ρ) := r.put g1 n1 d1 r1
      have rb : Rel Hk0 H0 Hk2 H2 (σ.set i (some v)) (put i x ρ) := ra.up g2
      have d2' : Den Hk2 H2 (σ.set i (some v)) y u := by
        cases y with
        | val d => exact d2
        | own ds => exact d2
        | bor _ _ => exact nomatch hnb.2
      exact ra.put g2 n2 d2' rb
    · exact p2.elim
/-! return, pass, an expression alone -/
def clE (ρ : En) : Rv → R Cr
  | .val d => .ok (.val d)
  | .own ds => .ok (.own ds)
  | .bor j _ => match ρ[j]? with
    | some (some (.own es)) => .ok (.own es)
    | _ => .bad
def sRet (φ : En → R Rv) : En → R Out := fun ρ => φ ρ >>= fun r => clE ρ r >>= fun c => .ok (.rt c)
theorem s_ret (he : PE X e (te X.K W φ)) : PS X (.Return (some e) pos) (ts X.K W (sRet φ)) := ps_imp (ps_ret he) fun D σ H ⟨Hk0, H0, Hk, ρ, r, p⟩ =>
  s_then r p fun x v Hk' H' g n d r' p' => by
    cases x with
    | val d' => exact p' v Hk' H' r'.gr trivial d
    | own ds =>
      obtain ⟨q, xs, rfl, b, c, f⟩ := d
      obtain ⟨q', a', b'⟩ := n
      cases a'
      exact p' _ Hk' H' r'.gr ⟨q, rfl, r.gr.h.back b'⟩ ⟨q, xs, rfl, b, c, f⟩
    | bor j ds =>
      obtain ⟨q, xs, rfl, s, b, c, f⟩ := d
      unfold clE at p'
      dsimp only at p'
      split at p'
      · rename_i es hj
        obtain ⟨q2, ys, h1, h0, h2, h3, h4⟩ := r'.own j es hj
        rw [s] at h1
        cases h1
        exact p' _ Hk' H' r'.gr ⟨q, rfl, h0⟩ ⟨q, ys, rfl, h2, h3, h4⟩
      · exact p'.elim
def sRetN : En → R Out := fun _ => .ok (.rt (.val .none))
theorem s_retN : PS X (.Return none pos) (ts X.K W sRetN) := ps_imp ps_retN fun D σ H ⟨Hk0, H0, Hk, ρ, r, p⟩ => p .non Hk H r.gr trivial Rp.non
def sDrop (φ : En → R Rv) : En → R Out := fun ρ => φ ρ >>= fun _ => .ok (.nx ρ)
theorem s_expr (he : PE X e (te X.K W φ)) (hs : swapsWith e none pos.line X.env = pure false := by rfl) : PS X (.Expr e pos) (ts X.K W (sDrop φ)) := ps_imp (ps_expr he hs) fun D σ H ⟨Hk0, H0, Hk, ρ, r, p⟩ =>
  s_then r p fun x v Hk' H' g n d r' p' => p' σ Hk' H' (Ex.refl _) r'
theorem s_pass : PS X (.Pass pos) (ts X.K W sNil) := ps_imp ps_pass fun D σ H ⟨Hk0, H0, Hk, ρ, r, p⟩ => p σ Hk H (Ex.refl _) r
/-! if, while, for -/
def sIf (t : En → R Bool) (Φ Ψ : En → R Out) : En → R Out := fun ρ => t ρ >>= fun b => if b = true then Φ ρ else Ψ ρ
theorem s_if {a b : List Stmt} (hc : PT X c (tt X.K W t)) (ha : PSs X a (ts X.K W Φ)) (hb : PSs X b (ts X.K W Ψ)) : PS X (.If c a b pos) (ts X.K W (sIf t Φ Ψ)) := ps_imp (ps_if hc ha hb) fun D σ H ⟨Hk0, H0, Hk, ρ, r, p⟩ =>
  s_thenT r p fun x Hk' H' g r' p' => by
    cases x with
    | true => rw [if_pos rfl] at p' ⊢; exact ⟨Hk0, H0, Hk', ρ, r', p'⟩
    | false => rw [if_neg Bool.false_ne_true] at p' ⊢; exact ⟨Hk0, H0, Hk', ρ, r', p'⟩
def whK (f : En → R Out) : Out → R Out
  | .nx ρ' => f ρ'
  | .ct ρ' => f ρ'
  | .bk ρ' => .ok (.nx ρ')
  | .rt r => .ok (.rt r)
def whR (t : En → R Bool) (B : En → R Out) : Nat → En → R Out
  | 0, _ => .bad
  | n + 1, ρ => t ρ >>= fun b => if b = true then B ρ >>= whK (whR t B n) else .ok (.nx ρ)
def sWhile (n : Nat) (t : En → R Bool) (B : En → R Out) : En → R Out := whR t B n
theorem s_while {body : List Stmt} (n : Nat) (hp : PassesOwn (model X.prog X.w) X.A X.env X.xe) (hc : PT X c (tt X.K W t)) (hb : PSs X body (ts X.K W Φ)) : PS X (.While c body [] pos) (ts X.K W (sWhile n t Φ)) := ps_imp (ps_while hp hc hb) fun D σ H ⟨Hk0, H0, Hk, ρ, r, p⟩ => by
  refine ⟨fun m σ H => ∃ Hk ρ, Rel Hk0 H0 Hk H σ ρ ∧ PostS X.K W Hk0 H0 Hk D (whR t Φ m ρ), ⟨n, Hk, ρ, r, p⟩, ?_⟩
  rintro m σ H ⟨Hk, ρ, r, p⟩
  cases m with
  | zero => exact p.elim
  | succ m =>
    refine s_thenT r p fun b Hk' H' g r' p' => ?_
    cases b with
    | false => rw [if_neg Bool.false_ne_true] at p' ⊢; exact p' σ Hk' H' (Ex.refl _) r'
    | true =>
      rw [if_pos rfl] at p' ⊢
      refine ⟨fun σ H => ∃ Hk ρ, Rel Hk0 H0 Hk H σ ρ ∧ PostS X.K W Hk0 H0 Hk D (whR t Φ m ρ), fun σ' H' h => ⟨m, Nat.lt_succ_self _, h⟩, Hk0, H0, Hk', ρ, r', ?_⟩
      cases e : Φ ρ with
      | err c => rw [e] at p'; exact p'
      | bad => rw [e] at p'; exact p'
      | ok o =>
        rw [e] at p'
        cases o with
        | nx ρ' => exact fun σ2 Hk2 H2 e2 r2 => ⟨Hk2, ρ', r2, PostS.up e2 p'⟩
        | ct ρ' => exact fun σ2 Hk2 H2 e2 r2 => ⟨Hk2, ρ', r2, PostS.up e2 p'⟩
        | bk ρ' => exact p'
        | rt r => exact p'
def forR (τ : Pat) (B : En → R Out) : List PyData → En → R Out
  | [], ρ => .ok (.nx ρ)
  | d :: ds, ρ => asg τ d ρ >>= fun ρ1 => B ρ1 >>= whK (forR τ B ds)
def sFor (ι : En → R (Bool × List PyData)) (τ : Pat) (B : En → R Out) : En → R Out := fun ρ => ι ρ >>= fun a => if a.1 = true then forR τ B a.2 ρ else .bad
theorem s_for {iter tgt : Expr} {body : List Stmt} {ι : En → R (Bool × List PyData)} {τ : Pat} (hp : PassesOwn (model X.prog X.w) X.A X.env X.xe) (hc : X.calm = true) (hi : PI X tgt iter (ti X.K W ι)) (hg : PG X tgt (tg τ)) (hb : PSs X body (ts X.K W Φ))
    (hs : ∀ x, foldedSetIterable iter X.env x = pure x := by intro _; rfl) : PS X (.For tgt iter body [] pos) (ts X.K W (sFor ι τ Φ)) := ps_imp (ps_for hp hc hi hg hb hs) fun D σ H ⟨Hk0, H0, Hk, ρ, r, p⟩ => by
  refine ⟨Hk0, H0, Hk, ρ, r, ?_⟩
  unfold sFor at p
  cases e1 : ι ρ with
  | err c => rw [e1] at p; exact fun Hk' H' g => p σ Hk' H' (r.gr.trans g)
  | bad => rw [e1] at p; exact p
  | ok a =>
    obtain ⟨kn, ds⟩ := a
    rw [e1] at p
    have p : PostS X.K W Hk0 H0 Hk D (if kn = true then forR τ Φ ds ρ else .bad) := p
    split at p
    · rename_i hk
      intro J Hk1 H1 S g1 ok s1 sk
      have sk := sk hk
      refine ⟨fun i m σ Hc => m = ds.length - i ∧ i ≤ ds.length ∧ ∃ Hk2 ρ2, Ex Hk1 Hk2 ∧ Rel Hk0 H0 Hk2 Hc σ ρ2 ∧ PostS X.K W Hk0 H0 Hk2 D (forR τ Φ (ds.drop i) ρ2), ⟨ds.length, by simp, Nat.zero_le _, Hk1, ρ, Ex.refl _, r.up g1, by rw [List.drop_zero]; exact PostS.up g1.k p⟩, ?_⟩
      rintro i m σ Hc ⟨rfl, hi, Hk2, ρ2, e2, r2, p2⟩
      have sc : S Hc := ok.mono _ _ (.of r2.kh) (ok.mono _ _ (.of e2) sk)
      by_cases hlt : i < ds.length
      · refine .inr ⟨ok.go i Hc sc hlt, fun σ' H' => i + 1 ≤ ds.length ∧ ∃ Hk2 ρ2, Ex Hk1 Hk2 ∧ Rel Hk0 H0 Hk2 H' σ' ρ2 ∧ PostS X.K W Hk0 H0 Hk2 D (forR τ Φ (ds.drop (i + 1)) ρ2), fun σ' H' n => ⟨ds.length - (i + 1), by omega, rfl, n.1, n.2⟩, fun x H' y => ?_⟩
        obtain ⟨Hk3, g3, rx⟩ := ok.yld i Hc Hk2 x H' sc e2 r2.kh y ds[i] (List.getElem?_eq_getElem hlt)
        have hdr : ds.drop i = ds[i] :: ds.drop (i + 1) := List.drop_eq_getElem_cons hlt
        rw [hdr, forR] at p2
        cases q1 : asg τ ds[i] ρ2 with
        | err c => exact absurd q1 asg_no
        | bad => rw [q1] at p2; exact p2.elim
        | ok ρ3 =>
          rw [q1] at p2
          have p2 : PostS X.K W Hk0 H0 Hk2 D (Φ ρ3 >>= whK (forR τ Φ (ds.drop (i + 1)))) := p2
          refine ⟨Hk0, H0, Hk3, ρ2, ds[i], r2.up g3, rx, ρ3, q1, fun σ2 r3 o2 => ⟨Hk0, H0, Hk3, ρ3, r3, ?_⟩⟩
          cases q2 : Φ ρ3 with
          | err c => rw [q2] at p2; exact p2
          | bad => rw [q2] at p2; exact p2
          | ok o =>
            rw [q2] at p2
            cases o with
            | nx ρ' => exact fun σ4 Hk4 H4 e4 r4 => ⟨hlt, Hk4, ρ', e2.trans (g3.k.trans e4), r4, PostS.up (g3.k.trans e4) p2⟩
            | ct ρ' => exact fun σ4 Hk4 H4 e4 r4 => ⟨hlt, Hk4, ρ', e2.trans (g3.k.trans e4), r4, PostS.up (g3.k.trans e4) p2⟩
            | bk ρ' => exact fun σ4 Hk4 H4 e4 r4 => p2 σ4 Hk4 H4 (g3.k.trans e4) r4
            | rt r => exact p2
      · have e3 : i = ds.length := by omega
        rw [e3, List.drop_length] at p2
        exact .inl ⟨ok.stop i Hc sc e3, p2 σ Hk2 Hc (Ex.refl _) r2⟩
    · exact p.elim
end
end Py

set_option Elab.async false
set_option linter.all false
set_option maxRecDepth 100000
set_option autoImplicit false
set_option maxHeartbeats 1000000
/-! PyZ: zip of two or three sequences of any kinds, enumerate. -/
namespace Py
variable [KK]
open PySem L2
open Evl (Ex)
/-- a sequence: a tuple (t) or a list -/
def SR (t : Bool) (H : Hp) (a : Addr) (xs : List V) : Prop := if t = true then Rd H a (.tup xs) else Rl H a xs
def sIt (t : Bool) (h : Heap) (it a : Addr) (i : Nat) : Prop := if t = true then h.IsTupleIter it a i else h.IsListIter it a i
def sIs (t : Bool) (h : Heap) (a : Addr) (items : Array Value) : Prop := if t = true then h.IsTuple a items else h.IsList a items
def sOb (t : Bool) (a : Addr) : Obj := if t = true then { cls := .type "tuple_iterator", data := .fields #[.ref a, .int 0 0] } else { cls := .type "list_iterator", data := .fields #[.ref a, .int 0 0] }
theorem SR.upT {t : Bool} {H H' : Hp} {a : Addr} {xs : List V} (e : ExT H H') (h : SR t H a xs) : SR t H' a xs := by
  cases t with
  | false => exact rl_mono _ _ e h
  | true => exact rd_mono _ _ e h
theorem SR.up {t : Bool} {H H' : Hp} {a : Addr} {xs : List V} (e : Ex H H') (h : SR t H a xs) : SR t H' a xs := by
  cases t with
  | false => exact Rl.up e h
  | true => exact Evl.ex_rd e h
theorem draws_s {prog : Program} {w : World} {A : Around} (t : Bool) (hh : A.handled = none) (it a : Addr) (hne : a ≠ it) (items : Array Value) :
    Draws prog w A it [it, a] items.size (fun i v => items[i]? = some v) (fun i h => sIt t h it a i ∧ sIs t h a items) := by
  cases t with
  | false => exact Draws.list hh it a hne items
  | true => exact Draws.tuple hh it a hne items
theorem begins_s (t : Bool) (a : Addr) (items : Array Value) : Begins (.ref a) (sOb t a) fun h => sIs t h a items := by
  cases t with
  | false => exact begins_list a items
  | true => exact begins_tuple a items
theorem sIt_zero {t : Bool} {h : Heap} {it a : Addr} (e : h.get? it = some (sOb t a)) : sIt t h it a 0 := by
  cases t with
  | false => exact ⟨_, e, rfl, rfl⟩
  | true => exact ⟨_, e, rfl, rfl⟩
theorem sIt_at {t : Bool} {h h' : Heap} {it a : Addr} {i : Nat} (x : sIt t h it a i) (k : ∀ o, h.get? it = some o → h'.get? it = some o) : sIt t h' it a i := by
  cases t with
  | false => exact Heap.IsListIter.at x k
  | true => exact Heap.IsTupleIter.at x k
theorem sIt_obj {t : Bool} {h : Heap} {it a : Addr} {i : Nat} (x : sIt t h it a i) : ∃ o, h.get? it = some o ∧ ∀ v, o.data ≠ .cell v := by
  cases t with
  | false => obtain ⟨o, e, _, d⟩ := (show h.IsListIter it a i from x); exact ⟨o, e, fun v z => by rw [d] at z; cases z⟩
  | true => obtain ⟨o, e, _, d⟩ := (show h.IsTupleIter it a i from x); exact ⟨o, e, fun v z => by rw [d] at z; cases z⟩
section
variable {X : Cx} [ok : OK X] {pins : List (Addr × Obj)} {σ : Sl} {H : Hp} {s : Shared}
theorem SR.is {t : Bool} {a : Addr} {xs : List V} (I : Inv X pins σ H s) (h : SR t H a xs) : ∃ its : List Value, Vals xs its ∧ sIs t s.heap a its.toArray ∧ a < s.heap.objs.size := by
  cases t with
  | false =>
    obtain ⟨_, its, n, r, _, g⟩ := rd_list I (show Rl H a xs from h)
    exact ⟨its, r, ⟨_, g, rfl, n, rfl⟩, Heap.lt_size g⟩
  | true =>
    obtain ⟨its, r, p, _⟩ := I.tuple (a := a) (xs := xs) (.inl (show Rd H a (.tup xs) from h))
    exact ⟨its, r, p, p.lt⟩
end
theorem seqOf_SR {r : Rv} {b : Bool} {ds : List PyData} {Hk H : Hp} {σ : Sl} {v : V} (h : seqOf r = .ok (b, ds)) (x : Ex Hk H) (d : Den Hk H σ r v) :
    ∃ a xs, v = .ref a ∧ RpAll Hk xs ds ∧ SR (isTupR r) H a xs ∧ (b = true → SR (isTupR r) Hk a xs) := by
  obtain ⟨a, xs, e, ra, c⟩ := seqOf_kind h x d
  rcases c with ⟨t1, s1, k1⟩ | ⟨t1, s1, k1⟩
  · exact ⟨a, xs, e, ra, by rw [t1]; exact s1, by rw [t1]; exact k1⟩
  · exact ⟨a, xs, e, ra, by rw [t1]; exact s1, by rw [t1]; exact k1⟩

/-! two -/
def Jz2 (t1 t2 : Bool) (a b : Addr) (xs ys : List V) : It :=
  ⟨fun i H => SR t1 H a xs ∧ SR t2 H b ys ∧ i < min xs.length ys.length, fun i H v H' => ∃ T x y, v = .ref T ∧ H T = none ∧ H' = upd H T (.tup [x, y]) ∧ xs[i]? = some x ∧ ys[i]? = some y,
    fun i H => SR t1 H a xs ∧ SR t2 H b ys ∧ i = min xs.length ys.length⟩
theorem turn_z2 {P : Program} {w : World} {K : PySem.W.Frag} (hKK : K = KK.K) {elts : List Expr} {kk : Nat} {tpos : Pos} {t1 t2 : Bool} {a b z TI TO i1 i2 : Addr} {xs ys : List V} (S : ZipSep2 z TI TO i1 i2 [i1, a] [i2, b]) (n1 : a ≠ i1) (n2 : b ≠ i2) :
    Turn P w K (.Tuple elts kk tpos) (Jz2 t1 t2 a b xs ys) [z, TI, TO, i1, i2] z (fun i h => IsZip h z TI TO .none ∧ IsTupOf2 h TI (.ref i1) (.ref i2) ∧ (∃ u v, IsTupOf2 h TO u v) ∧ sIt t1 h i1 a i ∧ sIt t2 h i2 b i) where
  mem := List.mem_cons_self
  obj := fun i h st c hc => by
    obtain ⟨hz, hTI, ⟨u, v, hTO⟩, s1, s2⟩ := st
    simp only [List.mem_cons, List.not_mem_nil, or_false] at hc
    rcases hc with rfl | rfl | rfl | rfl | rfl
    · exact ⟨_, hz, fun v q => nomatch q⟩
    · exact ⟨_, hTI, fun v q => nomatch q⟩
    · exact ⟨_, hTO, fun v q => nomatch q⟩
    · exact sIt_obj s1
    · exact sIt_obj s2
  keep := fun i h h' st k => by
    obtain ⟨hz, hTI, ⟨u, v, hTO⟩, s1, s2⟩ := st
    exact ⟨k z (by simp) _ hz, k TI (by simp) _ hTI, ⟨u, v, k TO (by simp) _ hTO⟩, sIt_at s1 fun o q => k i1 (by simp) o q, sIt_at s2 fun o q => k i2 (by simp) o q⟩
  item := by
    intro X hP hw hK hc i pins s σ H E I hf st hg
    subst hP hw hK
    haveI : OK X := ⟨hKK⟩
    obtain ⟨hz, hTI, hTO, s1, s2⟩ := st
    obtain ⟨g1, g2, hlt⟩ := hg
    obtain ⟨its, rv, is1, _⟩ := SR.is I g1
    obtain ⟨its2, rv2, is2, _⟩ := SR.is I g2
    have hh := I.ok.hd hc
    have l1 : its.toArray.size = xs.length := by rw [List.size_toArray, rv.length]
    have l2 : its2.toArray.size = ys.length := by rw [List.size_toArray, rv2.length]
    refine (GoesN.zip2 S (draws_s (A := X.A.in1) t1 hh i1 a n1 its.toArray) (draws_s (A := X.A.in1) t2 hh i2 b n2 its2.toArray)).goes i s _ E (by rw [l1, l2]; exact hlt) ⟨hz, hTI, hTO, ⟨s1, is1⟩, ⟨s2, is2⟩⟩ fun v h' tk hY st' hk _ => ?_
    obtain ⟨T, u, u2, rfl, hnew, hu, hu2, hT⟩ := hY
    have lx : i < xs.length := by omega
    have ly : i < ys.length := by omega
    obtain ⟨u', e', ru⟩ := rv.get (List.getElem?_eq_getElem lx)
    obtain ⟨u2', e2', ru2⟩ := rv2.get (List.getElem?_eq_getElem ly)
    have q1 : its[i]? = some u := by simpa using hu
    have q2 : its2[i]? = some u2 := by simpa using hu2
    rw [q1] at e'
    rw [q2] at e2'
    cases e'
    cases e2'
    have new : ObjOk X.prog X.w (upd H T (.tup [xs[i], ys[i]])) h' T (.tup [xs[i], ys[i]]) := ⟨by show 2 ≤ sizeLine; decide, [u, u2], .cons ru (.cons ru2 .nil), hT⟩
    have I1 := I.turnedNew (t' := tk) (ch := [z, TI, TO, i1, i2]) (fun c o hb q => hk c o (fun hm => hb (by
      simp only [List.mem_cons, List.not_mem_nil, or_false] at hm ⊢
      rcases hm with r | r | r | r
      · exact .inl r
      · exact .inr (.inr (.inl r))
      · exact .inr (.inr (.inr (.inl r)))
      · exact .inr (.inr (.inr (.inr r))))) q) hf hnew new
    obtain ⟨z1, z2, z3, ⟨z4, _⟩, ⟨z5, _⟩⟩ := st'
    refine ⟨.ref T, _, I1, rfl, ⟨T, xs[i], ys[i], rfl, I.hok.fresh hnew, rfl, List.getElem?_eq_getElem lx, List.getElem?_eq_getElem ly⟩, ⟨z1, z2, z3, z4, z5⟩, fun c hcm => ?_⟩
    have hlt : c < s.heap.objs.size := by
      obtain ⟨u, v, hTO⟩ := hTO
      simp only [List.mem_cons, List.not_mem_nil, or_false] at hcm
      rcases hcm with rfl | rfl | rfl | rfl | rfl
      · exact Heap.lt_size hz
      · exact Heap.lt_size hTI
      · exact Heap.lt_size hTO
      · obtain ⟨_, e, _⟩ := sIt_obj s1; exact Heap.lt_size e
      · obtain ⟨_, e, _⟩ := sIt_obj s2; exact Heap.lt_size e
    rw [upd_ne (Nat.ne_of_lt (Nat.lt_of_lt_of_le hlt hnew))]
    exact (hf c hcm).1
  done := by
    intro X hP hw hK hc i pins s σ H E I hf st hg
    subst hP hw hK
    haveI : OK X := ⟨hKK⟩
    obtain ⟨hz, hTI, hTO, s1, s2⟩ := st
    obtain ⟨g1, g2, hlt⟩ := hg
    obtain ⟨its, rv, is1, _⟩ := SR.is I g1
    obtain ⟨its2, rv2, is2, _⟩ := SR.is I g2
    have hh := I.ok.hd hc
    have l1 : its.toArray.size = xs.length := by rw [List.size_toArray, rv.length]
    have l2 : its2.toArray.size = ys.length := by rw [List.size_toArray, rv2.length]
    rw [← l1, ← l2] at hlt
    subst hlt
    refine (GoesN.zip2 (elts := elts) (x1 := kk) (pos := tpos) S (draws_s (A := X.A.in1) t1 hh i1 a n1 its.toArray) (draws_s (A := X.A.in1) t2 hh i2 b n2 its2.toArray)).stops s _ E ⟨hz, hTI, hTO, ⟨s1, is1⟩, ⟨s2, is2⟩⟩ fun h' tk hk _ => ?_
    exact I.turnedL (t' := tk) (ch := [z, TI, TO, i1, i2]) (fun c o hb q => hk c o (fun hm => hb (by
      simp only [List.mem_cons, List.not_mem_nil, or_false] at hm ⊢
      rcases hm with r | r | r | r
      · exact .inl r
      · exact .inr (.inr (.inl r))
      · exact .inr (.inr (.inr (.inl r)))
      · exact .inr (.inr (.inr (.inr r))))) q) hf
  self := fun A i s Q E st h => wpAny_pyIter_zip st.1 h

theorem jz2_ok {t1 t2 : Bool} {a b : Addr} {xs ys : List V} {ds es : List PyData} {Hk1 : Hp} (h : RpAll Hk1 xs ds) (k : RpAll Hk1 ys es) : ItOk (Jz2 t1 t2 a b xs ys) (zipD ds es) Hk1 (fun H => SR t1 H a xs ∧ SR t2 H b ys) where
  go := fun i H hs hi => ⟨hs.1, hs.2, by rw [zipD_len, ← RpAll.length h, ← RpAll.length k] at hi; exact hi⟩
  stop := fun i H hs hi => ⟨hs.1, hs.2, by rw [zipD_len, ← RpAll.length h, ← RpAll.length k] at hi; exact hi⟩
  yld := fun i H Hk x H' hs e1 e2 y d hd => by
    obtain ⟨T, x1, y1, rfl, hT, rfl, f1, f2⟩ := y
    obtain ⟨a', b', h1, h2, rfl⟩ := zipD_get hd
    obtain ⟨v, hv, rv⟩ := RpAll.get h h1
    obtain ⟨u, hu, ru⟩ := RpAll.get k h2
    rw [hv] at f1
    rw [hu] at f2
    obtain rfl := Option.some.inj f1
    obtain rfl := Option.some.inj f2
    have n := Ex.new (o := .tup [v, u]) (Evl.fresh_back e2 hT)
    exact ⟨_, Gr.new e2 hT, .tup (.inl upd_same) (.cons (Rp.up n (Rp.up e1 rv)) (.cons (Rp.up n (Rp.up e1 ru)) .nil))⟩
  mono := fun _ _ e h => ⟨h.1.upT e, h.2.upT e⟩
def rZ2 (ta : TA) : TI := fun σ H R => ta σ H fun vs H1 => ∃ t1 t2 a b xs ys, vs = [.ref a, .ref b] ∧ SR t1 H1 a xs ∧ SR t2 H1 b ys ∧ R (Jz2 t1 t2 a b xs ys) H1
theorem ge_of_mem {N c : Nat} {l : List Nat} (h : c ∈ l.map (N + ·)) : N ≤ c := by
  obtain ⟨k, _, rfl⟩ := List.mem_map.mp h
  exact Nat.le_add_right _ _
theorem pi_z2 {X : Cx} [ok : OK X] {e e2 : Expr} {ta : TA} {p pos tpos : Pos} {elts : List Expr} {kk : Nat} (hg : Gl X "zip") (hm : X.mg "zip" = none) (ha : PA X [e, e2] ta)
    (hs : starEach [e, e2] X.env = (false, eval e X.env) :: starEach [e2] X.env) (hpl : (backTo pos (starEach [e2] X.env)).any (·.1) = false) : PI X (.Tuple elts kk tpos) (.Call (.Name "zip" p) [e, e2] [] pos) (rZ2 ta) := by
  refine ⟨fun pins s σ H R I h => ?_⟩
  refine PyProof.Rows.Call_ (ld_blt I hg hm PyProof.Rows.boot_zip (PyProof.Rows.callWith_type1 (thn (ha.run pos pins s σ H _ I h) fun us s1 hh => ?_) hs hpl))
  obtain ⟨vs, H1, I1, r1, t1, t2, a, b, xs, ys, ex, g1, g2, q⟩ := hh
  subst ex
  obtain ⟨v1, v2, rfl, ra, rb⟩ := vals2 r1
  cases ra
  cases rb
  obtain ⟨its, rv, is1, la⟩ := SR.is I1 g1
  obtain ⟨its2, rv2, is2, lb⟩ := SR.is I1 g2
  refine zip_begins2 (begins_s t1 a its.toArray) (begins_s t2 b its2.toArray) is1 is2 fun h' hz hTI hTO h1 h2 hsz hk => wpAny_pyIter_zip hz ?_
  have I2 : Inv X pins σ H1 { s1 with heap := h' } := I1.kept (t' := s1.toks) hk
  refine ⟨s1.heap.objs.size + 4, [s1.heap.objs.size + 4, s1.heap.objs.size + 2, s1.heap.objs.size + 3, s1.heap.objs.size, s1.heap.objs.size + 1], _, _, H1, rfl, I2, turn_z2 ok.eq (zip_sep2 (fun c hc => ?_) (fun c hc => ?_)) (Nat.ne_of_lt la) (Nat.ne_of_lt (Nat.lt_succ_of_lt lb)), ⟨hz, hTI, ⟨_, _, hTO⟩, sIt_zero h1, sIt_zero h2⟩, fun c hcm => ?_, q⟩
  · rw [List.mem_singleton.mp hc]; exact la
  · rw [List.mem_singleton.mp hc]; exact lb
  · have hle : s1.heap.objs.size ≤ c := ge_of_mem (l := [4, 2, 3, 0, 1]) hcm
    exact I1.fpOk hle (I1.hok.fresh hle)
def z2 (x y : Rv) : R (Bool × List PyData) := seqOf x >>= fun a => seqOf y >>= fun b => .ok (a.1 && b.1, zipD a.2 b.2)
def iZ2 (φ ψ : En → R Rv) : En → R (Bool × List PyData) := fun ρ => φ ρ >>= fun x => ψ ρ >>= fun y => z2 (frz x) (frz y)
section
variable {X : Cx} [ok : OK X] {W : WX} {e e' e'' : Expr} {φ ψ χ : En → R Rv} {p pos tpos : Pos} {elts : List Expr} {kk : Nat}
theorem w_z2 (h : PE X e (te X.K W φ)) (h' : PE X e' (te X.K W ψ)) (hm : X.mg "zip" = none) (hg : Gl X "zip" := by rfl) (hs : starEach [e, e'] X.env = (false, eval e X.env) :: starEach [e'] X.env := by rfl) (hs2 : starEach [e'] X.env = (false, eval e' X.env) :: starEach [] X.env := by rfl)
    (hpl : (backTo pos (starEach [e'] X.env)).any (·.1) = false := by rfl) : PI X (.Tuple elts kk tpos) (.Call (.Name "zip" p) [e, e'] [] pos) (ti X.K W (iZ2 φ ψ)) :=
  pi_imp (pi_z2 hg hm (pa_cons h (pa_cons h' pa_nil hs2) hs) hs hpl) fun σ H Q ⟨Hk0, H0, Hk, ρ, r, p⟩ => by
    refine te_thenI (g := fun x => ψ ρ >>= fun y => z2 x (frz y)) r p fun x v Hk1 H1 g1 d1 n1 r1 p1 => ?_
    refine te_thenI (g := fun y => z2 x y) r1 p1 fun y u Hk' H' g d n r' p' => ?_
    unfold z2 at p'
    cases q : seqOf x with
    | err c => exact absurd q seqOf_no
    | bad => rw [q] at p'; exact p'.elim
    | ok a =>
      rw [q] at p'
      cases q2 : seqOf y with
      | err c => exact absurd q2 seqOf_no
      | bad => rw [q2] at p'; exact p'.elim
      | ok b =>
        rw [q2] at p'
        obtain ⟨l1, xs, rfl, ra, s1, k1⟩ := seqOf_SR q g.kh (Den.up g d1)
        obtain ⟨l2, ys, rfl, rb, s2, k2⟩ := seqOf_SR q2 g.kh d
        exact ⟨_, _, l1, l2, xs, ys, rfl, s1, s2, p' _ _ H' _ (Gr.refl g.kh) (jz2_ok ra rb) ⟨s1, s2⟩ fun z => by
          rw [Bool.and_eq_true] at z
          exact ⟨k1 z.1, k2 z.2⟩⟩
end
/-! three -/
def Jz3 (t1 t2 t3 : Bool) (a b c : Addr) (xs ys zs : List V) : It :=
  ⟨fun i H => SR t1 H a xs ∧ SR t2 H b ys ∧ SR t3 H c zs ∧ i < min (min xs.length ys.length) zs.length, fun i H v H' => ∃ T x y u, v = .ref T ∧ H T = none ∧ H' = upd H T (.tup [x, y, u]) ∧ xs[i]? = some x ∧ ys[i]? = some y ∧ zs[i]? = some u,
    fun i H => SR t1 H a xs ∧ SR t2 H b ys ∧ SR t3 H c zs ∧ i = min (min xs.length ys.length) zs.length⟩
theorem turn_z3 {P : Program} {w : World} {K : PySem.W.Frag} (hKK : K = KK.K) {elts : List Expr} {kk : Nat} {tpos : Pos} {t1 t2 t3 : Bool} {a b c z TI TO i1 i2 i3 : Addr} {xs ys zs : List V} (S : ZipSep3 z TI TO i1 i2 i3 [i1, a] [i2, b] [i3, c]) (n1 : a ≠ i1) (n2 : b ≠ i2) (n3 : c ≠ i3) :
    Turn P w K (.Tuple elts kk tpos) (Jz3 t1 t2 t3 a b c xs ys zs) [z, TI, TO, i1, i2, i3] z (fun i h => IsZip h z TI TO .none ∧ IsTupOf3 h TI (.ref i1) (.ref i2) (.ref i3) ∧ (∃ u v w, IsTupOf3 h TO u v w) ∧ sIt t1 h i1 a i ∧ sIt t2 h i2 b i ∧ sIt t3 h i3 c i) where
  mem := List.mem_cons_self
  obj := fun i h st c hc => by
    obtain ⟨hz, hTI, ⟨u, v, w, hTO⟩, s1, s2, s3⟩ := st
    simp only [List.mem_cons, List.not_mem_nil, or_false] at hc
    rcases hc with rfl | rfl | rfl | rfl | rfl | rfl
    · exact ⟨_, hz, fun v q => nomatch q⟩
    · exact ⟨_, hTI, fun v q => nomatch q⟩
    · exact ⟨_, hTO, fun v q => nomatch q⟩
    · exact sIt_obj s1
    · exact sIt_obj s2
    · exact sIt_obj s3
  keep := fun i h h' st k => by
    obtain ⟨hz, hTI, ⟨u, v, w, hTO⟩, s1, s2, s3⟩ := st
    exact ⟨k z (by simp) _ hz, k TI (by simp) _ hTI, ⟨u, v, w, k TO (by simp) _ hTO⟩, sIt_at s1 fun o q => k i1 (by simp) o q, sIt_at s2 fun o q => k i2 (by simp) o q, sIt_at s3 fun o q => k i3 (by simp) o q⟩
  item := by
    intro X hP hw hK hc i pins s σ H E I hf st hg
    subst hP hw hK
    haveI : OK X := ⟨hKK⟩
    obtain ⟨hz, hTI, hTO, s1, s2, s3⟩ := st
    obtain ⟨g1, g2, g3, hlt⟩ := hg
    obtain ⟨its, rv, is1, _⟩ := SR.is I g1
    obtain ⟨its2, rv2, is2, _⟩ := SR.is I g2
    obtain ⟨its3, rv3, is3, _⟩ := SR.is I g3
    have hh := I.ok.hd hc
    have l1 : its.toArray.size = xs.length := by rw [List.size_toArray, rv.length]
    have l2 : its2.toArray.size = ys.length := by rw [List.size_toArray, rv2.length]
    have l3 : its3.toArray.size = zs.length := by rw [List.size_toArray, rv3.length]
    refine (GoesN.zip3 S (draws_s (A := X.A.in1) t1 hh i1 a n1 its.toArray) (draws_s (A := X.A.in1) t2 hh i2 b n2 its2.toArray) (draws_s (A := X.A.in1) t3 hh i3 c n3 its3.toArray)).goes i s _ E (by rw [l1, l2, l3]; exact hlt) ⟨hz, hTI, hTO, ⟨s1, is1⟩, ⟨s2, is2⟩, ⟨s3, is3⟩⟩ fun v h' tk hY st' hk _ => ?_
    obtain ⟨T, u, u2, u3, rfl, hnew, hu, hu2, hu3, hT⟩ := hY
    have lx : i < xs.length := by omega
    have ly : i < ys.length := by omega
    have lz : i < zs.length := by omega
    obtain ⟨u', e', ru⟩ := rv.get (List.getElem?_eq_getElem lx)
    obtain ⟨u2', e2', ru2⟩ := rv2.get (List.getElem?_eq_getElem ly)
    obtain ⟨u3', e3', ru3⟩ := rv3.get (List.getElem?_eq_getElem lz)
    have q1 : its[i]? = some u := by simpa using hu
    have q2 : its2[i]? = some u2 := by simpa using hu2
    have q3 : its3[i]? = some u3 := by simpa using hu3
    rw [q1] at e'
    rw [q2] at e2'
    rw [q3] at e3'
    cases e'
    cases e2'
    cases e3'
    have new : ObjOk X.prog X.w (upd H T (.tup [xs[i], ys[i], zs[i]])) h' T (.tup [xs[i], ys[i], zs[i]]) := ⟨by show 3 ≤ sizeLine; decide, [u, u2, u3], .cons ru (.cons ru2 (.cons ru3 .nil)), hT⟩
    have I1 := I.turnedNew (t' := tk) (ch := [z, TI, TO, i1, i2, i3]) (fun c o hb q => hk c o (fun hm => hb (by
      simp only [List.mem_cons, List.not_mem_nil, or_false] at hm ⊢
      rcases hm with r | r | r | r | r
      · exact .inl r
      · exact .inr (.inr (.inl r))
      · exact .inr (.inr (.inr (.inl r)))
      · exact .inr (.inr (.inr (.inr (.inl r))))
      · exact .inr (.inr (.inr (.inr (.inr r)))))) q) hf hnew new
    obtain ⟨z1, z2, z3, ⟨z4, _⟩, ⟨z5, _⟩, ⟨z6, _⟩⟩ := st'
    refine ⟨.ref T, _, I1, rfl, ⟨T, xs[i], ys[i], zs[i], rfl, I.hok.fresh hnew, rfl, List.getElem?_eq_getElem lx, List.getElem?_eq_getElem ly, List.getElem?_eq_getElem lz⟩, ⟨z1, z2, z3, z4, z5, z6⟩, fun c hcm => ?_⟩
    have hlt : c < s.heap.objs.size := by
      obtain ⟨u, v, w, hTO⟩ := hTO
      simp only [List.mem_cons, List.not_mem_nil, or_false] at hcm
      rcases hcm with rfl | rfl | rfl | rfl | rfl | rfl
      · exact Heap.lt_size hz
      · exact Heap.lt_size hTI
      · exact Heap.lt_size hTO
      · obtain ⟨_, e, _⟩ := sIt_obj s1; exact Heap.lt_size e
      · obtain ⟨_, e, _⟩ := sIt_obj s2; exact Heap.lt_size e
      · obtain ⟨_, e, _⟩ := sIt_obj s3; exact Heap.lt_size e
    rw [upd_ne (Nat.ne_of_lt (Nat.lt_of_lt_of_le hlt hnew))]
    exact (hf c hcm).1
  done := by
    intro X hP hw hK hc i pins s σ H E I hf st hg
    subst hP hw hK
    haveI : OK X := ⟨hKK⟩
    obtain ⟨hz, hTI, hTO, s1, s2, s3⟩ := st
    obtain ⟨g1, g2, g3, hlt⟩ := hg
    obtain ⟨its, rv, is1, _⟩ := SR.is I g1
    obtain ⟨its2, rv2, is2, _⟩ := SR.is I g2
    obtain ⟨its3, rv3, is3, _⟩ := SR.is I g3
    have hh := I.ok.hd hc
    have l1 : its.toArray.size = xs.length := by rw [List.size_toArray, rv.length]
    have l2 : its2.toArray.size = ys.length := by rw [List.size_toArray, rv2.length]
    have l3 : its3.toArray.size = zs.length := by rw [List.size_toArray, rv3.length]
    rw [← l1, ← l2, ← l3] at hlt
    subst hlt
    refine (GoesN.zip3 (elts := elts) (x1 := kk) (pos := tpos) S (draws_s (A := X.A.in1) t1 hh i1 a n1 its.toArray) (draws_s (A := X.A.in1) t2 hh i2 b n2 its2.toArray) (draws_s (A := X.A.in1) t3 hh i3 c n3 its3.toArray)).stops s _ E ⟨hz, hTI, hTO, ⟨s1, is1⟩, ⟨s2, is2⟩, ⟨s3, is3⟩⟩ fun h' tk hk _ => ?_
    exact I.turnedL (t' := tk) (ch := [z, TI, TO, i1, i2, i3]) (fun c o hb q => hk c o (fun hm => hb (by
      simp only [List.mem_cons, List.not_mem_nil, or_false] at hm ⊢
      rcases hm with r | r | r | r | r
      · exact .inl r
      · exact .inr (.inr (.inl r))
      · exact .inr (.inr (.inr (.inl r)))
      · exact .inr (.inr (.inr (.inr (.inl r))))
      · exact .inr (.inr (.inr (.inr (.inr r)))))) q) hf
  self := fun A i s Q E st h => wpAny_pyIter_zip st.1 h
def zipD3 : List PyData → List PyData → List PyData → List PyData
  | a :: as, b :: bs, c :: cs => .tuple [a, b, c] :: zipD3 as bs cs
  | _, _, _ => []
theorem zipD3_len : ∀ as bs cs : List PyData, (zipD3 as bs cs).length = min (min as.length bs.length) cs.length
  | [], _, _ => by simp [zipD3]
  | _ :: _, [], _ => by simp [zipD3]
  | _ :: _, _ :: _, [] => by simp [zipD3]
  | a :: as, b :: bs, c :: cs => by rw [zipD3, List.length_cons, zipD3_len as bs cs]; simp only [List.length_cons]; omega
theorem zipD3_get : ∀ {as bs cs : List PyData} {i : Nat} {d : PyData}, (zipD3 as bs cs)[i]? = some d → ∃ a b c, as[i]? = some a ∧ bs[i]? = some b ∧ cs[i]? = some c ∧ d = .tuple [a, b, c]
  | [], _, _, _, _, h => by simp [zipD3] at h
  | _ :: _, [], _, _, _, h => by simp [zipD3] at h
  | _ :: _, _ :: _, [], _, _, h => by simp [zipD3] at h
  | a :: as, b :: bs, c :: cs, 0, d, h => by simp [zipD3] at h; exact ⟨a, b, c, rfl, rfl, rfl, h.symm⟩
  | a :: as, b :: bs, c :: cs, i + 1, d, h => by
    obtain ⟨x, y, z, h1, h2, h3, h4⟩ := zipD3_get (as := as) (bs := bs) (cs := cs) (i := i) (d := d) (by simpa [zipD3] using h)
    exact ⟨x, y, z, by simpa using h1, by simpa using h2, by simpa using h3, h4⟩
theorem jz3_ok {t1 t2 t3 : Bool} {a b c : Addr} {xs ys zs : List V} {ds es fs : List PyData} {Hk1 : Hp} (h : RpAll Hk1 xs ds) (k : RpAll Hk1 ys es) (l : RpAll Hk1 zs fs) : ItOk (Jz3 t1 t2 t3 a b c xs ys zs) (zipD3 ds es fs) Hk1 (fun H => SR t1 H a xs ∧ SR t2 H b ys ∧ SR t3 H c zs) where
  go := fun i H hs hi => ⟨hs.1, hs.2.1, hs.2.2, by rw [zipD3_len, ← RpAll.length h, ← RpAll.length k, ← RpAll.length l] at hi; exact hi⟩
  stop := fun i H hs hi => ⟨hs.1, hs.2.1, hs.2.2, by rw [zipD3_len, ← RpAll.length h, ← RpAll.length k, ← RpAll.length l] at hi; exact hi⟩
  yld := fun i H Hk x H' hs e1 e2 y d hd => by
    obtain ⟨T, x1, y1, z1, rfl, hT, rfl, f1, f2, f3⟩ := y
    obtain ⟨a', b', c', h1, h2, h3, rfl⟩ := zipD3_get hd
    obtain ⟨v, hv, rv⟩ := RpAll.get h h1
    obtain ⟨u, hu, ru⟩ := RpAll.get k h2
    obtain ⟨w, hw, rw'⟩ := RpAll.get l h3
    rw [hv] at f1
    rw [hu] at f2
    rw [hw] at f3
    obtain rfl := Option.some.inj f1
    obtain rfl := Option.some.inj f2
    obtain rfl := Option.some.inj f3
    have n := Ex.new (o := .tup [v, u, w]) (Evl.fresh_back e2 hT)
    exact ⟨_, Gr.new e2 hT, .tup (.inl upd_same) (.cons (Rp.up n (Rp.up e1 rv)) (.cons (Rp.up n (Rp.up e1 ru)) (.cons (Rp.up n (Rp.up e1 rw')) .nil)))⟩
  mono := fun _ _ e h => ⟨h.1.upT e, h.2.1.upT e, h.2.2.upT e⟩
def rZ3 (ta : TA) : TI := fun σ H R => ta σ H fun vs H1 => ∃ t1 t2 t3 a b c xs ys zs, vs = [.ref a, .ref b, .ref c] ∧ SR t1 H1 a xs ∧ SR t2 H1 b ys ∧ SR t3 H1 c zs ∧ R (Jz3 t1 t2 t3 a b c xs ys zs) H1
theorem vals3 {x y z : V} {us : List Value} (r : Vals [x, y, z] us) : ∃ u v w, us = [u, v, w] ∧ RelV x u ∧ RelV y v ∧ RelV z w := by
  cases r with
  | cons a r => cases r with
    | cons b r => cases r with
      | cons c r => cases r; exact ⟨_, _, _, rfl, a, b, c⟩
theorem pi_z3 {X : Cx} [ok : OK X] {e e2 e3 : Expr} {ta : TA} {p pos tpos : Pos} {elts : List Expr} {kk : Nat} (hg : Gl X "zip") (hm : X.mg "zip" = none) (ha : PA X [e, e2, e3] ta)
    (hs : starEach [e, e2, e3] X.env = (false, eval e X.env) :: starEach [e2, e3] X.env) (hpl : (backTo pos (starEach [e2, e3] X.env)).any (·.1) = false) : PI X (.Tuple elts kk tpos) (.Call (.Name "zip" p) [e, e2, e3] [] pos) (rZ3 ta) := by
  refine ⟨fun pins s σ H R I h => ?_⟩
  refine PyProof.Rows.Call_ (ld_blt I hg hm PyProof.Rows.boot_zip (PyProof.Rows.callWith_type1 (thn (ha.run pos pins s σ H _ I h) fun us s1 hh => ?_) hs hpl))
  obtain ⟨vs, H1, I1, r1, t1, t2, t3, a, b, c, xs, ys, zs, ex, g1, g2, g3, q⟩ := hh
  subst ex
  obtain ⟨v1, v2, v3, rfl, ra, rb, rc⟩ := vals3 r1
  cases ra
  cases rb
  cases rc
  obtain ⟨its, rv, is1, la⟩ := SR.is I1 g1
  obtain ⟨its2, rv2, is2, lb⟩ := SR.is I1 g2
  obtain ⟨its3, rv3, is3, lc⟩ := SR.is I1 g3
  refine zip_begins3 (begins_s t1 a its.toArray) (begins_s t2 b its2.toArray) (begins_s t3 c its3.toArray) is1 is2 is3 fun h' hz hTI hTO h1 h2 h3 hsz hk => wpAny_pyIter_zip hz ?_
  have I2 : Inv X pins σ H1 { s1 with heap := h' } := I1.kept (t' := s1.toks) hk
  refine ⟨s1.heap.objs.size + 5, [s1.heap.objs.size + 5, s1.heap.objs.size + 3, s1.heap.objs.size + 4, s1.heap.objs.size, s1.heap.objs.size + 1, s1.heap.objs.size + 2], _, _, H1, rfl, I2,
    turn_z3 ok.eq (zip_sep3 (fun c hc => ?_) (fun c hc => ?_) (fun c hc => ?_)) (Nat.ne_of_lt la) (Nat.ne_of_lt (Nat.lt_succ_of_lt lb)) (Nat.ne_of_lt (Nat.lt_succ_of_lt (Nat.lt_succ_of_lt lc))), ⟨hz, hTI, ⟨_, _, _, hTO⟩, sIt_zero h1, sIt_zero h2, sIt_zero h3⟩, fun c hcm => ?_, q⟩
  · rw [List.mem_singleton.mp hc]; exact la
  · rw [List.mem_singleton.mp hc]; exact lb
  · rw [List.mem_singleton.mp hc]; exact lc
  · have hle : s1.heap.objs.size ≤ c := ge_of_mem (l := [5, 3, 4, 0, 1, 2]) hcm
    exact I1.fpOk hle (I1.hok.fresh hle)
def z3 (x y z : Rv) : R (Bool × List PyData) := seqOf x >>= fun a => seqOf y >>= fun b => seqOf z >>= fun c => .ok (a.1 && (b.1 && c.1), zipD3 a.2 b.2 c.2)
def iZ3 (φ ψ χ : En → R Rv) : En → R (Bool × List PyData) := fun ρ => φ ρ >>= fun x => ψ ρ >>= fun y => χ ρ >>= fun z => z3 (frz x) (frz y) (frz z)
section
variable {X : Cx} [ok : OK X] {W : WX} {e e' e'' : Expr} {φ ψ χ : En → R Rv} {p pos tpos : Pos} {elts : List Expr} {kk : Nat}
theorem w_z3 (h : PE X e (te X.K W φ)) (h' : PE X e' (te X.K W ψ)) (h'' : PE X e'' (te X.K W χ)) (hm : X.mg "zip" = none) (hg : Gl X "zip" := by rfl) (hs : starEach [e, e', e''] X.env = (false, eval e X.env) :: starEach [e', e''] X.env := by rfl) (hs2 : starEach [e', e''] X.env = (false, eval e' X.env) :: starEach [e''] X.env := by rfl) (hs3 : starEach [e''] X.env = (false, eval e'' X.env) :: starEach [] X.env := by rfl)
    (hpl : (backTo pos (starEach [e', e''] X.env)).any (·.1) = false := by rfl) : PI X (.Tuple elts kk tpos) (.Call (.Name "zip" p) [e, e', e''] [] pos) (ti X.K W (iZ3 φ ψ χ)) :=
  pi_imp (pi_z3 hg hm (pa_cons h (pa_cons h' (pa_cons h'' pa_nil hs3) hs2) hs) hs hpl) fun σ H Q ⟨Hk0, H0, Hk, ρ, r, p⟩ => by
    refine te_thenI (g := fun x => ψ ρ >>= fun y => χ ρ >>= fun z => z3 x (frz y) (frz z)) r p fun x v Hk1 H1 g1 d1 n1 r1 p1 => ?_
    refine te_thenI (g := fun y => χ ρ >>= fun z => z3 x y (frz z)) r1 p1 fun y u Hk2 H2 g2 d2 n2 r2 p2 => ?_
    refine te_thenI (g := fun z => z3 x y z) r2 p2 fun z u' Hk' H' g d n r' p' => ?_
    unfold z3 at p'
    cases q : seqOf x with
    | err c => exact absurd q seqOf_no
    | bad => rw [q] at p'; exact p'.elim
    | ok a =>
      rw [q] at p'
      cases q2 : seqOf y with
      | err c => exact absurd q2 seqOf_no
      | bad => rw [q2] at p'; exact p'.elim
      | ok b =>
        rw [q2] at p'
        cases q3 : seqOf z with
        | err c => exact absurd q3 seqOf_no
        | bad => rw [q3] at p'; exact p'.elim
        | ok c =>
          rw [q3] at p'
          obtain ⟨l1, xs, rfl, ra, s1, k1⟩ := seqOf_SR q g.kh (Den.up g (Den.up g2 d1))
          obtain ⟨l2, ys, rfl, rb, s2, k2⟩ := seqOf_SR q2 g.kh (Den.up g d2)
          obtain ⟨l3, zs, rfl, rc, s3, k3⟩ := seqOf_SR q3 g.kh d
          exact ⟨_, _, _, l1, l2, l3, xs, ys, zs, rfl, s1, s2, s3, p' _ _ H' _ (Gr.refl g.kh) (jz3_ok ra rb rc) ⟨s1, s2, s3⟩ fun z => by
            rw [Bool.and_eq_true, Bool.and_eq_true] at z
            exact ⟨k1 z.1, k2 z.2.1, k3 z.2.2⟩⟩
end
end Py

set_option Elab.async false
set_option linter.all false
set_option maxRecDepth 100000
set_option autoImplicit false
set_option maxHeartbeats 1000000
/-! PyG: lists that are changed, raise, defs. -/
namespace Py
variable [KK]
open PySem L2
open Evl (Ex)

/-! ### a list that is changed -/
section
variable {Hk0 H0 Hk H : Hp} {σ : Sl} {ρ : En}
theorem Rel.mut {i : Nat} {ds es : List PyData} {p : Addr} {xs ys : List V} (r : Rel Hk0 H0 Hk H σ ρ) (hi : ρ[i]? = some (some (.own ds))) (hs : σ[i]? = some (some (.ref p))) (h0 : H0 p = none) (hk : Hk p = none) (hp : H p = some (.lst xs)) (hy : RpAll Hk ys es) :
    Rel Hk0 H0 Hk (upd H p (.lst ys)) σ (ρ.set i (some (.own es))) where
  len := by rw [List.length_set]; exact r.len
  gr := ⟨r.gr.k, r.gr.h.mutL h0 hp, fun a u q => by rw [upd_ne (ne_of_none q hk)]; exact r.gr.kh a u q, r.gr.fr⟩
  val := fun j d q => by
    rw [get_set] at q
    split at q
    · split at q <;> cases q
    · exact r.val j d q
  own := fun j fs q => by
    rw [get_set] at q
    split at q
    · rename_i hj
      subst hj
      split at q
      · cases q
        exact ⟨p, ys, hs, h0, hk, upd_same, hy⟩
      · cases q
    · rename_i hj
      obtain ⟨p', zs, a, b, c, d, e⟩ := r.own j fs q
      have : p' ≠ p := fun w => by
        subst w
        exact hj (r.sep i j ds fs p' hi q hs a)
      exact ⟨p', zs, a, b, c, by rw [upd_ne this]; exact d, e⟩
  sep := fun j k fs gs q a b c d => by
    have back : ∀ {m : Nat} {fs : List PyData}, (ρ.set i (some (.own es)))[m]? = some (some (Cl.own fs)) → ∃ fs', ρ[m]? = some (some (Cl.own fs')) := by
      intro m fs h
      rw [get_set] at h
      split at h
      · rename_i hm
        subst hm
        exact ⟨ds, hi⟩
      · exact ⟨fs, h⟩
    obtain ⟨_, a'⟩ := back a
    obtain ⟨_, b'⟩ := back b
    exact r.sep j k _ _ q a' b' c d
  raw := fun j a q => by
    rw [get_set] at q
    split at q
    · split at q <;> cases q
    · exact r.raw j a q
  dct := fun j fs q => by
    rw [get_set] at q
    split at q
    · split at q <;> cases q
    · obtain ⟨p', zs, a, b, c, d, e⟩ := r.dct j fs q
      have : p' ≠ p := fun w => by
        subst w
        rw [hp] at d
        cases d
      exact ⟨p', zs, a, b, c, by rw [upd_ne this]; exact d, e⟩
  tpn := fun j d q => by
    rw [get_set] at q
    split at q
    · split at q <;> cases q
    · exact r.tpn j d q
  kn := fun j d q => by
    rw [get_set] at q
    split at q
    · split at q <;> cases q
    · exact r.kn j d q
  t0 := r.t0
  dsep := fun j k fs gs q a b c d => by
    rw [get_set] at a b
    split at a
    · split at a <;> cases a
    · split at b
      · split at b <;> cases b
      · exact r.dsep j k fs gs q a b c d
/-- an owned list is known for good from now on -/
def frzE (i : Nat) (ρ : En) : En := match ρ[i]? with
  | some (some (.own ds)) => ρ.set i (some (.val (.list ds)))
  | _ => ρ
theorem Rel.freeze (i : Nat) (r : Rel Hk0 H0 Hk H σ ρ) : ∃ Hk', Ex Hk Hk' ∧ Rel Hk0 H0 Hk' H σ (frzE i ρ) := by
  unfold frzE
  split
  · rename_i ds hi
    obtain ⟨p, xs, a, b, c, d, e⟩ := r.own i ds hi
    refine ⟨upd Hk p (.lst xs), Ex.new c, ?_⟩
    have g : Gr Hk0 H0 (upd Hk p (.lst xs)) H := r.gr.frz b d c
    refine ⟨by rw [List.length_set]; exact r.len, g, fun j d' q => ?_, fun j fs q => ?_, fun j k fs gs q x y z w => ?_, fun j a q => ?_, fun j fs q => ?_, fun j d' q => ?_, fun j k fs gs q x y z w => ?_, fun j d' q => ?_, r.t0⟩
    · rw [get_set] at q
      split at q
      · rename_i hj
        subst hj
        split at q
        · cases q
          exact ⟨_, a, .lst (.inl (.inl upd_same)) (RpAll.up (Ex.new c) e)⟩
        · cases q
      · obtain ⟨v, h1, h2⟩ := r.val j d' q
        exact ⟨v, h1, Rp.up (Ex.new c) h2⟩
    · rw [get_set] at q
      split at q
      · split at q <;> cases q
      · rename_i hj
        obtain ⟨p', zs, a', b', c', d', e'⟩ := r.own j fs q
        have : p' ≠ p := fun w => by
          subst w
          exact hj (r.sep i j ds fs p' hi q a a')
        exact ⟨p', zs, a', b', by rw [upd_ne this]; exact c', d', RpAll.up (Ex.new c) e'⟩
    · rw [get_set] at x y
      split at x
      · split at x <;> cases x
      · split at y
        · split at y <;> cases y
        · exact r.sep j k fs gs q x y z w
    · rw [get_set] at q
      split at q
      · split at q <;> cases q
      · exact r.raw j a q
    · rw [get_set] at q
      split at q
      · split at q <;> cases q
      · rename_i hj
        obtain ⟨p', zs, a', b', c', d', e'⟩ := r.dct j fs q
        have : p' ≠ p := fun w => by
          subst w
          rw [d] at d'
          cases d'
        exact ⟨p', zs, a', b', by rw [upd_ne this]; exact c', d', DR.up (Ex.new c) e'⟩
    · rw [get_set] at q
      split at q
      · split at q <;> cases q
      · obtain ⟨v, h1, h2⟩ := r.tpn j d' q
        exact ⟨v, h1, TN.up (Ex.new c) h2⟩
    · rw [get_set] at x y
      split at x
      · split at x <;> cases x
      · split at y
        · split at y <;> cases y
        · exact r.dsep j k fs gs q x y z w
    · rw [get_set] at q
      split at q
      · split at q <;> cases q
      · obtain ⟨v, h1, h2⟩ := r.kn j d' q
        exact ⟨v, h1, Tg.up (Ex.new c) h2⟩
  · exact ⟨Hk, Ex.refl _, r⟩
end
def sFrz (i : Nat) (Φ : En → R Out) : En → R Out := fun ρ => Φ (frzE i ρ)
section
variable {X : Cx} {W : WX} {st : Stmt} {ss : List Stmt} {Φ : En → R Out}
theorem s_frz (i : Nat) (h : PS X st (ts X.K W Φ)) : PS X st (ts X.K W (sFrz i Φ)) := ps_imp h fun D σ H ⟨Hk0, H0, Hk, ρ, r, p⟩ => by
  obtain ⟨Hk', e, r'⟩ := r.freeze i
  exact ⟨Hk0, H0, Hk', _, r', PostS.up e p⟩
end
section
variable {K : PySem.W.Frag} {W : WX} {Hk0 H0 Hk H : Hp} {σ : Sl} {ρ : En} {D : Ends}
theorem ta_thenS {φs : List (En → R Rv)} {Q' : List V → Hp → Prop} {g : List PyData → R Out} (r : Rel Hk0 H0 Hk H σ ρ) (p : PostS K W Hk0 H0 Hk D (evA φs ρ >>= g))
    (k : ∀ ds vs Hk' H', ds.length = φs.length → Gr Hk H Hk' H' → RpAll Hk' vs ds → Rel Hk0 H0 Hk' H' σ ρ → PostS K W Hk0 H0 Hk' D (g ds) → Q' vs H') : ta K W φs σ H Q' := by
  refine ⟨Hk0, H0, Hk, ρ, r, ?_⟩
  cases e : evA φs ρ with
  | ok ds => rw [e] at p; exact fun vs Hk' H' gr d => k ds vs Hk' H' (evA_len e) gr d (r.up gr) (PostS.up gr.k p)
  | err c => rw [e] at p; exact fun Hk' H' g => p σ Hk' H' (r.gr.trans g)
  | bad => rw [e] at p; exact p
theorem tr_thenS {φs : List (En → R Rv)} {Q' : List V → Hp → Prop} {g : List Rv → R Out} (r : Rel Hk0 H0 Hk H σ ρ) (p : PostS K W Hk0 H0 Hk D (evR φs ρ >>= g))
    (k : ∀ ds vs Hk' H', Gr Hk H Hk' H' → DenAll Hk' H' σ ds vs → Rel Hk0 H0 Hk' H' σ ρ → PostS K W Hk0 H0 Hk' D (g ds) → Q' vs H') : tr K W φs σ H Q' := by
  refine ⟨Hk0, H0, Hk, ρ, r, ?_⟩
  cases e : evR φs ρ with
  | ok ds => rw [e] at p; exact fun vs Hk' H' gr d => k ds vs Hk' H' gr d (r.up gr) (PostS.up gr.k p)
  | err c => rw [e] at p; exact fun Hk' H' g => p σ Hk' H' (r.gr.trans g)
  | bad => rw [e] at p; exact p
end
def ownAt (ρ : En) (i : Nat) : R (List PyData) := match ρ[i]? with
  | some (some (.own ds)) => .ok ds
  | _ => .bad
theorem ownAt_ok {ρ : En} {i : Nat} {ds : List PyData} (h : ownAt ρ i = .ok ds) : ρ[i]? = some (some (.own ds)) := by
  unfold ownAt at h
  split at h
  · cases h; assumption
  · cases h
theorem ownAt_no {ρ : En} {i : Nat} {c : Str} : ownAt ρ i ≠ .err c := by
  unfold ownAt
  split <;> exact fun h => nomatch h
def sApp (i : Nat) (φ : En → R Rv) : En → R Out := fun ρ => ownAt ρ i >>= fun ds => evA [φ] ρ >>= fun es => if ds.length ≤ 1000000 then .ok (.nx (ρ.set i (some (.own (ds ++ es))))) else .bad
def sExt (i : Nat) (φ : En → R Rv) : En → R Out := fun ρ => ownAt ρ i >>= fun ds => evR [φ] ρ >>= fun rs => match rs with
  | [r] => match r.dat with
    | .list es => if ds.length + es.length ≤ 1000000 then .ok (.nx (ρ.set i (some (.own (ds ++ es))))) else .bad
    | _ => .bad
  | _ => .bad
section
variable {X : Cx} [ok : OK X] {W : WX} {e c : Expr} {φ ψ : En → R Rv} {pos : Pos}
/-- list.extend by any list that is read -/
def rExtR : V → List V → Hp → VK → Prop := fun x vs H Q => ∃ l b xs zs, x = .ref l ∧ vs = [.ref b] ∧ H l = some (.lst xs) ∧ Rl H b zs ∧ xs.length + zs.length ≤ sizeLine ∧ Q .non (upd H l (.lst (xs ++ zs)))
theorem mt_extR : MtM X "list.extend" rExtR := by
  intro pins s σ H x vs v us Q I rx rv h
  obtain ⟨l, b, xs, zs, rfl, rfl, hH, hB, hz, q⟩ := h
  cases rx
  obtain ⟨u, rfl, ru⟩ := rv.one
  cases ru
  obtain ⟨z, its, n, r, hl, e⟩ := I.lstM hH
  obtain ⟨z2, its2, n2, r2, hl2, e2⟩ := rd_list I hB
  have hsz : its.toArray.size + its2.toArray.size ≤ sizeLine := by rw [List.size_toArray, List.size_toArray, ← hl, ← hl2]; exact hz
  have big : (sizeLine : Nat) < 2 ^ 60 := by decide
  refine call_meets PySem.F.slot_list_extend ⟨_, e, rfl⟩ PySem.F.entry_list_extend (PySem.F.args_list_extend_2 _ _) (AutoSeq1.list_extend_list_list_0 l its.toArray n b its2.toArray n2 (by rw [notLongL hsz]; simp) (by omega) (by omega)) ⟨e, e2, ?_⟩
  exact ⟨.non, _, I.lset (its' := its ++ its2) hH e (by simp) (r.append r2) (by rw [List.length_append]; exact hz), rfl, q⟩
theorem s_app {x : Str} {p ap cp : Pos} (i : Nat) (he : PE X e (te X.K W φ)) (hN : X.N[i]? = some x := by rfl) (hv : Vis X.env.scope x := by first | exact Or.inl rfl | exact Or.inr (Or.inl rfl) | exact Or.inr (Or.inr rfl)) (hd : (x == ("__debug__" : Str)) = false := by decide)
    (hcd : (x == ("__classdict__" : Str)) = false := by decide) (hbase : attributeBase (.Name x p) "append" X.env (eval (.Name x p) X.env) = eval (.Name x p) X.env := by rfl)
    (hfew : ((backTo cp (starEach [e] X.env)).all (fun x => !x.1) && (backToKw cp (keywordEach [] X.env)).all (fun x => x.1.isSome) && decide ([e].length + ([] : List Keyword).length + (if ([] : List Keyword).isEmpty then 0 else 1) < 30)) = true := by rfl)
    (hline : (ap.endLine == cp.line) = true := by rfl) (hs : starEach [e] X.env = (false, eval e X.env) :: starEach [] X.env := by rfl) (hsw : swapsWith (.Call (.Attribute (.Name x p) "append" ap) [e] [] cp) none pos.line X.env = pure false := by rfl) :
    PS X (.Expr (.Call (.Attribute (.Name x p) "append" ap) [e] [] cp) pos) (ts X.K W (sApp i φ)) :=
  ps_imp (ps_expr (pe_bm PySem.F.plainAttrs_list PySem.F.slot_list_append PySem.F.type_list_append mt_append (pv i hN hv hd hcd) (d_acons he d_anil hs) hbase hfew hline hs) hsw) fun D σ H ⟨Hk0, H0, Hk, ρ, r, p⟩ => by
    unfold sApp at p
    cases e1 : ownAt ρ i with
    | err c => exact absurd e1 ownAt_no
    | bad => rw [e1] at p; exact p.elim
    | ok ds =>
      rw [e1] at p
      have hi := ownAt_ok e1
      obtain ⟨q, xs, h1, h2, h3, h4, h5⟩ := r.own i ds hi
      refine ⟨_, h1, .inl ⟨rfl, xs, .inl (.inl h4)⟩, ta_thenS (g := fun es => if ds.length ≤ 1000000 then .ok (.nx (ρ.set i (some (.own (ds ++ es))))) else .bad) r p fun es vs Hk' H' hl g d r' p' => ?_⟩
      split at p'
      · rename_i hz
        cases d with
        | nil => cases hl
        | cons a b =>
          cases b with
          | cons _ _ => cases hl
          | nil =>
            have k4 := g.h.l h4
            have k3 := g.fr q (by rw [h4]; exact fun z => nomatch z) h3
            refine ⟨q, xs, _, rfl, rfl, k4, Nat.lt_of_le_of_lt (Nat.le_of_eq (RpAll.length h5)) (Nat.lt_of_le_of_lt hz (by decide)), ?_⟩
            exact p' σ Hk' _ (Ex.refl _) (r'.mut hi h1 h2 k3 k4 (RpAll.append (RpAll.up g.k h5) (.one a)))
      · exact p'.elim
theorem s_ext {x : Str} {p ap cp : Pos} (i : Nat) (he : PE X e (te X.K W φ)) (hN : X.N[i]? = some x := by rfl) (hv : Vis X.env.scope x := by first | exact Or.inl rfl | exact Or.inr (Or.inl rfl) | exact Or.inr (Or.inr rfl)) (hd : (x == ("__debug__" : Str)) = false := by decide)
    (hcd : (x == ("__classdict__" : Str)) = false := by decide) (hbase : attributeBase (.Name x p) "extend" X.env (eval (.Name x p) X.env) = eval (.Name x p) X.env := by rfl)
    (hfew : ((backTo cp (starEach [e] X.env)).all (fun x => !x.1) && (backToKw cp (keywordEach [] X.env)).all (fun x => x.1.isSome) && decide ([e].length + ([] : List Keyword).length + (if ([] : List Keyword).isEmpty then 0 else 1) < 30)) = true := by rfl)
    (hline : (ap.endLine == cp.line) = true := by rfl) (hs : starEach [e] X.env = (false, eval e X.env) :: starEach [] X.env := by rfl) (hsw : swapsWith (.Call (.Attribute (.Name x p) "extend" ap) [e] [] cp) none pos.line X.env = pure false := by rfl) :
    PS X (.Expr (.Call (.Attribute (.Name x p) "extend" ap) [e] [] cp) pos) (ts X.K W (sExt i φ)) :=
  ps_imp (ps_expr (pe_bm PySem.F.plainAttrs_list PySem.F.slot_list_extend PySem.F.type_list_extend mt_extR (pv i hN hv hd hcd) (d_rcons he d_rnil hs) hbase hfew hline hs) hsw) fun D σ H ⟨Hk0, H0, Hk, ρ, r, p⟩ => by
    unfold sExt at p
    cases e1 : ownAt ρ i with
    | err c => exact absurd e1 ownAt_no
    | bad => rw [e1] at p; exact p.elim
    | ok ds =>
      rw [e1] at p
      have hi := ownAt_ok e1
      obtain ⟨q, xs, h1, h2, h3, h4, h5⟩ := r.own i ds hi
      refine ⟨_, h1, .inl ⟨rfl, xs, .inl (.inl h4)⟩, tr_thenS r p fun rs vs Hk' H' g d r' p' => ?_⟩
      have k4 := g.h.l h4
      have k3 := g.fr q (by rw [h4]; exact fun z => nomatch z) h3
      split at p'
      · rename_i a
        obtain ⟨v, rfl, da⟩ := DenAll.one (rs := [a]) d
        split at p'
        · rename_i es hd'
          split at p'
          · rename_i hz
            obtain ⟨b, zs, rfl, rl, ra⟩ := da.kList g.kh hd'
            refine ⟨q, b, xs, zs, rfl, rfl, k4, rl, by rw [RpAll.length h5, RpAll.length ra]; exact big_fits hz, ?_⟩
            exact p' σ Hk' _ (Ex.refl _) (r'.mut hi h1 h2 k3 k4 (RpAll.append (RpAll.up g.k h5) ra))
          · exact p'.elim
        · exact p'.elim
      · exact p'.elim
/-! x[i] = e -/
def sSub (i : Nat) (ψ φ : En → R Rv) : En → R Out := fun ρ => ownAt ρ i >>= fun ds => φ ρ >>= fun r => (frz r).toVal >>= fun d => ψ ρ >>= fun k => (frz k).toInt >>= fun j => match ixN ds.length j with
  | some n => .ok (.nx (ρ.set i (some (.own (ds.set n d)))))
  | none => .bad
theorem s_sub {x : Str} {b : Expr} {p sp : Pos} (i : Nat) (hb : PE X b (te X.K W ψ)) (he : PE X e (te X.K W φ)) (hN : X.N[i]? = some x := by rfl) (hv : Vis X.env.scope x := by first | exact Or.inl rfl | exact Or.inr (Or.inl rfl) | exact Or.inr (Or.inr rfl)) (hd : (x == ("__debug__" : Str)) = false := by decide)
    (hcd : (x == ("__classdict__" : Str)) = false := by decide)
    (ha : ∀ v, assign (.Subscript (.Name x p) b sp) X.env v = (do
      let ov ← holding [v] (eval (.Name x p) X.env)
      let iv ← holding [v, ov] (eval b X.env)
      standAt sp
      holding [v, ov, iv] (setItem ov iv v)
      release [v, ov, iv] []) := by intro _; rfl)
    (hs : swapsWithSole [.Subscript (.Name x p) b sp] e pos.line X.env = pure false := by rfl) (hw : swappedStores [.Subscript (.Name x p) b sp] e X.env = pure none := by rfl)
    (h1 : (assignEach [.Subscript (.Name x p) b sp] X.env).map (·.2) = [assign (.Subscript (.Name x p) b sp) X.env] := by rfl) : PS X (.Assign [.Subscript (.Name x p) b sp] e pos) (ts X.K W (sSub i ψ φ)) :=
  ps_imp (ps_asg he (pg_sub (pv i hN hv hd hcd) hb set_list ha) hs hw h1) fun D σ H ⟨Hk0, H0, Hk, ρ, r, p⟩ => by
    unfold sSub at p
    cases e1 : ownAt ρ i with
    | err c => exact absurd e1 ownAt_no
    | bad => rw [e1] at p; exact p.elim
    | ok ds =>
      rw [e1] at p
      have hi := ownAt_ok e1
      obtain ⟨q, xs, h1, h2, h3, h4, h5⟩ := r.own i ds hi
      refine s_thenF (g := fun x => x.toVal >>= fun d => ψ ρ >>= fun k => (frz k).toInt >>= fun j => match ixN ds.length j with
        | some n => .ok (.nx (ρ.set i (some (.own (ds.set n d)))))
        | none => .bad) r p fun x v Hk1 H1 g1 d1 n1 r1 p1 => ?_
      cases e2 : x.toVal with
      | err c => exact absurd e2 toVal_no
      | bad => rw [e2] at p1; exact p1.elim
      | ok d =>
        rw [e2] at p1
        refine ⟨_, h1, s_thenF (g := fun k => k.toInt >>= fun j => match ixN ds.length j with
          | some n => .ok (.nx (ρ.set i (some (.own (ds.set n d)))))
          | none => .bad) r1 p1 fun y u Hk2 H2 g2 d2 n2 r2 p2 => ?_⟩
        cases e3 : y.toInt with
        | err c => exact absurd e3 toInt_no
        | bad => rw [e3] at p2; exact p2.elim
        | ok j =>
          rw [e3] at p2
          have p2 : PostS X.K W Hk0 H0 Hk2 D (match ixN ds.length j with
            | some n => .ok (.nx (ρ.set i (some (.own (ds.set n d)))))
            | none => .bad) := p2
          split at p2
          · rename_i n hn
            have g := g1.trans g2
            have k4 := g.h.l h4
            have k3 := g.fr q (by rw [h4]; exact fun z => nomatch z) h3
            rw [d2.int e3]
            exact ⟨q, xs, j, n, rfl, rfl, k4, by rw [RpAll.length h5]; exact hn, p2 σ Hk2 _ (Ex.refl _) (r2.mut hi h1 h2 k3 k4 (RpAll.set (Rp.up g2.k (toVal_den d1 n1 e2)) n (RpAll.up g.k h5)))⟩
          · exact p2.elim
/-! raise -/
def sRaise (c : Str) : En → R Out := fun _ => .err c
theorem s_raise {x m : Str} {j : Nat} {p p2 pos' : Pos} (hc : X.calm = true) (tk : Takes X W) (f : (He.Fa.exc x).ok X.K = true) (g : X.mg x = some (.ref (He.ga X.K x))) (hg : Gl X x := by rfl) (hdb : (x == ("__debug__" : Str)) = false := by decide) :
    PS X (.Raise (some (.Call (.Name x p) [.Constant (.str m) j p2] [] pos')) none pos) (ts X.K W (sRaise x)) := by
  obtain ⟨f1, f2, f3, f4⟩ := He.exc_ok f
  exact ps_imp (ps_raise hc tk (pmk_own PySem.F.excBase_ValueError f1 g f2 (raises_own f3 f4) hg hdb)) fun D σ H ⟨Hk0, H0, Hk, ρ, r, p⟩ => p σ Hk H r.gr
end
/-! ### defs -/
def st0 (n : Nat) (ds : List PyData) : En := ds.map (fun d => some (Cl.val d)) ++ List.replicate (n - ds.length) none
def outV : Out → R Cr
  | .nx _ => .ok (.val .none)
  | .rt r => .ok r
  | _ => .bad
def fnR (n : Nat) (Φ : En → R Out) : List PyData → R Cr := fun ds => Φ (st0 n ds) >>= outV
theorem RpAll.mapGet {Hk : Hp} {vs : List V} {ds : List PyData} (h : RpAll Hk vs ds) {n i : Nat} {c : Cl} (q : (st0 n ds)[i]? = some (some c)) : ∃ d, ds[i]? = some d ∧ c = .val d := by
  unfold st0 at q
  rw [List.getElem?_append] at q
  split at q
  · rename_i hl
    rw [List.length_map] at hl
    rw [List.getElem?_map, List.getElem?_eq_getElem hl] at q
    cases q
    exact ⟨ds[i], List.getElem?_eq_getElem hl, rfl⟩
  · rw [List.getElem?_replicate] at q
    split at q <;> cases q
theorem rel_start {Hk H : Hp} {N : List Str} {vs : List V} {ds : List PyData} (e : Ex Hk H) (t : TabK Hk H) (h : RpAll Hk vs ds) : Rel Hk H Hk H (L2.start N vs) (st0 N.length ds) where
  len := by unfold L2.start st0; simp only [List.length_append, List.length_map, List.length_replicate]; rw [RpAll.length h]
  gr := Gr.refl e
  val := fun i d q => by
    obtain ⟨d', h1, h2⟩ := h.mapGet q
    cases h2
    obtain ⟨v, hv, rv⟩ := RpAll.get h h1
    refine ⟨v, ?_, rv⟩
    obtain ⟨hl, he⟩ := List.getElem?_eq_some_iff.mp hv
    unfold L2.start
    rw [List.getElem?_append_left (by rw [List.length_map]; exact hl), List.getElem?_map, hv]
    rfl
  own := fun i d q => by
    obtain ⟨d', h1, h2⟩ := h.mapGet q
    cases h2
  sep := fun i j ds es p q => by
    obtain ⟨d', h1, h2⟩ := h.mapGet q
    cases h2
  raw := fun i a q => by
    obtain ⟨d', h1, h2⟩ := h.mapGet q
    cases h2
  dct := fun i d q => by
    obtain ⟨d', h1, h2⟩ := h.mapGet q
    cases h2
  tpn := fun i d q => by
    obtain ⟨d', h1, h2⟩ := h.mapGet q
    cases h2
  kn := fun i d q => by
    obtain ⟨d', h1, h2⟩ := h.mapGet q
    cases h2
  t0 := t
  dsep := fun i j ds es p q => by
    obtain ⟨d', h1, h2⟩ := h.mapGet q
    cases h2
section
variable {P : Program} {w : World} {mg : Str → Option Value} {base : Heap} {x qual : Str} {params : Arguments} {body : List Stmt} {scope : Scope} {f : Addr} {fd : FuncData} {N ps : List Str} {k : Nat} {Φ : En → R Out}
/-- a def keeps its promise -/
theorem fn_ok (F : FunD KK.K x qual params body scope [] [] f fd) (S : FnScope N ps scope)
    (hbody : ∀ (cdv : Value) (A : Around) (outer : List Env) (s : Shared) (H : Hp) (E : XK), Room k (A.deeper (PyProof.Rows.envOfC qual scope s.heap.objs.size f cdv)) →
      PSs (cxOf (L2.CX P w) P w KK.K mg base N qual scope f cdv A outer s H E) body (ts KK.K (fun cls d _ H => E cls d H) Φ)) :
    FnOk P w KK.K mg base (L2.CX P w) (k + 1) f fd ps (spF KK.K ps.length (fnR N.length Φ)) :=
  F.ok S (fun vs H Q E h => by
    obtain ⟨Hk, ds, _, r, l, _⟩ := h
    rw [RpAll.length r, l]) fun cdv A outer s H vs Q E hr h => ⟨_, hbody cdv A outer s H E hr, by
      obtain ⟨Hk, ds, ⟨e, t⟩, r, l, q⟩ := h
      refine ⟨Hk, H, Hk, st0 N.length ds, rel_start e t r, ?_⟩
      unfold fnR at q
      cases e1 : Φ (st0 N.length ds) with
      | err c => rw [e1] at q; exact fun σ' Hk' H' g => q Hk' H' g
      | bad => rw [e1] at q; exact q
      | ok o =>
        rw [e1] at q
        cases o with
        | nx ρ => exact fun σ' Hk' H' e' r' => q .non Hk' H' r'.gr trivial Rp.non
        | rt r => exact q
        | bk ρ => exact q.elim
        | ct ρ => exact q.elim⟩
end
end Py

set_option Elab.async false
set_option linter.all false
set_option maxRecDepth 100000
set_option autoImplicit false
set_option maxHeartbeats 4000000
/-! PyS: sets of ints, ranges and zips as lists. -/
namespace Py
open PySem L2 PyProof.Rows
open Evl (Ex)
/-- a new set -/
abbrev eset (w : World) : Obj := { cls := .type "set", dict := none, data := .set #[] 0 (.fresh 0 0 (!w.params.followText "set-order")) }
/-- what is left of set(l) -/
def SetMade (w : World) (ns : List Int) (s s' : Shared) : Prop := ∃ h' tk c, s' = { s with heap := h', toks := tk } ∧ SetR w h' s.heap.objs.size (fun j => decide (j ∈ ns)) c ∧ c ≤ ns.length ∧ ∀ b o, s.heap.get? b = some o → h'.get? b = some o
theorem int_item {items : Array Value} {ns : List Int} (h : IntsAre items.toList ns) {i : Nat} {v : Value} (q : items[i]? = some v) : ∃ k t, ns[i]? = some k ∧ v = .int k t := by
  have hl := IntsAre.length h
  rw [Array.length_toList] at hl
  have hi : i < ns.length := hl ▸ (Array.getElem?_eq_some_iff.mp q).1
  obtain ⟨t, e⟩ := IntsAre.int_at h i v ((Array.getElem?_toList).trans q)
  exact ⟨ns[i], t, List.getElem?_eq_getElem hi, by rw [e, List.getD_eq_getElem?_getD, List.getElem?_eq_getElem hi]; rfl⟩
section
variable {P : Program} {w : World} {A : Around} {E : Value → Shared → Prop} {s : Shared} {l : Addr} {items : Array Value} {ns : List Int}
theorem set_fill (hh : A.handled = none) (hl : s.heap.IsList l items) (hi : IntsAre items.toList ns) (hb : ns.length + 1 < scanBound) :
    wpAny (model P w) A.in1 (Builtin.«set.__init__» ⟨[.ref s.heap.objs.size, .ref l], []⟩) (fun fin s' => match fin with
      | Fin.done f => wants (fun r s₂ => r = .none ∧ SetMade w ns s s₂) E (.ok f) s'
      | Fin.again c => c.quiet = true ∧ codeAny (model P w) A c (wants (fun r s₂ => r = .none ∧ SetMade w ns s s₂) E) s') (fun e s' => wants (fun r s₂ => r = .none ∧ SetMade w ns s s₂) E (.error e) s') { s with heap := s.heap.push (eset w) } := by
  have hz : items.size = ns.length := by rw [← Array.length_toList]; exact IntsAre.length hi
  have hS : (s.heap.push (eset w)).get? s.heap.objs.size = some (eset w) := Heap.get?_push_size _ rfl
  have hl1 : (s.heap.push (eset w)).IsList l items := hl.push _
  have la : l < s.heap.objs.size := by obtain ⟨o, ho, _⟩ := hl; exact Heap.lt_size ho
  have ho := hl1
  obtain ⟨⟨oc, od, dt, os⟩, hol, hc, nl, hd⟩ := ho
  have hc : oc = .type "list" := hc
  have hd : dt = .seq items nl := hd
  subst hc hd
  have f1 := F.sub_list_set
  have f2 := F.sub_list_frozenset
  have f3 : (Value.type "list" == Value.type "dict") = false := by decide
  have ne1 : l ≠ (s.heap.push (eset w)).objs.size := by rw [Heap.size_push]; exact Nat.ne_of_lt (Nat.lt_succ_of_lt la)
  have ne2 : s.heap.objs.size ∉ [(s.heap.push (eset w)).objs.size, l] := by
    rw [Heap.size_push]
    intro z
    simp only [List.mem_cons, List.not_mem_nil, or_false] at z
    rcases z with z | z
    · exact Nat.ne_of_lt (Nat.lt_succ_self _) z
    · exact Nat.ne_of_gt la z
  have h3 : A.in1.in1.handled = none := by simp [hh]
  unfold Builtin.«set.__init__» noKeywords Builtin.Frozenset.updateFrom
  generalize hPI : pyIter = PI
  wp_walk
  subst hPI
  refine wpAny_pyIter_list hl1 (wpAny_bind (wpAny_runValue ?_))
  refine set_update_ints (Walks.list h3 _ l ne1 items).toS s.heap.objs.size ne2 ns hz hb (fun i v q => int_item hi q) (items.size - 0) 0 _ (by omega) (Nat.zero_le _) ?_ ?_ ?_
  · exact ⟨⟨_, Heap.get?_push_size _ rfl, rfl, rfl⟩, hl1.push _⟩
  · exact ⟨0, Nat.le_refl 0, setR_new_at (Heap.get?_push_of_some _ hS)⟩
  rintro ⟨h', g', d', tk', os'⟩ c hm hcn hS'
  obtain rfl : g' = s.gens := hm.gens
  obtain rfl : d' = s.drawn := hm.drawn
  obtain rfl : os' = s.os := hm.os
  show wpAny _ _ _ _ _ _
  refine wpAny_pure ?_
  show wpAny _ _ (ret Value.none) _ _ _
  refine wpAny_pure ⟨rfl, h', tk', c, rfl, hS', by omega, fun b o e => hm.heap b o (fun z => ?_) (Heap.get?_push_of_some _ (Heap.get?_push_of_some _ e))⟩
  have lb := Heap.lt_size e
  rw [Heap.size_push] at z
  simp only [List.mem_cons, List.not_mem_nil, or_false] at z
  rcases z with z | z
  · exact Nat.ne_of_lt lb z
  · exact Nat.ne_of_lt (Nat.lt_succ_of_lt lb) z
theorem set_of_list {Q : Value → Shared → Prop} (hh : A.handled = none) (hl : s.heap.IsList l items) (hi : IntsAre items.toList ns) (hb : ns.length + 1 < scanBound) (h : ∀ s', SetMade w ns s s' → Q (.ref s.heap.objs.size) s') :
    wpAny (model P w) A (call (.type "set") [.ref l]) Q E s := by
  obtain ⟨_, _, hmro⟩ := F.called_set.mro
  have c1 := F.called_set.made
  have c2 := F.called_set.sub
  have c3 := F.called_set.notType
  have c4 := F.called_set.canCreate
  have c5 := F.typeCall_set_1 (.ref l)
  refine wpAny_call (codeAny_of_tree ?_)
  show wpAny _ _ (callAny (.type "set") _) _ _ _
  refine wpAny_pure ⟨Code.quiet_builtin _ (by decide +kernel), codeAny_builtin F.entry_type_call ?_⟩
  rw [Around.under_plain (weight_type_call_type "set" [.ref l] []) rfl]
  repeat any_goals first | assumption | wp_step
  refine codeAny_mono (code_set_led1 (.ref l) (E := E) (Q₁ := fun ob s₁ => ob = .ref s.heap.objs.size ∧ s₁ = { s with heap := s.heap.push (eset w) }) ⟨rfl, rfl⟩) fun r s₁ hr => ?_
  rcases r with e | fl
  · exact hr
  · cases fl with
    | ret ob =>
      obtain ⟨rfl, rfl⟩ := hr
      have hT : Shared.TypeIs { s with heap := s.heap.push (eset w) } (.ref s.heap.objs.size) "set" := ⟨_, Heap.get?_push_size _ rfl, rfl⟩
      have c6 := F.called_set.init.lookup
      have c7 := F.called_set.init.bind (.ref s.heap.objs.size)
      repeat any_goals first | assumption | wp_step
      refine codeAny_mono (codeAny_call_builtin (R := wants (fun r s₂ => r = .none ∧ SetMade w ns s s₂) E) F.called_set.init.plain F.entry_set_init (check_set_init_1 hT ?_)) fun r₂ s₂ hr₂ => ?_
      · exact set_fill (by first | exact hh | simp [hh]) hl hi hb
      · rcases r₂ with e | fl₂
        · exact hr₂
        · cases fl₂ with
          | ret r =>
            obtain ⟨rfl, hm⟩ := hr₂
            repeat any_goals first | assumption | wp_step
            exact h _ hm
          | _ => exact hr₂.elim
    | _ => exact hr.elim
end

/-! ### sorted, without doubles -/
def insU (a : Int) : List Int → List Int
  | [] => [a]
  | b :: bs => if a < b then a :: b :: bs else if a = b then b :: bs else b :: insU a bs
def sortU : List Int → List Int
  | [] => []
  | a :: as => insU a (sortU as)
theorem mem_insU {a k : Int} : ∀ {l : List Int}, k ∈ insU a l ↔ k = a ∨ k ∈ l
  | [] => by simp [insU]
  | b :: bs => by
    rw [insU]
    split
    · simp
    · split
      · rename_i h
        subst h
        simp
      · rw [List.mem_cons, mem_insU (l := bs), List.mem_cons]
        exact ⟨fun h => by rcases h with h | h | h <;> simp [h], fun h => by rcases h with h | h | h <;> simp [h]⟩
theorem insU_lt {a : Int} : ∀ {l : List Int}, l.Pairwise (· < ·) → (insU a l).Pairwise (· < ·)
  | [], _ => by simp [insU]
  | b :: bs, h => by
    obtain ⟨h1, h2⟩ := List.pairwise_cons.mp h
    rw [insU]
    split
    · rename_i hl
      refine List.pairwise_cons.mpr ⟨fun y hy => ?_, h⟩
      rcases List.mem_cons.mp hy with e | e
      · rw [e]; exact hl
      · exact Int.lt_trans hl (h1 y e)
    · split
      · exact h
      · rename_i n1 n2
        refine List.pairwise_cons.mpr ⟨fun y hy => ?_, insU_lt h2⟩
        rcases mem_insU.mp hy with e | e
        · rw [e]; omega
        · exact h1 y e
theorem mem_sortU {k : Int} : ∀ {l : List Int}, k ∈ sortU l ↔ k ∈ l
  | [] => by simp [sortU]
  | a :: as => by rw [sortU, mem_insU, mem_sortU, List.mem_cons]
theorem sortU_lt : ∀ l : List Int, (sortU l).Pairwise (· < ·)
  | [] => by simp [sortU]
  | a :: as => insU_lt (sortU_lt as)
theorem lt_unique : ∀ {l m : List Int}, l.Pairwise (· < ·) → m.Pairwise (· < ·) → (∀ k, k ∈ l ↔ k ∈ m) → l = m
  | [], [], _, _, _ => rfl
  | [], b :: bs, _, _, h => by have := (h b).mpr (by simp); simp at this
  | a :: as, [], _, _, h => by have := (h a).mp (by simp); simp at this
  | a :: as, b :: bs, p, q, h => by
    obtain ⟨p1, p2⟩ := List.pairwise_cons.mp p
    obtain ⟨q1, q2⟩ := List.pairwise_cons.mp q
    have hab : a = b := by
      rcases List.mem_cons.mp ((h a).mp (by simp)) with e | e
      · exact e
      · rcases List.mem_cons.mp ((h b).mpr (by simp)) with e' | e'
        · exact e'.symm
        · have := q1 a e
          have := p1 b e'
          omega
    subst hab
    congr 1
    refine lt_unique p2 q2 fun k => ⟨fun hk => ?_, fun hk => ?_⟩
    · rcases List.mem_cons.mp ((h k).mp (List.mem_cons_of_mem _ hk)) with e | e
      · have := p1 k hk; omega
      · exact e
    · rcases List.mem_cons.mp ((h k).mpr (List.mem_cons_of_mem _ hk)) with e | e
      · have := q1 k hk; omega
      · exact e
theorem nodup_lt {l : List Int} (h : l.Pairwise (· < ·)) : l.Nodup := h.imp fun h => by omega
theorem same_len : ∀ {l m : List Int}, l.Nodup → m.Nodup → (∀ k, k ∈ l ↔ k ∈ m) → l.length = m.length := fun h k e =>
  ((List.perm_ext_iff_of_nodup h k).mpr e).length_eq
theorem setR_count {w : World} {h : Heap} {a : Addr} {ns : List Int} {n : Nat} (R : SetR w h a (fun j => decide (j ∈ ns)) n) : n = (sortU ns).length := by
  obtain ⟨o, es, ep, t, _, _, _, _, nd, hm, _, _, hn, _⟩ := R
  have e : (es.toList.map keyOf).length = (sortU ns).length := same_len nd (nodup_lt (sortU_lt ns)) fun k => by rw [← hm k, mem_sortU, decide_eq_true_eq]
  rw [List.length_map, Array.length_toList] at e
  omega
variable [KK]
section
variable {X : Cx} [ok : OK X] {W : WX} {e : Expr} {φ ψ : En → R Rv} {p p2 pos pos2 : Pos}
def rSetI (w : World) : List V → Hp → VK → Prop := fun vs H Q => ∃ a ns, vs = [.ref a] ∧ (Rl H a (ns.map V.int) ∨ Rd H a (.tup (ns.map V.int))) ∧ ns.length ≤ 4000 ∧ ∀ q, H q = none → Q (.ref q) (upd H q (SetO w q (fun j => decide (j ∈ ns)) (sortU ns).length))
theorem c_set (hc : X.calm = true) : CallR X (.type "set") (rSetI X.w) := by
  intro pins s σ H vs us Q I r h
  obtain ⟨a, ns, rfl, hs, hz, q⟩ := h
  rw [Vals.ref1 r]
  have hb : ns.length + 1 < scanBound := by show _ < 4096; omega
  rcases hs with hs | hs
  · obtain ⟨_, its, n, rv, _, g⟩ := rd_list I hs
    refine set_of_list (ns := ns) (I.ok.hd hc) ⟨_, g, rfl, n, rfl⟩ (by simpa using ints_of_vals rv) hb fun s' hm => ?_
    obtain ⟨h', tk, c, rfl, R, _, k⟩ := hm
    obtain rfl := setR_count R
    exact ⟨.ref _, _, I.laid (t' := tk) k (Nat.le_refl _) (setO_new R), rfl, q _ (I.hok.fresh (Nat.le_refl _))⟩
  · obtain ⟨its, rv, pl, _⟩ := I.tuple (.inl hs)
    refine call_set_tupI ns (I.ok.hd hc) pl (by simpa using ints_of_vals rv) hb fun h' tk c R _ k => ?_
    obtain rfl := setR_count R
    exact ⟨.ref _, _, I.laid (t' := tk) k (Nat.le_refl _) (setO_new R), rfl, q _ (I.hok.fresh (Nat.le_refl _))⟩
theorem c_lenSet : CallR X (.builtin "len") (fun vs H Q => ∃ a S n, vs = [V.ref a] ∧ H a = some (SetO X.w a S n) ∧ Q (.int (n : Nat)) H) := by
  intro pins s σ H vs us Q I r h
  obtain ⟨a, S, n, rfl, ha, q⟩ := h
  rw [Vals.ref1 r]
  obtain ⟨o, es, ep, t, ho, hex, hd, _, _, _, hb, hf, hn, _⟩ := setO_get I ha
  refine call_len_set ho hex hd hf (by have : es.size < 4096 := hb; omega) ?_
  rw [hn]
  exact ⟨.int (n : Nat), H, I.tok _, ⟨_, rfl⟩, q⟩
def intsOf (r : Rv) : R (List Int) := match r.dat with
  | .list ds => match asInts ds with
    | some ns => .ok ns
    | none => .bad
  | .tuple ds => match asInts ds with
    | some ns => .ok ns
    | none => .bad
  | _ => .bad
theorem intsOf_no {r : Rv} {c : Str} : intsOf r ≠ .err c := by
  unfold intsOf
  split
  · split <;> exact fun h => nomatch h
  · split <;> exact fun h => nomatch h
  · exact fun h => nomatch h
theorem intsOf_ok {r : Rv} {ns : List Int} {Hk H : Hp} {σ : Sl} {v : V} (h : intsOf r = .ok ns) (x : Ex Hk H) (d : Den Hk H σ r v) : ∃ a, v = .ref a ∧ (Rl H a (ns.map V.int) ∨ Rd H a (.tup (ns.map V.int))) := by
  unfold intsOf at h
  split at h
  · rename_i ds h1
    split at h
    · rename_i ms h2
      cases h
      obtain ⟨l, xs, rfl, s1, r1⟩ := d.kList x h1
      rw [asInts_eq h2] at r1
      rw [RpAll.ints r1] at s1
      exact ⟨l, rfl, .inl s1⟩
    · cases h
  · rename_i ds h1
    split at h
    · rename_i ms h2
      cases h
      obtain ⟨l, xs, rfl, s1, r1, _⟩ := d.kTuple x h1
      rw [asInts_eq h2] at r1
      rw [RpAll.ints r1] at s1
      exact ⟨l, rfl, .inr s1⟩
    · cases h
  · cases h
def gSS (x : Rv) : R Rv := intsOf x >>= fun ns => if ns.length ≤ 4000 ∧ (sortU ns).length < 64 then .ok (.own ((sortU ns).map PyData.int)) else .bad
def gLS (x : Rv) : R Rv := intsOf x >>= fun ns => if ns.length ≤ 4000 then .ok (.val (.int ((sortU ns).length : Nat))) else .bad
theorem d_ss (hc : X.calm = true) (h : PE X e (te X.K W φ)) (hm : X.mg "sorted" = none) (hm2 : X.mg "set" = none) (hg : Gl X "sorted" := by rfl) (hg2 : Gl X "set" := by rfl) (hs : starEach [e] X.env = (false, eval e X.env) :: starEach [] X.env := by rfl)
    (hs2 : starEach [.Call (.Name "set" p2) [e] [] pos2] X.env = (false, eval (.Call (.Name "set" p2) [e] [] pos2) X.env) :: starEach [] X.env := by rfl) (hpl : (backTo pos (starEach [] X.env)).any (·.1) = false := by rfl) (hpl2 : (backTo pos2 (starEach [] X.env)).any (·.1) = false := by rfl) :
    PE X (.Call (.Name "sorted" p) [.Call (.Name "set" p2) [e] [] pos2] [] pos) (te X.K W (e1 gSS φ)) :=
  pe_imp (pe_callB (cr_sortedSet hc) hg hm boot_sorted (pa_cons (pe_callTy (c_set hc) hg2 hm2 PyProof.Rows.boot_set (pa_cons h pa_nil hs) (by decide) (by decide) hs hpl2) pa_nil hs2) (by decide) (by decide) hs2 hpl) fun σ H Q ⟨Hk0, H0, Hk, ρ, r, p⟩ =>
    te_thenF (g := gSS) r p fun x v Hk' H' g d n r' p' => by
      unfold gSS at p'
      cases q : intsOf x with
      | err c => exact absurd q intsOf_no
      | bad => rw [q] at p'; exact p'.elim
      | ok ns =>
        rw [q] at p'
        have p' : PostE X.K W Hk H σ Q (if ns.length ≤ 4000 ∧ (sortU ns).length < 64 then .ok (.own ((sortU ns).map PyData.int)) else .bad) := p'
        split at p'
        · rename_i hz
          obtain ⟨a, rfl, hs⟩ := intsOf_ok q g.kh d
          refine ⟨a, ns, rfl, hs, hz.1, fun b hb => ⟨b, _, _, rfl, upd_same, hz.2, fun ms l h1 h2 h3 h4 => ?_⟩⟩
          obtain rfl : ms = sortU ns := lt_unique h1 (sortU_lt ns) fun k => by rw [h2 k, mem_sortU, decide_eq_true_eq]
          have g2 := g.trans (Gr.own (o := SetO X.w b (fun j => decide (j ∈ ns)) (sortU ns).length) g.kh hb)
          have g3 := g2.trans (Gr.own (o := .lst ((sortU ns).map V.int)) g2.kh h4)
          exact p' _ Hk' _ g3 ⟨l, rfl, g2.h.back h4⟩ ⟨l, _, rfl, Evl.fresh_back g2.kh h4, upd_same, RpAll.ofInts _⟩
        · exact p'.elim
theorem d_ls (hc : X.calm = true) (h : PE X e (te X.K W φ)) (hm : X.mg "len" = none) (hm2 : X.mg "set" = none) (hg : Gl X "len" := by rfl) (hg2 : Gl X "set" := by rfl) (hs : starEach [e] X.env = (false, eval e X.env) :: starEach [] X.env := by rfl)
    (hs2 : starEach [.Call (.Name "set" p2) [e] [] pos2] X.env = (false, eval (.Call (.Name "set" p2) [e] [] pos2) X.env) :: starEach [] X.env := by rfl) (hpl : (backTo pos (starEach [] X.env)).any (·.1) = false := by rfl) (hpl2 : (backTo pos2 (starEach [] X.env)).any (·.1) = false := by rfl) :
    PE X (.Call (.Name "len" p) [.Call (.Name "set" p2) [e] [] pos2] [] pos) (te X.K W (e1 gLS φ)) :=
  pe_imp (pe_callB c_lenSet hg hm boot_len (pa_cons (pe_callTy (c_set hc) hg2 hm2 PyProof.Rows.boot_set (pa_cons h pa_nil hs) (by decide) (by decide) hs hpl2) pa_nil hs2) (by decide) (by decide) hs2 hpl) fun σ H Q ⟨Hk0, H0, Hk, ρ, r, p⟩ =>
    te_thenF (g := gLS) r p fun x v Hk' H' g d n r' p' => by
      unfold gLS at p'
      cases q : intsOf x with
      | err c => exact absurd q intsOf_no
      | bad => rw [q] at p'; exact p'.elim
      | ok ns =>
        rw [q] at p'
        have p' : PostE X.K W Hk H σ Q (if ns.length ≤ 4000 then .ok (.val (.int ((sortU ns).length : Nat))) else .bad) := p'
        split at p'
        · rename_i hz
          obtain ⟨a, rfl, hs⟩ := intsOf_ok q g.kh d
          refine ⟨a, ns, rfl, hs, hz, fun b hb => ⟨b, _, _, rfl, upd_same, ?_⟩⟩
          have g2 := g.trans (Gr.own (o := SetO X.w b (fun j => decide (j ∈ ns)) (sortU ns).length) g.kh hb)
          exact p' _ Hk' _ g2 trivial (Rp.int _)
        · exact p'.elim
end
end Py

set_option Elab.async false
set_option linter.all false
set_option maxRecDepth 100000
set_option autoImplicit false
set_option maxHeartbeats 4000000
/-! PyY: sorted(set(..)) of pairs of ints. -/
namespace Py
open PySem L2 PyProof.Rows
open Evl (Ex)
def pLt (p q : Int × Int) : Prop := p.1 < q.1 ∨ (p.1 = q.1 ∧ p.2 < q.2)
instance pLtDec (p q : Int × Int) : Decidable (pLt p q) := inferInstanceAs (Decidable (_ ∨ _))
def insP (a : Int × Int) : List (Int × Int) → List (Int × Int)
  | [] => [a]
  | b :: bs => if pLt a b then a :: b :: bs else if a = b then b :: bs else b :: insP a bs
def sortP : List (Int × Int) → List (Int × Int)
  | [] => []
  | a :: as => insP a (sortP as)
theorem mem_insP {a k : Int × Int} : ∀ {l : List (Int × Int)}, k ∈ insP a l ↔ k = a ∨ k ∈ l
  | [] => by simp [insP]
  | b :: bs => by
    rw [insP]
    split
    · simp
    · split
      · rename_i h
        subst h
        simp
      · rw [List.mem_cons, mem_insP (l := bs), List.mem_cons]
        exact ⟨fun h => by rcases h with h | h | h <;> simp [h], fun h => by rcases h with h | h | h <;> simp [h]⟩
theorem pLt_trans {a b c : Int × Int} (h : pLt a b) (k : pLt b c) : pLt a c := by unfold pLt at *; omega
theorem pLt_irr {a : Int × Int} : ¬ pLt a a := by unfold pLt; omega
theorem pLt_tot {a b : Int × Int} (h : ¬ pLt a b) (k : a ≠ b) : pLt b a := by
  unfold pLt at *
  have : a.1 ≠ b.1 ∨ a.2 ≠ b.2 := by
    by_cases e : a.1 = b.1
    · exact .inr fun z => k (Prod.ext e z)
    · exact .inl e
  omega
theorem insP_lt {a : Int × Int} : ∀ {l : List (Int × Int)}, l.Pairwise pLt → (insP a l).Pairwise pLt
  | [], _ => by simp [insP]
  | b :: bs, h => by
    obtain ⟨h1, h2⟩ := List.pairwise_cons.mp h
    rw [insP]
    split
    · rename_i hl
      refine List.pairwise_cons.mpr ⟨fun y hy => ?_, h⟩
      rcases List.mem_cons.mp hy with e | e
      · rw [e]; exact hl
      · exact pLt_trans hl (h1 y e)
    · split
      · exact h
      · rename_i n1 n2
        refine List.pairwise_cons.mpr ⟨fun y hy => ?_, insP_lt h2⟩
        rcases mem_insP.mp hy with e | e
        · rw [e]; exact pLt_tot n1 n2
        · exact h1 y e
theorem mem_sortP {k : Int × Int} : ∀ {l : List (Int × Int)}, k ∈ sortP l ↔ k ∈ l
  | [] => by simp [sortP]
  | a :: as => by rw [sortP, mem_insP, mem_sortP, List.mem_cons]
theorem sortP_lt : ∀ l : List (Int × Int), (sortP l).Pairwise pLt
  | [] => by simp [sortP]
  | a :: as => insP_lt (sortP_lt as)
theorem ltP_unique : ∀ {l m : List (Int × Int)}, l.Pairwise pLt → m.Pairwise pLt → (∀ k, k ∈ l ↔ k ∈ m) → l = m
  | [], [], _, _, _ => rfl
  | [], b :: bs, _, _, h => by have := (h b).mpr (by simp); simp at this
  | a :: as, [], _, _, h => by have := (h a).mp (by simp); simp at this
  | a :: as, b :: bs, p, q, h => by
    obtain ⟨p1, p2⟩ := List.pairwise_cons.mp p
    obtain ⟨q1, q2⟩ := List.pairwise_cons.mp q
    have hab : a = b := by
      rcases List.mem_cons.mp ((h a).mp (by simp)) with e | e
      · exact e
      · rcases List.mem_cons.mp ((h b).mpr (by simp)) with e' | e'
        · exact e'.symm
        · exact absurd (pLt_trans (q1 a e) (p1 b e')) pLt_irr
    subst hab
    congr 1
    refine ltP_unique p2 q2 fun k => ⟨fun hk => ?_, fun hk => ?_⟩
    · rcases List.mem_cons.mp ((h k).mp (List.mem_cons_of_mem _ hk)) with e | e
      · exact absurd (e ▸ p1 k hk) pLt_irr
      · exact e
    · rcases List.mem_cons.mp ((h k).mpr (List.mem_cons_of_mem _ hk)) with e | e
      · exact absurd (e ▸ q1 k hk) pLt_irr
      · exact e
abbrev prD (p : Int × Int) : PyData := .tuple [.int p.1, .int p.2]
def asPairs : List PyData → Option (List (Int × Int))
  | [] => some []
  | .tuple [.int a, .int b] :: ds => (asPairs ds).map ((a, b) :: ·)
  | _ => none
theorem asPairs_map : ∀ ps : List (Int × Int), asPairs (ps.map prD) = some ps
  | [] => rfl
  | p :: ps => by
    rw [List.map_cons, asPairs, asPairs_map ps]
    rfl
theorem asPairs_eq : ∀ {ds : List PyData} {ps : List (Int × Int)}, asPairs ds = some ps → ds = ps.map prD
  | [], ps, h => by cases h; rfl
  | d :: ds, ps, h => by
    unfold asPairs at h
    split at h
    · rename_i e; exact absurd e (by simp)
    · rename_i a b ds' e
      cases e
      cases q : asPairs ds with
      | none => rw [q] at h; cases h
      | some qs =>
        rw [q] at h
        cases h
        rw [asPairs_eq q]
        rfl
    · cases h
def li2 (p : Int × Int) : List Int := [p.1, p.2]
def p2 (l : List Int) : Int × Int := (l.getD 0 0, l.getD 1 0)
theorem p2_li2 (p : Int × Int) : p2 (li2 p) = p := rfl
def gSP (x : Rv) : R Rv := match x.dat with
  | .list ds => match asPairs ds with
    | some ps => if ps.length < 64 ∧ (∀ p ∈ ps, (0 ≤ p.1 ∧ p.1 < 2000) ∧ 0 ≤ p.2 ∧ p.2 < 2000) then .ok (.own ((sortP ps).map prD)) else .bad
    | none => .bad
  | _ => .bad
theorem code2 (p : Int × Int) : TS.code 2000 (li2 p) = p.1 * 2000 + p.2 := by
  show p.1 * 2000 ^ 1 + (p.2 * 2000 ^ 0 + 0) = _
  omega
variable [KK]
theorem RpAll.pairs {H : Hp} : ∀ {xs : List V} {ps : List (Int × Int)}, RpAll H xs (ps.map prD) → ∃ ks : List (Addr × List Int), xs = ks.map (fun p => V.ref p.1) ∧ ks.map (·.2) = ps.map li2 ∧ ∀ p ∈ ks, Rd H p.1 (.tup (p.2.map V.int))
  | [], [], _ => ⟨[], rfl, rfl, by simp⟩
  | x :: xs, p :: ps, h => by
    cases h with
    | cons a b =>
      obtain ⟨ks, e1, e2, e3⟩ := RpAll.pairs b
      cases a with
      | tup h r =>
        rename_i t ys
        have hy : ys = [V.int p.1, V.int p.2] := RpAll.ints (ns := [p.1, p.2]) r
        subst hy
        refine ⟨(t, li2 p) :: ks, by rw [e1]; rfl, by rw [List.map_cons, e2]; rfl, fun q hq => ?_⟩
        rcases List.mem_cons.mp hq with rfl | hq
        · exact h
        · exact e3 q hq
  | [], p :: ps, h => by cases h
  | x :: xs, [], h => by cases h
theorem rpAll_refs {H : Hp} : ∀ {L : List (Addr × List Int)}, (∀ p ∈ L, Rd H p.1 (.tup (p.2.map V.int)) ∧ ∃ q, p.2 = li2 q) → RpAll H (L.map fun p => V.ref p.1) ((L.map fun p => p2 p.2).map prD)
  | [], _ => .nil
  | p :: L, h => by
    obtain ⟨h1, q, h2⟩ := h p (by simp)
    refine .cons ?_ (rpAll_refs fun r hr => h r (List.mem_cons_of_mem _ hr))
    rw [h2] at h1
    show Rp H (V.ref p.1) (prD (p2 p.2))
    rw [h2]
    exact .tup h1 (.cons (.int _) (.cons (.int _) .nil))
section
variable {X : Cx} [ok : OK X] {W : WX} {e : Expr} {φ ψ : En → R Rv} {p p2 pos pos2 : Pos}
theorem d_sp {k : Nat} (hr : Room k X.A) (hc : X.calm = true) (h : PE X e (te X.K W φ)) (hm : X.mg "sorted" = none) (hm2 : X.mg "set" = none) (hg : Gl X "sorted" := by rfl) (hg2 : Gl X "set" := by rfl) (hs : starEach [e] X.env = (false, eval e X.env) :: starEach [] X.env := by rfl)
    (hs2 : starEach [.Call (.Name "set" p2) [e] [] pos2] X.env = (false, eval (.Call (.Name "set" p2) [e] [] pos2) X.env) :: starEach [] X.env := by rfl) (hpl : (backTo pos (starEach [] X.env)).any (·.1) = false := by rfl) (hpl2 : (backTo pos2 (starEach [] X.env)).any (·.1) = false := by rfl) :
    PE X (.Call (.Name "sorted" p) [.Call (.Name "set" p2) [e] [] pos2] [] pos) (te X.K W (e1 gSP φ)) :=
  pe_imp (pe_callB (cr_sortedT hc) hg hm boot_sorted (pa_cons (pe_callTy (cr_setOfT hc (by have := hr.units; omega)) hg2 hm2 PyProof.Rows.boot_set (pa_cons h pa_nil hs) (by decide) (by decide) hs hpl2) pa_nil hs2) (by decide) (by decide) hs2 hpl) fun σ H Q ⟨Hk0, H0, Hk, ρ, r, p⟩ =>
    te_thenF (g := gSP) r p fun x v Hk' H' g d n r' p' => by
      unfold gSP at p'
      split at p'
      · rename_i ds h1
        split at p'
        · rename_i ps h2
          split at p'
          · rename_i hz
            obtain ⟨hz, hB⟩ := hz
            obtain ⟨a, xs, rfl, s1, r1⟩ := d.kList g.kh h1
            rw [asPairs_eq h2] at r1
            obtain ⟨ks, rfl, e2, e3⟩ := RpAll.pairs r1
            have hl : ks.length = ps.length := by have := congrArg List.length e2; simpa using this
            have sT : ∀ p ∈ ks, Rd H' p.1 (.tup (p.2.map V.int)) := fun p hp => Evl.ex_rd g.kh (e3 p hp)
            have mk : ∀ p ∈ ks, ∃ q ∈ ps, p.2 = li2 q := fun p hp => by
              have : p.2 ∈ ks.map (·.2) := List.mem_map.mpr ⟨p, hp, rfl⟩
              rw [e2] at this
              obtain ⟨q, hq, e⟩ := List.mem_map.mp this
              exact ⟨q, hq, e.symm⟩
            refine ⟨a, ks, rfl, by rw [ok.eq]; exact s1.sqK, fun p hp => .inl (sT p hp), by omega, fun b L hb hsub hall => ⟨b, L, 2, 2000, rfl, upd_same, fun p hp => ?_, by omega, fun p hp => ?_, fun L' l pm nd lt pw hl' => ?_⟩⟩
            · exact .inl (Evl.ex_rd (Ex.new (o := SetTO X.prog X.w b L) hb) (sT p (hsub p hp)))
            · obtain ⟨q, hq, e⟩ := mk p (hsub p hp)
              rw [e]
              refine ⟨rfl, fun m hm => ?_⟩
              have := hB q hq
              simp only [li2, List.mem_cons, List.not_mem_nil, or_false] at hm
              omega
            · have mL : ∀ p ∈ L', ∃ q ∈ ps, p.2 = li2 q := fun p hp => mk p (hsub p (pm.mem_iff.mp hp))
              have eq : (L'.map fun p => Py.p2 p.2) = sortP ps := by
                refine ltP_unique ?_ (sortP_lt ps) fun k => ?_
                · rw [List.pairwise_map]
                  have nd' : L'.Pairwise fun q r => q.2 ≠ r.2 := List.pairwise_map.mp nd
                  refine List.Pairwise.imp_of_mem (fun {q r} hq hr h => ?_) (pw.and nd')
                  obtain ⟨q', hq', eq'⟩ := mL q hq
                  obtain ⟨r', hr', er'⟩ := mL r hr
                  obtain ⟨h1, h2⟩ := h
                  rw [eq', er'] at h1 h2
                  rw [eq', er', p2_li2, p2_li2]
                  rw [code2, code2] at h1
                  have b1 := hB q' hq'
                  have b2 := hB r' hr'
                  have ne : q'.1 ≠ r'.1 ∨ q'.2 ≠ r'.2 := by
                    by_cases e : q'.1 = r'.1
                    · exact .inr fun z => h2 (by rw [Prod.ext e z])
                    · exact .inl e
                  unfold pLt
                  omega
                · rw [mem_sortP, List.mem_map]
                  constructor
                  · rintro ⟨p, hp, rfl⟩
                    obtain ⟨q, hq, e⟩ := mL p hp
                    rw [e, p2_li2]
                    exact hq
                  · intro hk
                    have : li2 k ∈ ks.map (·.2) := by rw [e2]; exact List.mem_map.mpr ⟨k, hk, rfl⟩
                    obtain ⟨p, hp, e⟩ := List.mem_map.mp this
                    obtain ⟨q, hq, e'⟩ := List.mem_map.mp (hall p hp)
                    exact ⟨q, pm.mem_iff.mpr hq, by rw [e', e, p2_li2]⟩
              have g2 := g.trans (Gr.own (o := SetTO X.prog X.w b L) g.kh hb)
              have g3 := g2.trans (Gr.own (o := .lst (L'.map fun q => V.ref q.1)) g2.kh hl')
              refine p' _ Hk' _ g3 ⟨l, rfl, g2.h.back hl'⟩ ⟨l, _, rfl, Evl.fresh_back g2.kh hl', upd_same, ?_⟩
              rw [← eq]
              exact rpAll_refs fun p hp => ⟨e3 p (hsub p (pm.mem_iff.mp hp)), by obtain ⟨q, _, e⟩ := mL p hp; exact ⟨q, e⟩⟩
          · exact p'.elim
        · exact p'.elim
      · exact p'.elim
end
end Py

set_option Elab.async false
set_option linter.all false
set_option maxRecDepth 100000
set_option autoImplicit false
set_option maxHeartbeats 1000000
/-! PyW: the rules as they are named by the printed walks. -/
namespace Py
variable [KK]
open PySem L2
open Evl (Ex)
def eF (φ : En → R Rv) : En → R Rv := fun ρ => φ ρ >>= fun r => .ok (frz r)
section
variable {X : Cx} [ok : OK X] {W : WX} {e e' : Expr} {φ ψ : En → R Rv} {p p2 pos pos2 : Pos} {φs : List (En → R Rv)} {es : List Expr}
theorem d_fz (h : PE X e (te X.K W φ)) : PE X e (te X.K W (eF φ)) := e_frz h
def eNeg (φ : En → R Rv) : En → R Rv := fun ρ => φ ρ >>= fun x => (frz x).toInt >>= fun i => .ok (.val (.int (-i)))
theorem d_neg (h : PE X e (te X.K W φ)) : PE X (.UnaryOp .USub e pos) (te X.K W (eNeg φ)) := pe_imp (pe_un un_neg h) fun σ H Q ⟨Hk0, H0, Hk, ρ, r, p⟩ =>
  te_thenF (g := fun x => x.toInt >>= fun i => .ok (.val (.int (-i)))) r p fun x v Hk' H' g d n r' p' => by
    cases q : x.toInt with
    | err c => exact absurd q toInt_no
    | bad => rw [q] at p'; exact p'.elim
    | ok i => rw [q] at p'; rw [d.int q]; exact ⟨i, rfl, p' _ Hk' H' g trivial (Rp.int _)⟩
theorem b_len : bootBuiltins "len" = some (.builtin "len") := by decide +kernel
theorem b_all : bootBuiltins "all" = some (.builtin "all") := by decide +kernel
theorem b_any : bootBuiltins "any" = some (.builtin "any") := by decide +kernel
theorem b_sum : bootBuiltins "sum" = some (.builtin "sum") := by decide +kernel
theorem b_max : bootBuiltins "max" = some (.builtin "max") := by decide +kernel
theorem b_min : bootBuiltins "min" = some (.builtin "min") := by decide +kernel
theorem b_sorted : bootBuiltins "sorted" = some (.builtin "sorted") := by decide +kernel
theorem b_tuple : bootBuiltins "tuple" = some (.type "tuple") := by decide +kernel
theorem b_list : bootBuiltins "list" = some (.type "list") := by decide +kernel
theorem b_int : bootBuiltins "int" = some (.type "int") := by decide +kernel
theorem b_bool : bootBuiltins "bool" = some (.type "bool") := by decide +kernel
theorem b_str : bootBuiltins "str" = some (.type "str") := by decide +kernel
/-! list(range(..)), tuple(range(..)) -/
def rgOk (i j : Int) : Prop := -(2 ^ 60) ≤ i ∧ i < 2 ^ 60 ∧ -(2 ^ 60) ≤ j ∧ j < 2 ^ 60 ∧ (j - i).toNat ≤ 1000000
instance (i j : Int) : Decidable (rgOk i j) := by unfold rgOk; infer_instance
def gRg (t : Bool) (i j : Int) : R Rv := if rgOk i j then (if t = true then .ok (.val (.tuple (rangeD i (j - i).toNat))) else .ok (.own (rangeD i (j - i).toNat))) else .bad
def eRg1 (t : Bool) (φ : En → R Rv) : En → R Rv := fun ρ => φ ρ >>= fun x => (frz x).toInt >>= fun j => gRg t 0 j
def eRg2 (t : Bool) (φ ψ : En → R Rv) : En → R Rv := fun ρ => φ ρ >>= fun x => ψ ρ >>= fun y => (frz x).toInt >>= fun i => (frz y).toInt >>= fun j => gRg t i j
theorem rgV_rp {Hk : Hp} (i j : Int) : RpAll Hk (rgV i j) (rangeD i (j - i).toNat) := by
  unfold rgV rangeD
  generalize (j - i).toNat = n
  induction n with
  | zero => exact .nil
  | succ n ih =>
    rw [List.range_succ, List.map_append, List.map_append]
    exact RpAll.append ih (.one (.int _))
theorem rgOk_rg {i j : Int} (h : rgOk i j) : RgOk i j := by
  obtain ⟨h1, h2, h3, h4, h5⟩ := h
  exact ⟨by omega, by omega, by omega, by omega, by omega⟩
theorem rg_list {Hk H : Hp} {σ : Sl} {Q : VK} {i j : Int} (x : Ex Hk H) (p : PostE X.K W Hk H σ Q (gRg false i j)) : RgOk i j ∧ ∀ q, H q = none → Q (.ref q) (upd H q (.lst (rgV i j))) := by
  unfold gRg at p
  split at p
  · rename_i h
    exact ⟨rgOk_rg h, own_new x p (rgV_rp i j)⟩
  · exact p.elim
theorem rg_tup {Hk H : Hp} {σ : Sl} {Q : VK} {i j : Int} (x : Ex Hk H) (p : PostE X.K W Hk H σ Q (gRg true i j)) : RgOk i j ∧ ∀ q, H q = none → Q (.ref q) (upd H q (.tup (rgV i j))) := by
  unfold gRg at p
  split at p
  · rename_i h
    exact ⟨rgOk_rg h, tup_new x p (rgV_rp i j)⟩
  · exact p.elim
theorem toInt_then {α : Type} {x : Rv} {g : Int → R α} {C : R α → Prop} (h : C (x.toInt >>= g)) (nb : ¬ C .bad) : ∃ i, x.toInt = .ok i ∧ C (g i) := by
  cases q : x.toInt with
  | err c => exact absurd q toInt_no
  | bad => rw [q] at h; exact absurd h nb
  | ok i => rw [q] at h; exact ⟨i, rfl, h⟩
theorem d_lrg1 (hc : X.calm = true) (h : PE X e (te X.K W φ)) (hm : X.mg "list" = none) (hr : X.mg "range" = none) (hg : Gl X "list" := by rfl) (hg2 : Gl X "range" := by rfl) (na : starEach [e] X.env = (false, eval e X.env) :: starEach [] X.env := by rfl)
    (nb : starEach [.Call (.Name "range" p2) [e] [] pos2] X.env = (false, eval (.Call (.Name "range" p2) [e] [] pos2) X.env) :: starEach [] X.env := by rfl) : PE X (.Call (.Name "list" p) [.Call (.Name "range" p2) [e] [] pos2] [] pos) (te X.K W (eRg1 false φ)) :=
  pe_imp (pe_listRg hc hg hm (prg_1 hg2 hr h na) nb) fun σ H Q ⟨Hk0, H0, Hk, ρ, r, p⟩ =>
    te_thenF (g := fun x => x.toInt >>= fun j => gRg false 0 j) r p fun x v Hk' H' g d n r' p' => by
      obtain ⟨j, q, p2⟩ := toInt_then (C := PostE X.K W Hk H σ Q) p' id
      rw [d.int q]
      exact ⟨j, rfl, rg_list g.kh (PostE.up g p2)⟩
theorem d_trg1 (hc : X.calm = true) (h : PE X e (te X.K W φ)) (hm : X.mg "tuple" = none) (hr : X.mg "range" = none) (hg : Gl X "tuple" := by rfl) (hg2 : Gl X "range" := by rfl) (na : starEach [e] X.env = (false, eval e X.env) :: starEach [] X.env := by rfl)
    (nb : starEach [.Call (.Name "range" p2) [e] [] pos2] X.env = (false, eval (.Call (.Name "range" p2) [e] [] pos2) X.env) :: starEach [] X.env := by rfl) : PE X (.Call (.Name "tuple" p) [.Call (.Name "range" p2) [e] [] pos2] [] pos) (te X.K W (eRg1 true φ)) :=
  pe_imp (pe_tupRg hc hg hm (prg_1 hg2 hr h na) nb) fun σ H Q ⟨Hk0, H0, Hk, ρ, r, p⟩ =>
    te_thenF (g := fun x => x.toInt >>= fun j => gRg true 0 j) r p fun x v Hk' H' g d n r' p' => by
      obtain ⟨j, q, p2⟩ := toInt_then (C := PostE X.K W Hk H σ Q) p' id
      rw [d.int q]
      exact ⟨j, rfl, rg_tup g.kh (PostE.up g p2)⟩
theorem d_lrg2 (hc : X.calm = true) (h : PE X e (te X.K W φ)) (h' : PE X e' (te X.K W ψ)) (hm : X.mg "list" = none) (hr : X.mg "range" = none) (hg : Gl X "list" := by rfl) (hg2 : Gl X "range" := by rfl) (na : starEach [e, e'] X.env = (false, eval e X.env) :: starEach [e'] X.env := by rfl)
    (na2 : starEach [e'] X.env = (false, eval e' X.env) :: starEach [] X.env := by rfl) (hp : (backTo pos2 (starEach [e'] X.env)).any (·.1) = false := by rfl)
    (nb : starEach [.Call (.Name "range" p2) [e, e'] [] pos2] X.env = (false, eval (.Call (.Name "range" p2) [e, e'] [] pos2) X.env) :: starEach [] X.env := by rfl) : PE X (.Call (.Name "list" p) [.Call (.Name "range" p2) [e, e'] [] pos2] [] pos) (te X.K W (eRg2 false φ ψ)) :=
  pe_imp (pe_listRg hc hg hm (prg_2 hg2 hr h h' na na2 hp) nb) fun σ H Q ⟨Hk0, H0, Hk, ρ, r, p⟩ =>
    te_thenF (g := fun x => ψ ρ >>= fun y => x.toInt >>= fun i => (frz y).toInt >>= fun j => gRg false i j) r p fun x v Hk1 H1 g1 d1 n1 r1 p1 =>
      te_thenF (g := fun y => x.toInt >>= fun i => y.toInt >>= fun j => gRg false i j) r1 (PostE.up g1 p1) fun y u Hk' H' g d n r' p' => by
        obtain ⟨i, q1, p2⟩ := toInt_then (C := PostE X.K W Hk1 H1 σ Q) p' id
        obtain ⟨j, q2, p3⟩ := toInt_then (C := PostE X.K W Hk1 H1 σ Q) p2 id
        rw [d1.int q1, d.int q2]
        exact ⟨i, j, rfl, rfl, rg_list g.kh (PostE.up g p3)⟩
theorem d_trg2 (hc : X.calm = true) (h : PE X e (te X.K W φ)) (h' : PE X e' (te X.K W ψ)) (hm : X.mg "tuple" = none) (hr : X.mg "range" = none) (hg : Gl X "tuple" := by rfl) (hg2 : Gl X "range" := by rfl) (na : starEach [e, e'] X.env = (false, eval e X.env) :: starEach [e'] X.env := by rfl)
    (na2 : starEach [e'] X.env = (false, eval e' X.env) :: starEach [] X.env := by rfl) (hp : (backTo pos2 (starEach [e'] X.env)).any (·.1) = false := by rfl)
    (nb : starEach [.Call (.Name "range" p2) [e, e'] [] pos2] X.env = (false, eval (.Call (.Name "range" p2) [e, e'] [] pos2) X.env) :: starEach [] X.env := by rfl) : PE X (.Call (.Name "tuple" p) [.Call (.Name "range" p2) [e, e'] [] pos2] [] pos) (te X.K W (eRg2 true φ ψ)) :=
  pe_imp (pe_tupRg hc hg hm (prg_2 hg2 hr h h' na na2 hp) nb) fun σ H Q ⟨Hk0, H0, Hk, ρ, r, p⟩ =>
    te_thenF (g := fun x => ψ ρ >>= fun y => x.toInt >>= fun i => (frz y).toInt >>= fun j => gRg true i j) r p fun x v Hk1 H1 g1 d1 n1 r1 p1 =>
      te_thenF (g := fun y => x.toInt >>= fun i => y.toInt >>= fun j => gRg true i j) r1 (PostE.up g1 p1) fun y u Hk' H' g d n r' p' => by
        obtain ⟨i, q1, p2⟩ := toInt_then (C := PostE X.K W Hk1 H1 σ Q) p' id
        obtain ⟨j, q2, p3⟩ := toInt_then (C := PostE X.K W Hk1 H1 σ Q) p2 id
        rw [d1.int q1, d.int q2]
        exact ⟨i, j, rfl, rfl, rg_tup g.kh (PostE.up g p3)⟩
end
/-! defs by name -/
def FOk (K : PySem.W.Frag) (P : Program) (w : World) (mg : Str → Option Value) (base : Heap) (k : Nat) (x : Str) (n : Nat) (G : List PyData → R Cr) : Prop :=
  ∃ (f : Addr) (fd : FuncData) (ps : List Str), mg x = some (.ref f) ∧ PySem.W.keepIn K (.ref f) = true ∧ Binds K fd ps [] ∧ FnOk P w K mg base (L2.CX P w) k f fd ps (spF K n G)
section
variable {X : Cx} [ok : OK X] {W : WX} {e : Expr} {es : List Expr} {φs : List (En → R Rv)} {x : Str} {p pos : Pos} {k j n : Nat} {G : List PyData → R Cr}
theorem d_fn (F : FOk X.K X.prog X.w X.mg X.base j x n G) (hr : Room k X.A) (hj : j ≤ k) (tk : Takes X W) (ha : PA X (e :: es) (ta X.K W φs)) (hn : φs.length = n := by rfl) (hg : Gl X x := by rfl) (hdb : (x == ("__debug__" : Str)) = false := by decide)
    (he : starEach (e :: es) X.env = (false, eval e X.env) :: starEach es X.env := by rfl) (hpl : (backTo pos (starEach es X.env)).any (·.1) = false := by rfl) : PE X (.Call (.Name x p) (e :: es) [] pos) (te X.K W (eCall G φs)) := by
  obtain ⟨f, fd, ps, hm, hk, hb, H⟩ := F
  exact d_call H (hr.mono hj) hm hk hb tk ha hn hg hdb he hpl
end
section
variable {P : Program} {w : World} {mg : Str → Option Value} {base : Heap} {x nm qual : Str} {params : Arguments} {body : List Stmt} {scope : Scope} {f : Addr} {fd : FuncData} {N ps : List Str} {k n : Nat} {Φ : En → R Out}
theorem fok (hm : mg x = some (.ref f)) (F : FunD KK.K nm qual params body scope [] [] f fd) (S : FnScope N ps scope) (hn : ps.length = n)
    (hb : ∀ (kV doc pm : Value) (an : Option Addr) (cdv ct : Value) (us : List Value), us.length = ps.length → bindArgs (PySem.W.fnOf nm qual params body scope .none kV doc pm an cdv ct) ⟨us, []⟩ = pure (ps.zip us))
    (hbody : ∀ (cdv : Value) (A : Around) (outer : List Env) (s : Shared) (H : Hp) (E : XK), Room k (A.deeper (PyProof.Rows.envOfC qual scope s.heap.objs.size f cdv)) →
      PSs (cxOf (L2.CX P w) P w KK.K mg base N qual scope f cdv A outer s H E) body (ts KK.K (fun cls d _ H => E cls d H) Φ)) :
    FOk KK.K P w mg base (k + 1) x n (fnR N.length Φ) := ⟨f, fd, ps, hm, F.kp, F.bindsN hb, by rw [← hn]; exact fn_ok F S hbody⟩
end
theorem frz_read {K : PySem.W.Frag} {W : WX} {φ : En → R Rv} {σ : Sl} {H : Hp} {Q : VK} (h : te K W (eF φ) σ H Q) : te K W φ σ H Q := by
  obtain ⟨Hk0, H0, Hk, ρ, r, p⟩ := h
  refine te_then r p fun x v Hk' H' g n d r' p' => ?_
  cases x with
  | val d' => exact p' v Hk' H' g trivial d
  | own ds =>
    obtain ⟨q, xs, a, b, c, f⟩ := d
    obtain ⟨q', a', b'⟩ := n
    subst a
    cases a'
    exact p' _ _ H' (g.frz b' c b) trivial (Rp.lst (.inl (.inl upd_same)) (RpAll.up (Ex.new b) f))
  | bor i ds => exact p' v Hk' H' g trivial d
section
variable {X : Cx} [OK X] {W : WX} {φ : En → R Rv} {pos : Pos}
theorem s_lcV {y : Str} {py : Pos} {elt tgt iter : Expr} {ifs : List Expr} {scope : Scope} {own : List (Str × Nat)} {spos : Pos} {ι : En → R (Bool × List PyData)} {τ : Pat} {T : En → R Bool} (i : Nat) (hc : X.calm = true) (hN : X.N.Nodup)
    (ok : BlkOk X.N X.env.scope scope own) (hi : PI X tgt iter (ti X.K W ι))
    (hg : ∀ (s : Shared) (H : Hp) (C : Addr) (cl : List (Str × Addr)) (fp : List Addr), PG (X.blk s H scope (compEnvC scope cl C X.env) fp) tgt (tg τ))
    (ht : ∀ (s : Shared) (H : Hp) (C : Addr) (cl : List (Str × Addr)) (fp : List Addr), PTs (X.blk s H scope (compEnvC scope cl C X.env) fp) ifs (tt X.K W0 T))
    (he : ∀ (s : Shared) (H : Hp) (C : Addr) (cl : List (Str × Addr)) (fp : List Addr), PE (X.blk s H scope (compEnvC scope cl C X.env) fp) elt (te X.K W0 φ))
    (hsw : swapsWith (.ListComp elt [⟨tgt, iter, ifs, 0⟩] scope pos) (some (.Name y py)) spos.line X.env = pure true)
    (hy : X.N[i]? = some y := by rfl) (hyl : X.env.scope.names.lookup y = some .local := by rfl)
    (hv : ∀ i ∈ slots τ, i ∈ own.map (·.2) := by decide) (hs : ∀ x, foldedSetIterable iter X.env x = pure x := by intro _; rfl) :
    PS X (.Assign [.Name y py] (.ListComp elt [⟨tgt, iter, ifs, 0⟩] scope pos) spos) (ts X.K W (sSet i (eF (eLc ι τ T φ (own.map (·.2)))))) :=
  ps_imp (ps_setLc hc hN hy hyl hsw hi ok hg ht he hs) fun D σ H h => lc_read hv (frz_read (set_read h))
end
end Py

set_option Elab.async false
set_option linter.all false
set_option maxRecDepth 100000
set_option autoImplicit false
set_option maxHeartbeats 4000000
/-! PyM: count, index, [::-1], enumerate, three at once. -/
namespace Py
variable [KK]
open PySem L2
open Evl (Ex)
def Rv.lst (r : Rv) : R (List PyData) := match r.dat with
  | .list ds => .ok ds
  | _ => .bad
theorem lst_ok {r : Rv} {ds : List PyData} (h : r.lst = .ok ds) : r.dat = .list ds := by
  unfold Rv.lst at h
  split at h
  · cases h; assumption
  · cases h
theorem lst_no {r : Rv} {c : Str} : r.lst ≠ .err c := by
  unfold Rv.lst
  split <;> exact fun h => nomatch h
/-- a method of a list with one argument -/
def eM (g : List PyData → Rv → R Rv) (φ ψ : En → R Rv) : En → R Rv := fun ρ => φ ρ >>= fun x => (frz x).lst >>= fun ds => ψ ρ >>= fun y => g ds (frz y)
def gCount (ds : List PyData) (b : Rv) : R Rv := if min (PyData.depthAll ds) b.dat.depth ≤ 60 then .ok (.val (.int (ds.countP (fun y => PyData.eqv y b.dat) : Nat))) else .bad
def gIndex (ds : List PyData) (b : Rv) : R Rv := if min (PyData.depthAll ds) b.dat.depth ≤ 60 ∧ ds.length ≤ 1000000 then (match ds.findIdx? (fun y => PyData.eqv y b.dat) with
  | some j => .ok (.val (.int (j : Nat)))
  | none => .bad) else .bad
def rM (K : PySem.W.Frag) (W : WX) (g : List PyData → Rv → R Rv) : V → List V → Hp → VK → Prop := fun x vs H Q => ∃ Hk σ a ds b v, Ex Hk H ∧ Den Hk H σ a x ∧ a.dat = .list ds ∧ vs = [v] ∧ Den Hk H σ b v ∧ PostE K W Hk H σ Q (g ds b)
section
variable {X : Cx} [ok : OK X] {W : WX} {o e : Expr} {φ ψ : En → R Rv}
theorem rl_ty {H : Hp} {a : Addr} {xs : List V} (h : Rl H a xs) : tyV X.K "list" (.ref a) H := .inl ⟨rfl, xs, h.sq⟩
theorem mt_count {k : Nat} (hr : Room k X.A) : MtM X "list.count" (rM X.K W gCount) := by
  intro pins s σ' H x vs v us Q I rx rv h
  obtain ⟨Hk, σ, a, ds, b, y, ex, da, hd, rfl, db, p⟩ := h
  obtain ⟨u, rfl, ru⟩ := rv.one
  obtain ⟨l, xs, rfl, s1, r1⟩ := da.kList ex hd
  cases rx
  obtain ⟨_, its, n, rz, _, g⟩ := rd_list I s1
  obtain ⟨as, ra⟩ := readsAll_of I ex r1 rz
  obtain ⟨bs, rb⟩ := den_reads I ex db ru
  unfold gCount at p
  split at p
  · rename_i hdp
    exact SeqAt.count_list_data ⟨_, g, rfl, n, rfl⟩ ra rb (RpAll.plain r1) (den_plain ex db) (units61 hr hdp) ⟨.int _, H, I.tok _, ⟨_, rfl⟩, p _ Hk H (Gr.refl ex) trivial (Rp.int _)⟩
  · exact p.elim
theorem mt_indexU (hu : X.A.units + 64 < cLine) : MtM X "list.index" (rM X.K W gIndex) := by
  intro pins s σ' H x vs v us Q I rx rv h
  obtain ⟨Hk, σ, a, ds, b, y, ex, da, hd, rfl, db, p⟩ := h
  obtain ⟨u, rfl, ru⟩ := rv.one
  obtain ⟨l, xs, rfl, s1, r1⟩ := da.kList ex hd
  cases rx
  obtain ⟨_, its, n, rz, _, g⟩ := rd_list I s1
  obtain ⟨as, ra⟩ := readsAll_of I ex r1 rz
  obtain ⟨bs, rb⟩ := den_reads I ex db ru
  unfold gIndex at p
  split at p
  · rename_i hdp
    split at p
    · rename_i j hj
      obtain ⟨hjl, h1, h2⟩ := SeqAt.hit_at ra (RpAll.plain r1) hj
      have hlen := SeqAt.len_at ra
      exact call_meets PySem.F.slot_list_index ⟨_, g, rfl⟩ PySem.F.entry_list_index (PySem.F.args_list_index_2 _ _) (SeqAt.list_indexAt l its.toArray n none #[] u _ j hjl (by omega) h1 h2)
        ⟨g, SeqAt.items_plain ra rb (RpAll.plain r1) (den_plain ex db) (by have := hdp.1; omega), .int _, H, I.tok _, ⟨_, rfl⟩, p _ Hk H (Gr.refl ex) trivial (Rp.int _)⟩
    · exact p.elim
  · exact p.elim
theorem mt_index {k : Nat} (hr : Room k X.A) : MtM X "list.index" (rM X.K W gIndex) := mt_indexU hr.units
theorem d_meth {name : Str} {id : String} {g : List PyData → Rv → R Rv} {ap cp : Pos} (hmt : MtM X id (rM X.K W g)) (slot : Slot "list" name id) (hty : typeOf (.builtin id) = pure (.type "method_descriptor")) (ho : PE X o (te X.K W φ)) (he : PE X e (te X.K W ψ))
    (hbase : attributeBase o name X.env (eval o X.env) = eval o X.env := by rfl)
    (hfew : ((backTo cp (starEach [e] X.env)).all (fun x => !x.1) && (backToKw cp (keywordEach [] X.env)).all (fun x => x.1.isSome) && decide ([e].length + ([] : List Keyword).length + (if ([] : List Keyword).isEmpty then 0 else 1) < 30)) = true := by rfl)
    (hline : (ap.endLine == cp.line) = true := by rfl) (hs : starEach [e] X.env = (false, eval e X.env) :: starEach [] X.env := by rfl) : PE X (.Call (.Attribute o name ap) [e] [] cp) (te X.K W (eM g φ ψ)) :=
  pe_imp (pe_bm PySem.F.plainAttrs_list slot hty hmt ho (pa_cons he pa_nil hs) hbase hfew hline hs) fun σ H Q ⟨Hk0, H0, Hk, ρ, r, p⟩ =>
    te_thenF (g := fun x => x.lst >>= fun ds => ψ ρ >>= fun y => g ds (frz y)) r p fun x v Hk1 H1 g1 d1 n1 r1 p1 => by
      cases q : x.lst with
      | err c => exact absurd q lst_no
      | bad => rw [q] at p1; exact p1.elim
      | ok ds =>
        rw [q] at p1
        have hd := lst_ok q
        obtain ⟨l, xs, rfl, s1, _⟩ := d1.kList g1.kh hd
        refine ⟨rl_ty s1, te_thenF (g := fun y => g ds y) r1 (PostE.up g1 p1) fun y u Hk2 H2 g2 d2 n2 r2 p2 => ?_⟩
        exact ⟨Hk2, σ, x, ds, y, u, g2.kh, Den.up g2 d1, hd, rfl, d2, PostE.up g2 p2⟩
theorem d_count {ap cp : Pos} {k : Nat} (hr : Room k X.A) (ho : PE X o (te X.K W φ)) (he : PE X e (te X.K W ψ)) (hbase : attributeBase o "count" X.env (eval o X.env) = eval o X.env := by rfl)
    (hfew : ((backTo cp (starEach [e] X.env)).all (fun x => !x.1) && (backToKw cp (keywordEach [] X.env)).all (fun x => x.1.isSome) && decide ([e].length + ([] : List Keyword).length + (if ([] : List Keyword).isEmpty then 0 else 1) < 30)) = true := by rfl)
    (hline : (ap.endLine == cp.line) = true := by rfl) (hs : starEach [e] X.env = (false, eval e X.env) :: starEach [] X.env := by rfl) : PE X (.Call (.Attribute o "count" ap) [e] [] cp) (te X.K W (eM gCount φ ψ)) :=
  d_meth (mt_count hr) PySem.F.slot_list_count PySem.F.type_list_count ho he hbase hfew hline hs
theorem d_index {ap cp : Pos} {k : Nat} (hr : Room k X.A) (ho : PE X o (te X.K W φ)) (he : PE X e (te X.K W ψ)) (hbase : attributeBase o "index" X.env (eval o X.env) = eval o X.env := by rfl)
    (hfew : ((backTo cp (starEach [e] X.env)).all (fun x => !x.1) && (backToKw cp (keywordEach [] X.env)).all (fun x => x.1.isSome) && decide ([e].length + ([] : List Keyword).length + (if ([] : List Keyword).isEmpty then 0 else 1) < 30)) = true := by rfl)
    (hline : (ap.endLine == cp.line) = true := by rfl) (hs : starEach [e] X.env = (false, eval e X.env) :: starEach [] X.env := by rfl) : PE X (.Call (.Attribute o "index" ap) [e] [] cp) (te X.K W (eM gIndex φ ψ)) :=
  d_meth (mt_index hr) PySem.F.slot_list_index PySem.F.type_list_index ho he hbase hfew hline hs
theorem d_indexU {ap cp : Pos} (hu : X.A.units + 64 < cLine) (ho : PE X o (te X.K W φ)) (he : PE X e (te X.K W ψ)) (hbase : attributeBase o "index" X.env (eval o X.env) = eval o X.env := by rfl)
    (hfew : ((backTo cp (starEach [e] X.env)).all (fun x => !x.1) && (backToKw cp (keywordEach [] X.env)).all (fun x => x.1.isSome) && decide ([e].length + ([] : List Keyword).length + (if ([] : List Keyword).isEmpty then 0 else 1) < 30)) = true := by rfl)
    (hline : (ap.endLine == cp.line) = true := by rfl) (hs : starEach [e] X.env = (false, eval e X.env) :: starEach [] X.env := by rfl) : PE X (.Call (.Attribute o "index" ap) [e] [] cp) (te X.K W (eM gIndex φ ψ)) :=
  d_meth (mt_indexU hu) PySem.F.slot_list_index PySem.F.type_list_index ho he hbase hfew hline hs
end
/-! enumerate -/
def enD (i : Nat) : List PyData → List PyData
  | [] => []
  | d :: ds => .tuple [.int (i : Nat), d] :: enD (i + 1) ds
theorem enD_len : ∀ (i : Nat) (ds : List PyData), (enD i ds).length = ds.length
  | _, [] => rfl
  | i, d :: ds => by rw [enD, List.length_cons, enD_len (i + 1) ds, List.length_cons]
theorem enD_get : ∀ {ds : List PyData} {i k : Nat} {d : PyData}, (enD k ds)[i]? = some d → ∃ e, ds[i]? = some e ∧ d = .tuple [.int ((k + i : Nat) : Int), e]
  | [], _, _, _, h => by simp [enD] at h
  | a :: as, 0, k, d, h => by simp [enD] at h; exact ⟨a, rfl, by rw [← h]; simp⟩
  | a :: as, i + 1, k, d, h => by
    obtain ⟨e, h1, h2⟩ := enD_get (ds := as) (i := i) (k := k + 1) (d := d) (by simpa [enD] using h)
    exact ⟨e, by simpa using h1, by rw [h2, show k + 1 + i = k + (i + 1) by omega]⟩
set_option maxHeartbeats 2000000 in
theorem meets_en1 {v : Value} {o : Obj} {H : Heap → Prop} (B : Begins v o H) :
    Meets (Builtin.«enumerate.__new__» ⟨[.type "enumerate", v], []⟩) (fun _ R s => H s.heap ∧
      R (.ok (.ret (.ref (s.heap.push o).objs.size))) { s with heap := (s.heap.push o).push { cls := .type "enumerate", data := .fields #[.none, .bool false, .ref s.heap.objs.size, rawInt 0, .none, .none] } }) :=
  .of_wp fun prog w A R s h => by
    obtain ⟨hp, g, d, tk, os⟩ := s; obtain ⟨h1, h⟩ := h
    have hsub := sub_enumerate
    have q1 : ∀ {A' : Around} {E : Value → Shared → Prop} {Q : Value → Shared → Prop}, Q (.ref hp.objs.size) ⟨hp.push o, g, d, tk, os⟩ → wpAny (model prog w) A' (pyIter v) Q E ⟨hp, g, d, tk, os⟩ :=
      fun q => B.iter prog w _ _ ⟨hp, g, d, tk, os⟩ _ h1 q
    wp_walk using q1
    refine wpAny_stack_any fun st => wpAny_pure ?_
    split
    · rename_i c _ _ _ _ _
      cases (c == Value.type "enumerate")
      · wp_walk using q1
        exact ⟨_, rfl, h⟩
      · wp_walk using q1
        exact ⟨_, rfl, h⟩
    · wp_walk using q1
      exact ⟨_, rfl, h⟩
theorem en_begins {prog : Program} {w : World} {A : Around} {E : Value → Shared → Prop} {s : Shared} {v : Value} {o : Obj} {H : Heap → Prop} {Q : Value → Shared → Prop} (B : Begins v o H) (h1 : H s.heap)
    (h : ∀ h', IsEnum h' (s.heap.objs.size + 1) s.heap.objs.size 0 .none → h'.get? s.heap.objs.size = some o → h'.objs.size = s.heap.objs.size + 2 →
      (∀ b o, s.heap.get? b = some o → h'.get? b = some o) → Q (.ref (s.heap.objs.size + 1)) { s with heap := h' }) :
    wpAny (model prog w) A (call (.type "enumerate") [v]) Q E s := by
  refine callType_new F.called_enumerate (by decide) (F.typeCall_enumerate_1 _) (F.newCall_enumerate_1 _) (fun obj => F.args_object_init_2 obj _) F.entry_enumerate_new
    (meets_en1 B) ⟨h1, ?_⟩
  have hz : (s.heap.push o).objs.size = s.heap.objs.size + 1 := Heap.size_push ..
  show _ ∧ _
  rw [hz]
  have he : IsEnum ((s.heap.push o).push { cls := .type "enumerate", data := .fields #[.none, .bool false, .ref s.heap.objs.size, rawInt 0, .none, .none] }) (s.heap.objs.size + 1) s.heap.objs.size 0 .none := by
    have := Heap.get?_push_size (s.heap.push o) (o := { cls := .type "enumerate", data := .fields #[.none, .bool false, .ref s.heap.objs.size, rawInt 0, .none, .none] }) rfl
    rw [hz] at this; exact this
  refine ⟨⟨_, he, rfl⟩, h _ he (Heap.get?_push_of_some _ (Heap.get?_push_size _ B.free)) (by rw [Heap.size_push, hz]) fun b o x => Heap.get?_push_of_some _ (Heap.get?_push_of_some _ x)⟩
def Jen (t : Bool) (a : Addr) (xs : List V) : It :=
  ⟨fun i H => SR t H a xs ∧ i < xs.length, fun i H v H' => ∃ T x, v = .ref T ∧ H T = none ∧ H' = upd H T (.tup [.int (i : Nat), x]) ∧ xs[i]? = some x, fun i H => SR t H a xs ∧ i = xs.length⟩
theorem turn_en {P : Program} {w : World} {K : PySem.W.Frag} (hKK : K = KK.K) {elts : List Expr} {kk : Nat} {tpos : Pos} {t : Bool} {a e it : Addr} {xs : List V} (hei : e ≠ it) (hea : e ≠ a) (hai : a ≠ it) :
    Turn P w K (.Tuple elts kk tpos) (Jen t a xs) [e, it] e (fun i h => (∃ old, IsEnum h e it (0 + (i : Int)) old) ∧ sIt t h it a i) where
  mem := List.mem_cons_self
  obj := fun i h st c hc => by
    obtain ⟨⟨old, he⟩, s1⟩ := st
    simp only [List.mem_cons, List.not_mem_nil, or_false] at hc
    rcases hc with rfl | rfl
    · exact ⟨_, he, fun v q => nomatch q⟩
    · exact sIt_obj s1
  keep := fun i h h' st k => by
    obtain ⟨⟨old, he⟩, s1⟩ := st
    exact ⟨⟨old, k e (by simp) _ he⟩, sIt_at s1 fun o q => k it (by simp) o q⟩
  item := by
    intro X hP hw hK hc i pins s σ H E I hf st hg
    subst hP hw hK
    haveI : OK X := ⟨hKK⟩
    obtain ⟨he, s1⟩ := st
    obtain ⟨g1, hlt⟩ := hg
    obtain ⟨its, rv, is1, _⟩ := SR.is I g1
    have hh := I.ok.hd hc
    have l1 : its.toArray.size = xs.length := by rw [List.size_toArray, rv.length]
    have hnf : e ∉ [it, a] := by simp [hei, hea]
    refine (GoesN.enumFrom 0 (draws_s (A := X.A.in1) t hh it a hai its.toArray) e hei hnf List.mem_cons_self).goes i s _ E (by rw [l1]; exact hlt) ⟨he, ⟨s1, is1⟩⟩ fun v h' tk hY st' hk _ => ?_
    obtain ⟨T, tk', u, rfl, hnew, hu, hT⟩ := hY
    obtain ⟨u', e', ru⟩ := rv.get (List.getElem?_eq_getElem hlt)
    have q1 : its[i]? = some u := by simpa using hu
    rw [q1] at e'
    cases e'
    rw [Int.zero_add] at hT
    have new : ObjOk X.prog X.w (upd H T (.tup [.int (i : Nat), xs[i]])) h' T (.tup [.int (i : Nat), xs[i]]) := ⟨by show 2 ≤ sizeLine; decide, [.int i tk', u], .cons ⟨_, rfl⟩ (.cons ru .nil), hT⟩
    have I1 := I.turnedNew (t' := tk) (ch := [e, it]) (fun c o hb q => hk c o hb q) hf hnew new
    obtain ⟨z1, z2, _⟩ := st'
    refine ⟨.ref T, _, I1, rfl, ⟨T, xs[i], rfl, I.hok.fresh hnew, rfl, List.getElem?_eq_getElem hlt⟩, ⟨z1, z2⟩, fun c hcm => ?_⟩
    have hlt : c < s.heap.objs.size := by
      obtain ⟨old, he⟩ := he
      simp only [List.mem_cons, List.not_mem_nil, or_false] at hcm
      rcases hcm with rfl | rfl
      · exact Heap.lt_size he
      · obtain ⟨_, e, _⟩ := sIt_obj s1; exact Heap.lt_size e
    rw [upd_ne (Nat.ne_of_lt (Nat.lt_of_lt_of_le hlt hnew))]
    exact (hf c hcm).1
  done := by
    intro X hP hw hK hc i pins s σ H E I hf st hg
    subst hP hw hK
    haveI : OK X := ⟨hKK⟩
    obtain ⟨he, s1⟩ := st
    obtain ⟨g1, hlt⟩ := hg
    obtain ⟨its, rv, is1, _⟩ := SR.is I g1
    have hh := I.ok.hd hc
    have l1 : its.toArray.size = xs.length := by rw [List.size_toArray, rv.length]
    rw [← l1] at hlt
    subst hlt
    have hnf : e ∉ [it, a] := by simp [hei, hea]
    refine (GoesN.enumFrom (elts := elts) (x1 := kk) (pos := tpos) 0 (draws_s (A := X.A.in1) t hh it a hai its.toArray) e hei hnf List.mem_cons_self).stops s _ E ⟨he, ⟨s1, is1⟩⟩ fun h' tk hk _ => ?_
    exact I.turnedL (t' := tk) (ch := [e, it]) (fun c o hb q => hk c o hb q) hf
  self := fun A i s Q E st h => let ⟨⟨_, he⟩, _⟩ := st; wpAny_pyIter_enum he h
theorem jen_ok {t : Bool} {a : Addr} {xs : List V} {ds : List PyData} {Hk1 : Hp} (h : RpAll Hk1 xs ds) : ItOk (Jen t a xs) (enD 0 ds) Hk1 (fun H => SR t H a xs) where
  go := fun i H hs hi => ⟨hs, by rw [enD_len, ← RpAll.length h] at hi; exact hi⟩
  stop := fun i H hs hi => ⟨hs, by rw [enD_len, ← RpAll.length h] at hi; exact hi⟩
  yld := fun i H Hk x H' hs e1 e2 y d hd => by
    obtain ⟨T, x1, rfl, hT, rfl, f1⟩ := y
    obtain ⟨e, h1, rfl⟩ := enD_get hd
    obtain ⟨v, hv, rv⟩ := RpAll.get h h1
    rw [hv] at f1
    obtain rfl := Option.some.inj f1
    have n := Ex.new (o := .tup [.int (i : Nat), v]) (Evl.fresh_back e2 hT)
    rw [Nat.zero_add]
    exact ⟨_, Gr.new e2 hT, .tup (.inl upd_same) (.cons (.int _) (.cons (Rp.up n (Rp.up e1 rv)) .nil))⟩
  mono := fun _ _ e h => h.upT e
def rEn (ta : TA) : TI := fun σ H R => ta σ H fun vs H1 => ∃ t a xs, vs = [.ref a] ∧ SR t H1 a xs ∧ R (Jen t a xs) H1
theorem pi_en {X : Cx} [ok : OK X] {e : Expr} {ta : TA} {p pos tpos : Pos} {elts : List Expr} {kk : Nat} (hg : Gl X "enumerate") (hm : X.mg "enumerate" = none) (ha : PA X [e] ta)
    (hs : starEach [e] X.env = [(false, eval e X.env)]) : PI X (.Tuple elts kk tpos) (.Call (.Name "enumerate" p) [e] [] pos) (rEn ta) := by
  refine ⟨fun pins s σ H R I h => ?_⟩
  refine PyProof.Rows.Call_ (ld_blt I hg hm PyProof.Rows.boot_enumerate (PyProof.Rows.callWith_type1 (thn (ha.run pos pins s σ H _ I h) fun us s1 ⟨vs, H1, I1, r1, q1⟩ => ?_) hs rfl))
  obtain ⟨t, a, xs, ex, hq, q⟩ := q1
  subst ex
  cases r1 with
  | cons r rr =>
    cases rr
    cases r
    obtain ⟨its, rv, is1, la⟩ := SR.is I1 hq
    refine en_begins (begins_s t a its.toArray) is1 fun h' he hit hsz hk => wpAny_pyIter_enum he ?_
    have I2 : Inv X pins σ H1 { s1 with heap := h' } := I1.kept (t' := s1.toks) hk
    refine ⟨s1.heap.objs.size + 1, [s1.heap.objs.size + 1, s1.heap.objs.size], _, _, H1, rfl, I2, turn_en ok.eq (a := a) (e := s1.heap.objs.size + 1) (it := s1.heap.objs.size) (Nat.succ_ne_self _) (Nat.ne_of_gt (Nat.lt_succ_of_lt la)) (Nat.ne_of_lt la), ⟨⟨.none, he⟩, sIt_zero hit⟩, fun b hb => ?_, q⟩
    have hle : s1.heap.objs.size ≤ b := ge_of_mem (l := [1, 0]) hb
    exact I1.fpOk hle (I1.hok.fresh hle)
def enOf (x : Rv) : R (Bool × List PyData) := seqOf x >>= fun a => .ok (a.1, enD 0 a.2)
def iEn (φ : En → R Rv) : En → R (Bool × List PyData) := fun ρ => φ ρ >>= fun x => enOf (frz x)
section
variable {X : Cx} [ok : OK X] {W : WX} {e : Expr} {φ ψ χ : En → R Rv} {p pos tpos : Pos} {elts : List Expr} {kk : Nat}
theorem w_en (h : PE X e (te X.K W φ)) (hm : X.mg "enumerate" = none) (hg : Gl X "enumerate" := by rfl) (hs : starEach [e] X.env = [(false, eval e X.env)] := by rfl) : PI X (.Tuple elts kk tpos) (.Call (.Name "enumerate" p) [e] [] pos) (ti X.K W (iEn φ)) :=
  pi_imp (pi_en hg hm (pa_cons h pa_nil hs) hs) fun σ H Q ⟨Hk0, H0, Hk, ρ, r, p⟩ => by
    refine te_thenI (g := enOf) r p fun x v Hk' H' g d n r' p' => ?_
    unfold enOf at p'
    cases q : seqOf x with
    | err c => exact absurd q seqOf_no
    | bad => rw [q] at p'; exact p'.elim
    | ok a =>
      rw [q] at p'
      obtain ⟨l1, xs, rfl, ra, s1, k1⟩ := seqOf_SR q g.kh d
      exact ⟨_, l1, xs, rfl, s1, p' _ _ H' _ (Gr.refl g.kh) (jen_ok ra) s1 k1⟩
/-! a, b, c = x, y, z -/
def sPar3 (i j l : Nat) (φ ψ χ : En → R Rv) : En → R Out := fun ρ => φ ρ >>= fun x => ψ ρ >>= fun y => χ ρ >>= fun z => if sPar.noB x && (sPar.noB y && sPar.noB z) then .ok (.nx (put l z (put j y (put i x ρ)))) else .bad
theorem den_noB {Hk H : Hp} {σ σ' : Sl} {x : Rv} {v : V} (h : sPar.noB x = true) (d : Den Hk H σ x v) : Den Hk H σ' x v := by
  cases x with
  | val _ => exact d
  | own _ => exact d
  | bor _ _ => cases h
theorem s_par3 {x y z : Str} {a b c : Expr} {px py pz pt : Pos} {kt k2 : Nat} {pt2 : Pos} (i j l : Nat) (hc : X.calm = true) (hN : X.N.Nodup) (ha : PE X a (te X.K W φ)) (hb : PE X b (te X.K W ψ)) (hd : PE X c (te X.K W χ))
    (hi : X.N[i]? = some x := by rfl) (hj : X.N[j]? = some y := by rfl) (hl : X.N[l]? = some z := by rfl) (hij : i ≠ j := by decide) (hil : i ≠ l := by decide) (hjl : j ≠ l := by decide) (hx : X.env.scope.names.lookup x = some .local := by rfl) (hy : X.env.scope.names.lookup y = some .local := by rfl) (hz : X.env.scope.names.lookup z = some .local := by rfl)
    (hw : swappedStores [.Tuple [.Name x px, .Name y py, .Name z pz] kt pt] (.Tuple [a, b, c] k2 pt2) X.env = pure (some [x, y, z]) := by rfl)
    (hs : swapsWithSole [.Tuple [.Name x px, .Name y py, .Name z pz] kt pt] (.Tuple [a, b, c] k2 pt2) pos.line X.env = pure false := by rfl)
    (h1 : starEach [a, b, c] X.env = (false, eval a X.env) :: starEach [b, c] X.env := by rfl) (h2 : starEach [b, c] X.env = (false, eval b X.env) :: starEach [c] X.env := by rfl) (h3 : starEach [c] X.env = (false, eval c X.env) :: starEach [] X.env := by rfl) :
    PS X (.Assign [.Tuple [.Name x px, .Name y py, .Name z pz] kt pt] (.Tuple [a, b, c] k2 pt2) pos) (ts X.K W (sPar3 i j l φ ψ χ)) :=
  ps_imp (ps_par3 hc hN hi hj hl hij hil hjl hx hy hz (pa_cons ha (pa_cons hb (pa_cons hd pa_nil h3) h2) h1) hw hs) fun D σ H ⟨Hk0, H0, Hk, ρ, r, p⟩ => by
    refine s_then r p fun x v Hk1 H1 g1 n1 d1 r1 p1 => ?_
    refine s_then r1 p1 fun y u Hk2 H2 g2 n2 d2 r2 p2 => ?_
    refine s_then r2 p2 fun z t Hk3 H3 g3 n3 d3 r3 p3 => ?_
    split at p3
    · rename_i hnb
      rw [Bool.and_eq_true, Bool.and_eq_true] at hnb
      obtain ⟨b1, b2, b3⟩ := hnb
      refine ⟨v, u, t, rfl, p3 _ Hk3 H3 (Ex.refl _) ?_⟩
      have ra : Rel Hk0 H0 Hk1 H1 (σ.set i (some v)) (put i x ρ) := r.put g1 n1 d1 r1
      have rb : Rel Hk0 H0 Hk2 H2 ((σ.set i (some v)).set j (some u)) (put j y (put i x ρ)) := ra.put g2 n2 (den_noB b2 d2) (ra.up g2)
      exact rb.put g3 n3 (den_noB b3 d3) (rb.up g3)
    · exact p3.elim
end
/-! [::-1] -/
section
variable {prog : Program} {w : World} {A : Around} {E : Value → Shared → Prop} {s : Shared}
end
end Py

set_option Elab.async false
set_option linter.all false
set_option maxRecDepth 100000
set_option autoImplicit false
set_option maxHeartbeats 4000000
/-! PyR: [::-1] of lists and tuples. -/
namespace Py
open PySem L2 PyProof.Rows
open Evl (Ex)
section
variable {P : Program} {w : World} {A : Around} {E : Value → Shared → Prop} {s : Shared}
theorem adjust_rev (n : Nat) : Builtin.Slice.sliceAdjust none none (-1) (n : Int) = ((n : Int) - 1, -1) := by
  unfold Builtin.Slice.sliceAdjust
  have h1 : ((-1 : Int) < 0) := by omega
  simp only [h1, if_true]
theorem places_rev (n : Nat) : Builtin.Slice.slicePlaces ((n : Int) - 1) (-1) (-1) = n := by
  unfold Builtin.Slice.slicePlaces
  have h1 : ¬ ((-1 : Int) > 0) := by omega
  simp only [h1, if_false]
  split
  · have e : (- -1 : Int) = 1 := by decide
    rw [e, Int.ediv_one]
    omega
  · omega
theorem applied_rev {sl : Addr} {vl vu vs : Value} {n : Nat} {Q : Int × Int × Nat → Shared → Prop} (hs : s.heap.IsSliceOf sl vl vu vs) (pl : IsPart vl none) (pu : IsPart vu none) (ps : IsPart vs (some (-1)))
    (h : Q ((n : Int) - 1, -1, n) s) : wpAny (model P w) A (Builtin.Slice.sliceApplied (.ref sl) (pure (n : Int))) Q E s := by
  obtain ⟨os, hos, hcs, hds⟩ := id hs
  unfold Builtin.Slice.sliceApplied Builtin.Slice.sliceFields
  refine wpAny_bind (wpAny_bind (wpAny_field hos hds (x := vl) rfl (wpAny_bind (wpAny_field hos hds (x := vu) rfl (wpAny_bind (wpAny_field hos hds (x := vs) rfl (wpAny_pure ?_)))))))
  refine wpAny_bind (HT.slicePart_ ps ?_)
  show wpAny _ _ (if ((-1 : Int) == 0) = true then _ else _) _ _ s
  rw [if_neg (by decide)]
  refine wpAny_bind (HT.slicePart_ pl (wpAny_bind (HT.slicePart_ pu (wpAny_bind (wpAny_pure ?_)))))
  show wpAny _ _ (match Builtin.Slice.sliceAdjust none none (-1) (n : Int) with | (lo, hi) => pure (lo, (-1 : Int), Builtin.Slice.slicePlaces lo hi (-1))) _ _ s
  rw [adjust_rev n]
  show wpAny _ _ (pure ((n : Int) - 1, (-1 : Int), Builtin.Slice.slicePlaces ((n : Int) - 1) (-1) (-1))) _ _ s
  rw [places_rev]
  exact wpAny_pure h
theorem fm_congr {α β : Type} {f g : α → Option β} : ∀ {l : List α}, (∀ x ∈ l, f x = g x) → l.filterMap f = l.filterMap g
  | [], _ => rfl
  | a :: l, h => by rw [List.filterMap_cons, List.filterMap_cons, h a (by simp), fm_congr fun x hx => h x (List.mem_cons_of_mem _ hx)]
theorem fm_all : ∀ l : List Value, (List.range l.length).filterMap (fun m => l[m]?) = l
  | [] => rfl
  | a :: l => by
    have ih := fm_all l
    rw [List.length_cons, List.range_succ_eq_map, List.filterMap_cons]
    simp only [List.getElem?_cons_zero, List.filterMap_map]
    congr 1
theorem pick_rev (xs : Array Value) : ((List.range xs.size).filterMap fun (m : Nat) => xs[((xs.size : Int) - 1 + (m : Int) * (-1)).toNat]?).toArray = xs.toList.reverse.toArray := by
  have e : ∀ m ∈ List.range xs.size, xs[((xs.size : Int) - 1 + (m : Int) * (-1)).toNat]? = xs.toList.reverse[m]? := fun m hm => by
    have hm := List.mem_range.mp hm
    rw [List.getElem?_reverse (by rw [Array.length_toList]; exact hm), Array.getElem?_toList, Array.length_toList]
    congr 1
    omega
  rw [fm_congr e]
  have hl : xs.size = xs.toList.reverse.length := by simp
  rw [hl, fm_all]
theorem getItem_tuple_rev {t sl : Addr} {items : Array Value} {vl vu vs : Value} {Q : Value → Shared → Prop} (ht : IsTup s.heap t items) (hs : s.heap.IsSliceOf sl vl vu vs) (pl : IsPart vl none) (pu : IsPart vu none) (ps : IsPart vs (some (-1)))
    (h : Q (.ref s.heap.objs.size) { s with heap := s.heap.push { cls := .type "tuple", data := .seq items.toList.reverse.toArray } }) (hsz : items.size ≤ sizeLine) : wpAny (model P w) A (getItem (.ref t) (.ref sl)) Q E s := by
  have hz : sizeOk (.seq items.toList.reverse.toArray) := by
    show items.toList.reverse.toArray.size ≤ sizeLine
    simpa using hsz
  obtain ⟨os, hos, hcs, hds⟩ := id hs
  have hTs : s.TypeIs (.ref sl) "slice" := ⟨os, hos, hcs⟩
  unfold getItem
  try with_reducible refine wpAny_holding ?_
  first | refine wpAny_bind (wpAny_pure ?_) | skip
  refine wpAny_bind (wpAny_sequenceKey ht.typeIs (by decide) ?_)
  refine wpAny_bind (wpAny_callSpecial?_slot (name := Str.ofString "__getitem__") ht.typeIs PyProof.Rows.slot_tuple_getitem (wpAny_call_entry PyProof.Rows.slot_tuple_getitem ht.typeIs entry_tuple_getitem ?_ (args_tuple_getitem _ _)))
  show wpAny _ _ (Builtin.Tuple.tupleItemsOf (.ref t) >>= _) _ _ s
  refine wpAny_bind (tupleItemsOf_ ht (wpAny_bind (wpAny_typeOf hTs ?_)))
  rw [if_pos (by decide)]
  refine wpAny_bind (applied_rev hs pl pu ps ?_)
  show wpAny _ _ (if (((items.size : Int) - 1 == 0 && (-1 : Int) == 1 && items.size == items.size) = true) then _ else _) _ _ s
  rw [if_neg (by simp), pick_rev]
  first
    | exact wpAny_bind (m := Builtin.Tuple.tupleExact _) (wpAny_newObj_type (wpAny_pure ⟨_, rfl, wpAny_pure h⟩) hz)
    | exact wpAny_bind (wpAny_bind (m := Builtin.Tuple.tupleExact _) (wpAny_newObj_type (wpAny_pure ⟨_, rfl, wpAny_pure h⟩) hz))
    | exact wpAny_bind (wpAny_bind (m := Builtin.Tuple.tupleExact _) (wpAny_newObj_type (wpAny_pure (wpAny_pure ⟨_, rfl, wpAny_pure h⟩)) hz))
end
variable [KK]
def gRev (a : Rv) : R Rv := match a.dat with
  | .list ds => .ok (.own ds.reverse)
  | .tuple ds => .ok (.val (.tuple ds.reverse))
  | _ => .bad
def eRev (φ : En → R Rv) : En → R Rv := fun ρ => φ ρ >>= fun x => gRev (frz x)
section
variable {X : Cx} [ok : OK X] {W : WX} {e : Expr} {φ : En → R Rv}
def rRev (K : PySem.W.Frag) (te : TE) : TE := fun σ H Q => te σ H fun x H1 => ∃ a xs, x = .ref a ∧ ((SqL K H1 a xs ∧ ∀ p, H1 p = none → Q (.ref p) (upd H1 p (.lst xs.reverse))) ∨ (SqT K H1 a xs ∧ ∀ p, H1 p = none → Q (.ref p) (upd H1 p (.tup xs.reverse))))
theorem pe_rev {t : TE} {k : Nat} {p1 p2 p3 pos : Pos} (he : PE X e t) : PE X (.Subscript e (.Slice none none (some (.UnaryOp .USub (.Constant (.int 1) k p1) p2)) p3) pos) (rRev X.K t) := by
  refine ⟨fun pins s σ H Q I h => ?_⟩
  refine Subscript_ (thn (he.run pins s σ H _ I h) fun v s1 ⟨x, H1, I1, r1, a, xs, ex, q⟩ => ?_)
  subst ex
  cases r1
  have hst : PO X (some (.UnaryOp .USub (.Constant (.int 1) k p1) p2)) (tPart (tUn (rU fun i => .int (-i)) (tC (.int 1)))) := po_some (pe_un un_neg pe_int)
  refine wpAny_Slice (thn (po_none.run pins s1 σ H1 (fun o H2 => o = none ∧ H2 = H1) I1 ⟨rfl, rfl⟩) fun vl s2 ⟨l, H2, I2, pl, el, e2⟩ => ?_)
  subst el e2
  refine thn (po_none.run pins s2 σ H2 (fun o H3 => o = none ∧ H3 = H2) I2 ⟨rfl, rfl⟩) fun vu s3 ⟨u, H3, I3, pu, eu, e3⟩ => ?_
  subst eu e3
  refine thn (hst.run pins s3 σ H3 (fun o H4 => o = some (-1) ∧ H4 = H3) I3 ⟨1, rfl, -1, rfl, rfl, rfl⟩) fun vs s4 ⟨o, H4, I4, ps, eo, e4⟩ => ?_
  subst eo e4
  have I5 : Inv X pins σ H4 { s4 with heap := s4.heap.push { cls := .type "slice", data := .fields #[vl, vu, vs] } } := I4.kept (t' := s4.toks) fun b ob q => Heap.get?_push_of_some _ q
  show wpAny (model X.prog X.w) X.A (subscriptTail e (.Slice none none (some (.UnaryOp .USub (.Constant (.int 1) k p1) p2)) p3) (.ref a) (.ref s4.heap.objs.size)) (EP X pins σ Q) X.xe { s4 with heap := s4.heap.push { cls := .type "slice", data := .fields #[vl, vu, vs] } }
  rcases q with ⟨hx, q⟩ | ⟨hx, q⟩
  · obtain ⟨its, r, ht, hz⟩ := I5.list hx
    have hlen := r.length
    refine tail_any (ops := [.ref a, .ref s4.heap.objs.size]) ht.isList.typeIs (PySem.slot_list_getitem.lookup) ?_ (by with_unfolding_all rfl)
    refine wpAny_getItem_list_slice ht.isList (Heap.IsSliceOf.new _ vl vu vs) pl pu ps (by decide) ?_ (by rw [List.size_toArray]; omega)
    rw [PySem.W.krv_pick]
    exact ⟨.ref _, _, I5.laid (t' := s4.toks) (o := .lst xs.reverse) (fun b ob q => Heap.get?_push_of_some _ q) (Nat.le_refl _) ⟨by rw [List.length_reverse]; exact hz, _, 0, r.reverse, Heap.get?_push_size _ rfl⟩, rfl, q _ (I5.hok.fresh (Nat.le_refl _))⟩
  · obtain ⟨its, r, ht, hz⟩ := I5.tuple hx
    have hlen := r.length
    refine tail_any (ops := [.ref a, .ref s4.heap.objs.size]) ht.typeIs (PyProof.Rows.slot_tuple_getitem.lookup) ?_ (by with_unfolding_all rfl)
    refine getItem_tuple_rev ht (Heap.IsSliceOf.new _ vl vu vs) pl pu ps ?_ (by rw [List.size_toArray]; omega)
    exact ⟨.ref _, _, I5.laid (t' := s4.toks) (o := .tup xs.reverse) (fun b ob q => Heap.get?_push_of_some _ q) (Nat.le_refl _) ⟨by rw [List.length_reverse]; exact hz, _, r.reverse, IsTup.new _ _⟩, rfl, q _ (I5.hok.fresh (Nat.le_refl _))⟩
theorem d_rev {k : Nat} {p1 p2 p3 pos : Pos} (he : PE X e (te X.K W φ)) : PE X (.Subscript e (.Slice none none (some (.UnaryOp .USub (.Constant (.int 1) k p1) p2)) p3) pos) (te X.K W (eRev φ)) :=
  pe_imp (pe_rev he) fun σ H Q ⟨Hk0, H0, Hk, ρ, r, p⟩ =>
    te_thenF (g := gRev) r p fun x v Hk1 H1 g1 d1 n1 r1 p1 => by
      unfold gRev at p1
      split at p1
      · rename_i ds hd
        obtain ⟨l, xs, rfl, s1, r1⟩ := d1.kList g1.kh hd
        exact ⟨l, xs, rfl, .inl ⟨s1.sq, own_new g1.kh (PostE.up g1 p1) (RpAll.reverse r1)⟩⟩
      · rename_i ds hd
        obtain ⟨l, xs, rfl, s1, r1, _⟩ := d1.kTuple g1.kh hd
        exact ⟨l, xs, rfl, .inr ⟨.inl s1, tup_new g1.kh (PostE.up g1 p1) (RpAll.reverse r1)⟩⟩
      · exact p1.elim
end
end Py

set_option Elab.async false
set_option linter.all false
set_option maxRecDepth 100000
set_option autoImplicit false
set_option maxHeartbeats 4000000
/-! PyP: four at once. -/
namespace Py
variable [KK]
open PySem L2
open Evl (Ex)
section
variable {X : Cx} [ok : OK X] {W : WX} {φ ψ χ ω : En → R Rv} {pos : Pos}
def sPar4 (i j l m : Nat) (φ ψ χ ω : En → R Rv) : En → R Out := fun ρ => φ ρ >>= fun x => ψ ρ >>= fun y => χ ρ >>= fun z => ω ρ >>= fun t => if sPar.noB x && (sPar.noB y && (sPar.noB z && sPar.noB t)) then .ok (.nx (put m t (put l z (put j y (put i x ρ))))) else .bad
theorem s_par4 {x y z t : Str} {a b c d : Expr} {px py pz pw pt : Pos} {kt k2 : Nat} {pt2 : Pos} (i j l m : Nat) (hc : X.calm = true) (hN : X.N.Nodup) (ha : PE X a (te X.K W φ)) (hb : PE X b (te X.K W ψ)) (hd : PE X c (te X.K W χ)) (he : PE X d (te X.K W ω))
    (hi : X.N[i]? = some x := by rfl) (hj : X.N[j]? = some y := by rfl) (hl : X.N[l]? = some z := by rfl) (hm : X.N[m]? = some t := by rfl)
    (hx : Loc X.env.scope x := by first | exact Or.inl rfl | exact Or.inr rfl) (hy : Loc X.env.scope y := by first | exact Or.inl rfl | exact Or.inr rfl) (hz : Loc X.env.scope z := by first | exact Or.inl rfl | exact Or.inr rfl) (ht : Loc X.env.scope t := by first | exact Or.inl rfl | exact Or.inr rfl)
    (fx : X.fn x = true ∨ X.env.scope.names.lookup x = some .local := by first | exact .inl rfl | exact .inr rfl) (fy : X.fn y = true ∨ X.env.scope.names.lookup y = some .local := by first | exact .inl rfl | exact .inr rfl) (fz : X.fn z = true ∨ X.env.scope.names.lookup z = some .local := by first | exact .inl rfl | exact .inr rfl) (ft : X.fn t = true ∨ X.env.scope.names.lookup t = some .local := by first | exact .inl rfl | exact .inr rfl)
    (hw : swappedStores [.Tuple [.Name x px, .Name y py, .Name z pz, .Name t pw] kt pt] (.Tuple [a, b, c, d] k2 pt2) X.env = pure none := by rfl)
    (hs : swapsWithSole [.Tuple [.Name x px, .Name y py, .Name z pz, .Name t pw] kt pt] (.Tuple [a, b, c, d] k2 pt2) pos.line X.env = pure false := by rfl)
    (h1 : starEach [a, b, c, d] X.env = (false, eval a X.env) :: starEach [b, c, d] X.env := by rfl) (h2 : starEach [b, c, d] X.env = (false, eval b X.env) :: starEach [c, d] X.env := by rfl) (h3 : starEach [c, d] X.env = (false, eval c X.env) :: starEach [d] X.env := by rfl) (h4 : starEach [d] X.env = (false, eval d X.env) :: starEach [] X.env := by rfl)
    (g0 : (assignEach [.Tuple [.Name x px, .Name y py, .Name z pz, .Name t pw] kt pt] X.env).map (·.2) = [assign (.Tuple [.Name x px, .Name y py, .Name z pz, .Name t pw] kt pt) X.env] := by rfl)
    (gn : (assignEach [.Name x px, .Name y py, .Name z pz, .Name t pw] X.env).length = 4 := by rfl) (gf : (assignEach [.Name x px, .Name y py, .Name z pz, .Name t pw] X.env).findIdx? (·.1) = none := by rfl)
    (g1 : (assignEach [.Name x px, .Name y py, .Name z pz, .Name t pw] X.env).map (·.2) = assign (.Name x px) X.env :: (assignEach [.Name y py, .Name z pz, .Name t pw] X.env).map (·.2) := by rfl)
    (g2 : (assignEach [.Name y py, .Name z pz, .Name t pw] X.env).map (·.2) = assign (.Name y py) X.env :: (assignEach [.Name z pz, .Name t pw] X.env).map (·.2) := by rfl)
    (g3 : (assignEach [.Name z pz, .Name t pw] X.env).map (·.2) = assign (.Name z pz) X.env :: (assignEach [.Name t pw] X.env).map (·.2) := by rfl)
    (g4 : (assignEach [.Name t pw] X.env).map (·.2) = assign (.Name t pw) X.env :: (assignEach [] X.env).map (·.2) := by rfl) :
    PS X (.Assign [.Tuple [.Name x px, .Name y py, .Name z pz, .Name t pw] kt pt] (.Tuple [a, b, c, d] k2 pt2) pos) (ts X.K W (sPar4 i j l m φ ψ χ ω)) :=
  ps_imp (ps_asg (pe_tup (pa_cons ha (pa_cons hb (pa_cons hd (pa_cons he pa_nil h4) h3) h2) h1)) (pg_tup hc (pgs_cons (pg_name hN hi hx fx) (pgs_cons (pg_name hN hj hy fy) (pgs_cons (pg_name hN hl hz fz) (pgs_cons (pg_name hN hm ht ft) pgs_nil g4) g3) g2) g1) gn gf) hs hw g0) fun D σ H ⟨Hk0, H0, Hk, ρ, r, p⟩ => by
    refine s_then r p fun x v Hk1 H1 g1 n1 d1 r1 p1 => ?_
    refine s_then r1 p1 fun y u Hk2 H2 g2 n2 d2 r2 p2 => ?_
    refine s_then r2 p2 fun z t Hk3 H3 g3 n3 d3 r3 p3 => ?_
    refine s_then r3 p3 fun o q Hk4 H4 g4 n4 d4 r4 p4 => ?_
    split at p4
    · rename_i hnb
      simp only [Bool.and_eq_true] at hnb
      obtain ⟨b1, b2, b3, b4⟩ := hnb
      have ra : Rel Hk0 H0 Hk1 H1 (σ.set i (some v)) (put i x ρ) := r.put g1 n1 d1 r1
      have rb : Rel Hk0 H0 Hk2 H2 ((σ.set i (some v)).set j (some u)) (put j y (put i x ρ)) := ra.put g2 n2 (den_noB b2 d2) (ra.up g2)
      have rc : Rel Hk0 H0 Hk3 H3 (((σ.set i (some v)).set j (some u)).set l (some t)) (put l z (put j y (put i x ρ))) := rb.put g3 n3 (den_noB b3 d3) (rb.up g3)
      have rd : Rel Hk0 H0 Hk4 H4 ((((σ.set i (some v)).set j (some u)).set l (some t)).set m (some q)) (put m o (put l z (put j y (put i x ρ)))) := rc.put g4 n4 (den_noB b4 d4) (rc.up g4)
      refine ⟨by show 4 ≤ sizeLine; decide, fun w hw => ⟨w, [v, u, t, q], rfl, .inl (.inl upd_same), rfl, v, [u, t, q], rfl, u, [t, q], rfl, t, [q], rfl, q, [], rfl, rfl, ?_⟩⟩
      exact p4 _ Hk4 _ (Ex.refl _) (rd.up (Gr.own rd.kh hw))
    · exact p4.elim
end
/-! range(a, b, -1) -/
def downD (lo : Int) (n : Nat) : List PyData := (List.range n).map fun (k : Nat) => PyData.int (lo - (k : Int))
theorem downD_len (lo : Int) (n : Nat) : (downD lo n).length = n := by unfold downD; rw [List.length_map, List.length_range]
theorem itd_ok {lo : Int} {n : Nat} {Hk1 : Hp} : ItOk (Itc lo (-1) n) (downD lo n) Hk1 (fun _ => True) where
  go := fun i H _ hi => by rw [downD_len] at hi; exact hi
  stop := fun i H _ hi => by rw [downD_len] at hi; exact Nat.le_of_eq hi.symm
  yld := fun i H Hk x H' _ e1 e2 y d hd => by
    obtain ⟨rfl, rfl⟩ := y
    unfold downD at hd
    rw [List.getElem?_map] at hd
    cases q : (List.range n)[i]? with
    | none => rw [q] at hd; cases hd
    | some k =>
      rw [q] at hd
      cases hd
      obtain ⟨h1, h2⟩ := List.getElem?_eq_some_iff.mp q
      rw [List.getElem_range] at h2
      subst h2
      have e : lo + (i : Int) * (-1) = lo - (i : Int) := by omega
      rw [e]
      exact ⟨Hk, Gr.refl e2, Rp.int _⟩
  mono := fun _ _ _ h => h
def iRgD (φ ψ χ : En → R Rv) : En → R (Bool × List PyData) := fun ρ => φ ρ >>= fun x => ψ ρ >>= fun y => χ ρ >>= fun z => (frz x).toInt >>= fun i => (frz y).toInt >>= fun j => (frz z).toInt >>= fun c => if c = -1 ∧ -(2 ^ 60) ≤ i ∧ i < 2 ^ 60 ∧ -(2 ^ 60) ≤ j ∧ j < 2 ^ 60 then .ok (true, downD i (i - j).toNat) else .bad
section
variable {X : Cx} [ok : OK X] {W : WX} {tgt a b c : Expr} {φ ψ χ : En → R Rv} {p pos : Pos}
theorem w_rgD (ha : PE X a (te X.K W φ)) (hb : PE X b (te X.K W ψ)) (hc : PE X c (te X.K W χ)) (hm : X.mg "range" = none) (hg : Gl X "range" := by rfl) (h1 : starEach [a, b, c] X.env = (false, eval a X.env) :: starEach [b, c] X.env := by rfl) (h2 : starEach [b, c] X.env = (false, eval b X.env) :: starEach [c] X.env := by rfl) (h3 : starEach [c] X.env = (false, eval c X.env) :: starEach [] X.env := by rfl)
    (hpl : (backTo pos (starEach [b, c] X.env)).any (·.1) = false := by rfl) : PI X tgt (.Call (.Name "range" p) [a, b, c] [] pos) (ti X.K W (iRgD φ ψ χ)) :=
  pi_imp (pi_range3 hg hm (pa_cons ha (pa_cons hb (pa_cons hc pa_nil h3) h2) h1) h1 hpl) fun σ H Q ⟨Hk0, H0, Hk, ρ, r, p⟩ => by
    refine te_thenI (g := fun x => ψ ρ >>= fun y => χ ρ >>= fun z => x.toInt >>= fun i => (frz y).toInt >>= fun j => (frz z).toInt >>= fun c => if c = -1 ∧ -(2 ^ 60) ≤ i ∧ i < 2 ^ 60 ∧ -(2 ^ 60) ≤ j ∧ j < 2 ^ 60 then .ok (true, downD i (i - j).toNat) else .bad) r p fun x v Hk1 H1 g1 d1 n1 r1 p1 => ?_
    refine te_thenI (g := fun y => χ ρ >>= fun z => x.toInt >>= fun i => y.toInt >>= fun j => (frz z).toInt >>= fun c => if c = -1 ∧ -(2 ^ 60) ≤ i ∧ i < 2 ^ 60 ∧ -(2 ^ 60) ≤ j ∧ j < 2 ^ 60 then .ok (true, downD i (i - j).toNat) else .bad) r1 p1 fun y u Hk2 H2 g2 d2 n2 r2 p2 => ?_
    refine te_thenI (g := fun z => x.toInt >>= fun i => y.toInt >>= fun j => z.toInt >>= fun c => if c = -1 ∧ -(2 ^ 60) ≤ i ∧ i < 2 ^ 60 ∧ -(2 ^ 60) ≤ j ∧ j < 2 ^ 60 then .ok (true, downD i (i - j).toNat) else .bad) r2 p2 fun z t Hk' H' g d n r' p' => ?_
    obtain ⟨i, q1, p3⟩ := toInt_then (C := PostI X.K W Hk' H' σ Q) p' id
    obtain ⟨j, q2, p4⟩ := toInt_then (C := PostI X.K W Hk' H' σ Q) p3 id
    obtain ⟨c, q3, p5⟩ := toInt_then (C := PostI X.K W Hk' H' σ Q) p4 id
    split at p5
    · rename_i hj
      obtain ⟨rfl, h1, h2, h3, h4⟩ := hj
      rw [d1.int q1, d2.int q2, d.int q3]
      exact ⟨i, j, -1, (i - j).toNat, rfl, RgC.neg (by omega) (by omega) (by omega) (by omega), p5 _ _ H' _ (Gr.refl g.kh) itd_ok trivial fun _ => trivial⟩
    · exact p5.elim
end
end Py

set_option Elab.async false
set_option linter.all false
set_option maxRecDepth 100000
set_option autoImplicit false
set_option maxHeartbeats 4000000
/-! PyQ: list(zip(a, b)): the tuples stay. -/
namespace PySem
section
variable {prog : Program} {w : World} {A : Around} {E : Value → Shared → Prop} {s : Shared} {z TI TO T i1 i2 : Addr} {f1 f2 : List Addr} {n1 n2 i : Nat} {P1 P2 : Nat → Value → Prop} {S1 S2 : Nat → Heap → Prop} {b : Bool} {o : Obj}
theorem pq_item0 {Q : Value → Shared → Prop} (S : ZipSep2 z TI TO i1 i2 f1 f2) (D1 : Draws prog w A i1 f1 n1 P1 S1) (D2 : Draws prog w A i2 f2 n2 P2 S2)
    (hz : IsZipHeld s.heap z TI TO T b) (hT : s.heap.get? T = some o) (hI : IsTupOf2 s.heap TI (.ref i1) (.ref i2)) (t1 : S1 i s.heap) (t2 : S2 i s.heap) (l1 : i < n1) (l2 : i < n2)
    (k : ∀ x y h' tk, P1 i x → P2 i y → IsZipHeld h' z TI TO T true → S1 (i + 1) h' → S2 (i + 1) h' → IsTupOf2 h' s.heap.objs.size x y → h'.objs.size = s.heap.objs.size + 1 →
      (∀ c o, c ≠ z → c ≠ i1 → c ≠ i2 → s.heap.get? c = some o → h'.get? c = some o) → Q (.ref s.heap.objs.size) { s with heap := h', toks := tk }) :
    wpAny (model prog w) A (Builtin.«zip.__next__» ⟨[.ref z], []⟩) (fun fin s' => ∃ v, fin = .done (.ret v) ∧ Q v s') E s := by
  obtain ⟨hp, g, d, tk0, os⟩ := s
  show wpAny _ _ (field (.ref z) 2 >>= _) _ _ ⟨hp, g, d, tk0, os⟩
  refine wpAny_bind (wpAny_field hz rfl (x := .bool false) rfl (show wpAny _ _ (field (.ref z) 3 >>= _) _ _ ⟨hp, g, d, tk0, os⟩ from wpAny_bind (wpAny_field hz rfl (x := .ref TI) rfl (wpAny_bind (wpAny_seqItems hI rfl ?_)))))
  show wpAny _ _ (Builtin.SmallTypes.ownedTupleIsFree (.ref z) >>= _) _ _ ⟨hp, g, d, tk0, os⟩
  refine wpAny_bind (wpAny_tupleHeld_zip (s := ⟨hp, g, d, tk0, os⟩) hz hT fun h1 z1 q1 => ?_)
  replace q1 : Heap.SameBut z hp h1 := q1
  simp only [Bool.false_eq_true, if_false]
  refine wpAny_bind ?_
  rw [← Array.forIn_toList]
  simp only [List.forIn_cons, List.forIn_nil]
  refine wpAny_bind (wpAny_bind (wpAny_holding (show wpAny _ _ (Builtin.SmallTypes.nextOf (.ref i1) >>= _) _ _ ⟨h1, g, d, tk0, os⟩ from ?_)))
  refine wpAny_bind (D1.item i _ _ _ l1 (D1.over t1 q1 S.zf1) fun x h2 tk1 px u1 q2 => wpAny_pure (wpAny_pure ?_))
  replace q2 : Heap.SameBut i1 h1 h2 := q2
  refine wpAny_bind (wpAny_bind (wpAny_holding (show wpAny _ _ (Builtin.SmallTypes.nextOf (.ref i2) >>= _) _ _ ⟨h2, g, d, tk1, os⟩ from ?_)))
  refine wpAny_bind (D2.item i _ _ _ l2 (D2.over (D2.over t2 q1 S.zf2) q2 S.sep1_2) fun y h3 tk2 py u2 q3 => wpAny_pure (wpAny_pure (wpAny_pure ?_)))
  replace q3 : Heap.SameBut i2 h2 h3 := q3
  show wpAny _ _ (newTuple [x, y] >>= _) _ _ ⟨h3, g, d, tk2, os⟩
  refine wpAny_bind (wpAny_newTuple (wpAny_pure ⟨_, rfl, ?_⟩))
  have sz : h3.objs.size = hp.objs.size := by rw [q3.1, q2.1, q1.1]
  have z3 : IsZipHeld h3 z TI TO T true := q3.extBut _ _ S.zi2 (q2.extBut _ _ S.zi1 z1)
  have hp4 : IsTupOf2 (h3.push { cls := .type "tuple", data := .seq #[x, y] }) h3.objs.size x y := Heap.get?_push_size _ rfl
  have s4 : (h3.push { cls := .type "tuple", data := .seq #[x, y] }).objs.size = h3.objs.size + 1 := Heap.size_push ..
  have fr : ∀ c o, c ≠ z → c ≠ i1 → c ≠ i2 → hp.get? c = some o → (h3.push { cls := .type "tuple", data := .seq #[x, y] }).get? c = some o := fun c o c1 c2 c3 e => Heap.get?_push_of_some _ (q3.extBut _ _ c3 (q2.extBut _ _ c2 (q1.extBut _ _ c1 e)))
  have w1 : S1 (i + 1) (h3.push { cls := .type "tuple", data := .seq #[x, y] }) := D1.frame _ _ _ (D1.over u1 q3 S.sep2_1) fun b _ o e => Heap.get?_push_of_some _ e
  have w2 : S2 (i + 1) (h3.push { cls := .type "tuple", data := .seq #[x, y] }) := D2.frame _ _ _ u2 fun b _ o e => Heap.get?_push_of_some _ e
  have z4 : IsZipHeld (h3.push { cls := .type "tuple", data := .seq #[x, y] }) z TI TO T true := Heap.get?_push_of_some _ z3
  have r := k x y (h3.push { cls := .type "tuple", data := .seq #[x, y] }) tk2 px py z4 w1 w2 (by rw [sz] at hp4; exact hp4) (by rw [sz] at s4; exact s4) fr
  show Q (.ref h3.objs.size) _
  rw [sz]
  exact r
theorem pq_end0 {Q : Fin → Shared → Prop} (S : ZipSep2 z TI TO i1 i2 f1 f2) (D1 : Draws prog w A i1 f1 n1 P1 S1) (D2 : Draws prog w A i2 f2 n2 P2 S2)
    (hz : IsZipHeld s.heap z TI TO T b) (hT : s.heap.get? T = some o) (hI : IsTupOf2 s.heap TI (.ref i1) (.ref i2)) (t1 : S1 i s.heap) (t2 : S2 i s.heap) (l1 : i ≤ n1) (l2 : i ≤ n2) (he : i = n1 ∨ i = n2)
    (k : ∀ h' tk e, (∀ c o, c ≠ z → c ≠ i1 → c ≠ i2 → s.heap.get? c = some o → h'.get? c = some o) → (∃ o, h'.get? e = some o ∧ o.cls = .type "StopIteration") → E (.ref e) { s with heap := h', toks := tk }) :
    wpAny (model prog w) A (Builtin.«zip.__next__» ⟨[.ref z], []⟩) Q E s := by
  obtain ⟨hp, g, d, tk0, os⟩ := s
  show wpAny _ _ (field (.ref z) 2 >>= _) _ _ ⟨hp, g, d, tk0, os⟩
  refine wpAny_bind (wpAny_field hz rfl (x := .bool false) rfl (show wpAny _ _ (field (.ref z) 3 >>= _) _ _ ⟨hp, g, d, tk0, os⟩ from wpAny_bind (wpAny_field hz rfl (x := .ref TI) rfl (wpAny_bind (wpAny_seqItems hI rfl ?_)))))
  show wpAny _ _ (Builtin.SmallTypes.ownedTupleIsFree (.ref z) >>= _) _ _ ⟨hp, g, d, tk0, os⟩
  refine wpAny_bind (wpAny_tupleHeld_zip (s := ⟨hp, g, d, tk0, os⟩) hz hT fun h1 z1 q1 => ?_)
  replace q1 : Heap.SameBut z hp h1 := q1
  simp only [Bool.false_eq_true, if_false]
  refine wpAny_bind ?_
  rw [← Array.forIn_toList]
  simp only [List.forIn_cons, List.forIn_nil]
  refine wpAny_bind (wpAny_bind (wpAny_holding (show wpAny _ _ (Builtin.SmallTypes.nextOf (.ref i1) >>= _) _ _ ⟨h1, g, d, tk0, os⟩ from ?_)))
  rcases Nat.lt_or_ge i n1 with hlt | hge
  · have e2 : i = n2 := by rcases he with e | e; omega; exact e
    refine wpAny_bind (D1.item i _ _ _ hlt (D1.over t1 q1 S.zf1) fun x h2 tk1 px u1 q2 => wpAny_pure (wpAny_pure ?_))
    replace q2 : Heap.SameBut i1 h1 h2 := q2
    refine wpAny_bind (wpAny_bind (wpAny_holding (show wpAny _ _ (Builtin.SmallTypes.nextOf (.ref i2) >>= _) _ _ ⟨h2, g, d, tk1, os⟩ from ?_)))
    subst e2
    refine wpAny_bind (D2.done _ _ _ (D2.over (D2.over t2 q1 S.zf2) q2 S.sep1_2) fun h3 e q3 hs => ?_)
    exact k h3 tk1 e (fun c o c1 c2 c3 x => q3 _ _ c3 (q2.extBut _ _ c2 (q1.extBut _ _ c1 x))) hs
  · have e1 : i = n1 := by omega
    subst e1
    refine wpAny_bind (D1.done _ _ _ (D1.over t1 q1 S.zf1) fun h2 e q2 hs => ?_)
    exact k h2 tk0 e (fun c o c1 c2 c3 x => q2 _ _ c2 (q1.extBut _ _ c1 x)) hs
theorem pq_item {Q : Option Value → Shared → Prop} (S : ZipSep2 z TI TO i1 i2 f1 f2) (D1 : Draws prog w A.in1 i1 f1 n1 P1 S1) (D2 : Draws prog w A.in1 i2 f2 n2 P2 S2)
    (hz : IsZipHeld s.heap z TI TO T b) (hT : s.heap.get? T = some o) (hI : IsTupOf2 s.heap TI (.ref i1) (.ref i2)) (t1 : S1 i s.heap) (t2 : S2 i s.heap) (l1 : i < n1) (l2 : i < n2)
    (k : ∀ x y h' tk, P1 i x → P2 i y → IsZipHeld h' z TI TO T true → S1 (i + 1) h' → S2 (i + 1) h' → IsTupOf2 h' s.heap.objs.size x y → h'.objs.size = s.heap.objs.size + 1 →
      (∀ c o, c ≠ z → c ≠ i1 → c ≠ i2 → s.heap.get? c = some o → h'.get? c = some o) → Q (some (.ref s.heap.objs.size)) { s with heap := h', toks := tk }) :
    wpAny (model prog w) A (pyNext (.ref z)) Q E s := by
  have ty : s.TypeIs (.ref z) "zip" := ⟨_, hz, rfl⟩
  unfold pyNext
  exact wpAny_bind (wpAny_attempt (wpAny_callSpecial?_slot (name := Str.ofString "__next__") ty F.slot_zip_next (wpAny_call_entry F.slot_zip_next ty F.entry_zip_next (pq_item0 S D1 D2 hz hT hI t1 t2 l1 l2 fun x y h' tk a1 a2 a3 a4 a5 a6 a7 a8 => wpAny_pure (k x y h' tk a1 a2 a3 a4 a5 a6 a7 a8)) (F.args_zip_next_1 _))))
theorem pq_end {Q : Option Value → Shared → Prop} (S : ZipSep2 z TI TO i1 i2 f1 f2) (D1 : Draws prog w A.in1 i1 f1 n1 P1 S1) (D2 : Draws prog w A.in1 i2 f2 n2 P2 S2)
    (hz : IsZipHeld s.heap z TI TO T b) (hT : s.heap.get? T = some o) (hI : IsTupOf2 s.heap TI (.ref i1) (.ref i2)) (t1 : S1 i s.heap) (t2 : S2 i s.heap) (l1 : i ≤ n1) (l2 : i ≤ n2) (he : i = n1 ∨ i = n2)
    (k : ∀ h' tk, (∀ c o, c ≠ z → c ≠ i1 → c ≠ i2 → s.heap.get? c = some o → h'.get? c = some o) → Q none { s with heap := h', toks := tk }) :
    wpAny (model prog w) A (pyNext (.ref z)) Q E s := by
  have ty : s.TypeIs (.ref z) "zip" := ⟨_, hz, rfl⟩
  unfold pyNext
  refine wpAny_bind (wpAny_attempt (wpAny_callSpecial?_slot (name := Str.ofString "__next__") ty F.slot_zip_next (wpAny_call_entry F.slot_zip_next ty F.entry_zip_next (pq_end0 S D1 D2 hz hT hI t1 t2 l1 l2 he fun h' tk e hk ⟨o, ho, hc⟩ => ?_) (F.args_zip_next_1 _))))
  exact wpAny_bind (wpAny_isInstance (T := "StopIteration") (b := true) ⟨o, ho, hc⟩ isSubtype_stop (wpAny_pure (k _ _ hk)))
/-- the pairs so far -/
def PqAcc (h : Heap) (X Y : Nat → Value → Prop) (N : Nat) (acc : Array Value) (i : Nat) : Prop := ∃ ts : List Addr, acc = (ts.map Value.ref).toArray ∧ ts.length = i ∧ ts.Nodup ∧ (∀ T ∈ ts, N ≤ T) ∧ ∀ (j : Nat) (T : Addr), ts[j]? = some T → ∃ x y, IsTupOf2 h T x y ∧ X j x ∧ Y j y
theorem PqAcc.nil {h : Heap} {X Y : Nat → Value → Prop} {N : Nat} : PqAcc h X Y N #[] 0 := ⟨[], rfl, rfl, .nil, fun T h => by simp at h, fun j T e => by simp at e⟩
theorem PqAcc.size {h : Heap} {X Y : Nat → Value → Prop} {N i : Nat} {acc : Array Value} (a : PqAcc h X Y N acc i) : acc.size = i := by
  obtain ⟨ts, rfl, e, _⟩ := a
  simp [e]
theorem PqAcc.push {h h' : Heap} {X Y : Nat → Value → Prop} {N : Nat} {acc : Array Value} {i : Nat} {x y : Value} (a : PqAcc h X Y N acc i) (hN : N ≤ h.objs.size) (k : ∀ c o, N ≤ c → h.get? c = some o → h'.get? c = some o) (hT : IsTupOf2 h' h.objs.size x y) (hx : X i x) (hy : Y i y) : PqAcc h' X Y N (acc.push (.ref h.objs.size)) (i + 1) := by
  obtain ⟨ts, rfl, e, nd, big, al⟩ := a
  refine ⟨ts ++ [h.objs.size], by simp, by simp [e], ?_, fun T hm => ?_, fun j T hj => ?_⟩
  · refine List.nodup_append.mpr ⟨nd, by simp, fun a ha b hb => ?_⟩
    rw [List.mem_singleton.mp hb]
    obtain ⟨j, hj, rfl⟩ := List.getElem_of_mem ha
    obtain ⟨x', y', q, _⟩ := al j _ (List.getElem?_eq_getElem hj)
    exact Nat.ne_of_lt (Heap.lt_size q)
  · rcases List.mem_append.mp hm with q | q
    · exact big T q
    · rw [List.mem_singleton.mp q]; exact hN
  · by_cases hji : j < ts.length
    · rw [List.getElem?_append_left hji] at hj
      obtain ⟨x', y', q, r⟩ := al j T hj
      exact ⟨x', y', k T _ (big T (List.mem_of_getElem? hj)) q, r⟩
    · rw [List.getElem?_append_right (by omega)] at hj
      have hz : j - ts.length = 0 := by
        rcases Nat.eq_zero_or_pos (j - ts.length) with z | z
        · exact z
        · rw [List.getElem?_eq_none (by rw [List.length_singleton]; omega)] at hj; cases hj
      rw [hz] at hj
      cases hj
      rw [show j = i by omega]
      exact ⟨x, y, hT, hx, hy⟩
theorem PqAcc.at {h h' : Heap} {X Y : Nat → Value → Prop} {N : Nat} {acc : Array Value} {i : Nat} (a : PqAcc h X Y N acc i) (k : ∀ c o, N ≤ c → h.get? c = some o → h'.get? c = some o) : PqAcc h' X Y N acc i := by
  obtain ⟨ts, e1, e2, nd, big, al⟩ := a
  exact ⟨ts, e1, e2, nd, big, fun j T hj => let ⟨x, y, q, r⟩ := al j T hj; ⟨x, y, k T _ (big T (List.mem_of_getElem? hj)) q, r⟩⟩
end
section
variable {prog : Program} {w : World} {A : Around} {R : Result → Shared → Prop} {z TI TO i1 i2 : Addr} {f1 f2 : List Addr} {n1 n2 : Nat} {P1 P2 : Nat → Value → Prop} {S1 S2 : Nat → Heap → Prop}
/-- the list takes all pairs: from the second on -/
theorem pq_loop (S : ZipSep2 z TI TO i1 i2 f1 f2) (D1 : Draws prog w A.in1.in1 i1 f1 n1 P1 S1) (D2 : Draws prog w A.in1.in1 i2 f2 n2 P2 S2) (hn : n1 ≤ sizeLine) (L N T : Addr) (hL1 : L ∉ f1) (hL2 : L ∉ f2) (hLz : L ≠ z) (hLT : L ≠ TI) (hTz : TI ≠ z) (hTi1 : TI ≠ i1) (hTi2 : TI ≠ i2)
    (big : ∀ c, N ≤ c → c ≠ z ∧ c ≠ i1 ∧ c ≠ i2 ∧ c ≠ L) (res : Value) :
    ∀ (k i : Nat) (s : Shared) (acc : Array Value) (c : Nat) (b : Bool) (o : Obj), min n1 n2 - i = k → i ≤ min n1 n2 → IsZipHeld s.heap z TI TO T b → N ≤ T → s.heap.get? T = some o → IsTupOf2 s.heap TI (.ref i1) (.ref i2) → S1 i s.heap → S2 i s.heap → N ≤ s.heap.objs.size →
    s.heap.get? L = some { cls := .type "list", dict := none, data := .seq acc c, slots := #[] } → PqAcc s.heap P1 P2 N acc i →
    (∀ h' tk acc' c', (∀ b o, b ≠ z → b ≠ i1 → b ≠ i2 → b ≠ L → s.heap.get? b = some o → h'.get? b = some o) → h'.get? L = some { cls := .type "list", dict := none, data := .seq acc' c', slots := #[] } → PqAcc h' P1 P2 N acc' (min n1 n2) → R (.ok (.ret res)) { s with heap := h', toks := tk }) →
    codeAny (model prog w) A (.builtin "list.extend.loop" ⟨[.ref L, .ref z, res], []⟩) R s := by
  intro k
  have Li1 : L ≠ i1 := fun e => hL1 (e ▸ S.mem1)
  have Li2 : L ≠ i2 := fun e => hL2 (e ▸ S.mem2)
  induction k with
  | zero =>
    intro i s acc c b o hk hi hz hNT hT hI t1 t2 hN hL ha hR
    have e : i = n1 ∨ i = n2 := by omega
    have em : min n1 n2 = i := by omega
    refine codeAny_builtin F.entry_extend_loop ?_; rw [Around.under_plainId F.plain_extend_loop _]
    show wpAny _ A.in1 (pyNext (.ref z) >>= _) _ _ s
    refine wpAny_bind (pq_end S D1 D2 hz hT hI t1 t2 (by omega) (by omega) e fun h' tk fr => wpAny_pure ?_)
    refine hR h' tk acc c (fun b o b1 b2 b3 _ e => fr b o b1 b2 b3 e) (fr L _ hLz Li1 Li2 hL) ?_
    rw [em]
    exact ha.at fun c o hc e => fr c o (big c hc).1 (big c hc).2.1 (big c hc).2.2.1 e
  | succ k ih =>
    intro i s acc c b o hk hi hz hNT hT hI t1 t2 hN hL ha hR
    refine codeAny_builtin F.entry_extend_loop ?_; rw [Around.under_plainId F.plain_extend_loop _]
    show wpAny _ A.in1 (pyNext (.ref z) >>= _) _ _ s
    refine wpAny_bind (pq_item S D1 D2 hz hT hI t1 t2 (by omega) (by omega) fun x y h' tk px py z' u1 u2 hp sz fr => ?_)
    have hL' := fr L _ hLz Li1 Li2 hL
    show wpAny _ A.in1 (updateSeq L (·.push (.ref s.heap.objs.size)) >>= _) _ _ { s with heap := h', toks := tk }
    have up : ∀ c o, c ≠ L → h'.get? c = some o → (h'.update L (Obj.mapSeq (·.push (.ref s.heap.objs.size)))).get? c = some o := fun c o hc e => (Heap.get?_update_other _ _ (Ne.symm hc)).trans e
    have a1 : PqAcc (h'.update L (Obj.mapSeq (·.push (.ref s.heap.objs.size)))) P1 P2 N (acc.push (.ref s.heap.objs.size)) (i + 1) :=
      PqAcc.push ha hN (fun c o hc e => up c o (big c hc).2.2.2 (fr c o (big c hc).1 (big c hc).2.1 (big c hc).2.2.1 e)) (up _ _ (big _ hN).2.2.2 hp) px py
    refine wpAny_bind (wpAny_updateSeq hL' rfl (wpAny_pure ⟨plainId_quiet F.plain_extend_loop _, ih (i + 1) _ (acc.push (.ref s.heap.objs.size)) _ true _ (by omega) (by omega) (up _ _ (Ne.symm hLz) z') hNT (up T _ (big T hNT).2.2.2 (fr T _ (big T hNT).1 (big T hNT).2.1 (big T hNT).2.2.1 hT)) (up _ _ (Ne.symm hLT) (fr _ _ hTz hTi1 hTi2 hI)) (D1.frame _ _ _ u1 fun b hb o e => up b o (fun q => hL1 (q ▸ hb)) e) (D2.frame _ _ _ u2 fun b hb o e => up b o (fun q => hL2 (q ▸ hb)) e) ?_ (Heap.get?_update_self _ hL' rfl) a1 fun h2 tk2 acc2 c2 fr2 g2 p2 => ?_⟩) (by rw [ha.size]; omega) (by show (acc.push _).size ≤ sizeLine + 1; rw [Array.size_push, ha.size]; omega))
    · show N ≤ (h'.update L _).objs.size
      rw [Heap.size_update, sz]
      exact Nat.le_succ_of_le hN
    · exact hR h2 tk2 acc2 c2 (fun b o b1 b2 b3 b4 e => fr2 b o b1 b2 b3 b4 (up b o b4 (fr b o b1 b2 b3 e))) g2 p2
end
theorem zip_no_len : typeLookup (.type "zip") "__len__" = pure none := am_miss_of_fast (by decide +kernel)
theorem zip_no_hint : typeLookup (.type "zip") "__length_hint__" = pure none := am_miss_of_fast (by decide +kernel)
section
variable {prog : Program} {w : World} {A : Around} {R : Result → Shared → Prop} {s : Shared} {z TI TO i1 i2 : Addr} {f1 f2 : List Addr} {n1 n2 : Nat} {P1 P2 : Nat → Value → Prop} {S1 S2 : Nat → Heap → Prop}
/-- all that is apart -/
structure PqSep (z TI TO i1 i2 : Addr) (f1 f2 : List Addr) (L N : Addr) : Prop where
  S : ZipSep2 z TI TO i1 i2 f1 f2
  L1 : L ∉ f1
  L2 : L ∉ f2
  Lz : L ≠ z
  LT : L ≠ TI
  LO : L ≠ TO
  Tz : TI ≠ z
  Ti1 : TI ≠ i1
  Ti2 : TI ≠ i2
  TT : TI ≠ TO
  big : ∀ c, N ≤ c → c ≠ z ∧ c ≠ i1 ∧ c ≠ i2 ∧ c ≠ L ∧ c ≠ TO
theorem pq_all {L N : Addr} (Y : PqSep z TI TO i1 i2 f1 f2 L N) (D1 : Draws prog w A.in1.in1 i1 f1 n1 P1 S1) (D2 : Draws prog w A.in1.in1 i2 f2 n2 P2 S2) (hn : n1 ≤ sizeLine) {u v res : Value} {c : Nat}
    (hz : IsZip s.heap z TI TO .none) (hI : IsTupOf2 s.heap TI (.ref i1) (.ref i2)) (hO : IsTupOf2 s.heap TO u v) (t1 : S1 0 s.heap) (t2 : S2 0 s.heap) (hN : N ≤ s.heap.objs.size)
    (hL : s.heap.get? L = some { cls := .type "list", dict := none, data := .seq #[] c, slots := #[] })
    (hR : ∀ h' tk acc' c', (∀ b o, b ≠ z → b ≠ TO → b ≠ i1 → b ≠ i2 → b ≠ L → s.heap.get? b = some o → h'.get? b = some o) → h'.get? L = some { cls := .type "list", dict := none, data := .seq acc' c', slots := #[] } → PqAcc h' P1 P2 N acc' (min n1 n2) → R (.ok (.ret res)) { s with heap := h', toks := tk }) :
    codeAny (model prog w) A (.builtin "list.extend.loop" ⟨[.ref L, .ref z, res], []⟩) R s := by
  have Li1 : L ≠ i1 := fun e => Y.L1 (e ▸ Y.S.mem1)
  have Li2 : L ≠ i2 := fun e => Y.L2 (e ▸ Y.S.mem2)
  refine codeAny_builtin F.entry_extend_loop ?_; rw [Around.under_plainId F.plain_extend_loop _]
  show wpAny _ A.in1 (pyNext (.ref z) >>= _) _ _ s
  rcases Nat.eq_zero_or_pos (min n1 n2) with e0 | pos
  · refine wpAny_bind (wpAny_pyNext_zipD2_end Y.S D1 D2 hz hI hO t1 t2 (by omega) (by omega) (by omega) fun h' tk fr => wpAny_pure ?_)
    refine hR h' tk #[] c (fun b o b1 b2 b3 b4 _ e => fr b o b1 b2 b3 b4 e) (fr L _ Y.Lz Y.LO Li1 Li2 hL) ?_
    rw [e0]
    exact PqAcc.nil
  · refine wpAny_bind (wpAny_pyNext_zipD2_item Y.S D1 D2 hz hI hO t1 t2 (by omega) (by omega) fun x y h' tk px py z' _ u1 u2 hp sz fr => ?_)
    have hL' := fr L _ Y.Lz Y.LO Li1 Li2 hL
    show wpAny _ A.in1 (updateSeq L (·.push (.ref s.heap.objs.size)) >>= _) _ _ { s with heap := h', toks := tk }
    have up : ∀ c o, c ≠ L → h'.get? c = some o → (h'.update L (Obj.mapSeq (·.push (.ref s.heap.objs.size)))).get? c = some o := fun c o hc e => (Heap.get?_update_other _ _ (Ne.symm hc)).trans e
    have a1 : PqAcc (h'.update L (Obj.mapSeq (·.push (.ref s.heap.objs.size)))) P1 P2 N ((#[] : Array Value).push (.ref s.heap.objs.size)) (0 + 1) :=
      PqAcc.push (h := s.heap) PqAcc.nil hN (fun c o hc e => up c o (Y.big c hc).2.2.2.1 (fr c o (Y.big c hc).1 (Y.big c hc).2.2.2.2 (Y.big c hc).2.1 (Y.big c hc).2.2.1 e)) (up _ _ (Y.big _ hN).2.2.2.1 hp) px py
    refine wpAny_bind (wpAny_updateSeq hL' rfl (wpAny_pure ⟨plainId_quiet F.plain_extend_loop _, pq_loop Y.S D1 D2 hn L N s.heap.objs.size Y.L1 Y.L2 Y.Lz Y.LT Y.Tz Y.Ti1 Y.Ti2 (fun c hc => ⟨(Y.big c hc).1, (Y.big c hc).2.1, (Y.big c hc).2.2.1, (Y.big c hc).2.2.2.1⟩) res _ 1 _ _ _ false _ rfl (by omega) (up _ _ (Ne.symm Y.Lz) z') hN (up _ _ (Y.big _ hN).2.2.2.1 hp) (up _ _ (Ne.symm Y.LT) (fr _ _ Y.Tz Y.TT Y.Ti1 Y.Ti2 hI)) (D1.frame _ _ _ u1 fun b hb o e => up b o (fun q => Y.L1 (q ▸ hb)) e) (D2.frame _ _ _ u2 fun b hb o e => up b o (fun q => Y.L2 (q ▸ hb)) e) ?_ (Heap.get?_update_self _ hL' rfl) a1 fun h2 tk2 acc2 c2 fr2 g2 p2 => ?_⟩) (Nat.zero_le _) (by show ((#[] : Array Value).push _).size ≤ sizeLine + 1; rw [Array.size_push]; exact Nat.succ_le_succ (Nat.zero_le _)))
    · show N ≤ (h'.update L _).objs.size
      rw [Heap.size_update, sz]
      exact Nat.le_succ_of_le hN
    · exact hR h2 tk2 acc2 c2 (fun b o b1 b2 b3 b4 b5 e => fr2 b o b1 b3 b4 b5 (up b o b5 (fr b o b1 b2 b3 b4 e))) g2 p2
theorem pq_extend {L N : Addr} (Y : PqSep z TI TO i1 i2 f1 f2 L N) (D1 : Draws prog w A.in1.in1 i1 f1 n1 P1 S1) (D2 : Draws prog w A.in1.in1 i2 f2 n2 P2 S2) (hn : n1 ≤ sizeLine) {u v res : Value} {c : Nat}
    (hz : IsZip s.heap z TI TO .none) (hI : IsTupOf2 s.heap TI (.ref i1) (.ref i2)) (hO : IsTupOf2 s.heap TO u v) (t1 : S1 0 s.heap) (t2 : S2 0 s.heap) (hN : N ≤ s.heap.objs.size)
    (hL : s.heap.get? L = some { cls := .type "list", dict := none, data := .seq #[] c, slots := #[] })
    (hR : ∀ h' tk acc' c', (∀ b o, b ≠ z → b ≠ TO → b ≠ i1 → b ≠ i2 → b ≠ L → s.heap.get? b = some o → h'.get? b = some o) → h'.get? L = some { cls := .type "list", dict := none, data := .seq acc' c', slots := #[] } → PqAcc h' P1 P2 N acc' (min n1 n2) → R (.ok (.ret res)) { s with heap := h', toks := tk }) :
    wpAny (model prog w) A.in1 (Builtin.List.listExtendWith (.ref L) (.ref z) res) (fun fin s' => match fin with | .done f => R (.ok f) s' | .again c' => c'.quiet = true ∧ codeAny (model prog w) A c' R s') (fun e s' => R (.error e) s') s := by
  unfold Builtin.List.listExtendWith
  have ty : s.TypeIs (.ref z) "zip" := ⟨_, hz, rfl⟩
  refine wpAny_bind (wpAny_typeOf ty ?_)
  simp only [show Builtin.List.listSameRef (.ref L) (.ref z) = false by simp [Builtin.List.listSameRef, Y.Lz], show (Value.type "zip" == Value.type "list") = false by decide, show (Value.type "zip" == Value.type "tuple") = false by decide, Bool.or_false, Bool.false_eq_true, if_false]
  refine wpAny_bind (wpAny_pyIter_zip hz (wpAny_bind (wpAny_holding ?_)))
  unfold Builtin.List.listLengthHint
  refine wpAny_bind (wpAny_specialOf ty zip_no_len (show wpAny _ A.in1 (specialOf (Value.ref z) (Str.ofString "__length_hint__") >>= _) _ _ s from wpAny_bind (wpAny_specialOf ty zip_no_hint (wpAny_pure ?_))))
  show wpAny _ A.in1 (rule "list.extend.makes-room" >>= fun _ => Builtin.List.listTouch (.ref L) >>= fun _ => again (.builtin "list.extend.loop" ⟨[.ref L, .ref z, res], []⟩)) _ _ s
  refine wpAny_bind (wpAny_rule (wpAny_bind (show wpAny _ A.in1 (updateSeq L (·.push .none) >>= fun _ => updateSeq L (·.pop)) _ _ s from ?_)))
  have h2 := Heap.get?_update_self (Obj.mapSeq (·.push Value.none)) hL rfl
  have h3 := Heap.get?_update_self (Obj.mapSeq (·.pop)) h2 rfl
  refine wpAny_bind (wpAny_updateSeq hL rfl (wpAny_updateSeq (hz := by seq_fits) h2 rfl (wpAny_pure ⟨plainId_quiet F.plain_extend_loop _, ?_⟩)))
  have up : ∀ c o, c ≠ L → s.heap.get? c = some o → ((s.heap.update L (Obj.mapSeq (·.push Value.none))).update L (Obj.mapSeq (·.pop))).get? c = some o := fun c o hc e => (Heap.get?_update_other _ _ (Ne.symm hc)).trans ((Heap.get?_update_other _ _ (Ne.symm hc)).trans e)
  refine pq_all Y D1 D2 hn (up _ _ (Ne.symm Y.Lz) hz) (up _ _ (Ne.symm Y.LT) hI) (up _ _ (Ne.symm Y.LO) hO) (D1.frame _ _ _ t1 fun b hb o e => up b o (fun q => Y.L1 (q ▸ hb)) e) (D2.frame _ _ _ t2 fun b hb o e => up b o (fun q => Y.L2 (q ▸ hb)) e) ?_ h3 fun h' tk acc' c' fr g p => ?_
  · show N ≤ ((s.heap.update L _).update L _).objs.size
    rw [Heap.size_update, Heap.size_update]
    exact hN
  · exact hR h' tk acc' c' (fun b o b1 b2 b3 b4 b5 e => fr b o b1 b2 b3 b4 b5 (up b o b5 e)) g p
theorem pq_call {N : Addr} {E : Value → Shared → Prop} {Q : Value → Shared → Prop} (Y : PqSep z TI TO i1 i2 f1 f2 s.heap.objs.size N) (D1 : Draws prog w A.in1.in1.in1 i1 f1 n1 P1 S1) (D2 : Draws prog w A.in1.in1.in1 i2 f2 n2 P2 S2) (hn : n1 ≤ sizeLine) {u v : Value}
    (hz : IsZip s.heap z TI TO .none) (hI : IsTupOf2 s.heap TI (.ref i1) (.ref i2)) (hO : IsTupOf2 s.heap TO u v) (t1 : S1 0 s.heap) (t2 : S2 0 s.heap) (hN : N = s.heap.objs.size + 1)
    (hQ : ∀ h' tk acc' c', (∀ b o, b ≠ z → b ≠ TO → b ≠ i1 → b ≠ i2 → s.heap.get? b = some o → h'.get? b = some o) → h'.get? s.heap.objs.size = some { cls := .type "list", dict := none, data := .seq acc' c', slots := #[] } → PqAcc h' P1 P2 N acc' (min n1 n2) → Q (.ref s.heap.objs.size) { s with heap := h', toks := tk }) :
    wpAny (model prog w) A (call (.type "list") [.ref z]) Q E s := by
  refine callType_codes (Q₁ := fun obj s₁ => obj = .ref s.heap.objs.size ∧ s₁ = { s with heap := s.heap.push { cls := .type "list", data := .seq #[] } }) F.called_list (F.typeCall_list_1 _) F.entry_list_init (code_list_new _ ⟨rfl, rfl⟩) fun obj s₁ h₁ => ?_
  obtain ⟨rfl, rfl⟩ := h₁
  have hS : (s.heap.push { cls := .type "list", data := .seq #[] }).get? s.heap.objs.size = some { cls := .type "list", data := .seq #[] } := Heap.get?_push_size _ rfl
  refine ⟨⟨_, hS, rfl⟩, F.args_list_init_2 _ _, ?_⟩
  show wpAny _ _ (do let old ← Builtin.List.listItems (.ref s.heap.objs.size); Builtin.List.listUpdate (.ref s.heap.objs.size) (fun _ => #[]); letGo old.toList.reverse; Builtin.List.listExtendWith (.ref s.heap.objs.size) (.ref z) .none) _ _ _
  refine wpAny_bind ?_; unfold Builtin.List.listItems
  refine wpAny_bind (wpAny_seqItems hS rfl (wpAny_pure (show wpAny _ _ (updateSeq s.heap.objs.size (fun _ => #[]) >>= fun _ => letGo (#[] : Array Value).toList.reverse >>= fun _ => Builtin.List.listExtendWith (.ref s.heap.objs.size) (.ref z) .none) _ _ _ from ?_)))
  have h2 := Heap.get?_update_self (Obj.mapSeq (fun _ => (#[] : Array Value))) hS rfl
  refine wpAny_bind (wpAny_updateSeq hS rfl (wpAny_bind (wpAny_letGo ?_)))
  have up : ∀ c o, s.heap.get? c = some o → ((s.heap.push { cls := .type "list", data := .seq #[] }).update s.heap.objs.size (Obj.mapSeq (fun _ => (#[] : Array Value)))).get? c = some o := fun c o e => (Heap.get?_update_other _ _ (Nat.ne_of_gt (Heap.lt_size e))).trans (Heap.get?_push_of_some _ e)
  refine pq_extend (A := A.in1) Y D1 D2 hn (up _ _ hz) (up _ _ hI) (up _ _ hO) (D1.frame _ _ _ t1 fun b hb o e => up b o e) (D2.frame _ _ _ t2 fun b hb o e => up b o e) ?_ h2 fun h' tk acc' c' fr g p => ?_
  · show N ≤ ((s.heap.push _).update _ _).objs.size
    rw [Heap.size_update, Heap.size_push, hN]; exact Nat.le_refl _
  · exact ⟨rfl, hQ h' tk acc' c' (fun b o b1 b2 b3 b4 e => fr b o b1 b2 b3 b4 (Nat.ne_of_lt (Heap.lt_size e)) (up b o e)) g p⟩
end
end PySem
namespace Py
open PySem L2
open Evl (Ex)
theorem inv_many {X : Cx} {pins : List (Addr × Obj)} {σ : Sl} {H H' : Hp} {s : Shared} {h' : Heap} {t' : Nat} (I : Inv X pins σ H s) (k : ∀ b u, s.heap.get? b = some u → h'.get? b = some u) (lo : ∀ b, b < s.heap.objs.size → H' b = H b)
    (new : ∀ b o, s.heap.objs.size ≤ b → H' b = some o → ObjOk X.prog X.w H' h' b o) : Inv X pins σ H' { s with heap := h', toks := t' } := by
  have same : ∀ b o, H b = some o → H' b = some o := fun b o e => by rw [lo b (I.hok.lt e)]; exact e
  refine I.un ⟨fun b u q _ _ _ => k b u q, fun b u q _ _ _ => ⟨u.slots, k b u q⟩, fun b u q n _ => by rw [lo b (Heap.lt_size q)]; exact n, fun b u q _ => ⟨u, k b u q⟩, fun b xs q => same b _ q, fun b o u q => same b _ q, fun b ps q => ⟨#[], by rw [same b _ q]; simp⟩⟩ fun b o e => ?_
  rcases Nat.lt_or_ge b s.heap.objs.size with hb | hb
  · rw [lo b hb] at e
    exact (I.hok b o e).stay (fun c v _ q => k c v q) (fun c q => same c _ q) fun c xs q => same c _ q
  · exact new b o hb e
def pqH (H : Hp) : List (Addr × V × V) → Hp
  | [] => H
  | t :: ts => upd (pqH H ts) t.1 (.tup [t.2.1, t.2.2])
theorem pqH_out {H : Hp} {a : Addr} : ∀ {ts : List (Addr × V × V)}, a ∉ ts.map (·.1) → pqH H ts a = H a
  | [], _ => rfl
  | t :: ts, h => by
    rw [List.map_cons, List.mem_cons, not_or] at h
    rw [pqH, upd_ne h.1]
    exact pqH_out h.2
theorem pqH_in {H : Hp} : ∀ {ts : List (Addr × V × V)} {t : Addr × V × V}, (ts.map (·.1)).Nodup → t ∈ ts → pqH H ts t.1 = some (.tup [t.2.1, t.2.2])
  | [], t, _, h => by simp at h
  | u :: ts, t, nd, h => by
    rw [List.map_cons, List.nodup_cons] at nd
    rcases List.mem_cons.mp h with rfl | h
    · rw [pqH, upd_same]
    · have : t.1 ≠ u.1 := fun e => nd.1 (e ▸ List.mem_map.mpr ⟨t, h, rfl⟩)
      rw [pqH, upd_ne this]
      exact pqH_in nd.2 h
theorem pqH_gr [KK] {Hk H : Hp} (x : Ex Hk H) : ∀ {ts : List (Addr × V × V)}, (ts.map (·.1)).Nodup → (∀ t ∈ ts, H t.1 = none) → Gr Hk H (pqH Hk ts) (pqH H ts)
  | [], _, _ => Gr.refl x
  | t :: ts, nd, h => by
    rw [List.map_cons, List.nodup_cons] at nd
    have g := pqH_gr x nd.2 fun u hu => h u (List.mem_cons_of_mem _ hu)
    exact g.trans (Gr.new g.kh (by rw [pqH_out nd.1]; exact h t (by simp)))
theorem sIs_at {t : Bool} {h h' : Heap} {a : Addr} {items : Array Value} (x : sIs t h a items) (k : ∀ c o, h.get? c = some o → h'.get? c = some o) : sIs t h' a items := by
  cases t with
  | false => obtain ⟨o, e, r⟩ := (show h.IsList a items from x); exact ⟨o, k _ _ e, r⟩
  | true => exact (show h.IsTuple a items from x).at fun o e => k _ _ e
theorem nn_gt {a b : Nat} (h : b < a) : a ≠ b := Nat.ne_of_gt h
theorem pq_sep {N a b : Nat} (la : a < N) (lb : b < N) (S : ZipSep2 (N + 4) (N + 2) (N + 3) N (N + 1) [N, a] [N + 1, b]) : PqSep (N + 4) (N + 2) (N + 3) N (N + 1) [N, a] [N + 1, b] (N + 5) (N + 6) where
  S := S
  L1 := by simp only [List.mem_cons, List.not_mem_nil, or_false]; exact fun h => h.elim (fun z : N + 5 = N => by omega) (fun z : N + 5 = a => by omega)
  L2 := by simp only [List.mem_cons, List.not_mem_nil, or_false]; exact fun h => h.elim (fun z : N + 5 = N + 1 => by omega) (fun z : N + 5 = b => by omega)
  Lz := show (N + 5 : Nat) ≠ N + 4 by omega
  LT := show (N + 5 : Nat) ≠ N + 2 by omega
  LO := show (N + 5 : Nat) ≠ N + 3 by omega
  Tz := show (N + 2 : Nat) ≠ N + 4 by omega
  Ti1 := show (N + 2 : Nat) ≠ N by omega
  Ti2 := show (N + 2 : Nat) ≠ N + 1 by omega
  TT := show (N + 2 : Nat) ≠ N + 3 by omega
  big := fun c (hc : N + 6 ≤ c) => ⟨nn_gt (Nat.lt_of_lt_of_le (show N + 4 < N + 6 by omega) hc), nn_gt (Nat.lt_of_lt_of_le (show N < N + 6 by omega) hc), nn_gt (Nat.lt_of_lt_of_le (show N + 1 < N + 6 by omega) hc), nn_gt (Nat.lt_of_lt_of_le (show N + 5 < N + 6 by omega) hc), nn_gt (Nat.lt_of_lt_of_le (show N + 3 < N + 6 by omega) hc)⟩
/-- the rows of a zip as values -/
def zipV : List V → List V → List (V × V)
  | a :: as, b :: bs => (a, b) :: zipV as bs
  | _, _ => []
theorem zipV_len : ∀ a b : List V, (zipV a b).length = min a.length b.length
  | [], _ => by simp [zipV]
  | _ :: _, [] => by simp [zipV]
  | a :: as, b :: bs => by simp [zipV, zipV_len as bs]
theorem zipV_get : ∀ {a b : List V} {i : Nat} {x y : V}, a[i]? = some x → b[i]? = some y → (zipV a b)[i]? = some (x, y)
  | [], _, i, x, y, h, _ => by simp at h
  | _ :: _, [], i, x, y, _, h => by simp at h
  | a :: as, b :: bs, 0, x, y, h, k => by simp at h k; subst h k; rfl
  | a :: as, b :: bs, i + 1, x, y, h, k => by
    have := zipV_get (i := i) (by simpa using h) (by simpa using k)
    simpa [zipV] using this
section
variable [KK] {X : Cx} [ok : OK X] {W : WX} {e e' : Expr} {φ ψ : En → R Rv} {p p2 pos pos2 : Pos}
theorem sr_len {pins : List (Addr × Obj)} {σ : Sl} {H : Hp} {s : Shared} {t : Bool} {a : Addr} {xs : List V} (I : Inv X pins σ H s) (h : SR t H a xs) : xs.length ≤ sizeLine := by
  cases t with
  | false =>
    obtain ⟨l, its, n, r, _, g⟩ := rd_list I (show Rl H a xs from h)
    assumption
  | true =>
    obtain ⟨its, r, p, l⟩ := I.tuple (a := a) (xs := xs) (.inl (show Rd H a (.tup xs) from h))
    exact l
def rLz (ta : TA) : TE := fun σ H Q => ta σ H fun vs H1 => ∃ t1 t2 a b xs ys, vs = [.ref a, .ref b] ∧ SR t1 H1 a xs ∧ SR t2 H1 b ys ∧
  ∀ (L : Addr) (ts : List (Addr × V × V)), (ts.map (·.1)).Nodup → ts.map (·.2) = zipV xs ys → (∀ t ∈ ts, H1 t.1 = none) → H1 L = none → L ∉ ts.map (·.1) → Q (.ref L) (upd (pqH H1 ts) L (.lst (ts.map fun t => V.ref t.1)))
theorem pe_lz {ta : TA} (hc : X.calm = true) (hg : Gl X "list") (hm : X.mg "list" = none) (hg2 : Gl X "zip") (hm2 : X.mg "zip" = none) (ha : PA X [e, e'] ta)
    (hs : starEach [e, e'] X.env = (false, eval e X.env) :: starEach [e'] X.env) (hpl : (backTo pos2 (starEach [e'] X.env)).any (·.1) = false)
    (na : starEach [.Call (.Name "zip" p2) [e, e'] [] pos2] X.env = (false, eval (.Call (.Name "zip" p2) [e, e'] [] pos2) X.env) :: starEach [] X.env) :
    PE X (.Call (.Name "list" p) [.Call (.Name "zip" p2) [e, e'] [] pos2] [] pos) (rLz ta) := by
  refine ⟨fun pins s σ H Q I h => ?_⟩
  refine PyProof.Rows.Call_ (ld_blt I hg hm PyProof.Rows.boot_list (PyProof.Rows.callWith_type1 (PyProof.Rows.args_cons (PyProof.Rows.Call_ (ld_blt I hg2 hm2 PyProof.Rows.boot_zip (PyProof.Rows.callWith_type1 (thn (ha.run pos2 pins s σ H _ I h) fun us s1 hh => ?_) hs hpl))) na) na))
  obtain ⟨vs, H1, I1, r1, t1, t2, a, b, xs, ys, ex, g1, g2, q⟩ := hh
  have hn := sr_len I1 g1
  subst ex
  obtain ⟨v1, v2, rfl, ra, rb⟩ := vals2 r1
  cases ra
  cases rb
  obtain ⟨its, rv, is1, la⟩ := SR.is I1 g1
  obtain ⟨its2, rv2, is2, lb⟩ := SR.is I1 g2
  refine zip_begins2 (begins_s t1 a its.toArray) (begins_s t2 b its2.toArray) is1 is2 fun h' hz hTI hTO h1 h2 hsz hk => PyProof.Rows.args_nil ?_
  have hh := I1.ok.hd hc
  have k1 : its.toArray.size = xs.length := by rw [List.size_toArray, rv.length]
  have k2 : its2.toArray.size = ys.length := by rw [List.size_toArray, rv2.length]
  have S : ZipSep2 (s1.heap.objs.size + 4) (s1.heap.objs.size + 2) (s1.heap.objs.size + 3) s1.heap.objs.size (s1.heap.objs.size + 1) [s1.heap.objs.size, a] [s1.heap.objs.size + 1, b] := zip_sep2 (fun c hc => by rw [List.mem_singleton.mp hc]; exact la) (fun c hc => by rw [List.mem_singleton.mp hc]; exact lb)
  have Y : PqSep (s1.heap.objs.size + 4) (s1.heap.objs.size + 2) (s1.heap.objs.size + 3) s1.heap.objs.size (s1.heap.objs.size + 1) [s1.heap.objs.size, a] [s1.heap.objs.size + 1, b] h'.objs.size (s1.heap.objs.size + 6) := by
    rw [hsz]
    exact pq_sep la lb S
  have is1' : sIs t1 h' a its.toArray := sIs_at is1 hk
  have is2' : sIs t2 h' b its2.toArray := sIs_at is2 hk
  refine pq_call (s := { s1 with heap := h' }) Y (draws_s (A := X.A.in1.in1.in1) t1 hh s1.heap.objs.size a (Nat.ne_of_lt la) its.toArray) (draws_s (A := X.A.in1.in1.in1) t2 hh (s1.heap.objs.size + 1) b (Nat.ne_of_lt (Nat.lt_succ_of_lt lb)) its2.toArray) (by rw [k1]; exact hn) hz hTI hTO ⟨sIt_zero h1, is1'⟩ ⟨sIt_zero h2, is2'⟩ (by show _ = h'.objs.size + 1; rw [hsz]) fun h2 tk acc c fr gL ac => ?_
  obtain ⟨ts, ea, el, nd, big, al⟩ := ac
  have lz : ts.length = (zipV xs ys).length := by rw [zipV_len, el, k1, k2]
  have m1 : (ts.zip (zipV xs ys)).map (·.1) = ts := List.map_fst_zip (Nat.le_of_eq lz)
  have m2 : (ts.zip (zipV xs ys)).map (·.2) = zipV xs ys := List.map_snd_zip (Nat.le_of_eq lz.symm)
  have fre : ∀ t ∈ ts.zip (zipV xs ys), H1 t.1 = none := fun t ht => I1.hok.fresh (Nat.le_trans (by omega) (big t.1 (List.of_mem_zip ht).1))
  have kk : ∀ b u, s1.heap.get? b = some u → h2.get? b = some u := fun b u q => by
    have lt : (b : Nat) < s1.heap.objs.size := Heap.lt_size q
    exact fr b u (Nat.ne_of_lt (Nat.lt_of_lt_of_le lt (Nat.le_add_right _ 4))) (Nat.ne_of_lt (Nat.lt_of_lt_of_le lt (Nat.le_add_right _ 3))) (Nat.ne_of_lt lt) (Nat.ne_of_lt (Nat.lt_of_lt_of_le lt (Nat.le_add_right _ 1))) (hk b u q)
  have hL0 : H1 h'.objs.size = none := I1.hok.fresh (by omega)
  have hLt : h'.objs.size ∉ (ts.zip (zipV xs ys)).map (·.1) := by
    rw [m1]
    intro hm
    have := big _ hm
    omega
  refine ⟨.ref h'.objs.size, upd (pqH H1 (ts.zip (zipV xs ys))) h'.objs.size (.lst ((ts.zip (zipV xs ys)).map fun t => V.ref t.1)), inv_many (s := s1) I1 kk (fun b hb => ?_) (fun b o hb e => ?_), rfl, q h'.objs.size _ (by rw [m1]; exact nd) m2 fre hL0 hLt⟩
  · rw [upd_ne (Nat.ne_of_lt (by omega)), pqH_out]
    rw [m1]
    intro hm
    have := big _ hm
    omega
  · by_cases hbL : b = h'.objs.size
    · subst hbL
      rw [upd_same] at e
      cases e
      have em : (ts.zip (zipV xs ys)).map (fun t => V.ref t.1) = ts.map V.ref := by
        rw [show (fun t : Addr × V × V => V.ref t.1) = V.ref ∘ (·.1) from rfl, ← List.map_map, m1]
      rw [em]
      refine ⟨by rw [List.length_map, el, k1]; omega, ts.map Value.ref, c, ?_, by rw [← ea]; exact gL⟩
      clear em ea el nd big al lz m1 m2 fre hLt
      induction ts with
      | nil => exact .nil
      | cons t ts ih => exact .cons rfl ih
    · rw [upd_ne hbL] at e
      by_cases hbt : b ∈ (ts.zip (zipV xs ys)).map (·.1)
      · obtain ⟨t, ht, rfl⟩ := List.mem_map.mp hbt
        rw [pqH_in (by rw [m1]; exact nd) ht] at e
        cases e
        obtain ⟨j, hj, et⟩ := List.getElem_of_mem ht
        have hj2 : j < min xs.length ys.length := by
          rw [List.length_zip, lz, zipV_len] at hj
          omega
        have ez : (zipV xs ys)[j]? = some (xs[j]'(by omega), ys[j]'(by omega)) := zipV_get (List.getElem?_eq_getElem (by omega)) (List.getElem?_eq_getElem (by omega))
        have et1 : ts[j]? = some t.1 := by
          rw [← et, List.getElem_zip]
          exact List.getElem?_eq_getElem _
        have et2 : t.2 = (xs[j]'(by omega), ys[j]'(by omega)) := by
          have : (zipV xs ys)[j]? = some t.2 := by
            rw [← et, List.getElem_zip]
            exact List.getElem?_eq_getElem _
          rw [ez] at this
          exact (Option.some.inj this).symm
        obtain ⟨x, y, hp, px, py⟩ := al j t.1 et1
        obtain ⟨u1, e1, ru1⟩ := rv.get (List.getElem?_eq_getElem (show j < xs.length by omega))
        obtain ⟨u2, e2, ru2⟩ := rv2.get (List.getElem?_eq_getElem (show j < ys.length by omega))
        have q1 : its[j]? = some x := by simpa using px
        have q2 : its2[j]? = some y := by simpa using py
        rw [q1] at e1
        rw [q2] at e2
        cases e1
        cases e2
        rw [et2]
        exact ⟨by show 2 ≤ sizeLine; decide, [x, y], .cons ru1 (.cons ru2 .nil), ⟨_, hp, rfl, _, rfl⟩⟩
      · rw [pqH_out hbt] at e
        rw [I1.hok.fresh hb] at e
        cases e
def eLz (φ ψ : En → R Rv) : En → R Rv := fun ρ => φ ρ >>= fun x => ψ ρ >>= fun y => z2 (frz x) (frz y) >>= fun a => if a.2.length ≤ 1000000 then .ok (.own a.2) else .bad
theorem zipV_rp {Hk : Hp} {xs ys : List V} {ds es : List PyData} (h : RpAll Hk xs ds) (k : RpAll Hk ys es) : ∀ {ts : List (Addr × V × V)} {Hk' : Hp}, Ex Hk Hk' → ts.map (·.2) = zipV xs ys → (∀ t ∈ ts, Hk' t.1 = some (.tup [t.2.1, t.2.2])) → RpAll Hk' (ts.map fun t => V.ref t.1) (zipD ds es) := by
  induction xs generalizing ys ds es with
  | nil =>
    intro ts Hk' _ e _
    cases h
    have : ts = [] := by cases ts with | nil => rfl | cons t ts => simp [zipV] at e
    subst this
    rw [zipD]
    · exact .nil
    all_goals simp
  | cons x xs ih =>
    intro ts Hk' hx e al
    cases h with
    | cons h1 h2 =>
      cases k with
      | nil =>
        have : ts = [] := by cases ts with | nil => rfl | cons t ts => simp [zipV] at e
        subst this
        rw [zipD]
        · exact .nil
        all_goals simp
      | cons k1 k2 =>
        cases ts with
        | nil => simp [zipV] at e
        | cons t ts =>
          rw [zipV, List.map_cons] at e
          injection e with e1 e2
          rw [List.map_cons, zipD]
          refine .cons ?_ (ih h2 k2 hx e2 fun u hu => al u (List.mem_cons_of_mem _ hu))
          have q := al t (by simp)
          rw [e1] at q
          exact .tup (.inl q) (.cons (Rp.up hx h1) (.cons (Rp.up hx k1) .nil))
theorem d_lz (hc : X.calm = true) (h : PE X e (te X.K W φ)) (h' : PE X e' (te X.K W ψ)) (hm : X.mg "list" = none) (hm2 : X.mg "zip" = none) (hg : Gl X "list" := by rfl) (hg2 : Gl X "zip" := by rfl) (hs : starEach [e, e'] X.env = (false, eval e X.env) :: starEach [e'] X.env := by rfl) (hs2 : starEach [e'] X.env = (false, eval e' X.env) :: starEach [] X.env := by rfl)
    (hpl : (backTo pos2 (starEach [e'] X.env)).any (·.1) = false := by rfl) (na : starEach [.Call (.Name "zip" p2) [e, e'] [] pos2] X.env = (false, eval (.Call (.Name "zip" p2) [e, e'] [] pos2) X.env) :: starEach [] X.env := by rfl) :
    PE X (.Call (.Name "list" p) [.Call (.Name "zip" p2) [e, e'] [] pos2] [] pos) (te X.K W (eLz φ ψ)) :=
  pe_imp (pe_lz hc hg hm hg2 hm2 (pa_cons h (pa_cons h' pa_nil hs2) hs) hs hpl na) fun σ H Q ⟨Hk0, H0, Hk, ρ, r, p⟩ =>
    te_thenF (g := fun x => ψ ρ >>= fun y => z2 x (frz y) >>= fun a => if a.2.length ≤ 1000000 then .ok (.own a.2) else .bad) r p fun x v Hk1 H1 g1 d1 n1 r1 p1 =>
      te_thenF (g := fun y => z2 x y >>= fun a => if a.2.length ≤ 1000000 then .ok (.own a.2) else .bad) r1 (PostE.up g1 p1) fun y u Hk' H' g d n r' p' => by
        unfold z2 at p'
        cases q : seqOf x with
        | err c => exact absurd q seqOf_no
        | bad => rw [q] at p'; exact p'.elim
        | ok a =>
          rw [q] at p'
          cases q2 : seqOf y with
          | err c => exact absurd q2 seqOf_no
          | bad => rw [q2] at p'; exact p'.elim
          | ok b =>
            rw [q2] at p'
            have p' : PostE X.K W Hk1 H1 σ Q (if (zipD a.2 b.2).length ≤ 1000000 then .ok (.own (zipD a.2 b.2)) else .bad) := p'
            split at p'
            · rename_i hz
              obtain ⟨l1, xs, rfl, ra, s1, k1⟩ := seqOf_SR q g.kh (Den.up g d1)
              obtain ⟨l2, ys, rfl, rb, s2, k2⟩ := seqOf_SR q2 g.kh d
              refine ⟨_, _, l1, l2, xs, ys, rfl, s1, s2, fun L ts nd em fr hL hLt => ?_⟩
              have g2 := pqH_gr g.kh nd fr
              have hLp : pqH H' ts L = none := by rw [pqH_out hLt]; exact hL
              have g3 := g2.trans (Gr.own (o := .lst (ts.map fun t => V.ref t.1)) g2.kh hLp)
              have hkk : ∀ t ∈ ts, pqH Hk' ts t.1 = some (.tup [t.2.1, t.2.2]) := fun t ht => pqH_in nd ht
              exact p' _ _ _ (g.trans g3) ⟨L, rfl, g.h.back hL⟩ ⟨L, _, rfl, by rw [pqH_out hLt]; exact Evl.fresh_back g.kh hL, upd_same, zipV_rp ra rb g2.k em hkk⟩
            · exact p'.elim
end
end Py

set_option Elab.async false
set_option linter.all false
set_option maxRecDepth 100000
set_option autoImplicit false
set_option maxHeartbeats 4000000
/-! PyT: try .. except C as e, isinstance of the caught error; the head's facts for them. -/
namespace Py
open PySem L2
open Evl (Ex)
/-! facts -/
inductive XF where
  | isx (x : Str)
  | kit (x y : Str) (b : Bool)
  | exm (x y : Str)
  | kiv (x : Str)
def XF.ok (K : PySem.W.Frag) : XF → Bool
  | .isx x => He.eqO (PySem.W.findIn K (.ref (He.ga K x)) "__getattribute__") (some (some (.builtin "BaseException.__getattribute__"))) && (He.eqO (PySem.W.findIn K (.ref (He.ga K x)) "__getattr__") (some none) && (decide (PySem.W.subIn K (.ref (He.ga K x)) (.type "BaseException") = some true) && (PySem.W.hasDictIn K (He.ga K x) &&
    (He.eqO (PySem.W.findIn K (.ref (He.ga K x)) "__class__") (some (some (.builtin "object.__class__"))) && (He.eqO (PySem.W.specialIn K (.builtin "object.__class__") "__get__") (some (some (.builtin "getset_descriptor.__get__"))) && (decide (PySem.W.takesIn K (.builtin "object.__class__") = some true) && decide (PySem.W.mroIn K (He.ga K x) (.type "object") = some true)))))))
  | .kit x y b => decide (PySem.W.kitOne K (.ref (He.ga K x)) (.ref (He.ga K y)) = some b)
  | .exm x y => decide (PySem.W.exmOne K (.ref (He.ga K x)) (.ref (He.ga K y)) = some true)
  | .kiv x => decide (PySem.W.kitOne K (.ref (He.ga K x)) (.type "ValueError") = some true)
theorem kiv_ok {K : PySem.W.Frag} {x : Str} (c : (XF.kiv x).ok K = true) : PySem.W.kitOne K (.ref (He.ga K x)) (.type "ValueError") = some true := of_decide_eq_true c
theorem exx_ok {K : PySem.W.Frag} {x y : Str} (c : (XF.exm x y).ok K = true) : PySem.W.exmOne K (.ref (He.ga K x)) (.ref (He.ga K y)) = some true := of_decide_eq_true c
theorem isx_ok {K : PySem.W.Frag} {x : Str} (c : (XF.isx x).ok K = true) : ExcC K (He.ga K x) := by
  obtain ⟨h1, c⟩ := He.ba c
  obtain ⟨h2, c⟩ := He.ba c
  obtain ⟨h3, c⟩ := He.ba c
  obtain ⟨h4, c⟩ := He.ba c
  obtain ⟨h5, c⟩ := He.ba c
  obtain ⟨h6, c⟩ := He.ba c
  obtain ⟨h7, h8⟩ := He.ba c
  exact ⟨He.eqO_ok h1, He.eqO_ok h2, of_decide_eq_true h3, h4, He.eqO_ok h5, He.eqO_ok h6, of_decide_eq_true h7, of_decide_eq_true h8⟩
theorem kit_ok {K : PySem.W.Frag} {x y : Str} {b : Bool} (c : (XF.kit x y b).ok K = true) : PySem.W.kitOne K (.ref (He.ga K x)) (.ref (He.ga K y)) = some b := of_decide_eq_true c
/-- the facts of the classes cs under base, asked for ys -/
def xfOf (cs : List Str) (base : Str) (ys : List Str) : List XF := cs.map XF.isx ++ (cs.map (fun c => XF.exm c base) ++ ys.flatMap fun y => cs.map fun c => XF.kit c y (decide (c = y)))
theorem xf_isx {cs ys : List Str} {base c : Str} (h : c ∈ cs) : XF.isx c ∈ xfOf cs base ys := List.mem_append_left _ (List.mem_map.mpr ⟨c, h, rfl⟩)
theorem xf_exm {cs ys : List Str} {base c : Str} (h : c ∈ cs) : XF.exm c base ∈ xfOf cs base ys := List.mem_append_right _ (List.mem_append_left _ (List.mem_map.mpr ⟨c, h, rfl⟩))
theorem xf_kit {cs ys : List Str} {base c y : Str} (h : c ∈ cs) (hy : y ∈ ys) : XF.kit c y (decide (c = y)) ∈ xfOf cs base ys := List.mem_append_right _ (List.mem_append_right _ (List.mem_flatMap.mpr ⟨y, hy, List.mem_map.mpr ⟨c, h, rfl⟩⟩))
abbrev AlX : Type := He.AlD × Bool
def obsX (n : Nat) (fa : List He.Fa) (fn : List He.DefD) (xf : List XF) (g : Addr → Option Obj) : AlX := (He.obsDG n fa fn g, xf.all fun f => f.ok (He.frG g (He.asD g n)))
def SaysX (fa : List He.Fa) (fn : List He.DefD) (xf : List XF) (K : PySem.W.Frag) : Prop := He.SaysD fa fn K ∧ (xf.all fun f => f.ok K) = true
def hookX (n : Nat) (fa : List He.Fa) (fn : List He.DefD) (xf : List XF) : PySem.W.Hook where
  α := AlX
  obs := fun s => obsX n fa fn xf s.heap.get?
  val := fun _ => (He.valD fn, true)
  says := fun _ h => ∃ K : PySem.W.Frag, K.In h ∧ SaysX fa fn xf K
  of := fun _ _ e => ⟨_, He.frG_in, congrArg (fun z : AlX => z.1) e, congrArg (fun z : AlX => z.2) e⟩
  keeps := fun _ _ _ ⟨K, hK, c⟩ k => ⟨K, PySem.W.Frag.In.keeps hK k, c⟩
theorem obsX_eq {n : Nat} {fa : List He.Fa} {fn : List He.DefD} {xf : List XF} {g : Addr → Option Obj} {s : Shared} (h : ∀ a, g a = s.heap.get? a) : obsX n fa fn xf g = (hookX n fa fn xf).obs s := by
  have e : g = s.heap.get? := funext h
  rw [e] <;> rfl
theorem SaysX.fact {fa : List He.Fa} {fn : List He.DefD} {xf : List XF} {K : PySem.W.Frag} (c : SaysX fa fn xf K) (i : Nat) {f : He.Fa} (h : fa[i]? = some f := by rfl) : f.ok K = true := He.SaysD.fact c.1 i h
theorem SaysX.def_ {fa : List He.Fa} {fn : List He.DefD} {xf : List XF} {K : PySem.W.Frag} (c : SaysX fa fn xf K) (i : Nat) {d : He.DefD} (h : fn[i]? = some d := by rfl) : ∃ fd, FunD K d.name d.qual d.params d.body d.scope (d.dvs K) (d.kws K) (He.fAd K d.at_) fd := He.SaysD.def_ c.1 i h
theorem SaysX.xf {fa : List He.Fa} {fn : List He.DefD} {xf : List XF} {K : PySem.W.Frag} (c : SaysX fa fn xf K) {f : XF} (h : f ∈ xf) : f.ok K = true := List.all_eq_true.mp c.2 f h
variable [KK]
/-! isinstance(e, C) in the suite -/
def eRaw (i : Nat) (a : Addr) (b : Bool) : En → R Rv := fun ρ => match ρ[i]? with
  | some (some (.raw a')) => if a' = a then .ok (.val (.bool b)) else .bad
  | _ => .bad
section
variable {X : Cx} [ok : OK X] {W : WX} {a : Addr} {oe : Obj} {pn : List (Addr × Obj)} {c x y : Str} {i : Nat} {b : Bool} {p p1 p2 pos : Pos}
theorem d_isx (i : Nat) (C : ExcC X.K (He.ga X.K c)) (hz : Zc (.ref (He.ga X.K c)) none oe) (hf : ∃ vs, oe.data = .fields vs) (hk : PySem.W.kitOne X.K (.ref (He.ga X.K c)) (.ref (He.ga X.K y)) = some b) (hm : X.mg "isinstance" = none) (hy : X.mg y = some (.ref (He.ga X.K y)))
    (hi : X.N[i]? = some x := by rfl) (hv : Vis X.env.scope x := by first | exact Or.inl rfl | exact Or.inr (Or.inl rfl) | exact Or.inr (Or.inr rfl)) (hd : (x == ("__debug__" : Str)) = false := by decide) (hcd : (x == ("__classdict__" : Str)) = false := by decide)
    (hg : Gl X "isinstance" := by rfl) (hgy : Gl X y := by rfl) (hdy : (y == ("__debug__" : Str)) = false := by decide)
    (h1 : starEach [.Name x p1, .Name y p2] X.env = (false, eval (.Name x p1) X.env) :: starEach [.Name y p2] X.env := by rfl) (h2 : starEach [.Name y p2] X.env = (false, eval (.Name y p2) X.env) :: starEach [] X.env := by rfl)
    (hpl : (backTo pos (starEach [.Name y p2] X.env)).any (·.1) = false := by rfl) : PE (X.suite a ((a, oe) :: pn)) (.Call (.Name "isinstance" p) [.Name x p1, .Name y p2] [] pos) (te X.K W (eRaw i a b)) :=
  pe_imp (pe_callB (X := X.suite a ((a, oe) :: pn)) (call_isE C hz hf) hg hm (by decide +kernel) (pa_cons (pe_var hi hv hd hcd) (pa_cons (pe_glob (v := .ref (He.ga X.K y)) hgy hy rfl hdy) pa_nil h2) h1) (by decide) (by decide) h1 hpl) fun σ H Q ⟨Hk0, H0, Hk, ρ, r, p⟩ => by
    unfold eRaw at p
    split at p
    · rename_i a' ha
      split at p
      · rename_i e
        subst e
        exact ⟨_, r.raw i _ ha, .ref (He.ga X.K y), .ref (He.ga X.K y), b, rfl, fun u ru => ru, hk, p _ Hk H (Gr.refl r.kh) trivial (Rp.bl b)⟩
      · exact p.elim
    · exact p.elim
end
/-! try -/
def rawAt (n i : Nat) (a : Addr) : En := (List.replicate n none).set i (some (.raw a))
theorem rawAt_get {n i j : Nat} {a : Addr} {c : Cl} (h : (rawAt n i a)[j]? = some (some c)) : j = i ∧ c = .raw a ∧ i < n := by
  unfold rawAt at h
  rw [get_set] at h
  split at h
  · rename_i e
    split at h
    · rename_i hl
      cases h
      exact ⟨e.symm, rfl, by simpa using hl⟩
    · cases h
  · rw [List.getElem?_replicate] at h
    split at h <;> cases h
theorem rel_raw {Hk0 H0 Hk H : Hp} {σ : Sl} {n i : Nat} {a : Addr} (g : Gr Hk0 H0 Hk H) (t : TabK Hk0 H0) (hl : σ.length = n) (hs : i < n → σ[i]? = some (some (.ref a))) : Rel Hk0 H0 Hk H σ (rawAt n i a) where
  len := by unfold rawAt; rw [List.length_set, List.length_replicate]; exact hl
  gr := g
  val := fun j d q => by obtain ⟨_, z, _⟩ := rawAt_get q; cases z
  own := fun j d q => by obtain ⟨_, z, _⟩ := rawAt_get q; cases z
  sep := fun j k d e p q => by obtain ⟨_, z, _⟩ := rawAt_get q; cases z
  dct := fun j d q => by obtain ⟨_, z, _⟩ := rawAt_get q; cases z
  tpn := fun j d q => by obtain ⟨_, z, _⟩ := rawAt_get q; cases z
  kn := fun j d q => by obtain ⟨_, z, _⟩ := rawAt_get q; cases z
  t0 := t
  dsep := fun j k d e p q => by obtain ⟨_, z, _⟩ := rawAt_get q; cases z
  raw := fun j a' q => by
    obtain ⟨rfl, z, l⟩ := rawAt_get q
    cases z
    exact hs l
def sTry (n i : Nat) (cs : List Str) (Φ : En → R Out) (Ψ : Addr → Str → En → R Out) : En → R Out := fun ρ => match Φ ρ with
  | .err c => if c ∈ cs then (match Ψ 0 c (rawAt n i 0) with
    | .ok (.rt r) => .ok (.rt r)
    | _ => .bad) else .bad
  | o => o
section
variable {X : Cx} [ok : OK X] {W : WX} {x n : Str} {i : Nat} {cs : List Str} {body suite : List Stmt} {b₀ : Stmt} {np pos pos' : Pos} {Φ : En → R Out} {Ψ : Addr → Str → En → R Out}
theorem s_try (i : Nat) (hs : X.stack = X.env :: X.outer) (hf : X.env.frame = some X.env.locals) (hN : X.N.Nodup) (hc : Names X x (.ref (He.ga X.K x))) (tk : Takes X W)
    (hcs : ∀ c ∈ cs, PySem.W.exmOne X.K (.ref (He.ga X.K c)) (.ref (He.ga X.K x)) = some true) (hΨ : ∀ a c, Ψ a c (rawAt X.N.length i a) = Ψ 0 c (rawAt X.N.length i 0))
    (hb : ∀ (W : WX) (pn : List (Addr × Obj)) (xe : Value → Shared → Prop), Takes (X.tr pn xe) W → PSs (X.tr pn xe) body (ts X.K W Φ))
    (hsu : ∀ (a : Addr) (oe : Obj) (c : Str) (pn : List (Addr × Obj)), c ∈ cs → Zc (.ref (He.ga X.K c)) none oe → (∃ vs, oe.data = .fields vs) → PSs (X.suite a ((a, oe) :: pn)) (b₀ :: suite) (ts X.K (fun _ _ _ _ => False) (Ψ a c)))
    (hi : X.N[i]? = some n := by rfl) (hln : X.env.kindOf n = some .local := by rfl) :
    PS X (.Try body [.ExceptHandler (some (.Name x np)) (some n) (b₀ :: suite) pos'] [] [] pos) (ts X.K W (sTry X.N.length i cs Φ Ψ)) :=
  ps_imp (ps_try_as hs hf hN hi hln hc tk (tb := fun W' => ts X.K W' Φ) (ts := fun a cls d D σ H => ∃ c, c ∈ cs ∧ cls = .ref (He.ga X.K c) ∧ d = none ∧ (σ.length = X.N.length → Py.ts X.K (fun _ _ _ _ => False) (Ψ a c) D σ H)) (Wout := W) (fun W pn xe tk _ => hb W pn xe tk)
    (fun a oe cls d pn hz hfv => ⟨fun pins s σ H D I ⟨c, hc, e1, e2, t⟩ => by subst e1 e2; exact (hsu a oe c pn hc hz hfv).run pins s σ H D I (t I.len)⟩)) fun D σ H ⟨Hk0, H0, Hk, ρ, r, p⟩ => ⟨Hk0, H0, Hk, ρ, r, by
      unfold sTry at p
      cases e : Φ ρ with
      | ok o =>
        rw [e] at p
        cases o <;> exact p
      | bad => rw [e] at p; exact p
      | err c =>
        rw [e] at p
        dsimp only at p
        split at p
        · rename_i hcc
          split at p
          · rename_i q hq
            refine fun σ' Hk' H' g => ⟨true, hcs c hcc, fun _ a _ => ⟨c, hcc, rfl, rfl, fun hl => ?_⟩, fun z => nomatch z⟩
            refine ⟨Hk0, H0, Hk', rawAt X.N.length i a, rel_raw g r.t0 hl fun hlt => ?_, ?_⟩
            · rw [get_set, if_pos rfl, if_pos (by rw [List.length_set] at hl; omega)]
            · rw [hΨ a c, hq]
              exact p
          · exact p.elim
        · exact p.elim⟩
end
end Py

set_option Elab.async false
set_option linter.all false
set_option maxRecDepth 100000
set_option autoImplicit false
set_option maxHeartbeats 4000000
/-! PyV: [f, g, ..][j](e, ..), f, g defs of the module. -/
namespace Py
variable [KK]
open PySem L2
open Evl (Ex)
def FnsOk (X : Cx) (k n : Nat) (es : List Expr) (Gs : List (List PyData → R Cr)) : Prop := ∃ fs : List Addr, PA X es (fun _ H Q => Q (fs.map V.ref) H) ∧ fs.length = Gs.length ∧
  ∀ (i : Nat) (f : Addr) (G : List PyData → R Cr), fs[i]? = some f → Gs[i]? = some G → ∃ (fd : FuncData) (ps : List Str), PySem.W.keepIn X.K (.ref f) = true ∧ Binds X.K fd ps [] ∧ FnOk X.prog X.w X.K X.mg X.base (L2.CX X.prog X.w) k f fd ps (spF X.K n G)
section
variable {X : Cx} [ok : OK X] {W : WX} {e ie : Expr} {es ns : List Expr} {φs : List (En → R Rv)} {φ : En → R Rv} {x : Str} {p lp sp pos : Pos} {k j n : Nat} {G : List PyData → R Cr} {Gs : List (List PyData → R Cr)}
theorem fns_nil : FnsOk X k n [] [] := ⟨[], ⟨fun _ _ _ _ H Q I h => Calls.spliced_nil ⟨[], H, I, .nil, h⟩⟩, rfl, fun i f G h => by simp at h⟩
theorem fns_cons (F : FOk X.K X.prog X.w X.mg X.base j x n G) (h : FnsOk X k n es Gs) (hj : j ≤ k) (hg : Gl X x := by rfl) (hdb : (x == ("__debug__" : Str)) = false := by decide) (hs : starEach (.Name x p :: es) X.env = (false, eval (.Name x p) X.env) :: starEach es X.env := by rfl) : FnsOk X k n (.Name x p :: es) (G :: Gs) := by
  obtain ⟨fs, h1, h2, h3⟩ := h
  obtain ⟨f, fd, ps, hm, hk, hb, H⟩ := F
  refine ⟨f :: fs, pa_imp (pa_cons (pe_glob (v := .ref f) hg hm rfl hdb) h1 hs) fun σ H Q q => q, by simp [h2], fun i g G' a b => ?_⟩
  cases i with
  | zero =>
    rw [List.getElem?_cons_zero] at a b
    cases a
    cases b
    exact ⟨fd, ps, hk, hb, H.mono hj⟩
  | succ i =>
    rw [List.getElem?_cons_succ] at a b
    exact h3 i g G' a b
def eCallL (Gs : List (List PyData → R Cr)) (φ : En → R Rv) (φs : List (En → R Rv)) : En → R Rv := fun ρ => φ ρ >>= fun r => (frz r).toInt >>= fun j => match (if 0 ≤ j then Gs[j.toNat]? else none) with
  | some G => evA φs ρ >>= fun ds => G ds >>= fun r => .ok r.rv
  | none => .bad
theorem d_fnL (F : FnsOk X k n ns Gs) (hr : Room k X.A) (tk : Takes X W) (hi : PE X ie (te X.K W φ)) (ha : PA X (e :: es) (ta X.K W φs)) (hn : φs.length = n := by rfl) (hl : Gs.length ≤ sizeLine := by show _ ≤ 16777216; decide)
    (hs : PlainIx ie := by exact fun _ _ => rfl) (he : starEach (e :: es) X.env = (false, eval e X.env) :: starEach es X.env := by rfl) (hpl : (backTo pos (starEach es X.env)).any (·.1) = false := by rfl) :
    PE X (.Call (.Subscript (.List ns lp) ie sp) (e :: es) [] pos) (te X.K W (eCallL Gs φ φs)) := by
  obtain ⟨fs, h1, h2, h3⟩ := F
  refine ⟨fun pins s σ H Q I ⟨Hk0, H0, Hk, ρ, r, p⟩ => ?_⟩
  have arm : eval (.Call (.Subscript (.List ns lp) ie sp) (e :: es) [] pos) X.env = (do callWith pos (← eval (.Subscript (.List ns lp) ie sp) X.env) [] (backTo pos (starEach (e :: es) X.env)) (backToKw pos (keywordEach [] X.env))) := rfl
  rw [arm]
  refine wpAny_bind (thn ((pe_ix ix_list (pe_lst h1) hi hs).run pins s σ H (fun v H2 => ∃ (f : Addr) (G : List PyData → R Cr) (Hk2 : Hp), v = .ref f ∧ Rel Hk0 H0 Hk2 H2 σ ρ ∧ (∃ i : Nat, fs[i]? = some f ∧ Gs[i]? = some G) ∧ PostE X.K W Hk2 H2 σ Q (evA φs ρ >>= fun ds => G ds >>= fun r => .ok r.rv)) I ?_) fun u s1 ⟨v, H1, I1, r1, f, G, Hk2, ev, rr, ⟨i, hf, hG⟩, p2⟩ => ?_)
  · refine ⟨by rw [List.length_map, h2]; exact hl, fun q hq => ?_⟩
    have g1 : Gr Hk H Hk (upd H q (.lst (fs.map V.ref))) := Gr.own r.kh hq
    refine te_thenF (g := fun x => x.toInt >>= fun j => match (if 0 ≤ j then Gs[j.toNat]? else none) with
      | some G => evA φs ρ >>= fun ds => G ds >>= fun r => .ok r.rv
      | none => .bad) (r.up g1) (PostE.up g1 p) fun x v Hk2 H2 g2 d2 n2 r2 p2 => ?_
    cases q1 : x.toInt with
    | err c => exact absurd q1 toInt_no
    | bad => rw [q1] at p2; exact p2.elim
    | ok j =>
      rw [q1] at p2
      have p2 : PostE X.K W Hk2 H2 σ Q (match (if 0 ≤ j then Gs[j.toNat]? else none) with
        | some G => evA φs ρ >>= fun ds => G ds >>= fun r => .ok r.rv
        | none => .bad) := PostE.up g2 p2
      split at p2
      · rename_i G hG
        split at hG
        · rename_i hj
          rw [d2.int q1]
          have hlt : j.toNat < fs.length := by rw [h2]; exact (List.getElem?_eq_some_iff.mp hG).1
          refine ⟨q, fs.map V.ref, j, .ref fs[j.toNat], rfl, rfl, .inl (.inl (g2.h.l upd_same)), ?_, fs[j.toNat], G, Hk2, rfl, r2, ⟨j.toNat, List.getElem?_eq_getElem hlt, hG⟩, p2⟩
          have e : ((j.toNat : Nat) : Int) = j := by omega
          have q := L2.atI_nat (xs := fs.map V.ref) (j := j.toNat) (v := .ref fs[j.toNat]) (by rw [List.getElem?_map, List.getElem?_eq_getElem hlt]; rfl)
          rw [e] at q
          exact q
        · cases hG
      · exact p2.elim
  · subst ev
    cases r1
    obtain ⟨fd, ps, hk, hb, F⟩ := h3 i f G hf hG
    refine PySem.W.callWith_K (h₀ := X.base) I.ok.mod.kin hk (thn (ha.run pos pins s1 σ H1 (fun vs H3 => spF X.K n G vs H3 Q (WE W σ)) I1 (ta_then rr p2 fun ds vs Hk' H' l g d r' p' => ?_)) fun us s2 ⟨vs, H3, I3, r3, q3⟩ => ⟨I3.kIn, ?_⟩) he hpl
    · refine ⟨Hk', ds, ⟨g.kh, r'.tab⟩, d, l.trans hn, ?_⟩
      cases e : G ds with
      | ok r => rw [e] at p'; exact fun v Hk2 H2 g2 n2 d2 => p' v Hk2 H2 g2 n2 (den_cl d2)
      | err c => rw [e] at p'; exact p'
      | bad => rw [e] at p'; exact p'
    · exact run_fnS F hr hb (passAt tk σ) I3 r3 q3
end
end Py

set_option Elab.async false
set_option linter.all false
set_option maxRecDepth 100000
set_option autoImplicit false
set_option maxHeartbeats 4000000
/-! PyJ: dicts with int keys, held by a name. -/
namespace Py
open PySem L2 PyProof.Rows
open Evl (Ex)
def getI (kvs : List (Int × PyData)) (k : Int) : Option PyData := (kvs.find? fun p => decide (p.1 = k)).map (·.2)
def putI (kvs : List (Int × PyData)) (k : Int) (d : PyData) : List (Int × PyData) :=
  if (kvs.any fun p => decide (p.1 = k)) = true then kvs.map (fun p => if p.1 = k then (p.1, d) else p) else kvs ++ [(k, d)]
def dctAt (ρ : En) (i : Nat) : R (List (Int × PyData)) := match ρ[i]? with
  | some (some (.dct kvs)) => .ok kvs
  | _ => .bad
theorem dctAt_ok {ρ : En} {i : Nat} {kvs : List (Int × PyData)} (h : dctAt ρ i = .ok kvs) : ρ[i]? = some (some (.dct kvs)) := by
  unfold dctAt at h
  split at h
  · rename_i ks e
    cases h
    exact e
  · cases h
theorem dctAt_no {ρ : En} {i : Nat} {c : Str} : dctAt ρ i ≠ .err c := by
  unfold dctAt
  split <;> exact fun h => nomatch h
def eDGet (i : Nat) (ψ : En → R Rv) : En → R Rv := fun ρ => dctAt ρ i >>= fun kvs => ψ ρ >>= fun y => (frz y).toInt >>= fun k => match getI kvs k with
  | some d => .ok (.val d)
  | none => .bad
def eDGet2 (i : Nat) (ψ χ : En → R Rv) : En → R Rv := fun ρ => dctAt ρ i >>= fun kvs => ψ ρ >>= fun y => (frz y).toInt >>= fun k => χ ρ >>= fun z => (frz z).toVal >>= fun d => .ok (.val ((getI kvs k).getD d))
def sortI (l : List Int) : List Int := l.mergeSort fun a b => decide (a ≤ b)
def eDSort (i : Nat) : En → R Rv := fun ρ => dctAt ρ i >>= fun kvs => if kvs.length < 64 then .ok (.own ((sortI (kvs.map (·.1))).map PyData.int)) else .bad
def sDNew (i : Nat) : En → R Out := fun ρ => .ok (.nx (ρ.set i (some (.dct []))))
def sDSet (i : Nat) (ψ φ : En → R Rv) : En → R Out := fun ρ => φ ρ >>= fun v => (frz v).toVal >>= fun d => dctAt ρ i >>= fun kvs => ψ ρ >>= fun y => (frz y).toInt >>= fun k => if kvs.length ≤ 1000000 then .ok (.nx (ρ.set i (some (.dct (putI kvs k d))))) else .bad
theorem leI_unique : ∀ {l m : List Int}, l.Pairwise (· ≤ ·) → m.Pairwise (· ≤ ·) → l.Perm m → l = m
  | [], m, _, _, h => by rw [List.Perm.eq_nil h.symm]
  | a :: as, [], _, _, h => by have := h.length_eq; simp at this
  | a :: as, b :: bs, p, q, h => by
    obtain ⟨p1, p2⟩ := List.pairwise_cons.mp p
    obtain ⟨q1, q2⟩ := List.pairwise_cons.mp q
    have h1 := h.mem_iff.mp (show a ∈ a :: as by simp)
    have h2 := h.mem_iff.mpr (show b ∈ b :: bs by simp)
    have hab : a = b := by
      rcases List.mem_cons.mp h1 with e | e
      · exact e
      · rcases List.mem_cons.mp h2 with e' | e'
        · exact e'.symm
        · have := q1 a e
          have := p1 b e'
          omega
    subst hab
    rw [leI_unique p2 q2 (List.Perm.cons_inv h)]
theorem sortI_perm (l : List Int) : (sortI l).Perm l := List.mergeSort_perm l _
theorem sortI_le (l : List Int) : (sortI l).Pairwise (· ≤ ·) := by
  have := List.pairwise_mergeSort (le := fun a b : Int => decide (a ≤ b)) (by intro a b c; simp; omega) (by intro a b; simp; omega) l
  exact this.imp fun h => by simpa using h
variable [KK]
theorem DR.get {Hk : Hp} (k : Int) : ∀ {ks : List (Key × V)} {kvs : List (Int × PyData)}, DR Hk ks kvs → (∀ d, getI kvs k = some d → ∃ v, valV ks (Sum.inl k) = some v ∧ Rp Hk v d) ∧ (getI kvs k = none → valV ks (Sum.inl k) = none)
  | [], [], _ => ⟨fun d h => by simp [getI] at h, fun _ => rfl⟩
  | [], _ :: _, h => by have := h.1; simp at this
  | _ :: _, [], h => by have := h.1; simp at this
  | (k1, v) :: ks, (k2, d) :: kvs, h => by
    obtain ⟨h1, h2⟩ := h
    simp only [List.map_cons, List.cons.injEq] at h1
    cases h2 with
    | cons a b =>
      have ih := DR.get k (ks := ks) (kvs := kvs) ⟨h1.2, b⟩
      have e1 : k1 = Sum.inl k2 := h1.1
      subst e1
      by_cases hk : k2 = k
      · subst hk
        rw [valV_pos rfl]
        refine ⟨fun d' hd => ⟨v, rfl, ?_⟩, fun hd => ?_⟩
        · simp [getI] at hd
          rw [← hd]
          exact a
        · simp [getI] at hd
      · rw [valV_neg (fun z => hk (Sum.inl.inj z))]
        have e : getI ((k2, d) :: kvs) k = getI kvs k := by simp [getI, List.find?_cons, hk]
        rw [e]
        exact ih
theorem DR.len {Hk : Hp} {ks : List (Key × V)} {kvs : List (Int × PyData)} (h : DR Hk ks kvs) : ks.length = kvs.length := by
  have := congrArg List.length h.1
  simpa using this
theorem DR.any {Hk : Hp} {ks : List (Key × V)} {kvs : List (Int × PyData)} (k : Int) (h : DR Hk ks kvs) : (ks.any fun kv => decide (kv.1 = Sum.inl k)) = (kvs.any fun p => decide (p.1 = k)) := by
  have e1 : (ks.any fun kv => decide (kv.1 = Sum.inl k)) = (ks.map (·.1)).any fun x => decide (x = Sum.inl k) := by rw [List.any_map]; rfl
  rw [e1, h.1, List.any_map]
  refine congrArg (List.any kvs) (funext fun p => ?_)
  show decide ((Sum.inl p.1 : Key) = Sum.inl k) = decide (p.1 = k)
  by_cases e : p.1 = k
  · simp [e]
  · rw [decide_eq_false e, decide_eq_false (fun z => e (Sum.inl.inj z))]
theorem DR.repl {Hk : Hp} {k : Int} {v : V} {d : PyData} (r : Rp Hk v d) : ∀ {ks : List (Key × V)} {kvs : List (Int × PyData)}, DR Hk ks kvs → DR Hk (ks.map fun kv => if kv.1 = Sum.inl k then (kv.1, v) else kv) (kvs.map fun p => if p.1 = k then (p.1, d) else p)
  | [], [], h => h
  | [], _ :: _, h => by have := h.1; simp at this
  | _ :: _, [], h => by have := h.1; simp at this
  | (k1, v1) :: ks, (k2, d2) :: kvs, h => by
    obtain ⟨h1, h2⟩ := h
    simp only [List.map_cons, List.cons.injEq] at h1
    cases h2 with
    | cons a b =>
      have ih := DR.repl (k := k) r (ks := ks) (kvs := kvs) ⟨h1.2, b⟩
      have e1 : k1 = Sum.inl k2 := h1.1
      subst e1
      by_cases hk : k2 = k
      · subst hk
        refine ⟨?_, ?_⟩
        · simp only [List.map_cons, if_true]
          rw [ih.1]
        · simp only [List.map_cons, if_true]
          exact .cons r ih.2
      · have hk' : ¬ (Sum.inl k2 : Key) = Sum.inl k := fun z => hk (Sum.inl.inj z)
        refine ⟨?_, ?_⟩
        · simp only [List.map_cons, if_neg hk, if_neg hk']
          rw [ih.1]
        · simp only [List.map_cons, if_neg hk, if_neg hk']
          exact .cons a ih.2
theorem DR.put {Hk : Hp} {k : Int} {v : V} {d : PyData} (r : Rp Hk v d) {ks : List (Key × V)} {kvs : List (Int × PyData)} (h : DR Hk ks kvs) : DR Hk (putK ks (Sum.inl k) v) (putI kvs k d) := by
  unfold putK putI
  rw [h.any k]
  split
  · exact DR.repl r h
  · refine ⟨?_, ?_⟩
    · rw [List.map_append, List.map_append, h.1]; rfl
    · rw [List.map_append, List.map_append]; exact RpAll.append h.2 (.cons r .nil)
section
variable {Hk0 H0 Hk H : Hp} {σ : Sl} {ρ : En}
/-- a new dict in a slot -/
theorem Rel.setDct {p : Addr} {ks : List (Key × V)} {kvs : List (Int × PyData)} {i : Nat} (r : Rel Hk0 H0 Hk H σ ρ) (h0 : H0 p = none) (hk : Hk p = none) (hp : H p = some (.dK ks)) (hd : DR Hk ks kvs)
    (hs : ∀ (j : Nat) (es : List (Int × PyData)), ρ[j]? = some (some (Cl.dct es)) → j ≠ i → σ[j]? ≠ some (some (.ref p))) : Rel Hk0 H0 Hk H (σ.set i (some (.ref p))) (ρ.set i (some (.dct kvs))) where
  len := by rw [List.length_set, List.length_set]; exact r.len
  gr := r.gr
  val := fun j e q => by
    rw [get_set] at q
    split at q
    · split at q <;> cases q
    · rename_i hj
      rw [get_set, if_neg hj]
      exact r.val j e q
  own := fun j e q => by
    rw [get_set] at q
    split at q
    · split at q <;> cases q
    · rename_i hj
      rw [get_set, if_neg hj]
      exact r.own j e q
  sep := fun j k ds es p q1 q2 h1 h2 => by
    rw [get_set] at q1 q2
    split at q1
    · split at q1 <;> cases q1
    · rename_i hj
      split at q2
      · split at q2 <;> cases q2
      · rename_i hk
        rw [get_set, if_neg hj] at h1
        rw [get_set, if_neg hk] at h2
        exact r.sep j k ds es p q1 q2 h1 h2
  raw := fun j a q => by
    rw [get_set] at q ⊢
    split at q
    · split at q <;> cases q
    · rename_i hj
      rw [if_neg hj]
      exact r.raw j a q
  tpn := fun j e q => by
    rw [get_set] at q
    split at q
    · split at q <;> cases q
    · rename_i hj
      rw [get_set, if_neg hj]
      exact r.tpn j e q
  kn := fun j e q => by
    rw [get_set] at q
    split at q
    · split at q <;> cases q
    · rename_i hj
      rw [get_set, if_neg hj]
      exact r.kn j e q
  t0 := r.t0
  dct := fun j es q => by
    rw [get_set] at q ⊢
    split at q
    · rename_i hj
      subst hj
      rw [if_pos rfl]
      split at q
      · rename_i hl
        cases q
        exact ⟨p, ks, by rw [r.len, if_pos hl], h0, hk, hp, hd⟩
      · cases q
    · rename_i hj
      rw [if_neg hj]
      exact r.dct j es q
  dsep := fun j k ds' es p' q1 q2 h1 h2 => by
    rw [get_set] at q1 q2 h1 h2
    by_cases hj : i = j
    · subst hj
      by_cases hk' : i = k
      · exact hk'
      · rw [if_neg hk'] at q2 h2
        rw [if_pos rfl] at h1
        split at h1
        · cases h1
          exact absurd h2 (hs k es q2 (fun z => hk' z.symm))
        · cases h1
    · rw [if_neg hj] at q1 h1
      by_cases hk' : i = k
      · subst hk'
        rw [if_pos rfl] at h2
        split at h2
        · cases h2
          exact absurd h1 (hs j ds' q1 (fun z => hj z.symm))
        · cases h2
      · rw [if_neg hk'] at q2 h2
        exact r.dsep j k ds' es p' q1 q2 h1 h2
/-- a store into a dict -/
theorem Rel.mutD {i : Nat} {ds es : List (Int × PyData)} {p : Addr} {xs ys : List (Key × V)} (r : Rel Hk0 H0 Hk H σ ρ) (hi : ρ[i]? = some (some (.dct ds))) (hs : σ[i]? = some (some (.ref p))) (h0 : H0 p = none) (hk : Hk p = none) (hp : H p = some (.dK xs)) (hy : DR Hk ys es) :
    Rel Hk0 H0 Hk (upd H p (.dK ys)) σ (ρ.set i (some (.dct es))) where
  len := by rw [List.length_set]; exact r.len
  gr := ⟨r.gr.k, r.gr.h.mutD h0 hp, fun a u q => by rw [upd_ne (ne_of_none q hk)]; exact r.gr.kh a u q, r.gr.fr⟩
  val := fun j d q => by
    rw [get_set] at q
    split at q
    · split at q <;> cases q
    · exact r.val j d q
  own := fun j fs q => by
    rw [get_set] at q
    split at q
    · split at q <;> cases q
    · obtain ⟨p', zs, a, b, c, d, e⟩ := r.own j fs q
      have : p' ≠ p := fun w => by
        subst w
        rw [hp] at d
        cases d
      exact ⟨p', zs, a, b, c, by rw [upd_ne this]; exact d, e⟩
  sep := fun j k fs gs q a b c d => by
    rw [get_set] at a b
    split at a
    · split at a <;> cases a
    · split at b
      · split at b <;> cases b
      · exact r.sep j k fs gs q a b c d
  raw := fun j a q => by
    rw [get_set] at q
    split at q
    · split at q <;> cases q
    · exact r.raw j a q
  tpn := fun j d q => by
    rw [get_set] at q
    split at q
    · split at q <;> cases q
    · exact r.tpn j d q
  kn := fun j d q => by
    rw [get_set] at q
    split at q
    · split at q <;> cases q
    · exact r.kn j d q
  t0 := r.t0
  dct := fun j fs q => by
    rw [get_set] at q
    split at q
    · rename_i hj
      subst hj
      split at q
      · cases q
        exact ⟨p, ys, hs, h0, hk, upd_same, hy⟩
      · cases q
    · rename_i hj
      obtain ⟨p', zs, a, b, c, d, e⟩ := r.dct j fs q
      have : p' ≠ p := fun w => by
        subst w
        exact hj (r.dsep i j ds fs p' hi q hs a)
      exact ⟨p', zs, a, b, c, by rw [upd_ne this]; exact d, e⟩
  dsep := fun j k fs gs q a b c d => by
    have back : ∀ {m : Nat} {fs : List (Int × PyData)}, (ρ.set i (some (.dct es)))[m]? = some (some (Cl.dct fs)) → ∃ fs', ρ[m]? = some (some (Cl.dct fs')) := by
      intro m fs h
      rw [get_set] at h
      split at h
      · rename_i hm
        subst hm
        exact ⟨ds, hi⟩
      · exact ⟨fs, h⟩
    obtain ⟨_, a'⟩ := back a
    obtain ⟨_, b'⟩ := back b
    exact r.dsep j k _ _ q a' b' c d
end
section
variable {X : Cx} [ok : OK X] {W : WX} {e f : Expr} {φ ψ χ : En → R Rv} {pos : Pos}
theorem s_dnew {x : Str} {pos' dp : Pos} (i : Nat) (hN : X.N.Nodup) (hi : X.N[i]? = some x := by rfl) (hx : Loc X.env.scope x := by first | exact Or.inl rfl | exact Or.inr rfl) (hs : swapsWith (.Dict [] [] dp) (some (.Name x pos')) pos.line X.env = pure false := by rfl)
    (hf : X.fn x = true ∨ X.env.scope.names.lookup x = some .local := by first | exact .inl rfl | exact .inr rfl) : PS X (.Assign [.Name x pos'] (.Dict [] [] dp) pos) (ts X.K W (sDNew i)) :=
  ps_imp (ps_set hN hi hx pe_dnewK hs hf) fun D σ H ⟨Hk0, H0, Hk, ρ, r, p⟩ q hq => by
    have g := Gr.own (o := .dK []) r.kh hq
    refine p _ Hk _ (Ex.refl _) (Rel.setDct (r.up g) (r.gr.h.back hq) (Evl.fresh_back r.kh hq) upd_same ⟨rfl, .nil⟩ fun j es h1 h2 h3 => ?_)
    obtain ⟨p', ks, a, b, c, d, _⟩ := r.dct j es h1
    rw [a] at h3
    cases h3
    rw [d] at hq
    cases hq
theorem d_dget {k : Nat} {x : Str} {p : Pos} (i : Nat) (hr : Room k X.A) (he : PE X e (te X.K W ψ)) (hs : NoSl e := by exact fun _ _ => rfl) (hN : X.N[i]? = some x := by rfl) (hv : Vis X.env.scope x := by first | exact Or.inl rfl | exact Or.inr (Or.inl rfl) | exact Or.inr (Or.inr rfl)) (hd : (x == ("__debug__" : Str)) = false := by decide)
    (hcd : (x == ("__classdict__" : Str)) = false := by decide) : PE X (.Subscript (.Name x p) e pos) (te X.K W (eDGet i ψ)) :=
  pe_imp (pe_dget (by have := hr.units; omega) (pv i hN hv hd hcd) he hs) fun σ H Q ⟨Hk0, H0, Hk, ρ, r, p⟩ => by
    unfold eDGet at p
    cases e1 : dctAt ρ i with
    | err c => exact absurd e1 dctAt_no
    | bad => rw [e1] at p; exact p.elim
    | ok kvs =>
      rw [e1] at p
      obtain ⟨q, ks, h1, h2, h3, h4, h5⟩ := r.dct i kvs (dctAt_ok e1)
      refine ⟨_, h1, te_thenF (g := fun y => y.toInt >>= fun k => match getI kvs k with | some d => .ok (.val d) | none => .bad) r p fun y v Hk' H' g d n r' p' => ?_⟩
      cases e2 : y.toInt with
      | err c => rw [e2] at p'; cases y <;> first | (rename_i d0; cases d0 <;> cases e2) | cases e2
      | bad => rw [e2] at p'; exact p'.elim
      | ok k =>
        rw [e2] at p'
        have p' : PostE X.K W Hk H σ Q (match getI kvs k with | some d => .ok (.val d) | none => .bad) := p'
        have hv := d.int e2
        subst hv
        split at p'
        · rename_i d' hd'
          obtain ⟨w, hw, rw'⟩ := (DR.get k (DR.up g.k h5)).1 d' hd'
          refine ⟨q, w, rfl, ?_, p' _ Hk' H' g trivial rw'⟩
          have := DGet.k (k := Sum.inl k) (g.h.d h4)
          rw [hw] at this
          exact this
        · exact p'.elim
theorem d_dget2 {k : Nat} {x : Str} {p ap : Pos} (i : Nat) (hr : Room k X.A) (he : PE X e (te X.K W ψ)) (hf : PE X f (te X.K W χ)) (m : M2 X (.Name x p) "get" ap e f pos := by exact ⟨rfl, rfl, rfl, rfl⟩) (hN : X.N[i]? = some x := by rfl) (hv : Vis X.env.scope x := by first | exact Or.inl rfl | exact Or.inr (Or.inl rfl) | exact Or.inr (Or.inr rfl)) (hd : (x == ("__debug__" : Str)) = false := by decide)
    (hcd : (x == ("__classdict__" : Str)) = false := by decide) : PE X (.Call (.Attribute (.Name x p) "get" ap) [e, f] [] pos) (te X.K W (eDGet2 i ψ χ)) :=
  pe_imp (pe_dget2 (by have := hr.units; omega) (pv i hN hv hd hcd) he hf m) fun σ H Q ⟨Hk0, H0, Hk, ρ, r, p⟩ => by
    unfold eDGet2 at p
    cases e1 : dctAt ρ i with
    | err c => exact absurd e1 dctAt_no
    | bad => rw [e1] at p; exact p.elim
    | ok kvs =>
      rw [e1] at p
      obtain ⟨q, ks, h1, h2, h3, h4, h5⟩ := r.dct i kvs (dctAt_ok e1)
      refine ⟨_, h1, q, rfl, .inl ⟨ks, .inl h4⟩, te_thenF (g := fun y => y.toInt >>= fun k => χ ρ >>= fun z => (frz z).toVal >>= fun d => .ok (.val ((getI kvs k).getD d))) r p fun y v Hk' H' g d n r' p' => ?_⟩
      cases e2 : y.toInt with
      | err c => rw [e2] at p'; cases y <;> first | (rename_i d0; cases d0 <;> cases e2) | cases e2
      | bad => rw [e2] at p'; exact p'.elim
      | ok k =>
        rw [e2] at p'
        have p' : PostE X.K W Hk H σ Q (χ ρ >>= fun z => (frz z).toVal >>= fun d => .ok (.val ((getI kvs k).getD d))) := p'
        have hv := d.int e2
        subst hv
        refine te_thenF (g := fun z => z.toVal >>= fun d => .ok (.val ((getI kvs k).getD d))) r' (PostE.up g p') fun z u Hk2 H2 g2 d2 n2 r2 p2 => ?_
        cases e3 : z.toVal with
        | err c => exact absurd e3 toVal_no
        | bad => rw [e3] at p2; exact p2.elim
        | ok dz =>
          rw [e3] at p2
          have p2 : PostE X.K W Hk' H' σ Q (.ok (.val ((getI kvs k).getD dz))) := p2
          have hz := toVal_den d2 n2 e3
          have g3 := g.trans g2
          have dg := DGet.k (k := Sum.inl k) (g3.h.d h4)
          have dr := DR.get k (DR.up g3.k h5)
          refine ⟨valV ks (Sum.inl k), dg, p2 _ Hk2 H2 g2 trivial ?_⟩
          show Rp Hk2 _ _
          cases hg : getI kvs k with
          | none =>
            rw [dr.2 hg]
            exact hz
          | some d' =>
            obtain ⟨w, hw, rw'⟩ := dr.1 d' hg
            rw [hw]
            exact rw'
theorem d_dsort {x : Str} {p p2 : Pos} (i : Nat) (hc : X.calm = true) (hm : X.mg "sorted" = none) (hg : Gl X "sorted" := by rfl) (hs : starEach [.Name x p] X.env = (false, eval (.Name x p) X.env) :: starEach [] X.env := by rfl) (hpl : (backTo pos (starEach [] X.env)).any (·.1) = false := by rfl)
    (hN : X.N[i]? = some x := by rfl) (hv : Vis X.env.scope x := by first | exact Or.inl rfl | exact Or.inr (Or.inl rfl) | exact Or.inr (Or.inr rfl)) (hd : (x == ("__debug__" : Str)) = false := by decide)
    (hcd : (x == ("__classdict__" : Str)) = false := by decide) : PE X (.Call (.Name "sorted" p2) [.Name x p] [] pos) (te X.K W (eDSort i)) :=
  pe_imp (pe_callB (call_sortedDI hc) hg hm boot_sorted (pa_cons (pv i hN hv hd hcd) pa_nil hs) (by decide) (by decide) hs hpl) fun σ H Q ⟨Hk0, H0, Hk, ρ, r, p⟩ => by
    unfold eDSort at p
    cases e1 : dctAt ρ i with
    | err c => exact absurd e1 dctAt_no
    | bad => rw [e1] at p; exact p.elim
    | ok kvs =>
      rw [e1] at p
      have p : PostE X.K W Hk H σ Q (if kvs.length < 64 then .ok (.own ((sortI (kvs.map (·.1))).map PyData.int)) else .bad) := p
      split at p
      · rename_i hz
        obtain ⟨q, ks, h1, h2, h3, h4, h5⟩ := r.dct i kvs (dctAt_ok e1)
        refine ⟨_, h1, q, ks, kvs.map (·.1), rfl, .inl h4, by rw [h5.1, List.map_map]; rfl, by rw [List.length_map]; exact hz, fun ys l h6 h7 h8 => ?_⟩
        obtain rfl : ys = sortI (kvs.map (·.1)) := leI_unique h7 (sortI_le _) (h6.trans (sortI_perm _).symm)
        have g := Gr.own (o := .lst ((sortI (kvs.map (·.1))).map V.int)) r.kh h8
        exact p _ Hk _ g ⟨l, rfl, h8⟩ ⟨l, _, rfl, Evl.fresh_back r.kh h8, upd_same, RpAll.ofInts _⟩
      · exact p.elim
theorem s_dset {k : Nat} {x : Str} {p sp : Pos} (i : Nat) (hr : Room k X.A) (he : PE X e (te X.K W ψ)) (hf : PE X f (te X.K W φ)) (hs : swapsWith f (some (.Subscript (.Name x p) e sp)) pos.line X.env = pure false := by rfl)
    (hN : X.N[i]? = some x := by rfl) (hv : Vis X.env.scope x := by first | exact Or.inl rfl | exact Or.inr (Or.inl rfl) | exact Or.inr (Or.inr rfl)) (hd : (x == ("__debug__" : Str)) = false := by decide)
    (hcd : (x == ("__classdict__" : Str)) = false := by decide) : PS X (.Assign [.Subscript (.Name x p) e sp] f pos) (ts X.K W (sDSet i ψ φ)) :=
  ps_imp (ps_dput (by have := hr.units; omega) (pv i hN hv hd hcd) he hf hs) fun D σ H ⟨Hk0, H0, Hk, ρ, r, p⟩ => by
    unfold Py.sDSet at p
    refine s_thenF (g := fun v => v.toVal >>= fun d => dctAt ρ i >>= fun kvs => ψ ρ >>= fun y => (frz y).toInt >>= fun k => if kvs.length ≤ 1000000 then .ok (.nx (ρ.set i (some (.dct (putI kvs k d))))) else .bad) r p fun v w Hk' H' g d n r' p' => ?_
    cases e3 : v.toVal with
    | err c => exact absurd e3 toVal_no
    | bad => rw [e3] at p'; exact p'.elim
    | ok dv =>
      rw [e3] at p'
      have rv := toVal_den d n e3
      have p' : PostS X.K W Hk0 H0 Hk' D (dctAt ρ i >>= fun kvs => ψ ρ >>= fun y => (frz y).toInt >>= fun k => if kvs.length ≤ 1000000 then .ok (.nx (ρ.set i (some (.dct (putI kvs k dv))))) else .bad) := p'
      cases e1 : dctAt ρ i with
      | err c => exact absurd e1 dctAt_no
      | bad => rw [e1] at p'; exact p'.elim
      | ok kvs =>
        rw [e1] at p'
        have hi := dctAt_ok e1
        obtain ⟨q, ks, h1, h2, h3, h4, h5⟩ := r'.dct i kvs hi
        refine ⟨_, h1, s_thenF (g := fun y => y.toInt >>= fun k => if kvs.length ≤ 1000000 then .ok (.nx (ρ.set i (some (.dct (putI kvs k dv))))) else .bad) r' p' fun y u Hk2 H2 g2 d2 n2 r2 p2 => ?_⟩
        cases e2 : y.toInt with
        | err c => rw [e2] at p2; cases y <;> first | (rename_i d0; cases d0 <;> cases e2) | cases e2
        | bad => rw [e2] at p2; exact p2.elim
        | ok k =>
          rw [e2] at p2
          have p2 : PostS X.K W Hk0 H0 Hk2 D (if kvs.length ≤ 1000000 then .ok (.nx (ρ.set i (some (.dct (putI kvs k dv))))) else .bad) := p2
          have hv := d2.int e2
          subst hv
          split at p2
          · rename_i hz
            have k4 := g2.h.d h4
            have k3 := g2.fr q (by rw [h4]; exact fun z => nomatch z) h3
            have h5' := DR.up g2.k h5
            refine ⟨q, _, rfl, DPut.k (k := Sum.inl k) k4 (Nat.lt_of_le_of_lt (Nat.le_of_eq h5'.len) (Nat.lt_of_le_of_lt hz (by decide))), ?_⟩
            exact p2 _ Hk2 _ (Ex.refl _) (r2.mutD hi h1 h2 k3 k4 (DR.put (Rp.up g2.k rv) h5'))
          · exact p2.elim
end
end Py

set_option Elab.async false
set_option linter.all false
set_option maxRecDepth 100000
set_option autoImplicit false
set_option maxHeartbeats 4000000
/-! PyN: tuples that a def makes of a list: their method index. -/
namespace Py
open PySem L2 PyProof.Rows
open Evl (Ex)
def sRetT (i : Nat) : En → R Out := fun ρ => ownAt ρ i >>= fun ds => .ok (.rt (.tpn ds))
def sTpn (i : Nat) (F : List PyData → R Cr) (φs : List (En → R Rv)) : En → R Out := fun ρ => evA φs ρ >>= fun ds => F ds >>= fun r => match r with
  | .tpn es => .ok (.nx (ρ.set i (some (.tpn es))))
  | _ => .bad
def tpnAt (ρ : En) (i : Nat) : R (List PyData) := match ρ[i]? with
  | some (some (.tpn ds)) => .ok ds
  | _ => .bad
theorem tpnAt_ok {ρ : En} {i : Nat} {ds : List PyData} (h : tpnAt ρ i = .ok ds) : ρ[i]? = some (some (.tpn ds)) := by
  unfold tpnAt at h
  split at h
  · rename_i e' e
    cases h
    exact e
  · cases h
theorem tpnAt_no {ρ : En} {i : Nat} {c : Str} : tpnAt ρ i ≠ .err c := by
  unfold tpnAt
  split <;> exact fun h => nomatch h
def eTix (i : Nat) (ψ : En → R Rv) : En → R Rv := fun ρ => tpnAt ρ i >>= fun ds => ψ ρ >>= fun y => gIndex ds (frz y)
variable [KK]
section
variable {Hk0 H0 Hk H : Hp} {σ : Sl} {ρ : En}
theorem Rel.setTpn {v : V} {ds : List PyData} {i : Nat} (r : Rel Hk0 H0 Hk H σ ρ) (h : TN Hk v ds) : Rel Hk0 H0 Hk H (σ.set i (some v)) (ρ.set i (some (.tpn ds))) where
  len := by rw [List.length_set, List.length_set]; exact r.len
  gr := r.gr
  val := fun j e q => by
    rw [get_set] at q
    split at q
    · split at q <;> cases q
    · rename_i hj
      rw [get_set, if_neg hj]
      exact r.val j e q
  own := fun j e q => by
    rw [get_set] at q
    split at q
    · split at q <;> cases q
    · rename_i hj
      rw [get_set, if_neg hj]
      exact r.own j e q
  sep := fun j k ds es p q1 q2 h1 h2 => by
    rw [get_set] at q1 q2
    split at q1
    · split at q1 <;> cases q1
    · rename_i hj
      split at q2
      · split at q2 <;> cases q2
      · rename_i hk
        rw [get_set, if_neg hj] at h1
        rw [get_set, if_neg hk] at h2
        exact r.sep j k ds es p q1 q2 h1 h2
  raw := fun j a q => by
    rw [get_set] at q ⊢
    split at q
    · split at q <;> cases q
    · rename_i hj
      rw [if_neg hj]
      exact r.raw j a q
  dct := fun j e q => by
    rw [get_set] at q
    split at q
    · split at q <;> cases q
    · rename_i hj
      rw [get_set, if_neg hj]
      exact r.dct j e q
  dsep := fun j k ds es p q1 q2 h1 h2 => by
    rw [get_set] at q1 q2
    split at q1
    · split at q1 <;> cases q1
    · rename_i hj
      split at q2
      · split at q2 <;> cases q2
      · rename_i hk
        rw [get_set, if_neg hj] at h1
        rw [get_set, if_neg hk] at h2
        exact r.dsep j k ds es p q1 q2 h1 h2
  kn := fun j e q => by
    rw [get_set] at q
    split at q
    · split at q <;> cases q
    · rename_i hj
      rw [get_set, if_neg hj]
      exact r.kn j e q
  t0 := r.t0
  tpn := fun j e q => by
    rw [get_set] at q ⊢
    split at q
    · rename_i hj
      subst hj
      rw [if_pos rfl]
      split at q
      · rename_i hl
        cases q
        exact ⟨v, by rw [r.len, if_pos hl], h⟩
      · cases q
    · rename_i hj
      rw [if_neg hj]
      exact r.tpn j e q
end
section
variable {X : Cx} [ok : OK X] {W : WX} {e : Expr} {es : List Expr} {φ ψ : En → R Rv} {φs : List (En → R Rv)} {pos : Pos} {G : List PyData → R Cr}
theorem c_tupN : CallR X (.type "tuple") (fun vs H Q => ∃ l xs, vs = [.ref l] ∧ SqL X.K H l xs ∧ ∀ (p : Addr) (o : Obj), H p = none → o.dict = none → Q (.ref p) (upd H p (.frz o (.tup xs)))) := by
  intro pins s σ H vs us Q I rv h
  obtain ⟨l, xs, rfl, hl, q⟩ := h
  rw [Vals.ref1 rv]
  obtain ⟨its, r1, pl, hz⟩ := I.list hl
  have hsz := r1.length
  refine call_tuple_list pl.isList (fun h' kp => ?_) (by rw [List.size_toArray]; omega)
  have J : Inv X pins σ H { s with heap := h' } := I.kept (t' := s.toks) kp
  have J2 := J.laid (t' := s.toks) (o := .frz { cls := .type "tuple", data := .seq its.toArray } (.tup xs)) (h' := h'.push { cls := .type "tuple", data := .seq its.toArray }) (fun b o e => Heap.get?_push_of_some _ e) (Nat.le_refl _) ⟨Heap.get?_push_size _ rfl, hz, its, r1, IsTup.new _ _⟩
  exact ⟨.ref h'.objs.size, _, J2, rfl, q _ _ (J.hok.fresh (Nat.le_refl _)) rfl⟩
theorem s_retT {x : Str} {p p2 cp : Pos} (i : Nat) (hm : X.mg "tuple" = none) (hg : Gl X "tuple" := by rfl) (hs : starEach [.Name x p2] X.env = (false, eval (.Name x p2) X.env) :: starEach [] X.env := by rfl) (hpl : (backTo cp (starEach [] X.env)).any (·.1) = false := by rfl)
    (hN : X.N[i]? = some x := by rfl) (hv : Vis X.env.scope x := by first | exact Or.inl rfl | exact Or.inr (Or.inl rfl) | exact Or.inr (Or.inr rfl)) (hd : (x == ("__debug__" : Str)) = false := by decide)
    (hcd : (x == ("__classdict__" : Str)) = false := by decide) : PS X (.Return (some (.Call (.Name "tuple" p) [.Name x p2] [] cp)) pos) (ts X.K W (sRetT i)) :=
  ps_imp (ps_ret (pe_callTy c_tupN hg hm boot_tuple (pa_cons (pv i hN hv hd hcd) pa_nil hs) (by decide) (by decide) hs hpl)) fun D σ H ⟨Hk0, H0, Hk, ρ, r, p⟩ => by
    unfold sRetT at p
    cases e1 : ownAt ρ i with
    | err c => exact absurd e1 ownAt_no
    | bad => rw [e1] at p; exact p.elim
    | ok ds =>
      rw [e1] at p
      obtain ⟨q, xs, h1, h2, h3, h4, h5⟩ := r.own i ds (ownAt_ok e1)
      refine ⟨_, h1, q, xs, rfl, .inl (.inl h4), fun a o ha ho => ?_⟩
      exact p _ _ _ (r.gr.trans (Gr.new (o := .frz o (.tup xs)) r.kh ha)) trivial ⟨a, xs, o, rfl, upd_same, ho, RpAll.up (Ex.new (Evl.fresh_back r.kh ha)) h5⟩
theorem s_tpn {x f : Str} {pos' p cp : Pos} {k j n : Nat} (i : Nat) (F : FOk X.K X.prog X.w X.mg X.base j f n G) (hr : Room k X.A) (hj : j ≤ k) (tk : Takes X W) (hNd : X.N.Nodup) (ha : PA X (e :: es) (ta X.K W φs)) (hn : φs.length = n := by rfl) (hg : Gl X f := by rfl) (hdb : (f == ("__debug__" : Str)) = false := by decide)
    (he : starEach (e :: es) X.env = (false, eval e X.env) :: starEach es X.env := by rfl) (hpl : (backTo cp (starEach es X.env)).any (·.1) = false := by rfl)
    (hi : X.N[i]? = some x := by rfl) (hx : Loc X.env.scope x := by first | exact Or.inl rfl | exact Or.inr rfl) (hs : swapsWith (.Call (.Name f p) (e :: es) [] cp) (some (.Name x pos')) pos.line X.env = pure false := by rfl)
    (hf : X.fn x = true ∨ X.env.scope.names.lookup x = some .local := by first | exact .inl rfl | exact .inr rfl) : PS X (.Assign [.Name x pos'] (.Call (.Name f p) (e :: es) [] cp) pos) (ts X.K W (sTpn i G φs)) := by
  obtain ⟨fa, fd, ps, hm, hk, hb, FF⟩ := F
  exact ps_imp (ps_set hNd hi hx (pe_callS (E := WE W) FF (hr.mono hj) hg hm hk hb (fun σ => passAt tk σ) ha hdb he hpl) hs hf) fun D σ H ⟨Hk0, H0, Hk, ρ, r, p⟩ =>
    ta_thenS (g := fun ds => G ds >>= fun r => match r with | .tpn es => .ok (.nx (ρ.set i (some (.tpn es)))) | _ => .bad) r p fun ds vs Hk' H' hl g d r' p' => by
      refine ⟨Hk', ds, ⟨g.kh, r'.tab⟩, d, hl.trans hn, ?_⟩
      cases e : G ds with
      | ok c =>
        rw [e] at p'
        cases c with
        | val _ => exact p'.elim
        | own _ => exact p'.elim
        | tpn us =>
          intro v Hk2 H2 g2 n2 d2
          exact p' _ Hk2 H2 g2.k ((r'.up g2).setTpn d2)
      | err c => rw [e] at p'; exact fun Hk2 H2 g2 => p' σ Hk2 H2 (r'.gr.trans g2)
      | bad => rw [e] at p'; exact p'
def rTI (K : PySem.W.Frag) (W : WX) : V → List V → Hp → VK → Prop := fun x vs H Q => ∃ Hk σ p xs ds b v, x = .ref p ∧ Ex Hk H ∧ Rd H p (.tup xs) ∧ RpAll Hk xs ds ∧ vs = [v] ∧ Den Hk H σ b v ∧ PostE K W Hk H σ Q (gIndex ds b)
theorem mt_tix (hu : X.A.units + 64 < cLine) : MtR X "tuple.index" (rTI X.K W) := by
  intro pins s σ' H x vs v us Q I rx rv h
  obtain ⟨Hk, σ, l, xs, ds, b, y, rfl, ex, hR, r1, rfl, db, p⟩ := h
  obtain ⟨u, rfl, ru⟩ := rv.one
  cases rx
  obtain ⟨its, rz, pl, _⟩ := I.tuple (.inl hR)
  obtain ⟨as, ra⟩ := readsAll_of I ex r1 rz
  obtain ⟨bs, rb⟩ := den_reads I ex db ru
  obtain ⟨⟨cl, dd, dt, sl⟩, ho, hc, n, hd⟩ := pl
  have hc : cl = .type "tuple" := hc
  have hd : dt = .seq its.toArray n := hd
  subst hc hd
  unfold gIndex at p
  split at p
  · rename_i hdp
    split at p
    · rename_i j hj
      obtain ⟨hjl, h1, h2⟩ := SeqAt.hit_at ra (RpAll.plain r1) hj
      exact call_meets PySem.F.slot_tuple_index ⟨_, ho, rfl⟩ PySem.F.entry_tuple_index (PySem.F.args_tuple_index_2 _ _) (TI.tuple_indexAt l its.toArray n dd sl u _ j hjl h1 h2)
        ⟨ho, SeqAt.items_plain ra rb (RpAll.plain r1) (den_plain ex db) (by have := hdp.1; omega), .int _, H, I.tok _, ⟨_, rfl⟩, p _ Hk H (Gr.refl ex) trivial (Rp.int _)⟩
    · exact p.elim
  · exact p.elim
/-- the receiver is a tuple without a dict -/
def tTM (r : V → List V → Hp → VK → Prop) (to : TE) (t : TA) : TE := fun σ H Q => to σ H fun x H1 => (∃ p xs o, x = .ref p ∧ H1 p = some (.frz o (.tup xs)) ∧ o.dict = none) ∧ t σ H1 fun vs H2 => r x vs H2 Q
theorem pe_tm {o : Expr} {name : Str} {id : String} {r : V → List V → Hp → VK → Prop} {to : TE} {t : TA} {ap cp : Pos} (slot : Slot "tuple" name id) (hty : typeOf (.builtin id) = pure (.type "method_descriptor")) (hm : MtR X id r) (ho : PE X o to) (ha : PA X [e] t)
    (hbase : attributeBase o name X.env (eval o X.env) = eval o X.env)
    (hfew : ((backTo cp (starEach [e] X.env)).all (fun x => !x.1) && (backToKw cp (keywordEach [] X.env)).all (fun x => x.1.isSome) && decide ([e].length + ([] : List Keyword).length + (if ([] : List Keyword).isEmpty then 0 else 1) < 30)) = true)
    (hline : (ap.endLine == cp.line) = true) (hs : starEach [e] X.env = (false, eval e X.env) :: starEach [] X.env) (hpl : (backTo cp (starEach [] X.env)).any (·.1) = false) : PE X (.Call (.Attribute o name ap) [e] [] cp) (tTM r to t) :=
  ⟨fun pins s σ H Q I h => wpAny_Call_method_late hbase hfew hline rfl (thn (ho.run pins s σ H _ I h) fun v s1 ⟨x, H1, I1, r1, ⟨p, xs, ob, ex, hp, hd⟩, q1⟩ => by
    subst ex
    cases r1
    obtain ⟨g1, _, its, _, oo, go, gc, _⟩ := I1.hok p _ hp
    rw [g1] at go
    cases go
    refine ⟨"tuple", id, PySem.F.plainAttrs_tuple, slot, hty, ⟨_, g1, gc⟩, fun a ea => by cases ea; exact ⟨_, g1, hd⟩, ?_⟩
    have hA := ha.run cp pins s1 σ H1 _ I1 q1
    rw [hs] at hA ⊢
    have h0 : (false || (backTo cp (starEach [] X.env)).any (·.1)) = false := by rw [hpl]; rfl
    exact Calls.callWith_builtin h0 (Calls.evalArgs_plain (thn hA fun us s2 ⟨vs, H2, I2, r2, q2⟩ => hm pins s2 σ H2 (.ref p) vs _ us Q I2 rfl r2 q2)))⟩
theorem d_tix {x : Str} {p ap cp : Pos} {k : Nat} (i : Nat) (hr : Room k X.A) (he : PE X e (te X.K W ψ)) (hbase : attributeBase (.Name x p) "index" X.env (eval (.Name x p) X.env) = eval (.Name x p) X.env := by rfl)
    (hfew : ((backTo cp (starEach [e] X.env)).all (fun x => !x.1) && (backToKw cp (keywordEach [] X.env)).all (fun x => x.1.isSome) && decide ([e].length + ([] : List Keyword).length + (if ([] : List Keyword).isEmpty then 0 else 1) < 30)) = true := by rfl)
    (hline : (ap.endLine == cp.line) = true := by rfl) (hs : starEach [e] X.env = (false, eval e X.env) :: starEach [] X.env := by rfl) (hpl : (backTo cp (starEach [] X.env)).any (·.1) = false := by rfl)
    (hN : X.N[i]? = some x := by rfl) (hv : Vis X.env.scope x := by first | exact Or.inl rfl | exact Or.inr (Or.inl rfl) | exact Or.inr (Or.inr rfl)) (hd : (x == ("__debug__" : Str)) = false := by decide)
    (hcd : (x == ("__classdict__" : Str)) = false := by decide) : PE X (.Call (.Attribute (.Name x p) "index" ap) [e] [] cp) (te X.K W (eTix i ψ)) :=
  pe_imp (pe_tm PySem.F.slot_tuple_index PySem.F.type_tuple_index (mt_tix (W := W) hr.units) (pv i hN hv hd hcd) (pa_cons he pa_nil hs) hbase hfew hline hs hpl) fun σ H Q ⟨Hk0, H0, Hk, ρ, r, p⟩ => by
    unfold eTix at p
    cases e1 : tpnAt ρ i with
    | err c => exact absurd e1 tpnAt_no
    | bad => rw [e1] at p; exact p.elim
    | ok ds =>
      rw [e1] at p
      obtain ⟨v, h1, q, xs, o, rfl, h3, h4, h5⟩ := r.tpn i ds (tpnAt_ok e1)
      have hH := r.kh _ _ h3
      refine ⟨_, h1, ⟨q, xs, o, rfl, hH, h4⟩, te_thenF (g := fun y => gIndex ds y) r p fun y u Hk2 H2 g2 d2 n2 r2 p2 => ?_⟩
      exact ⟨Hk2, σ, q, xs, ds, y, u, rfl, g2.kh, .inr ⟨o, g2.h.z hH⟩, RpAll.up g2.k h5, rfl, d2, PostE.up g2 p2⟩
end
end Py

set_option Elab.async false
set_option linter.all false
set_option maxRecDepth 100000
set_option autoImplicit false
set_option maxHeartbeats 4000000
/-! PyO: a dict comprehension with two fors; walks over a dict's keys; dicts written out; a dict handed on. -/
namespace Py
open PySem PySem.Spec PyProof.Rows L2
open Evl (Ex)
abbrev D2 (kx vx a0 j0 : Expr) (f0 : List Expr) (a1 j1 : Expr) (f1 : List Expr) (sc : Scope) (q : Pos) : Expr := .DictComp kx vx [⟨a0, j0, f0, 0⟩, ⟨a1, j1, f1, 0⟩] sc q
section
variable {prog : Program} {w : World} {A : Around} {R : Result → Shared → Prop} {s : Shared} {kx vx a0 j0 a1 j1 : Expr} {f0 f1 : List Expr} {sc : Scope} {q : Pos} {it : Value} {D : Addr} {env : Env}
theorem turn_out (kx vx a0 j0 a1 j1 : Expr) (f0 f1 : List Expr) (sc : Scope) (q : Pos) (it : Value) (D : Addr) (env : Env) : compTurn (D2 kx vx a0 j0 f0 a1 j1 f1 sc q) 0 it (.ref D) env = (do
      standAt j0.pos
      match ← pyNext it with
      | none => pure (.done .next)
      | some v =>
        letOwnedTupleGo a0 it v; assign a0 env v
        let mut fine := true
        for c in f0 do
          if fine then fine ← isTrue c env (eval c env)
        if fine then
          let x ← eval j1 env; standAt j1.pos
          let x ← foldedSetIterable j1 env x
          let _ ← runOwn (.compStart (D2 kx vx a0 j0 f0 a1 j1 f1 sc q) 1 (← holding [x] (pyIter x)) (.ref D) env) env
        again (.compLoop (D2 kx vx a0 j0 f0 a1 j1 f1 sc q) 0 it (.ref D) env)) := by rfl
theorem turn_in (kx vx a0 j0 a1 j1 : Expr) (f0 f1 : List Expr) (sc : Scope) (q : Pos) (it : Value) (D : Addr) (env : Env) : compTurn (D2 kx vx a0 j0 f0 a1 j1 f1 sc q) 1 it (.ref D) env = (do
      standAt j1.pos
      match ← pyNext it with
      | none => pure (.done .next)
      | some v =>
        letOwnedTupleGo a1 it v; assign a1 env v
        let mut fine := true
        for c in f1 do
          if fine then fine ← isTrue c env (eval c env)
        if fine then
          (do let kv ← eval kx env; let vv ← holding [kv] (eval vx env); standAt { kx.pos with endLine := vx.pos.endLine, endCol := vx.pos.endCol }; holding [kv, vv] (dictSet D kv vv))
        again (.compLoop (D2 kx vx a0 j0 f0 a1 j1 f1 sc q) 1 it (.ref D) env)) := by rfl
abbrev ErrN (prog : Program) (w : World) (A : Around) (env : Env) (R : Result → Shared → Prop) : Value → Shared → Prop := notedBy (model prog w) A env fun e s' => R (.error e) s'
abbrev TestsOk (l : List Expr) (env : Env) : Sem Bool := forIn l true fun c r => if r = true then do let fine ← isTrue c env (eval c env); pure (ForInStep.yield fine) else pure (ForInStep.yield r)
theorem loop_out (hs : ∀ x, foldedSetIterable j1 env x = pure x) (I : Nat → Shared → Prop)
    (turn : ∀ n s, I n s → wpAny (model prog w) A (pyNext it) (fun r t1 => match r with
      | none => R (.ok .next) t1
      | some v => wpAny (model prog w) A (letOwnedTupleGo a0 it v) (fun _ t2 => wpAny (model prog w) A (assign a0 env v) (fun _ t3 => wpAny (model prog w) A (TestsOk f0 env) (fun fine t4 =>
            if fine = true then wpAny (model prog w) A (eval j1 env) (fun x t5 => wpAny (model prog w) A (pyIter x) (fun it1 t6 =>
              codeAny (model prog w) A (.compStart (D2 kx vx a0 j0 f0 a1 j1 f1 sc q) 1 it1 (.ref D) env) (fun r s' => match r with
                | .ok _ => ∃ m, m < n ∧ I m s'
                | .error _ => False) t6) (ErrN prog w A env R) t5) (ErrN prog w A env R) t4 else ∃ m, m < n ∧ I m t4) (ErrN prog w A env R) t3) (ErrN prog w A env R) t2) (ErrN prog w A env R) t1) (ErrN prog w A env R) s)
    (n : Nat) (h : I n s) : codeAny (model prog w) A (.compLoop (D2 kx vx a0 j0 f0 a1 j1 f1 sc q) 0 it (.ref D) env) R s := by
  refine codeAny_loop rfl I (fun n u hI => ?_) n h
  show wpAny _ A ((compTurn (D2 kx vx a0 j0 f0 a1 j1 f1 sc q) 0 it (.ref D) env).onRaise (fun x => do noteFrame x env; theTreesLotGoes x)) _ _ u
  refine wpAny_noted ?_; rw [turn_out]
  refine wpAny_bind (wpAny_standAt (wpAny_bind (wpAny_mono (turn n u hI) (fun r t1 k1 => ?_) fun _ _ z => z)))
  match r, k1 with
  | none, k1 => exact wpAny_pure k1
  | some v, k1 =>
    refine wpAny_bind (wpAny_mono k1 (fun _ t2 k2 => wpAny_bind (wpAny_mono k2 (fun _ t3 k3 => wpAny_bind (wpAny_mono k3 (fun fine t4 k4 => ?_) fun _ _ z => z)) fun _ _ z => z)) fun _ _ z => z)
    match fine, k4 with
    | false, k4 => exact wpAny_pure ⟨rfl, k4⟩
    | true, k4 =>
      refine wpAny_bind (wpAny_mono k4 (fun x t5 k5 => wpAny_bind (wpAny_standAt (wpAny_bind (wpAny_of_eq (hs x) (wpAny_bind (wpAny_holding (wpAny_mono k5 (fun it1 t6 k6 => ?_) fun _ _ z => z))))))) fun _ _ z => z)
      refine wpAny_bind (wpAny_runOwn ?_); rw [Around.mark_none]
      refine codeAny_mono k6 fun r s' hr => ?_
      match r, hr with
      | .ok f, hr =>
        first
          | exact wpAny_pure ⟨rfl, hr⟩
          | exact wpAny_bind (wpAny_pure (wpAny_pure ⟨rfl, hr⟩))
      | .error e, hr => exact hr.elim
theorem loop_in (I : Nat → Shared → Prop)
    (turn : ∀ n s, I n s → wpAny (model prog w) A (pyNext it) (fun r t1 => match r with
      | none => R (.ok .next) t1
      | some v => wpAny (model prog w) A (letOwnedTupleGo a1 it v) (fun _ t2 => wpAny (model prog w) A (assign a1 env v) (fun _ t3 => wpAny (model prog w) A (TestsOk f1 env) (fun fine t4 =>
            if fine = true then wpAny (model prog w) A (eval kx env) (fun kv t5 => wpAny (model prog w) A (eval vx env) (fun vv t6 =>
              wpAny (model prog w) A (dictSet D kv vv) (fun _ t7 => ∃ m, m < n ∧ I m t7) (ErrN prog w A env R) t6) (ErrN prog w A env R) t5) (ErrN prog w A env R) t4 else ∃ m, m < n ∧ I m t4) (ErrN prog w A env R) t3) (ErrN prog w A env R) t2) (ErrN prog w A env R) t1) (ErrN prog w A env R) s)
    (n : Nat) (h : I n s) : codeAny (model prog w) A (.compLoop (D2 kx vx a0 j0 f0 a1 j1 f1 sc q) 1 it (.ref D) env) R s := by
  refine codeAny_loop rfl I (fun n u hI => ?_) n h
  show wpAny _ A ((compTurn (D2 kx vx a0 j0 f0 a1 j1 f1 sc q) 1 it (.ref D) env).onRaise (fun x => do noteFrame x env; theTreesLotGoes x)) _ _ u
  refine wpAny_noted ?_; rw [turn_in]
  refine wpAny_bind (wpAny_standAt (wpAny_bind (wpAny_mono (turn n u hI) (fun r t1 k1 => ?_) fun _ _ z => z)))
  match r, k1 with
  | none, k1 => exact wpAny_pure k1
  | some v, k1 =>
    refine wpAny_bind (wpAny_mono k1 (fun _ t2 k2 => wpAny_bind (wpAny_mono k2 (fun _ t3 k3 => wpAny_bind (wpAny_mono k3 (fun fine t4 k4 => ?_) fun _ _ z => z)) fun _ _ z => z)) fun _ _ z => z)
    match fine, k4 with
    | false, k4 => exact wpAny_pure ⟨rfl, k4⟩
    | true, k4 =>
      exact wpAny_bind (wpAny_bind (wpAny_mono k4 (fun kv t5 k5 => wpAny_bind (wpAny_holding (wpAny_mono k5 (fun vv t6 k6 => wpAny_bind (wpAny_standAt (wpAny_holding (wpAny_mono k6 (fun _ t7 k7 => wpAny_pure ⟨rfl, k7⟩) fun _ _ z => z)))) fun _ _ z => z))) fun _ _ z => z))
theorem start_in (h0 : codeAny (model prog w) A (.compLoop (D2 kx vx a0 j0 f0 a1 j1 f1 sc q) 1 it (.ref D) env) R s)
    (h : wpAny (model prog w) A (pyIter it) (fun it' s' => codeAny (model prog w) A (.compLoop (D2 kx vx a0 j0 f0 a1 j1 f1 sc q) 1 it' (.ref D) env) R s') (ErrN prog w A env R) s) :
    codeAny (model prog w) A (.compStart (D2 kx vx a0 j0 f0 a1 j1 f1 sc q) 1 it (.ref D) env) R s := by
  refine codeAny_of_tree ?_
  show wpAny _ _ ((compStart (D2 kx vx a0 j0 f0 a1 j1 f1 sc q) 1 it (.ref D) env).onRaise (fun x => do noteFrame x env; standAt theWindowsPlace)) _ _ s
  refine wpAny_notedAt ?_; unfold compStart; show wpAny _ _ (ask >>= _) _ _ s
  refine wpAny_bind (wpAny_askSetting (wpAny_ite ?_))
  split
  · first
      | exact wpAny_bind (wpAny_pure (wpAny_pure ⟨rfl, h0⟩))
      | exact wpAny_pure ⟨rfl, h0⟩
  · first
      | exact wpAny_bind (wpAny_rule (wpAny_bind (wpAny_standAt (wpAny_bind (wpAny_mono h (fun i' s' z => wpAny_pure ⟨rfl, z⟩) fun _ _ x => x)))))
      | (refine wpAny_bind (wpAny_rule ?_); show wpAny _ _ (standAt j1.pos >>= _) _ _ s; exact wpAny_bind (wpAny_standAt (wpAny_bind (wpAny_mono h (fun i' s' z => wpAny_pure ⟨rfl, z⟩) fun _ _ x => x))))
end
section
variable {X : Cx}
/-- the reading of a dict comprehension with two fors -/
def tD2 (wi : TI) (g : TG) (tt : TT) (wi1 : TI) (g1 : TG) (tt1 : TT) (tk tv : TE) (vs vs1 : List Nat) : TE := fun σ H Q => wi σ H fun J H1 => ∀ D, H1 D = none → ∃ W : Nat → Nat → Hp → Prop, (∃ m, W 0 m (upd H1 D (.dK []))) ∧ ∀ i m H, W i m H →
  (J.stop i H ∧ Q (.ref D) H) ∨ (J.go i H ∧ ∃ Nx : Hp → Prop, (∀ H', Nx H' → ∃ m', m' < m ∧ W (i + 1) m' H') ∧ ∀ x H', J.yld i H x H' → g x (wipe σ vs) H' fun σ2 H2 => wipe σ2 vs = wipe σ vs ∧ tt σ2 H2 fun b H3 =>
    if b = true then wi1 σ2 H3 fun J1 H4 => ∃ W1 : Nat → Nat → Hp → Prop, (∃ m, W1 0 m H4) ∧ ∀ j k H, W1 j k H →
      (J1.stop j H ∧ Nx H) ∨ (J1.go j H ∧ ∃ Nx1 : Hp → Prop, (∀ H', Nx1 H' → ∃ k', k' < k ∧ W1 (j + 1) k' H') ∧ ∀ x H', J1.yld j H x H' → g1 x (wipe σ2 vs1) H' fun σ3 H5 => wipe σ3 vs1 = wipe σ2 vs1 ∧ tt1 σ3 H5 fun b H6 =>
        if b = true then tk σ3 H6 fun y H7 => tv σ3 H7 fun z H8 => ∃ kvs k, y = kV k ∧ H8 D = some (.dK kvs) ∧ kvs.length < sizeLine ∧ Nx1 (upd H8 D (.dK (putK kvs k z))) else Nx1 H6)
    else Nx H3)
abbrev AllB (X : Cx) (scope : Scope) (P : Cx → Prop) : Prop := ∀ (s : Shared) (H : Hp) (C : Addr) (cl : List (Str × Addr)) (fp : List Addr), P (X.blk s H scope (compEnvC scope cl C X.env) fp)
theorem d2_core {pins : List (Addr × Obj)} {s : Shared} {σ : Sl} {H : Hp} {Q : VK} {kx vx a0 j0 a1 j1 : Expr} {f0 f1 : List Expr} {scope : Scope} {own : List (Str × Nat)} {vs1 : List Nat} {pos pos' : Pos} {wi wi1 : TI} {g g1 : TG} {tt tt1 : TT} {tk tv : TE} {use : Option (Value → Sem Unit)} {Qf : Value → Shared → Prop}
    (hc : X.calm = true) (hN : X.N.Nodup) (I : Inv X pins σ H s) (hi : PI X a0 j0 wi) (ok : BlkOk X.N X.env.scope scope own) (hv : ∀ i ∈ vs1, i ∈ own.map (·.2))
    (hg : AllB X scope fun Y => PG Y a0 g) (ht : AllB X scope fun Y => PTs Y f0 tt) (hk : AllB X scope fun Y => PE Y kx tk) (he : AllB X scope fun Y => PE Y vx tv) (hs : ∀ x, foldedSetIterable j0 X.env x = pure x)
    (hi1 : AllB X scope fun Y => PI Y a1 j1 wi1) (hg1 : AllB X scope fun Y => PG Y a1 g1) (ht1 : AllB X scope fun Y => PTs Y f1 tt1) (hs1 : ∀ env x, foldedSetIterable j1 env x = pure x)
    (h : tD2 wi g tt wi1 g1 tt1 tk tv (own.map (·.2)) vs1 σ H Q)
    (hRR : ∀ D C s' m H', Inv X pins σ H' s' → Q (.ref D) H' → s'.heap.Ns C m → FpOk X pins H' C → compPost (model X.prog X.w) X.A X.xe use Qf (.ref D) C (.ok .next) s') :
    wpAny (model X.prog X.w) X.A (comprehension (D2 kx vx a0 j0 f0 a1 j1 f1 scope pos) scope X.env pos' newDict false (eval j0 X.env) use) Qf X.xe s := by
  refine wpAny_comprehension_free (use := use) rfl hs (closure_ok fun y hy e => (ok.free y hy e).elim (fun k => I.ok.has _ (.inl k)) fun k => I.ok.has _ (.inr k)) ok.kind (fun y hy e => by rw [ok.uniq y hy, e]) (thn (hi.run pins s σ H _ I h) fun xv u1 hx => thn hx fun itv u2 h2 => ?_)
  obtain ⟨it, fp, tn, J, H2, rfl, I2, T, st2, fo, rd⟩ := h2
  refine wpAny_newObj_type (newEnv_comp ?_); generalize hD : u2.heap.objs.size = D
  have fresh : H2 D = none := I2.hok.fresh (Nat.le_of_eq hD)
  obtain ⟨W, ⟨m0, w0⟩, turn⟩ := rd D fresh
  generalize hu3 : ({ u2 with heap := u2.heap.push { cls := .type "dict", data := .dict #[] } } : Shared) = u3
  have hp3 : u3.heap = u2.heap.push { cls := .type "dict", data := .dict #[] } := by rw [← hu3]
  have I3 : Inv X pins σ (upd H2 D (.dK [])) u3 := by
    rw [← hu3]; refine I2.laid (t' := u2.toks) (fun b o e => Heap.get?_push_of_some _ e) (Nat.le_of_eq hD) ?_; rw [← hD]; exact dk_empty u2.heap I2.big
  have fo3 : ∀ b ∈ fp, FpOk X pins (upd H2 D (.dK [])) b ∧ b < u3.heap.objs.size := fun b hb => by
    obtain ⟨o, e, _⟩ := T.obj _ _ st2 b hb
    have lt := Heap.lt_size e; refine ⟨⟨?_, (fo b hb).2⟩, by rw [hp3, Heap.size_push]; exact Nat.lt_succ_of_lt lt⟩
    rw [upd_ne (by rw [← hD]; exact Nat.ne_of_lt lt)]; exact (fo b hb).1
  have st3 : tn 0 u3.heap := T.keep _ _ _ st2 fun b _ o e => by rw [hp3]; exact Heap.get?_push_of_some _ e
  have I4 := block_start I3 ok hN fo3
  let cl := cellsFrom (u3.heap.objs.size + 1) scope.names (cloFrom X.env.cells scope.names [])
  have pg := hg u3 (upd H2 D (.dK [])) u3.heap.objs.size cl fp; have pt := ht u3 (upd H2 D (.dK [])) u3.heap.objs.size cl fp
  have pk := hk u3 (upd H2 D (.dK [])) u3.heap.objs.size cl fp; have pe := he u3 (upd H2 D (.dK [])) u3.heap.objs.size cl fp
  have pi1 := hi1 u3 (upd H2 D (.dK [])) u3.heap.objs.size cl fp; have pg1 := hg1 u3 (upd H2 D (.dK [])) u3.heap.objs.size cl fp; have pt1 := ht1 u3 (upd H2 D (.dK [])) u3.heap.objs.size cl fp
  show codeAny _ _ (.compStart (D2 kx vx a0 j0 f0 a1 j1 f1 scope pos) 0 (.ref it) (.ref D) (compEnvC scope cl u3.heap.objs.size X.env)) (compPost (model X.prog X.w) X.A X.xe use Qf (.ref D) u3.heap.objs.size) { u3 with heap := pushCells (u3.heap.push { cls := .type "dict", data := .dict #[] }) scope.names }
  have nf : ∀ b ∈ fp, (upd H2 D (.dK [])) b = none := fun b hb => (fo3 b hb).1.1
  generalize hce : compEnvC scope cl u3.heap.objs.size X.env = ce at pg pt pk pe pi1 pg1 pt1 ⊢
  replace I4 : Inv (X.blk u3 (upd H2 D (.dK [])) scope ce fp) [] (wipe σ (own.map (·.2))) (upd H2 D (.dK [])) { u3 with heap := pushCells (u3.heap.push { cls := .type "dict", data := .dict #[] }) scope.names } := by rw [← hce]; exact I4
  have cL : ce.locals = u3.heap.objs.size := by rw [← hce]; rfl
  generalize hH3 : upd H2 D (.dK []) = H3 at I3 I4 pg pt pk pe pi1 pg1 pt1 w0 nf fo3
  generalize hu4 : ({ u3 with heap := pushCells (u3.heap.push { cls := .type "dict", data := .dict #[] }) scope.names } : Shared) = u4 at I4 ⊢
  have st4 : tn 0 u4.heap := T.keep _ _ _ st3 fun b _ o e => by rw [← hu4]; exact pushCells_keeps _ _ _ _ (Heap.get?_push_of_some _ e)
  let Y : Cx := X.blk u3 H3 scope ce fp
  have stat : ∀ {τ : Sl} {K' : Hp} {z : Shared}, Inv Y [] τ K' z → (∀ b ∈ fp, K' b = none) → ∀ b ∈ fp, FpOk Y [] K' b := fun {τ K' z} I' hn b hb =>
    ⟨hn b hb, (I'.ok.exf b hb).1, I'.ok.exfs b hb, .inl hb, fun x c e => (I'.ok.exf b hb).2 x c e, fun p hp => absurd (show p ∈ ([] : List (Addr × Obj)) ++ [] from hp) (by simp)⟩
  have loop : codeAny (model X.prog X.w) X.A (.compLoop (D2 kx vx a0 j0 f0 a1 j1 f1 scope pos) 0 (.ref it) (.ref D) ce) (compPost (model X.prog X.w) X.A X.xe use Qf (.ref D) u3.heap.objs.size) u4 := by
    refine loop_out (hs1 ce) (fun n z => ∃ i K', Inv Y [] (wipe σ (own.map (·.2))) K' z ∧ tn i z.heap ∧ (∀ b ∈ fp, K' b = none) ∧ W i n K') ?_ m0 ⟨0, H3, I4, st4, nf, w0⟩
    rintro n u5 ⟨i, H5, I5, st5, n5, w5⟩
    rcases turn i n H5 w5 with ⟨stop, qq⟩ | ⟨go, Nx, hNx, step⟩
    · refine thnF (T.done Y rfl rfl rfl hc i [] u5 _ H5 (fun _ _ => False) I5 (stat I5 n5) st5 stop) fun r u6 ⟨hr, I6⟩ => ?_; subst hr
      have I7 : Inv X pins σ H5 u6 := I3.call' (ch := fp) I6.os I6.base I6.hok I6.bare fun b hb => let z := (fo3 b hb).1.2; ⟨z.2.2.1, z.1, z.2.2.2.1, z.2.2.2.2⟩
      have nC : H5 u3.heap.objs.size = none := by have z : H5 ce.locals = none := I6.free; rwa [cL] at z
      obtain ⟨m, hn, _⟩ := I6.loc; have hn : u6.heap.Ns ce.locals m := hn; rw [cL] at hn
      exact hRR D u3.heap.objs.size u6 m H5 I7 qq hn (I3.fpOk (Nat.le_refl _) nC)
    · refine thnF (T.item Y rfl rfl rfl hc i [] u5 _ H5 (fun _ _ => False) I5 (stat I5 n5) st5 go) fun r u6 ⟨u, hr, h6⟩ => ?_; subst hr
      refine thnF h6 fun _ u7 ⟨x, H7, I7, r7, y7, st7, n7⟩ => ?_; have I7' := I7.pinned (stat I7 n7) (T.obj _ _ st7)
      refine thnF (pg.run _ u7 _ H7 x u _ I7' r7 (step x H7 y7)) fun _ u8 ⟨σ8, H8, I8, hw8, q8⟩ => thnF (pt.run _ u8 σ8 H8 _ I8 q8) fun b u9 ⟨H9, I9, q9⟩ => ?_
      have fin : ∀ {σ9 : Sl} {z : Shared} {K' : Hp}, Inv Y ([] ++ pinsAt fp u7.heap) σ9 K' z → (wipe σ (own.map (·.2))).length = σ9.length → (∀ (j : Nat) v, (wipe σ (own.map (·.2)))[j]? = some (some v) → σ9[j]? = some (some v)) → Nx K' →
          ∃ m, m < n ∧ ∃ i K', Inv Y [] (wipe σ (own.map (·.2))) K' z ∧ tn i z.heap ∧ (∀ b ∈ fp, K' b = none) ∧ W i m K' := fun {σ9 z K'} I' hl hk nx => by
        obtain ⟨m', hm, w'⟩ := hNx K' nx
        have pin : ∀ b ∈ fp, ∀ o, u7.heap.get? b = some o → z.heap.get? b = some o ∧ K' b = none := fun b hb o e => let t := I'.pin (b, o) (List.mem_append_right _ (List.mem_append_right _ (mem_pinsAt hb e))); ⟨t.1, t.2.1⟩
        refine ⟨m', hm, i + 1, K', (I'.unpinned (pins := [])).weak hl hk, T.keep _ _ _ st7 fun b hb o e => (pin b hb o e).1, fun b hb => ?_, w'⟩
        obtain ⟨o, e, _⟩ := T.obj _ _ st7 b hb; exact (pin b hb o e).2
      have hl8 : (wipe σ (own.map (·.2))).length = σ8.length := by rw [← hw8]; exact wipe_length _ _
      match b, q9 with
      | false, q9 =>
        rw [if_neg Bool.false_ne_true] at q9 ⊢; exact fin I9 hl8 (fun j v e => by rw [← hw8] at e; exact (wipe_some e).1) q9
      | true, q9 =>
        rw [if_pos rfl] at q9 ⊢
        refine thnF (pi1.run _ u9 σ8 H9 _ I9 q9) fun xv uA hx => thnF hx fun itv uB hB => ?_
        obtain ⟨it1, fp1, tn1, J1, HB, rfl, IB, T1, stB, foB, W1, ⟨m1, w1⟩, turn1⟩ := hB
        have stat1 : ∀ {K' : Hp}, (∀ b ∈ fp1, K' b = none) → ∀ b ∈ fp1, FpOk Y ([] ++ pinsAt fp u7.heap) K' b := fun hn b hb => ⟨hn b hb, (foB b hb).2⟩
        have inner : codeAny (model X.prog X.w) X.A (.compLoop (D2 kx vx a0 j0 f0 a1 j1 f1 scope pos) 1 (.ref it1) (.ref D) ce) (fun r z => match r with
              | .ok _ => ∃ m, m < n ∧ ∃ i K', Inv Y [] (wipe σ (own.map (·.2))) K' z ∧ tn i z.heap ∧ (∀ b ∈ fp, K' b = none) ∧ W i m K'
              | .error _ => False) uB := by
          refine loop_in (fun k z => ∃ j K', Inv Y ([] ++ pinsAt fp u7.heap) (wipe σ8 vs1) K' z ∧ tn1 j z.heap ∧ (∀ b ∈ fp1, K' b = none) ∧ W1 j k K') ?_ m1 ⟨0, HB, IB.weak (wipe_length _ _) (fun j v e => (wipe_some e).1), stB, fun b hb => (foB b hb).1, w1⟩
          rintro k uC ⟨j, HC, IC, stC, nC, wC⟩
          rcases turn1 j k HC wC with ⟨stop1, nx1⟩ | ⟨go1, Nx1, hNx1, step1⟩
          · refine thnF (T1.done Y rfl rfl rfl hc j _ uC (wipe σ8 vs1) HC (fun _ _ => False) IC (stat1 nC) stC stop1) fun r uE ⟨hr, IE⟩ => ?_; subst hr
            refine fin IE (hl8.trans (wipe_length σ8 vs1).symm) (fun j v e => ?_) nx1
            rw [← hw8] at e; obtain ⟨e1, e2⟩ := wipe_some e; rw [wipe_out fun z => e2 (hv j z)]; exact e1
          · refine thnF (T1.item Y rfl rfl rfl hc j _ uC (wipe σ8 vs1) HC (fun _ _ => False) IC (stat1 nC) stC go1) fun r uE ⟨v1, hr, hE⟩ => ?_; subst hr
            refine thnF hE fun _ uF ⟨x1, HF, IF, rF, yF, stF, nF⟩ => ?_; have IF' := IF.pinned (stat1 nF) (T1.obj _ _ stF)
            refine thnF (pg1.run _ uF (wipe σ8 vs1) HF x1 v1 _ IF' rF (step1 x1 HF yF)) fun _ uG ⟨σG, HG, IG, hwG, qG⟩ => thnF (pt1.run _ uG σG HG _ IG qG) fun b1 uH ⟨HH, IH, qH⟩ => ?_
            have fin1 : ∀ {z : Shared} {K' : Hp}, Inv Y (([] ++ pinsAt fp u7.heap) ++ pinsAt fp1 uF.heap) σG K' z → Nx1 K' → ∃ m, m < k ∧ ∃ j K', Inv Y ([] ++ pinsAt fp u7.heap) (wipe σ8 vs1) K' z ∧ tn1 j z.heap ∧ (∀ b ∈ fp1, K' b = none) ∧ W1 j m K' := fun {z K'} I' nx => by
              obtain ⟨m', hm, w'⟩ := hNx1 K' nx
              have pin : ∀ b ∈ fp1, ∀ o, uF.heap.get? b = some o → z.heap.get? b = some o ∧ K' b = none := fun b hb o e => let t := I'.pin (b, o) (List.mem_append_right _ (List.mem_append_right _ (mem_pinsAt hb e))); ⟨t.1, t.2.1⟩
              refine ⟨m', hm, j + 1, K', I'.unpinned.weak (by rw [← hwG]; exact wipe_length _ _) (fun j v e => by rw [← hwG] at e; exact (wipe_some e).1), T1.keep _ _ _ stF fun b hb o e => (pin b hb o e).1, fun b hb => ?_, w'⟩
              obtain ⟨o, e, _⟩ := T1.obj _ _ stF b hb; exact (pin b hb o e).2
            match b1, qH with
            | false, qH =>
              rw [if_neg Bool.false_ne_true] at qH ⊢; exact fin1 IH qH
            | true, qH =>
              rw [if_pos rfl] at qH ⊢
              refine thnF (pk.run _ uH σG HH _ IH qH) fun z uI ⟨yk, HI, II, rI, qI⟩ => thnF (pe.run _ uI σG HI _ II qI) fun z2 uJ ⟨yv, HJ, IJ, rJ, kvs, ky, ek, hDJ, hzJ, nx⟩ => ?_
              subst ek; exact d_dictSet (X := Y) IJ hDJ hzJ rI rJ fun uK IK => fin1 IK nx
        exact start_in inner (T1.self X.A 0 _ _ _ stB inner)
  exact codeAny_compStart_dict loop (T.self X.A 0 _ _ _ st4 loop)
theorem pe_dc2 {kx vx a0 j0 a1 j1 : Expr} {f0 f1 : List Expr} {scope : Scope} {own : List (Str × Nat)} {vs1 : List Nat} {pos : Pos} {wi wi1 : TI} {g g1 : TG} {tt tt1 : TT} {tk tv : TE} (hc : X.calm = true) (hN : X.N.Nodup) (hi : PI X a0 j0 wi) (ok : BlkOk X.N X.env.scope scope own) (hv : ∀ i ∈ vs1, i ∈ own.map (·.2))
    (hg : AllB X scope fun Y => PG Y a0 g) (ht : AllB X scope fun Y => PTs Y f0 tt) (hi1 : AllB X scope fun Y => PI Y a1 j1 wi1) (hg1 : AllB X scope fun Y => PG Y a1 g1) (ht1 : AllB X scope fun Y => PTs Y f1 tt1) (hk : AllB X scope fun Y => PE Y kx tk) (he : AllB X scope fun Y => PE Y vx tv)
    (hs : ∀ x, foldedSetIterable j0 X.env x = pure x := by intro _; rfl) (hs1 : ∀ env x, foldedSetIterable j1 env x = pure x := by intro _ _; rfl) :
    PE X (.DictComp kx vx [⟨a0, j0, f0, 0⟩, ⟨a1, j1, f1, 0⟩] scope pos) (tD2 wi g tt wi1 g1 tt1 tk tv (own.map (·.2)) vs1) := by
  refine ⟨fun pins s σ H Q I h => ?_⟩
  rw [arm_eval_DictComp]
  refine d2_core hc hN I hi ok hv hg ht hk he hs hi1 hg1 ht1 hs1 h fun D C s' m H' I' q hn f => ⟨m, hn, fun h'' sb => ?_⟩
  obtain ⟨k0, k1, _, k3, k4, k5⟩ := f
  exact ⟨.ref D, H', I'.turned (t' := s'.toks) (fun b o hb e => (sb.2 b hb).trans e) k0 k1 k3 k4 k5, rfl, q⟩
end
end Py

set_option Elab.async false
set_option linter.all false
set_option maxRecDepth 100000
set_option autoImplicit false
set_option maxHeartbeats 4000000
/-! PyU: dict comprehensions, walks over keys, dicts written out and handed on, in the layer. -/
namespace Py
open PySem L2 PyProof.Rows
open Evl (Ex)
def noDct (ρ : En) : Bool := ρ.all fun c => match c with
  | some (.dct _) => false
  | _ => true
def dIn (τ : Pat) (T : En → R Bool) (κ ν : En → R Rv) (ρ : En) : List PyData → List (Int × PyData) → R (List (Int × PyData))
  | [], acc => .ok acc
  | d :: ds, acc => asg τ d ρ >>= fun ρ1 => nerr (T ρ1) >>= fun b => if b = true then nerr (κ ρ1) >>= fun y => (frz y).toInt >>= fun k => nerr (ν ρ1) >>= fun z => (frz z).toVal >>= fun e => if acc.length ≤ 1000000 then dIn τ T κ ν ρ ds (putI acc k e) else .bad else dIn τ T κ ν ρ ds acc
def dOut (τ : Pat) (T : En → R Bool) (ι : En → R (Bool × List PyData)) (τ' : Pat) (T' : En → R Bool) (κ ν : En → R Rv) (vs : List Nat) (ρ : En) : List PyData → List (Int × PyData) → R (List (Int × PyData))
  | [], acc => .ok acc
  | d :: ds, acc => asg τ d ρ >>= fun ρ1 => nerr (T ρ1) >>= fun b => if b = true then (if noDct (wipeE ρ1 vs) = true then nerr (ι ρ1) >>= fun a => if a.1 = true then dIn τ' T' κ ν (wipeE ρ1 vs) a.2 acc >>= fun acc' => dOut τ T ι τ' T' κ ν vs ρ ds acc' else .bad else .bad) else dOut τ T ι τ' T' κ ν vs ρ ds acc
def sD2 (i : Nat) (ι : En → R (Bool × List PyData)) (τ : Pat) (T : En → R Bool) (ι' : En → R (Bool × List PyData)) (τ' : Pat) (T' : En → R Bool) (κ ν : En → R Rv) (vs vs' : List Nat) : En → R Out := fun ρ => ι ρ >>= fun a => dOut τ T ι' τ' T' κ ν vs' (wipeE ρ vs) a.2 [] >>= fun kvs => .ok (.nx (ρ.set i (some (.dct kvs))))
def sDLit (i : Nat) (κ ν : En → R Rv) : En → R Out := fun ρ => nerr (κ ρ) >>= fun y => (frz y).toInt >>= fun k => nerr (ν ρ) >>= fun z => (frz z).toVal >>= fun d => .ok (.nx (ρ.set i (some (.dct [(k, d)]))))
def sDMv (i j : Nat) : En → R Out := fun ρ => dctAt ρ j >>= fun kvs => .ok (.nx ((ρ.set j none).set i (some (.dct kvs))))
def knAt (ρ : En) (i : Nat) : R (List (Int × PyData)) := match ρ[i]? with
  | some (some (.kn (.dfz kvs))) => .ok kvs
  | _ => .bad
def iDk (i : Nat) : En → R (Bool × List PyData) := fun ρ => knAt ρ i >>= fun kvs => .ok (false, kvs.map fun p => .int p.1)
def eKGet (i : Nat) (ψ : En → R Rv) : En → R Rv := fun ρ => knAt ρ i >>= fun kvs => ψ ρ >>= fun y => (frz y).toInt >>= fun k => match getI kvs k with
  | some d => .ok (.val d)
  | none => .bad
def eLk (i : Nat) (φ : En → R Rv) : En → R Rv := fun ρ => dctAt ρ i >>= fun kvs => nerr (φ (ρ.set i (some (.kn (.dfz kvs))))) >>= fun r => match r with
  | .own ds => .ok (.own ds)
  | _ => .bad
theorem knAt_ok {ρ : En} {i : Nat} {kvs : List (Int × PyData)} (h : knAt ρ i = .ok kvs) : ρ[i]? = some (some (.kn (.dfz kvs))) := by
  unfold knAt at h
  split at h
  · rename_i ks e
    cases h
    exact e
  · cases h
theorem knAt_no {ρ : En} {i : Nat} {c : Str} : knAt ρ i ≠ .err c := by
  unfold knAt
  split <;> exact fun h => nomatch h
variable [KK]
theorem dIn_no {τ : Pat} {T : En → R Bool} {κ ν : En → R Rv} {ρ : En} {c : Str} : ∀ {ds : List PyData} {acc : List (Int × PyData)}, dIn τ T κ ν ρ ds acc ≠ .err c
  | [], _ => fun h => nomatch h
  | d :: ds, acc => by
    rw [dIn]
    refine bind_no (fun _ => asg_no) fun ρ1 => bind_no (fun _ => nerr_no) fun b => ?_
    cases b with
    | false => exact dIn_no
    | true =>
      rw [if_pos rfl]
      refine bind_no (fun _ => nerr_no) fun x => bind_no (fun c h => ?_) fun k => bind_no (fun _ => nerr_no) fun z => bind_no (fun _ => toVal_no) fun e => ?_
      · cases x with
        | val d => cases d <;> cases h
        | own _ => cases h
        | bor _ _ => cases h
      · split
        · exact dIn_no
        · exact fun h => nomatch h
theorem dOut_no {τ : Pat} {T : En → R Bool} {ι : En → R (Bool × List PyData)} {τ' : Pat} {T' : En → R Bool} {κ ν : En → R Rv} {vs : List Nat} {ρ : En} {c : Str} : ∀ {ds : List PyData} {acc : List (Int × PyData)}, dOut τ T ι τ' T' κ ν vs ρ ds acc ≠ .err c
  | [], _ => fun h => nomatch h
  | d :: ds, acc => by
    rw [dOut]
    refine bind_no (fun _ => asg_no) fun ρ1 => bind_no (fun _ => nerr_no) fun b => ?_
    cases b with
    | false => exact dOut_no
    | true =>
      rw [if_pos rfl]
      split
      · refine bind_no (fun _ => nerr_no) fun a => ?_
        split
        · exact bind_no (fun _ => dIn_no) fun _ => dOut_no
        · exact fun h => nomatch h
      · exact fun h => nomatch h
section
variable {Hk0 H0 Hk H : Hp} {σ : Sl} {ρ : En}
/-- a dict that no slot tells of is written -/
theorem Rel.mutF {D : Addr} {ks ls : List (Key × V)} (r : Rel Hk0 H0 Hk H σ ρ) (hn : noDct ρ = true) (h0 : H0 D = none) (hk : Hk D = none) (hp : H D = some (.dK ks)) : Rel Hk0 H0 Hk (upd H D (.dK ls)) σ ρ where
  len := r.len
  gr := ⟨r.gr.k, r.gr.h.mutD h0 hp, fun a u q => by rw [upd_ne (ne_of_none q hk)]; exact r.gr.kh a u q, r.gr.fr⟩
  val := r.val
  own := fun j fs q => by
    obtain ⟨p', zs, a, b, c, d, e⟩ := r.own j fs q
    have : p' ≠ D := fun w => by
      subst w
      rw [hp] at d
      cases d
    exact ⟨p', zs, a, b, c, by rw [upd_ne this]; exact d, e⟩
  sep := r.sep
  raw := r.raw
  dct := fun j fs q => by
    have := List.all_eq_true.mp hn _ (List.mem_of_getElem? q)
    cases this
  tpn := r.tpn
  dsep := r.dsep
  kn := r.kn
  t0 := r.t0
theorem Rel.setKn {v : V} {t : Tg} {i : Nat} (r : Rel Hk0 H0 Hk H σ ρ) (hs : σ[i]? = some (some v)) (h : t.In Hk v) : Rel Hk0 H0 Hk H σ (ρ.set i (some (.kn t))) where
  len := by rw [List.length_set]; exact r.len
  gr := r.gr
  val := fun j e q => by
    rw [get_set] at q
    split at q
    · split at q <;> cases q
    · exact r.val j e q
  own := fun j e q => by
    rw [get_set] at q
    split at q
    · split at q <;> cases q
    · exact r.own j e q
  sep := fun j k ds es p q1 q2 h1 h2 => by
    rw [get_set] at q1 q2
    split at q1
    · split at q1 <;> cases q1
    · split at q2
      · split at q2 <;> cases q2
      · exact r.sep j k ds es p q1 q2 h1 h2
  raw := fun j a q => by
    rw [get_set] at q
    split at q
    · split at q <;> cases q
    · exact r.raw j a q
  dct := fun j e q => by
    rw [get_set] at q
    split at q
    · split at q <;> cases q
    · exact r.dct j e q
  tpn := fun j e q => by
    rw [get_set] at q
    split at q
    · split at q <;> cases q
    · exact r.tpn j e q
  dsep := fun j k ds es p q1 q2 h1 h2 => by
    rw [get_set] at q1 q2
    split at q1
    · split at q1 <;> cases q1
    · split at q2
      · split at q2 <;> cases q2
      · exact r.dsep j k ds es p q1 q2 h1 h2
  kn := fun j e q => by
    rw [get_set] at q
    split at q
    · rename_i hj
      subst hj
      split at q
      · cases q
        exact ⟨v, hs, h⟩
      · cases q
    · exact r.kn j e q
  t0 := r.t0
end
section
variable {K : PySem.W.Frag} {W : WX} {ι ι' : En → R (Bool × List PyData)} {τ τ' : Pat} {T T' : En → R Bool} {κ ν : En → R Rv} {vs vs' : List Nat}
/-- the heap behind a store into the new dict -/
theorem gr_put {Hk1 H1 Hk2 H2 : Hp} {D : Addr} {o : HO} {ls : List (Key × V)} (G : Gr Hk1 H1 Hk2 H2) (hD : H1 D = none) (kD : Hk2 D = none) (dD : H2 D = some (.dK ls)) : Gr Hk1 H1 Hk2 (upd H2 D o) := ⟨G.k, G.h.mutD hD dD, fun a u q => by rw [upd_ne (ne_of_none q kD)]; exact G.kh a u q, G.fr⟩
theorem val_known {Hk H Hk' H' : Hp} {σ : Sl} {y : Rv} {v : V} {w : PyData} (g : Gr Hk H Hk' H') (n : New H y v) (d : Den Hk' H' σ y v) (q : (frz y).toVal = .ok w) : ∃ Hk2, Gr Hk H Hk2 H' ∧ Rp Hk2 v w := by
  cases y with
  | val d' => cases q; exact ⟨Hk', g, d⟩
  | own zs =>
    cases q
    obtain ⟨p, xs, a, b, c, f⟩ := d
    obtain ⟨p', a', b'⟩ := n
    subst a
    cases a'
    exact ⟨_, g.frz b' c b, .lst (.inl (.inl upd_same)) (RpAll.up (Ex.new b) f)⟩
  | bor j zs => cases q
theorem d2_read {i : Nat} {σ : Sl} {H : Hp} {E : Ends} (hv : ∀ i ∈ slots τ, i ∈ vs) (hv' : ∀ i ∈ slots τ', i ∈ vs') (h : ts K W (sD2 i ι τ T ι' τ' T' κ ν vs vs') E σ H) :
    tD2 (ti K W ι) (tg τ) (tt K W0 T) (ti K W0 ι') (tg τ') (tt K W0 T') (te K W0 κ) (te K W0 ν) vs vs' σ H (fun x H1 => gName i x σ H1 E.nx) := by
  obtain ⟨Hk0, H0, Hk, ρ, r, p⟩ := h
  refine ⟨Hk0, H0, Hk, ρ, r, ?_⟩
  unfold sD2 at p
  cases e1 : ι ρ with
  | err c => rw [e1] at p; exact fun Hk' H' g => p σ Hk' H' (r.gr.trans g)
  | bad => rw [e1] at p; exact p
  | ok a =>
    obtain ⟨kn, ds⟩ := a
    rw [e1] at p
    have p : PostS K W Hk0 H0 Hk E (dOut τ T ι' τ' T' κ ν vs' (wipeE ρ vs) ds [] >>= fun kvs => .ok (.nx (ρ.set i (some (.dct kvs))))) := p
    intro J Hk1 H1 S g1 ok s1 _ D hD
    cases e2 : dOut τ T ι' τ' T' κ ν vs' (wipeE ρ vs) ds [] with
    | err c => exact absurd e2 dOut_no
    | bad => rw [e2] at p; exact p.elim
    | ok all =>
      rw [e2] at p
      have p : PostS K W Hk0 H0 Hk E (.ok (.nx (ρ.set i (some (.dct all))))) := p
      have r1 := r.up g1
      have h0D : H0 D = none := r1.gr.h.back hD
      refine ⟨fun i m Hc => m = ds.length - i ∧ i ≤ ds.length ∧ ∃ Hk2 ks acc, Gr Hk1 H1 Hk2 Hc ∧ Hk2 D = none ∧ Hc D = some (.dK ks) ∧ DR Hk2 ks acc ∧ dOut τ T ι' τ' T' κ ν vs' (wipeE ρ vs) (ds.drop i) acc = .ok all,
        ⟨ds.length, by simp, Nat.zero_le _, Hk1, [], [], Gr.own g1.kh hD, Evl.fresh_back g1.kh hD, upd_same, ⟨rfl, .nil⟩, by rw [List.drop_zero]; exact e2⟩, ?_⟩
      rintro l m Hc ⟨rfl, hi, Hk2, ks, acc, g2, kD, cD, ra, el⟩
      have sc : S Hc := ok.mono _ _ g2.h s1
      by_cases hlt : l < ds.length
      · refine .inr ⟨ok.go l Hc sc hlt, fun H' => l + 1 ≤ ds.length ∧ ∃ Hk2 ks acc, Gr Hk1 H1 Hk2 H' ∧ Hk2 D = none ∧ H' D = some (.dK ks) ∧ DR Hk2 ks acc ∧ dOut τ T ι' τ' T' κ ν vs' (wipeE ρ vs) (ds.drop (l + 1)) acc = .ok all, fun H' n => ⟨ds.length - (l + 1), by omega, rfl, n.1, n.2⟩, fun x H' y => ?_⟩
        obtain ⟨Hk3, g3, rx⟩ := ok.yld l Hc Hk2 x H' sc g2.k g2.kh y ds[l] (List.getElem?_eq_getElem hlt)
        rw [List.drop_eq_getElem_cons hlt, dOut] at el
        cases q1 : asg τ ds[l] (wipeE ρ vs) with
        | err c => rw [q1] at el; cases el
        | bad => rw [q1] at el; cases el
        | ok ρ1 =>
          rw [q1] at el
          have el : (nerr (T ρ1) >>= fun b => if b = true then (if noDct (wipeE ρ1 vs') = true then nerr (ι' ρ1) >>= fun a => if a.1 = true then dIn τ' T' κ ν (wipeE ρ1 vs') a.2 acc >>= fun acc' => dOut τ T ι' τ' T' κ ν vs' (wipeE ρ vs) (ds.drop (l + 1)) acc' else .bad else .bad) else dOut τ T ι' τ' T' κ ν vs' (wipeE ρ vs) (ds.drop (l + 1)) acc) = .ok all := el
          have rw2 := ((r1.up g2).up g3).wiped vs
          have dD3 : H' D = some (.dK ks) := g3.h.d cD
          have kD3 : Hk3 D = none := g3.fr D (by rw [cD]; exact fun z => nomatch z) kD
          refine ⟨Hk0, H0, Hk3, wipeE ρ vs, ds[l], rw2, rx, ρ1, q1, fun σ2 r2 o2 => ⟨wipe_off o2 hv, Hk0, H0, Hk3, ρ1, r2, ?_⟩⟩
          cases q2 : T ρ1 with
          | err c => rw [q2] at el; cases el
          | bad => rw [q2] at el; cases el
          | ok b =>
            rw [q2] at el
            intro Hk4 H4 g4
            have dD4 : H4 D = some (.dK ks) := g4.h.d dD3
            have kD4 : Hk4 D = none := g4.fr D (by rw [dD3]; exact fun z => nomatch z) kD3
            cases b with
            | false =>
              rw [if_neg Bool.false_ne_true]
              exact ⟨hlt, Hk4, ks, acc, g2.trans (g3.trans g4), kD4, dD4, DR.up (g3.trans g4).k ra, el⟩
            | true =>
              rw [if_pos rfl]
              have el : (if noDct (wipeE ρ1 vs') = true then nerr (ι' ρ1) >>= fun a => if a.1 = true then dIn τ' T' κ ν (wipeE ρ1 vs') a.2 acc >>= fun acc' => dOut τ T ι' τ' T' κ ν vs' (wipeE ρ vs) (ds.drop (l + 1)) acc' else .bad else .bad) = .ok all := el
              split at el
              case isFalse => cases el
              rename_i hnd
              refine ⟨Hk0, H0, Hk4, ρ1, r2.up g4, ?_⟩
              cases q3 : ι' ρ1 with
              | err c => rw [q3] at el; cases el
              | bad => rw [q3] at el; cases el
              | ok a =>
                obtain ⟨kn', ds'⟩ := a
                rw [q3] at el
                have el : (if kn' = true then dIn τ' T' κ ν (wipeE ρ1 vs') ds' acc >>= fun acc' => dOut τ T ι' τ' T' κ ν vs' (wipeE ρ vs) (ds.drop (l + 1)) acc' else .bad) = .ok all := el
                split at el
                case isFalse => cases el
                rename_i hkn
                intro J' Hk5 H5 S' g5 ok' s5 sk5
                have sk5 := sk5 hkn
                cases q4 : dIn τ' T' κ ν (wipeE ρ1 vs') ds' acc with
                | err c => exact absurd q4 dIn_no
                | bad => rw [q4] at el; cases el
                | ok acc' =>
                  rw [q4] at el
                  have el : dOut τ T ι' τ' T' κ ν vs' (wipeE ρ vs) (ds.drop (l + 1)) acc' = .ok all := el
                  have dD5 : H5 D = some (.dK ks) := g5.h.d dD4
                  have kD5 : Hk5 D = none := g5.fr D (by rw [dD4]; exact fun z => nomatch z) kD4
                  have g15 := g2.trans (g3.trans (g4.trans g5))
                  refine ⟨fun j m Hd => m = ds'.length - j ∧ j ≤ ds'.length ∧ ∃ Hk6 ks6 acc6, Gr Hk1 H1 Hk6 Hd ∧ Ex Hk5 Hk6 ∧ Rel Hk0 H0 Hk6 Hd (wipe σ2 vs') (wipeE ρ1 vs') ∧ Hk6 D = none ∧ Hd D = some (.dK ks6) ∧ DR Hk6 ks6 acc6 ∧ dIn τ' T' κ ν (wipeE ρ1 vs') (ds'.drop j) acc6 = .ok acc',
                    ⟨ds'.length, by simp, Nat.zero_le _, Hk5, ks, acc, g15, Ex.refl _, ((r2.up g4).up g5).wiped vs', kD5, dD5, DR.up (g3.trans (g4.trans g5)).k ra, by rw [List.drop_zero]; exact q4⟩, ?_⟩
                  rintro j m' Hd ⟨rfl, hj, Hk6, ks6, acc6, g6, x6, r6, kD6, dD6, ra6, el6⟩
                  have sd : S' Hd := ok'.mono _ _ (.of (x6.trans g6.kh)) sk5
                  by_cases hlj : j < ds'.length
                  · refine .inr ⟨ok'.go j Hd sd hlj, fun H' => j + 1 ≤ ds'.length ∧ ∃ Hk6 ks6 acc6, Gr Hk1 H1 Hk6 H' ∧ Ex Hk5 Hk6 ∧ Rel Hk0 H0 Hk6 H' (wipe σ2 vs') (wipeE ρ1 vs') ∧ Hk6 D = none ∧ H' D = some (.dK ks6) ∧ DR Hk6 ks6 acc6 ∧ dIn τ' T' κ ν (wipeE ρ1 vs') (ds'.drop (j + 1)) acc6 = .ok acc', fun H' n => ⟨ds'.length - (j + 1), by omega, rfl, n.1, n.2⟩, fun x' H7 y' => ?_⟩
                    obtain ⟨Hk7, g7, rx7⟩ := ok'.yld j Hd Hk6 x' H7 sd x6 g6.kh y' ds'[j] (List.getElem?_eq_getElem hlj)
                    rw [List.drop_eq_getElem_cons hlj, dIn] at el6
                    cases t1 : asg τ' ds'[j] (wipeE ρ1 vs') with
                    | err c => rw [t1] at el6; cases el6
                    | bad => rw [t1] at el6; cases el6
                    | ok ρ2 =>
                      rw [t1] at el6
                      have el6 : (nerr (T' ρ2) >>= fun b => if b = true then nerr (κ ρ2) >>= fun y => (frz y).toInt >>= fun k => nerr (ν ρ2) >>= fun z => (frz z).toVal >>= fun e => if acc6.length ≤ 1000000 then dIn τ' T' κ ν (wipeE ρ1 vs') (ds'.drop (j + 1)) (putI acc6 k e) else .bad else dIn τ' T' κ ν (wipeE ρ1 vs') (ds'.drop (j + 1)) acc6) = .ok acc' := el6
                      have dD7 : H7 D = some (.dK ks6) := g7.h.d dD6
                      have kD7 : Hk7 D = none := g7.fr D (by rw [dD6]; exact fun z => nomatch z) kD6
                      have rw7 := (r6.up g7).wiped vs'
                      have ee : wipe (wipe σ2 vs') vs' = wipe σ2 vs' := by
                        refine List.ext_getElem? fun i => ?_
                        rw [wipe_get, wipe_length, wipe_get]
                        split <;> rfl
                      have r7 := r6.up g7
                      refine ⟨Hk0, H0, Hk7, wipeE ρ1 vs', ds'[j], r7, rx7, ρ2, t1, fun σ3 r3 o3 => ⟨wipe_off o3 hv', Hk0, H0, Hk7, ρ2, r3, ?_⟩⟩
                      cases t2 : T' ρ2 with
                      | err c => rw [t2] at el6; cases el6
                      | bad => rw [t2] at el6; cases el6
                      | ok b =>
                        rw [t2] at el6
                        intro Hk8 H8 g8
                        have dD8 : H8 D = some (.dK ks6) := g8.h.d dD7
                        have kD8 : Hk8 D = none := g8.fr D (by rw [dD7]; exact fun z => nomatch z) kD7
                        cases b with
                        | false =>
                          rw [if_neg Bool.false_ne_true]
                          exact ⟨hlj, Hk8, ks6, acc6, g6.trans (g7.trans g8), x6.trans (g7.trans g8).k, r7.up g8, kD8, dD8, DR.up (g7.trans g8).k ra6, el6⟩
                        | true =>
                          rw [if_pos rfl]
                          have el6 : (nerr (κ ρ2) >>= fun y => (frz y).toInt >>= fun k => nerr (ν ρ2) >>= fun z => (frz z).toVal >>= fun e => if acc6.length ≤ 1000000 then dIn τ' T' κ ν (wipeE ρ1 vs') (ds'.drop (j + 1)) (putI acc6 k e) else .bad) = .ok acc' := el6
                          refine ⟨Hk0, H0, Hk8, ρ2, r3.up g8, ?_⟩
                          cases t3 : κ ρ2 with
                          | err c => rw [t3] at el6; cases el6
                          | bad => rw [t3] at el6; cases el6
                          | ok yk =>
                            rw [t3] at el6
                            have el6 : ((frz yk).toInt >>= fun k => nerr (ν ρ2) >>= fun z => (frz z).toVal >>= fun e => if acc6.length ≤ 1000000 then dIn τ' T' κ ν (wipeE ρ1 vs') (ds'.drop (j + 1)) (putI acc6 k e) else .bad) = .ok acc' := el6
                            cases t4 : (frz yk).toInt with
                            | err c => rw [t4] at el6; cases el6
                            | bad => rw [t4] at el6; cases el6
                            | ok k =>
                              rw [t4] at el6
                              have el6 : (nerr (ν ρ2) >>= fun z => (frz z).toVal >>= fun e => if acc6.length ≤ 1000000 then dIn τ' T' κ ν (wipeE ρ1 vs') (ds'.drop (j + 1)) (putI acc6 k e) else .bad) = .ok acc' := el6
                              intro v9 Hk9 H9 g9 n9 d9
                              have eyk : yk = .val (.int k) := by
                                cases yk with
                                | val d' => cases d' <;> first | (cases t4; rfl) | cases t4
                                | own _ => cases t4
                                | bor _ _ => cases t4
                              subst eyk
                              cases (show Rp Hk9 v9 (.int k) from d9)
                              refine ⟨Hk0, H0, Hk9, ρ2, (r3.up g8).up g9, ?_⟩
                              cases t5 : ν ρ2 with
                              | err c => rw [t5] at el6; cases el6
                              | bad => rw [t5] at el6; cases el6
                              | ok yz =>
                                rw [t5] at el6
                                have el6 : ((frz yz).toVal >>= fun e => if acc6.length ≤ 1000000 then dIn τ' T' κ ν (wipeE ρ1 vs') (ds'.drop (j + 1)) (putI acc6 k e) else .bad) = .ok acc' := el6
                                intro vA HkA HA gA nA dA
                                cases t6 : (frz yz).toVal with
                                | err c => rw [t6] at el6; cases el6
                                | bad => rw [t6] at el6; cases el6
                                | ok e =>
                                  rw [t6] at el6
                                  have el6 : (if acc6.length ≤ 1000000 then dIn τ' T' κ ν (wipeE ρ1 vs') (ds'.drop (j + 1)) (putI acc6 k e) else .bad) = .ok acc' := el6
                                  split at el6
                                  case isFalse => cases el6
                                  rename_i hacc
                                  obtain ⟨HkB, gB, rB⟩ := val_known gA nA dA t6
                                  have dD9 : H9 D = some (.dK ks6) := g9.h.d dD8
                                  have kD9 : Hk9 D = none := g9.fr D (by rw [dD8]; exact fun z => nomatch z) kD8
                                  have dDA : HA D = some (.dK ks6) := gB.h.d dD9
                                  have kDB : HkB D = none := gB.fr D (by rw [dD9]; exact fun z => nomatch z) kD9
                                  have G := g7.trans (g8.trans (g9.trans gB))
                                  have raB := DR.up G.k ra6
                                  refine ⟨ks6, Sum.inl k, rfl, dDA, Nat.lt_of_le_of_lt (Nat.le_of_eq raB.len) (Nat.lt_of_le_of_lt hacc (by decide)), hlj, HkB, _, putI acc6 k e, gr_put (g6.trans G) hD kDB dDA, x6.trans G.k, (r6.up G).mutF hnd h0D kDB dDA, kDB, upd_same, DR.put rB raB, el6⟩
                  · have e3 : j = ds'.length := by omega
                    rw [e3, List.drop_length] at el6
                    cases el6
                    exact .inl ⟨ok'.stop j Hd sd e3, hlt, Hk6, ks6, acc', g6, kD6, dD6, ra6, el⟩
      · have e3 : l = ds.length := by omega
        rw [e3, List.drop_length] at el
        cases el
        refine .inl ⟨ok.stop l Hc sc e3, p _ Hk2 Hc (g1.trans g2).k (Rel.setDct (r1.up g2) h0D kD cD ra fun j es h1 h2 h3 => ?_)⟩
        obtain ⟨p', ls, a, b, c, d, _⟩ := r1.dct j es h1
        rw [a] at h3
        cases h3
        rw [d] at hD
        cases hD
end
end Py

set_option Elab.async false
set_option linter.all false
set_option maxRecDepth 100000
set_option autoImplicit false
set_option maxHeartbeats 4000000
/-! PyU2: the rules for dict comprehensions, walks over keys, dicts written out and handed on. -/
namespace Py
open PySem L2 PyProof.Rows
open Evl (Ex)
theorem sw_dict {kx vx : Expr} {gs : List Comprehension} {scope : Scope} {pos py : Pos} {y : Str} {l : Nat} {env : Env} (a : env.scope.kind = .function) (b : env.scope.names.lookup y = some .local) (c : (py.line == pos.line) = true)
    (d : (scope.names.any fun (n, k) => n == y && (k == .local || k == .cell)) = false) : swapsWith (.DictComp kx vx gs scope pos) (some (.Name y py)) l env = pure true := by
  have b' : env.kindOf y = some .local := b
  have a' : env.blockKind = .function := by unfold Env.blockKind; rw [a]; rfl
  unfold swapsWith; simp only [a', b', d, Expr.pos, c]; rfl
variable [KK]
section
variable {X : Cx}
theorem ps_setD2 {i : Nat} {y : Str} {py : Pos} {kx vx a0 j0 a1 j1 : Expr} {f0 f1 : List Expr} {scope : Scope} {own : List (Str × Nat)} {vs1 : List Nat} {pos spos : Pos} {wi wi1 : TI} {g g1 : TG} {tt tt1 : TT} {tk tv : TE} (hc : X.calm = true) (hN : X.N.Nodup) (hy : X.N[i]? = some y) (hyl : X.env.scope.names.lookup y = some .local)
    (hsw : swapsWith (.DictComp kx vx [⟨a0, j0, f0, 0⟩, ⟨a1, j1, f1, 0⟩] scope pos) (some (.Name y py)) spos.line X.env = pure true) (hi : PI X a0 j0 wi) (ok : BlkOk X.N X.env.scope scope own) (hv : ∀ i ∈ vs1, i ∈ own.map (·.2))
    (hg : AllB X scope fun Y => PG Y a0 g) (ht : AllB X scope fun Y => PTs Y f0 tt) (hi1 : AllB X scope fun Y => PI Y a1 j1 wi1) (hg1 : AllB X scope fun Y => PG Y a1 g1) (ht1 : AllB X scope fun Y => PTs Y f1 tt1) (hk : AllB X scope fun Y => PE Y kx tk) (he : AllB X scope fun Y => PE Y vx tv)
    (hs : ∀ x, foldedSetIterable j0 X.env x = pure x) (hs1 : ∀ env x, foldedSetIterable j1 env x = pure x) :
    PS X (.Assign [.Name y py] (.DictComp kx vx [⟨a0, j0, f0, 0⟩, ⟨a1, j1, f1, 0⟩] scope pos) spos) (tAsg (tD2 wi g tt wi1 g1 tt1 tk tv (own.map (·.2)) vs1) (gName i)) := by
  refine ⟨fun pins s σ H D I h => ?_⟩
  rw [exec_Assign_Name_used _ _ _ _ hsw]; refine wpAny_bind (wpAny_standAt (wpAny_bind ?_))
  show wpAny _ X.A (do let _ ← comprehension (D2 kx vx a0 j0 f0 a1 j1 f1 scope pos) scope X.env (firstIterPos [⟨a0, j0, f0, 0⟩, ⟨a1, j1, f1, 0⟩] pos) newDict false (eval j0 X.env) (some (assign (.Name y py) X.env))) _ _ s
  have h : tD2 wi g tt wi1 g1 tt1 tk tv (own.map (·.2)) vs1 σ H (fun x H1 => gName i x σ H1 D.nx) := h
  refine wpAny_bind (thn (d2_core (Qf := fun _ s' => SP X pins D .next s') hc hN I hi ok hv hg ht hk he hs hi1 hg1 ht1 hs1 h fun L C u m K' I' qq hn f => ?_) fun _ s' hq => wpAny_pure (wpAny_pure hq))
  show wpAny _ _ (assign (.Name y py) X.env (.ref L)) _ _ _
  refine wpAny_assign_Name (store_ok2 (v := V.ref L) I' hN hy (.inl hyl) rfl (fun u2 I2 ⟨a, sb, ha⟩ => ?_) (.inr hyl))
  obtain ⟨k0, k1, _, k3, k4, k5⟩ := f
  have ne : C ≠ a := ha.elim (fun z => by rw [z]; exact k1) fun z e => k4 y a z e.symm
  exact ⟨m, hn.sameBut sb ne, fun h3 sb3 => ⟨_, K', I2.turned (t' := u2.toks) (fun b o hb e => (sb3.2 b hb).trans e) k0 k1 k3 k4 k5, qq⟩⟩
end
section
variable {X : Cx} [ok : OK X] {W : WX} {e f : Expr} {φ ψ χ : En → R Rv} {pos : Pos}
theorem s_dc2 {y : Str} {py : Pos} {kx vx a0 j0 a1 j1 : Expr} {f0 f1 : List Expr} {scope : Scope} {own : List (Str × Nat)} {vs' : List Nat} {spos : Pos} {ι ι' : En → R (Bool × List PyData)} {τ τ' : Pat} {T T' : En → R Bool} {κ ν : En → R Rv} (i : Nat) (hc : X.calm = true) (hN : X.N.Nodup)
    (bo : BlkOk X.N X.env.scope scope own) (hi : PI X a0 j0 (ti X.K W ι))
    (hg : AllB X scope fun Y => PG Y a0 (tg τ)) (ht : AllB X scope fun Y => PTs Y f0 (tt X.K W0 T)) (hi1 : AllB X scope fun Y => PI Y a1 j1 (ti X.K W0 ι')) (hg1 : AllB X scope fun Y => PG Y a1 (tg τ')) (ht1 : AllB X scope fun Y => PTs Y f1 (tt X.K W0 T')) (hk : AllB X scope fun Y => PE Y kx (te X.K W0 κ)) (he : AllB X scope fun Y => PE Y vx (te X.K W0 ν))
    (hsw : swapsWith (.DictComp kx vx [⟨a0, j0, f0, 0⟩, ⟨a1, j1, f1, 0⟩] scope pos) (some (.Name y py)) spos.line X.env = pure true)
    (hy : X.N[i]? = some y := by rfl) (hyl : X.env.scope.names.lookup y = some .local := by rfl) (hvv : ∀ i ∈ vs', i ∈ own.map (·.2) := by decide)
    (hv : ∀ i ∈ slots τ, i ∈ own.map (·.2) := by decide) (hv' : ∀ i ∈ slots τ', i ∈ vs' := by decide) (hs : ∀ x, foldedSetIterable j0 X.env x = pure x := by intro _; rfl) (hs1 : ∀ env x, foldedSetIterable j1 env x = pure x := by intro _ _; rfl) :
    PS X (.Assign [.Name y py] (.DictComp kx vx [⟨a0, j0, f0, 0⟩, ⟨a1, j1, f1, 0⟩] scope pos) spos) (ts X.K W (sD2 i ι τ T ι' τ' T' κ ν (own.map (·.2)) vs')) :=
  ps_imp (ps_setD2 hc hN hy hyl hsw hi bo hvv hg ht hi1 hg1 ht1 hk he hs hs1) fun D σ H h => d2_read hv hv' h
theorem s_dlit {x : Str} {pos' dp : Pos} (i : Nat) (hN : X.N.Nodup) (he : PE X e (te X.K W0 φ)) (hf : PE X f (te X.K W0 ψ)) (hi : X.N[i]? = some x := by rfl) (hx : Loc X.env.scope x := by first | exact Or.inl rfl | exact Or.inr rfl) (hs : swapsWith (.Dict [some e] [f] dp) (some (.Name x pos')) pos.line X.env = pure false := by rfl)
    (hq : X.fn x = true ∨ X.env.scope.names.lookup x = some .local := by first | exact .inl rfl | exact .inr rfl) : PS X (.Assign [.Name x pos'] (.Dict [some e] [f] dp) pos) (ts X.K W (sDLit i φ ψ)) :=
  ps_imp (ps_set hN hi hx (pe_disp (pps_cons he hf pps_nil) (by rfl) (by rfl) (fun z => by cases z) (by show 1 ≤ 15; decide)) hs hq) fun D σ H ⟨Hk0, H0, Hk, ρ, r, p⟩ => by
    intro q hq
    unfold sDLit at p
    have g := Gr.own (o := .dK []) r.kh hq
    have r1 := r.up g
    have kq : Hk q = none := Evl.fresh_back r.kh hq
    refine ⟨Hk0, H0, Hk, ρ, r1, ?_⟩
    cases t3 : φ ρ with
    | err c => rw [t3] at p; exact p.elim
    | bad => rw [t3] at p; exact p
    | ok yk =>
      rw [t3] at p
      have p : PostS X.K W Hk0 H0 Hk D ((frz yk).toInt >>= fun k => nerr (ψ ρ) >>= fun z => (frz z).toVal >>= fun d => .ok (.nx (ρ.set i (some (.dct [(k, d)]))))) := p
      cases t4 : (frz yk).toInt with
      | err c =>
        cases yk with
        | val d' => cases d' <;> cases t4
        | own _ => cases t4
        | bor _ _ => cases t4
      | bad => rw [t4] at p; exact p.elim
      | ok k =>
        rw [t4] at p
        have p : PostS X.K W Hk0 H0 Hk D (nerr (ψ ρ) >>= fun z => (frz z).toVal >>= fun d => .ok (.nx (ρ.set i (some (.dct [(k, d)]))))) := p
        intro v9 Hk9 H9 g9 n9 d9
        have eyk : yk = .val (.int k) := by
          cases yk with
          | val d' => cases d' <;> first | (cases t4; rfl) | cases t4
          | own _ => cases t4
          | bor _ _ => cases t4
        subst eyk
        cases (show Rp Hk9 v9 (.int k) from d9)
        refine ⟨Hk0, H0, Hk9, ρ, r1.up g9, ?_⟩
        cases t5 : ψ ρ with
        | err c => rw [t5] at p; exact p.elim
        | bad => rw [t5] at p; exact p
        | ok yz =>
          rw [t5] at p
          have p : PostS X.K W Hk0 H0 Hk D ((frz yz).toVal >>= fun d => .ok (.nx (ρ.set i (some (.dct [(k, d)]))))) := p
          intro vA HkA HA gA nA dA
          cases t6 : (frz yz).toVal with
          | err c => exact absurd t6 toVal_no
          | bad => rw [t6] at p; exact p.elim
          | ok d =>
            rw [t6] at p
            obtain ⟨HkB, gB, rB⟩ := val_known gA nA dA t6
            have hq9 : H9 q = some (.dK []) := g9.h.d upd_same
            have kq9 : Hk9 q = none := g9.fr q (by rw [upd_same]; exact fun z => nomatch z) kq
            have hqA : HA q = some (.dK []) := gB.h.d hq9
            have kqB : HkB q = none := gB.fr q (by rw [hq9]; exact fun z => nomatch z) kq9
            refine ⟨hqA, [(Sum.inl k, vA)], rfl, (by show 1 ≤ 15; decide), ?_⟩
            have h0 : H0 q = none := r.gr.h.back hq
            have G := g9.trans gB
            have G2 : Gr Hk H HkB (upd HA q (.dK [(Sum.inl k, vA)])) := ⟨G.k, ((ExT.of (Ex.new hq)).trans G.h).mutD hq hqA, fun a u z => by
              rw [upd_ne (ne_of_none z kqB)]
              exact G.kh a u z, fun a n z => G.fr a (fun w => by
                by_cases ha : a = q
                · subst ha; rw [upd_same] at w; cases w
                · rw [upd_ne ha] at w; exact n w) z⟩
            refine p _ HkB _ G2.k (Rel.setDct (r.up G2) h0 kqB upd_same ⟨rfl, .cons rB .nil⟩ fun j es h1 h2 h3 => ?_)
            obtain ⟨p', ks, a, b, c, d, _⟩ := r.dct j es h1
            rw [a] at h3
            cases h3
            rw [d] at hq
            cases hq
theorem s_dmv {x y : Str} {pos' p2 : Pos} (i j : Nat) (hN : X.N.Nodup) (hij : i ≠ j) (hi : X.N[i]? = some x := by rfl) (hj : X.N[j]? = some y := by rfl) (hx : Loc X.env.scope x := by first | exact Or.inl rfl | exact Or.inr rfl) (hv : Vis X.env.scope y := by first | exact Or.inl rfl | exact Or.inr (Or.inl rfl) | exact Or.inr (Or.inr rfl)) (hs : swapsWith (.Name y p2) (some (.Name x pos')) pos.line X.env = pure false := by rfl)
    (hf : X.fn x = true ∨ X.env.scope.names.lookup x = some .local := by first | exact .inl rfl | exact .inr rfl) (hd : (y == ("__debug__" : Str)) = false := by decide)
    (hcd : (y == ("__classdict__" : Str)) = false := by decide) : PS X (.Assign [.Name x pos'] (.Name y p2) pos) (ts X.K W (sDMv i j)) :=
  ps_imp (ps_set hN hi hx (pv j hj hv hd hcd) hs hf) fun D σ H ⟨Hk0, H0, Hk, ρ, r, p⟩ => by
    unfold sDMv at p
    cases e1 : dctAt ρ j with
    | err c => exact absurd e1 dctAt_no
    | bad => rw [e1] at p; exact p.elim
    | ok kvs =>
      rw [e1] at p
      have hd := dctAt_ok e1
      obtain ⟨q, ks, h1, h2, h3, h4, h5⟩ := r.dct j kvs hd
      refine ⟨_, h1, p _ Hk _ (Ex.refl _) (Rel.setDct (r.drop j) h2 h3 h4 h5 fun l es k1 k2 k3 => ?_)⟩
      rw [get_set] at k1
      split at k1
      · split at k1 <;> cases k1
      · rename_i hlj
        exact hlj (r.dsep j l kvs es q hd k1 h1 k3)
/-- keys, walked over while the dict stands still -/
theorem w_dk {x : Str} {p : Pos} {tg : Expr} (i : Nat) (hN : X.N[i]? = some x := by rfl) (hv : Vis X.env.scope x := by first | exact Or.inl rfl | exact Or.inr (Or.inl rfl) | exact Or.inr (Or.inr rfl)) (hd : (x == ("__debug__" : Str)) = false := by decide)
    (hcd : (x == ("__classdict__" : Str)) = false := by decide) : PI X tg (.Name x p) (ti X.K W (iDk i)) :=
  pi_imp (pi_keys (pv i hN hv hd hcd)) fun σ H Q ⟨Hk0, H0, Hk, ρ, r, p⟩ => by
    unfold iDk at p
    cases e1 : knAt ρ i with
    | err c => exact absurd e1 knAt_no
    | bad => rw [e1] at p; exact p.elim
    | ok kvs =>
      rw [e1] at p
      obtain ⟨v, h1, q, od, ks, rfl, h2, h3⟩ := r.kn i _ (knAt_ok e1)
      refine ⟨_, h1, q, od, rfl, .inl ⟨ks, r.kh _ _ h2, p _ Hk H (fun H' => H' q = some (.frz od (.dK ks))) (Gr.refl r.kh) ⟨?_, ?_, ?_, ?_⟩ (r.kh _ _ h2) (fun z => nomatch z)⟩⟩
      · intro l H' hs hl
        exact ⟨hs, by rw [h3.len]; simpa using hl⟩
      · intro l H' hs hl
        exact ⟨hs, by rw [h3.len]; rw [List.length_map] at hl; omega⟩
      · intro l H' Hk' v H2 hs e1 e2 y d hd
        obtain ⟨rfl, k, v0, hk, rfl⟩ := y
        refine ⟨Hk', Gr.refl e2, ?_⟩
        have hm := congrArg (fun z => z[l]?) h3.1
        simp only [List.getElem?_map] at hm hd
        rw [hk] at hm
        cases ek : kvs[l]? with
        | none => rw [ek] at hd; cases hd
        | some kv =>
          rw [ek] at hd hm
          cases hd
          simp only [Option.map_some, Option.some.injEq] at hm
          rw [hm]
          exact .int _
      · intro H' H2 e hs
        exact e.z hs
theorem d_kget {k : Nat} {x : Str} {p : Pos} (i : Nat) (hr : Room k X.A) (he : PE X e (te X.K W ψ)) (hs : NoSl e := by exact fun _ _ => rfl) (hN : X.N[i]? = some x := by rfl) (hv : Vis X.env.scope x := by first | exact Or.inl rfl | exact Or.inr (Or.inl rfl) | exact Or.inr (Or.inr rfl)) (hd : (x == ("__debug__" : Str)) = false := by decide)
    (hcd : (x == ("__classdict__" : Str)) = false := by decide) : PE X (.Subscript (.Name x p) e pos) (te X.K W (eKGet i ψ)) :=
  pe_imp (pe_dget (by have := hr.units; omega) (pv i hN hv hd hcd) he hs) fun σ H Q ⟨Hk0, H0, Hk, ρ, r, p⟩ => by
    unfold eKGet at p
    cases e1 : knAt ρ i with
    | err c => exact absurd e1 knAt_no
    | bad => rw [e1] at p; exact p.elim
    | ok kvs =>
      rw [e1] at p
      obtain ⟨v0, h1, q, od, ks, rfl, h2, h5⟩ := r.kn i _ (knAt_ok e1)
      refine ⟨_, h1, te_thenF (g := fun y => y.toInt >>= fun k => match getI kvs k with | some d => .ok (.val d) | none => .bad) r p fun y v Hk' H' g d n r' p' => ?_⟩
      cases e2 : y.toInt with
      | err c => rw [e2] at p'; cases y <;> first | (rename_i d0; cases d0 <;> cases e2) | cases e2
      | bad => rw [e2] at p'; exact p'.elim
      | ok k =>
        rw [e2] at p'
        have p' : PostE X.K W Hk H σ Q (match getI kvs k with | some d => .ok (.val d) | none => .bad) := p'
        have hv := d.int e2
        subst hv
        split at p'
        · rename_i d' hd'
          obtain ⟨w, hw, rw'⟩ := (DR.get k (DR.up g.k h5)).1 d' hd'
          exact ⟨q, w, rfl, .inl ⟨ks, Sum.inl k, .inr ⟨od, g.h.z (r.kh _ _ h2)⟩, rfl, hw.symm⟩, p' _ Hk' H' g trivial rw'⟩
        · exact p'.elim
mutual
theorem Rp.lack {H H' : Hp} {p : Addr} {od : Obj} {ks : List (Key × V)} (hp : H p = some (.frz od (.dK ks))) (hn : ∀ a, a ≠ p → H' a = H a) : ∀ {v : V} {d : PyData}, Rp H v d → Rp H' v d
  | _, _, .non => .non
  | _, _, .bl b => .bl b
  | _, _, .int i => .int i
  | _, _, .str x => .str x
  | _, _, .lst h r => .lst (match h with
    | .inl (.inl z) => .inl (.inl (by rw [hn _ (fun w => by subst w; rw [hp] at z; cases z)]; exact z))
    | .inl (.inr ⟨o, z⟩) => .inl (.inr ⟨o, by rw [hn _ (fun w => by subst w; rw [hp] at z; cases z)]; exact z⟩)
    | .inr z => .inr z) (RpAll.lack hp hn r)
  | _, _, .tup h r => .tup (match h with
    | .inl z => .inl (by rw [hn _ (fun w => by subst w; rw [hp] at z; cases z)]; exact z)
    | .inr ⟨o, z⟩ => .inr ⟨o, by rw [hn _ (fun w => by subst w; rw [hp] at z; cases z)]; exact z⟩) (RpAll.lack hp hn r)
theorem RpAll.lack {H H' : Hp} {p : Addr} {od : Obj} {ks : List (Key × V)} (hp : H p = some (.frz od (.dK ks))) (hn : ∀ a, a ≠ p → H' a = H a) : ∀ {vs : List V} {ds : List PyData}, RpAll H vs ds → RpAll H' vs ds
  | _, _, .nil => .nil
  | _, _, .cons a b => .cons (Rp.lack hp hn a) (RpAll.lack hp hn b)
end
theorem lock_read {σ : Sl} {H : Hp} {Q : VK} {j : Nat} (h : te X.K W (eLk j φ) σ H Q) : ∃ p ks, H p = some (.dK ks) ∧ ∀ od, te X.K W0 φ σ (upd H p (.frz od (.dK ks))) fun v H' => H' p = some (.frz od (.dK ks)) ∧ Q v (upd H' p (.dK ks)) := by
  obtain ⟨Hk0, H0, Hk, ρ, r, p⟩ := h
  unfold eLk at p
  cases e1 : dctAt ρ j with
  | err c => exact absurd e1 dctAt_no
  | bad => rw [e1] at p; exact p.elim
  | ok kvs =>
    rw [e1] at p
    have p : PostE X.K W Hk H σ Q (nerr (φ (ρ.set j (some (.kn (.dfz kvs))))) >>= fun r => match r with | .own ds => .ok (.own ds) | _ => .bad) := p
    have hd := dctAt_ok e1
    obtain ⟨q, ks, h1, h2, h3, h4, h5⟩ := r.dct j kvs hd
    refine ⟨q, ks, h4, fun od => ?_⟩
    have k0 : Hk0 q = none := Evl.fresh_back r.gr.k h3
    have r2 : Rel Hk0 H0 (upd Hk q (.frz od (.dK ks))) (upd H q (.frz od (.dK ks))) σ (ρ.set j none) := by
      refine ⟨by rw [List.length_set]; exact r.len, ⟨Ex.mut r.gr.k k0, r.gr.h.mutD h2 h4, fun a u z => ?_, fun a n z => ?_⟩, fun l d z => ?_, fun l d z => ?_, fun l m ds es t z1 z2 => ?_, fun l a z => ?_, fun l d z => ?_, fun l d z => ?_, fun l m ds es t z1 z2 => ?_, fun l d z => ?_, r.t0⟩
      · by_cases ha : a = q
        · subst ha; rw [upd_same] at z ⊢; exact z
        · rw [upd_ne ha] at z ⊢; exact r.kh a u z
      · rw [upd_ne (fun w => n (by rw [w]; exact h2))]
        exact r.gr.fr a n z
      · rw [get_set] at z
        split at z
        · split at z <;> cases z
        · obtain ⟨v, a, b⟩ := r.val l d z
          exact ⟨v, a, Rp.up (Ex.new h3) b⟩
      · rw [get_set] at z
        split at z
        · split at z <;> cases z
        · obtain ⟨t, xs, a, b, c, d', f⟩ := r.own l d z
          have : t ≠ q := fun w => by subst w; rw [h4] at d'; cases d'
          exact ⟨t, xs, a, b, by rw [upd_ne this]; exact c, by rw [upd_ne this]; exact d', RpAll.up (Ex.new h3) f⟩
      · rw [get_set] at z1 z2
        split at z1
        · split at z1 <;> cases z1
        · split at z2
          · split at z2 <;> cases z2
          · exact r.sep l m ds es t z1 z2
      · rw [get_set] at z
        split at z
        · split at z <;> cases z
        · exact r.raw l a z
      · rw [get_set] at z
        split at z
        · split at z <;> cases z
        · rename_i hlj
          obtain ⟨t, xs, a, b, c, d', f⟩ := r.dct l d z
          have : t ≠ q := fun w => by subst w; exact hlj (r.dsep j l kvs d t hd z h1 a)
          exact ⟨t, xs, a, b, by rw [upd_ne this]; exact c, by rw [upd_ne this]; exact d', DR.up (Ex.new h3) f⟩
      · rw [get_set] at z
        split at z
        · split at z <;> cases z
        · obtain ⟨v, a, b⟩ := r.tpn l d z
          exact ⟨v, a, TN.up (Ex.new h3) b⟩
      · rw [get_set] at z1 z2
        split at z1
        · split at z1 <;> cases z1
        · split at z2
          · split at z2 <;> cases z2
          · exact r.dsep l m ds es t z1 z2
      · rw [get_set] at z
        split at z
        · split at z <;> cases z
        · obtain ⟨v, a, b⟩ := r.kn l d z
          exact ⟨v, a, Tg.up (Ex.new h3) b⟩
    have r3 : Rel Hk0 H0 (upd Hk q (.frz od (.dK ks))) (upd H q (.frz od (.dK ks))) σ (ρ.set j (some (.kn (.dfz kvs)))) := by
      have := r2.setKn (t := .dfz kvs) h1 ⟨q, od, ks, rfl, upd_same, DR.up (Ex.new h3) h5⟩
      rwa [List.set_set] at this
    refine ⟨Hk0, H0, _, _, r3, ?_⟩
    cases e2 : φ (ρ.set j (some (.kn (.dfz kvs)))) with
    | err c => rw [e2] at p; exact p.elim
    | bad => rw [e2] at p; exact p.elim
    | ok x =>
      rw [e2] at p
      cases x with
      | val d => exact p.elim
      | bor _ _ => exact p.elim
      | own ds =>
        have p : PostE X.K W Hk H σ Q (.ok (.own ds)) := p
        intro v Hk2 H2 g2 n2 d2
        have hq2 : Hk2 q = some (.frz od (.dK ks)) := g2.k _ _ upd_same
        have hH2 : H2 q = some (.frz od (.dK ks)) := g2.kh _ _ hq2
        refine ⟨hH2, ?_⟩
        have lk : ∀ a, a ≠ q → (if a = q then none else Hk2 a) = Hk2 a := fun a ha => if_neg ha
        refine p v (fun a => if a = q then none else Hk2 a) _ ⟨fun a u z => ?_, ExT.swap h4 g2.h hH2, fun a u z => ?_, fun a n z => ?_⟩ ?_ ?_
        · have ha : a ≠ q := fun w => by subst w; rw [h3] at z; cases z
          show (if a = q then none else Hk2 a) = some u
          rw [lk a ha]
          exact g2.k a u (by rw [upd_ne ha]; exact z)
        · by_cases ha : a = q
          · subst ha
            have z : (if a = a then none else Hk2 a) = some u := z
            rw [if_pos rfl] at z; cases z
          · have z : (if a = q then none else Hk2 a) = some u := z
            rw [lk a ha] at z
            rw [upd_ne ha]; exact g2.kh a u z
        · by_cases ha : a = q
          · exact if_pos ha
          · show (if a = q then none else Hk2 a) = none
            rw [lk a ha]; exact g2.fr a (by rw [upd_ne ha]; exact n) (by rw [upd_ne ha]; exact z)
        · obtain ⟨t, rfl, ht⟩ := n2
          exact ⟨t, rfl, by
            have hne : t ≠ q := fun w => by subst w; rw [upd_same] at ht; cases ht
            rwa [upd_ne hne] at ht⟩
        · obtain ⟨t, xs, rfl, k1, k2, k3⟩ := d2
          have hne : t ≠ q := fun w => by subst w; rw [hH2] at k2; cases k2
          exact ⟨t, xs, rfl, by show (if t = q then none else Hk2 t) = none; rw [if_neg hne]; exact k1, by rw [upd_ne hne]; exact k2, RpAll.lack hq2 lk k3⟩
section
variable {elt tgt iter : Expr} {ifs : List Expr} {scope : Scope} {own : List (Str × Nat)} {spos py : Pos} {ι : En → R (Bool × List PyData)} {τ : Pat} {T : En → R Bool}
theorem d_lk (j : Nat) (h : PE X e (te X.K W0 φ)) : PE X e (te X.K W (eLk j φ)) := pe_imp (pe_lock h) fun σ H Q h => let ⟨p, ks, hp, k⟩ := lock_read h; ⟨p, _, hp, trivial, k⟩
theorem s_lkV {y : Str} (i j : Nat) (hc : X.calm = true) (hN : X.N.Nodup)
    (bo : BlkOk X.N X.env.scope scope own) (hi : PI X tgt iter (ti X.K W0 ι)) (hg : AllB X scope fun Y => PG Y tgt (tg τ)) (ht : AllB X scope fun Y => PTs Y ifs (tt X.K W0 T)) (he : AllB X scope fun Y => PE Y elt (te X.K W0 φ))
    (hsw : swapsWith (.ListComp elt [⟨tgt, iter, ifs, 0⟩] scope pos) (some (.Name y py)) spos.line X.env = pure true)
    (hy : X.N[i]? = some y := by rfl) (hyl : X.env.scope.names.lookup y = some .local := by rfl)
    (hv : ∀ i ∈ slots τ, i ∈ own.map (·.2) := by decide) (hs : ∀ x, foldedSetIterable iter X.env x = pure x := by intro _; rfl) :
    PS X (.Assign [.Name y py] (.ListComp elt [⟨tgt, iter, ifs, 0⟩] scope pos) spos) (ts X.K W (sSet i (eF (eLk j (eLc ι τ T φ (own.map (·.2))))))) :=
  ps_imp (ps_lock (ps_setLc hc hN hy hyl hsw hi bo hg ht he hs)) fun D σ H h => let ⟨p, ks, hp, k⟩ := lock_read (frz_read (set_read h)); ⟨p, _, hp, trivial, fun od => lc_read hv (k od)⟩
end
end
end Py

set_option Elab.async false
set_option linter.all false
set_option maxRecDepth 100000
set_option autoImplicit false
set_option maxHeartbeats 4000000
/-! PyK: texts: str, int, split, join, slices, signs; [::2] and [1::2] of lists. -/
namespace Py
open PySem L2 PyProof.Rows
open Evl (Ex)
def every2 {α : Type} : List α → List α
  | [] => []
  | [x] => [x]
  | x :: _ :: r => x :: every2 r
theorem pick2 {α : Type} : ∀ l : List α, (List.range ((l.length + 1) / 2)).filterMap (fun k => l[2 * k]?) = every2 l
  | [] => by simp [every2]
  | [x] => by simp [every2, List.range_succ]
  | x :: y :: r => by
    have ih := pick2 r
    have e : ((x :: y :: r).length + 1) / 2 = (r.length + 1) / 2 + 1 := by simp only [List.length_cons]; omega
    rw [e, List.range_succ_eq_map, List.filterMap_cons, every2, ← ih]
    simp only [Nat.mul_zero, List.getElem?_cons_zero, List.filterMap_map]
    congr 1
theorem pick_ev (items : Array Value) : slicePick items none none (some 2) = (every2 items.toList).toArray := by
  unfold slicePick
  have b : sliceBounds none none (some 2) items.size = (0, (items.size : Int), 2) := rfl
  rw [b, ← pick2]
  congr 1
  show (sliceRange 0 (items.size : Int) 2).filterMap (items[·]?) = _
  have e : sliceRange 0 (items.size : Int) 2 = (List.range ((items.toList.length + 1) / 2)).map fun k => 2 * k := by
    unfold sliceRange
    have h2 : ((2 : Int) > 0) := by decide
    rw [if_pos h2]
    have c : (if (0 : Int) < (items.size : Int) then ((items.size : Int) - 0 + 2 - 1) / 2 else 0).toNat = (items.toList.length + 1) / 2 := by
      rw [Array.length_toList]
      split <;> omega
    dsimp only
    rw [c]
    refine List.map_congr_left fun k _ => ?_
    omega
  rw [e, List.filterMap_map]
  refine fm_congr fun k _ => ?_
  simp
theorem pick_od (items : Array Value) : slicePick items (some 1) none (some 2) = (every2 items.toList.tail).toArray := by
  unfold slicePick
  have b : sliceBounds (some 1) none (some 2) items.size = (max 0 (min 1 (items.size : Int)), (items.size : Int), 2) := rfl
  rw [b, ← pick2]
  congr 1
  show (sliceRange (max 0 (min 1 (items.size : Int))) (items.size : Int) 2).filterMap (items[·]?) = _
  have hl : items.toList.tail.length = items.size - 1 := by rw [List.length_tail, Array.length_toList]
  have e : sliceRange (max 0 (min 1 (items.size : Int))) (items.size : Int) 2 = (List.range ((items.toList.tail.length + 1) / 2)).map fun k => 2 * k + 1 := by
    unfold sliceRange
    have h2 : ((2 : Int) > 0) := by decide
    rw [if_pos h2]
    have c : (if max 0 (min 1 (items.size : Int)) < (items.size : Int) then ((items.size : Int) - max 0 (min 1 (items.size : Int)) + 2 - 1) / 2 else 0).toNat = (items.toList.tail.length + 1) / 2 := by
      rw [hl]
      split <;> omega
    dsimp only
    rw [c]
    refine List.map_congr_left fun k hk => ?_
    have := List.mem_range.mp hk
    omega
  rw [e, List.filterMap_map]
  refine fm_congr fun k _ => ?_
  show items[2 * k + 1]? = items.toList.tail[2 * k]?
  rw [List.getElem?_tail]
  simp
def asStrs : List PyData → Option (List Str)
  | [] => some []
  | .str x :: r => (asStrs r).map (x :: ·)
  | _ :: _ => none
theorem asStrs_eq : ∀ {ds : List PyData} {ys : List Str}, asStrs ds = some ys → ds = ys.map PyData.str
  | [], _, h => by cases h; rfl
  | .str x :: r, ys, h => by
    have h : (asStrs r).map (x :: ·) = some ys := h
    cases e : asStrs r with
    | none => rw [e] at h; cases h
    | some zs => rw [e] at h; cases h; rw [asStrs_eq e]; rfl
  | .none :: _, _, h => by cases h
  | .bool _ :: _, _, h => by cases h
  | .int _ :: _, _, h => by cases h
  | .list _ :: _, _, h => by cases h
  | .tuple _ :: _, _, h => by cases h
  | .dict _ :: _, _, h => by cases h
@[simp] theorem asStrs_map : ∀ ys : List Str, asStrs (ys.map PyData.str) = some ys
  | [] => rfl
  | y :: ys => by show (asStrs (ys.map PyData.str)).map (y :: ·) = _; rw [asStrs_map ys]; rfl
def gStr : List Rv → R Rv
  | [a] => a.toInt >>= fun i => if i.natAbs.log2 < 1920 then .ok (.val (.str (toString i))) else .bad
  | _ => .bad
def gInt1 : List Rv → R Rv
  | [a] => a.toStr >>= fun x => match PySem.intText? x with
    | some n => if x.length ≤ 640 then .ok (.val (.int n)) else .bad
    | none => .bad
  | _ => .bad
def eS1 (g : Str → Rv → R Rv) (φ ψ : En → R Rv) : En → R Rv := fun ρ => φ ρ >>= fun x => (frz x).toStr >>= fun a => ψ ρ >>= fun y => g a (frz y)
def gSplit (x : Str) (b : Rv) : R Rv := b.toStr >>= fun y => if (y.length == 0) = false ∧ x.length ≤ 1000000 then .ok (.own ((Txt.split x y).map PyData.str)) else .bad
def gJoin (x : Str) (b : Rv) : R Rv := match b.dat with
  | .list ds => match asStrs ds with
    | some ys => if (ys.map (·.length)).sum + ys.length * x.length ≤ 1000000 then .ok (.val (.str (Txt.join x ys))) else .bad
    | none => .bad
  | _ => .bad
def gSlS (a : Rv) (lo hi : Option Int) : R Rv := a.toStr >>= fun x => if x.length ≤ 1000000 then .ok (.val (.str (cutS x lo hi))) else .bad
def eSlS (φ : En → R Rv) (lo hi : En → R (Option Int)) : En → R Rv := fun ρ => φ ρ >>= fun x => lo ρ >>= fun l => hi ρ >>= fun h => gSlS (frz x) l h
def gEv (a : Rv) : R Rv := match a.dat with
  | .list ds => .ok (.own (every2 ds))
  | _ => .bad
def gOd (a : Rv) : R Rv := match a.dat with
  | .list ds => .ok (.own (every2 ds.tail))
  | _ => .bad
/-- f(), f raises nothing -/
def eCall0 (G : List PyData → R Cr) : En → R Rv := fun _ => nerr (G []) >>= fun r => .ok r.rv
def chrD (x : Str) : List PyData := x.cps.toList.map fun c => .str ⟨#[c]⟩
def iStrI (φ : En → R Rv) : En → R (Bool × List PyData) := fun ρ => φ ρ >>= fun x => (frz x).toStr >>= fun z => .ok (true, chrD z)
theorem toStr_no {x : Rv} {c : Str} : x.toStr ≠ .err c := by
  cases x with
  | val d => cases d <;> exact fun h => nomatch h
  | own _ => exact fun h => nomatch h
  | bor _ _ => exact fun h => nomatch h
variable [KK]
theorem RpAll.strs {H : Hp} : ∀ {vs : List V} {ys : List Str}, RpAll H vs (ys.map PyData.str) → vs = ys.map V.str
  | _, [], .nil => rfl
  | _, y :: ys, .cons a b => by
    cases a
    rw [RpAll.strs b]
    rfl
theorem RpAll.ofStrs {H : Hp} : ∀ (ys : List Str), RpAll H (ys.map V.str) (ys.map PyData.str)
  | [] => .nil
  | y :: ys => .cons (.str y) (RpAll.ofStrs ys)
theorem RpAll.ev2 {H : Hp} : ∀ {vs : List V} {ds : List PyData}, RpAll H vs ds → RpAll H (every2 vs) (every2 ds)
  | _, _, .nil => .nil
  | _, _, .cons a .nil => .cons a .nil
  | _, _, .cons a (.cons _ r) => .cons a (RpAll.ev2 r)
theorem Vals.ev2 : ∀ {vs : List V} {us : List Value}, Vals vs us → Vals (every2 vs) (every2 us)
  | _, _, .nil => .nil
  | _, _, .cons a .nil => .cons a .nil
  | _, _, .cons a (.cons _ r) => .cons a (Vals.ev2 r)
theorem Vals.tl : ∀ {vs : List V} {us : List Value}, Vals vs us → Vals vs.tail us.tail
  | _, _, .nil => .nil
  | _, _, .cons _ r => r
theorem ev2_len {α : Type} : ∀ l : List α, (every2 l).length ≤ l.length
  | [] => Nat.le_refl _
  | [x] => Nat.le_refl _
  | x :: y :: r => by have := ev2_len r; simp only [every2, List.length_cons]; omega
section
variable {X : Cx} [ok : OK X] {W : WX} {e f : Expr} {φ ψ : En → R Rv} {pos : Pos}
theorem c_str : CallR X (.type "str") (rC X.K W gStr) := by
  intro pins s σ' H vs us Q I rv h
  obtain ⟨Hk, σ, rs, e, d, p⟩ := h
  unfold gStr at p
  split at p
  · obtain ⟨v, rfl, da⟩ := DenAll.one (rs := []) d
    rename_i a
    cases e1 : a.toInt with
    | err c => exact absurd e1 toInt_no
    | bad => rw [e1] at p; exact p.elim
    | ok i =>
      rw [e1] at p
      have p : PostE X.K W Hk H σ Q (if i.natAbs.log2 < 1920 then .ok (.val (.str (toString i))) else .bad) := p
      split at p
      · rename_i hz
        have := da.int e1
        subst this
        exact call_str_int pins s σ' H _ us Q I rv ⟨i, rfl, hz, p _ Hk H (Gr.refl e) trivial (Rp.str _)⟩
      · exact p.elim
  · exact p.elim
theorem c_int : CallR X (.type "int") (rC X.K W gInt1) := by
  intro pins s σ' H vs us Q I rv h
  obtain ⟨Hk, σ, rs, e, d, p⟩ := h
  unfold gInt1 at p
  split at p
  · obtain ⟨v, rfl, da⟩ := DenAll.one (rs := []) d
    rename_i a
    cases e1 : a.toStr with
    | err c => exact absurd e1 toStr_no
    | bad => rw [e1] at p; exact p.elim
    | ok x =>
      rw [e1] at p
      have p : PostE X.K W Hk H σ Q (match PySem.intText? x with | some n => if x.length ≤ 640 then .ok (.val (.int n)) else .bad | none => .bad) := p
      split at p
      · rename_i n hn
        split at p
        · rename_i hz
          have := da.str e1
          subst this
          exact call_int_str pins s σ' H _ us Q I rv ⟨x, n, rfl, hn, hz, p _ Hk H (Gr.refl e) trivial (Rp.int _)⟩
        · exact p.elim
      · exact p.elim
  · exact p.elim
/-- o.m(e), o a text -/
theorem s1_read {σ : Sl} {H : Hp} {Q : VK} {g : Str → Rv → R Rv} {r : V → List V → Hp → VK → Prop} (hr : ∀ a y v Hk' H', Ex Hk' H' → Den Hk' H' σ y v → y.isOwn = false → PostE X.K W Hk' H' σ Q (g a y) → r (.str a) [v] H' Q) (h : te X.K W (eS1 g φ ψ) σ H Q) : tM1 r (te X.K W φ) (te X.K W ψ) σ H Q := by
  obtain ⟨Hk0, H0, Hk, ρ, rl, p⟩ := h
  refine te_thenF (g := fun x => x.toStr >>= fun a => ψ ρ >>= fun y => g a (frz y)) rl p fun x v Hk1 H1 g1 d1 n1 r1 p1 => ?_
  cases e1 : x.toStr with
  | err c => exact absurd e1 toStr_no
  | bad => rw [e1] at p1; exact p1.elim
  | ok z =>
    rw [e1] at p1
    have hv := d1.str e1
    subst hv
    refine ⟨⟨z, rfl⟩, te_thenF (g := fun y => g z y) r1 (PostE.up g1 p1) fun y u Hk2 H2 g2 d2 n2 r2 p2 => ?_⟩
    exact hr z y u Hk2 H2 g2.kh d2 n2 (PostE.up g2 p2)
theorem d_split {apos : Pos} (ho : PE X e (te X.K W φ)) (he : PE X f (te X.K W ψ)) (hs : starEach [f] X.env = [(false, eval f X.env)] := by rfl) (hbase : attributeBase e "split" X.env (eval e X.env) = eval e X.env := by rfl) (hline : (apos.endLine == pos.line) = true := by rfl) :
    PE X (.Call (.Attribute e "split" apos) [f] [] pos) (te X.K W (eS1 gSplit φ ψ)) :=
  pe_imp (pe_split ho he hs hbase hline) fun σ H Q h => s1_read (fun a y v Hk' H' x d n p => by
    unfold gSplit at p
    cases e2 : y.toStr with
    | err c => exact absurd e2 toStr_no
    | bad => rw [e2] at p; exact p.elim
    | ok b =>
      rw [e2] at p
      have p : PostE X.K W Hk' H' σ Q (if (b.length == 0) = false ∧ a.length ≤ 1000000 then .ok (.own ((Txt.split a b).map PyData.str)) else .bad) := p
      split at p
      · rename_i hz
        have hv := d.str e2
        subst hv
        exact ⟨a, b, rfl, rfl, hz.1, Nat.le_trans (Nat.add_le_add_right hz.2 2) (by decide), own_new x p (RpAll.ofStrs _)⟩
      · exact p.elim) h
theorem d_join {apos : Pos} (ho : PE X e (te X.K W φ)) (he : PE X f (te X.K W ψ)) (hs : starEach [f] X.env = [(false, eval f X.env)] := by rfl) (hbase : attributeBase e "join" X.env (eval e X.env) = eval e X.env := by rfl) (hline : (apos.endLine == pos.line) = true := by rfl) :
    PE X (.Call (.Attribute e "join" apos) [f] [] pos) (te X.K W (eS1 gJoin φ ψ)) :=
  pe_imp (pe_join ho he hs hbase hline) fun σ H Q h => s1_read (fun a y v Hk' H' x d n p => by
    unfold gJoin at p
    split at p
    · rename_i ds hd
      split at p
      · rename_i ys hy
        split at p
        · rename_i hz
          obtain ⟨l, xs, rfl, s1, r1⟩ := d.kList x hd
          rw [asStrs_eq hy] at r1
          rw [RpAll.strs r1] at s1
          exact ⟨a, l, ys, rfl, rfl, .inl s1.sq, Nat.le_trans hz (by decide), p _ Hk' H' (Gr.refl x) trivial (Rp.str _)⟩
        · exact p.elim
      · exact p.elim
    · exact p.elim) h
theorem s_slS : SlR X (rS X.K W gSlS) := by
  intro pins s σ' H x v vl vu lo hi sl Q I rx hs pl pu h
  obtain ⟨Hk, σ, a, e, da, p⟩ := h
  unfold gSlS at p
  cases e1 : a.toStr with
  | err c => exact absurd e1 toStr_no
  | bad => rw [e1] at p; exact p.elim
  | ok z =>
    rw [e1] at p
    have p : PostE X.K W Hk H σ Q (if z.length ≤ 1000000 then .ok (.val (.str (cutS z lo hi))) else .bad) := p
    split at p
    · rename_i hz
      have := da.str e1
      subst this
      exact sl_str pins s σ' H _ v vl vu lo hi sl Q I rx hs pl pu ⟨z, rfl, Nat.le_trans hz (by decide), p _ Hk H (Gr.refl e) trivial (Rp.str _)⟩
    · exact p.elim
theorem d_sliceS {lo hi : Option Expr} {plo phi : En → R (Option Int)} {p2 : Pos} (he : PE X e (te X.K W φ)) (hl : PO X lo (tp X.K W plo)) (hu : PO X hi (tp X.K W phi)) : PE X (.Subscript e (.Slice lo hi none p2) pos) (te X.K W (eSlS φ plo phi)) :=
  pe_imp (pe_slice s_slS he hl hu) fun σ H Q ⟨Hk0, H0, Hk, ρ, r, p⟩ => by
    refine te_thenF (g := fun x => plo ρ >>= fun l => phi ρ >>= fun h => gSlS x l h) r p fun x v Hk1 H1 g1 d1 n1 r1 p1 => ?_
    have p1 := PostE.up g1 p1
    refine ⟨Hk0, H0, Hk1, ρ, r1, ?_⟩
    cases e1 : plo ρ with
    | err c => rw [e1] at p1; exact p1
    | bad => rw [e1] at p1; exact p1
    | ok l =>
      rw [e1] at p1
      have p1 : PostE X.K W Hk1 H1 σ Q (phi ρ >>= fun h => gSlS x l h) := p1
      intro Hk2 H2 g2
      have p2 := PostE.up g2 p1
      refine ⟨Hk0, H0, Hk2, ρ, r1.up g2, ?_⟩
      cases e2 : phi ρ with
      | err c => rw [e2] at p2; exact p2
      | bad => rw [e2] at p2; exact p2
      | ok h =>
        rw [e2] at p2
        intro Hk3 H3 g3
        exact ⟨Hk3, σ, x, g3.kh, Den.up g3 (Den.up g2 d1), PostE.up g3 p2⟩
theorem w_str {tgt : Expr} (h : PE X e (te X.K W φ)) : PI X tgt e (ti X.K W (iStrI φ)) :=
  pi_imp (pi_str h) fun σ H Q ⟨Hk0, H0, Hk, ρ, r, p⟩ => by
    refine te_thenI (g := fun x => x.toStr >>= fun z => .ok (true, chrD z)) r p fun x v Hk' H' g d n r' p' => ?_
    cases e1 : x.toStr with
    | err c => exact absurd e1 toStr_no
    | bad => rw [e1] at p'; exact p'.elim
    | ok z =>
      rw [e1] at p'
      have hv := d.str e1
      subst hv
      refine ⟨z, rfl, p' (Its z) Hk' H' (fun _ => True) (Gr.refl g.kh) ⟨fun i H _ hi => ?_, fun i H _ hi => ?_, fun i H Hk x H' _ e1 e2 y d hd => ?_, fun _ _ _ h => h⟩ trivial fun _ => trivial⟩
      · show i < z.cps.size
        unfold chrD at hi
        rwa [List.length_map, Array.length_toList] at hi
      · show z.cps.size ≤ i
        unfold chrD at hi
        rw [List.length_map, Array.length_toList] at hi
        omega
      · obtain ⟨rfl, c, hc, rfl⟩ := y
        refine ⟨Hk, Gr.refl e2, ?_⟩
        unfold chrD at hd
        rw [List.getElem?_map, Array.getElem?_toList, hc] at hd
        cases hd
        exact .str _
def rStep (K : PySem.W.Frag) (g : List V → List V) (te : TE) : TE := fun σ H Q => te σ H fun x H1 => ∃ a xs, x = .ref a ∧ SqL K H1 a xs ∧ ∀ p, H1 p = none → Q (.ref p) (upd H1 p (.lst (g xs)))
theorem pe_ev {t : TE} {k : Nat} {p1 p3 : Pos} (he : PE X e t) : PE X (.Subscript e (.Slice none none (some (.Constant (.int 2) k p1)) p3) pos) (rStep X.K every2 t) := by
  refine ⟨fun pins s σ H Q I h => ?_⟩
  refine Subscript_ (thn (he.run pins s σ H _ I h) fun v s1 ⟨x, H1, I1, r1, a, xs, ex, hx, q⟩ => ?_)
  subst ex; cases r1
  have hst : PO X (some (.Constant (.int 2) k p1)) (tPart (tC (.int 2))) := po_some pe_int
  refine wpAny_Slice (thn (po_none.run pins s1 σ H1 (fun o H2 => o = none ∧ H2 = H1) I1 ⟨rfl, rfl⟩) fun vl s2 ⟨l, H2, I2, pl, el, e2⟩ => ?_)
  subst el e2
  refine thn (po_none.run pins s2 σ H2 (fun o H3 => o = none ∧ H3 = H2) I2 ⟨rfl, rfl⟩) fun vu s3 ⟨u, H3, I3, pu, eu, e3⟩ => ?_
  subst eu e3
  refine thn (hst.run pins s3 σ H3 (fun o H4 => o = some 2 ∧ H4 = H3) I3 ⟨2, rfl, rfl, rfl⟩) fun vs s4 ⟨o, H4, I4, ps, eo, e4⟩ => ?_
  subst eo e4
  have I5 : Inv X pins σ H4 { s4 with heap := s4.heap.push { cls := .type "slice", data := .fields #[vl, vu, vs] } } := I4.kept (t' := s4.toks) fun b ob z => Heap.get?_push_of_some _ z
  show wpAny (model X.prog X.w) X.A (subscriptTail e (.Slice none none (some (.Constant (.int 2) k p1)) p3) (.ref a) (.ref s4.heap.objs.size)) (EP X pins σ Q) X.xe { s4 with heap := s4.heap.push { cls := .type "slice", data := .fields #[vl, vu, vs] } }
  obtain ⟨its, r, ht, hz⟩ := I5.list hx
  have hlen := r.length
  refine tail_any (ops := [.ref a, .ref s4.heap.objs.size]) ht.isList.typeIs (PySem.slot_list_getitem.lookup) ?_ (by with_unfolding_all rfl)
  refine wpAny_getItem_list_slice ht.isList (Heap.IsSliceOf.new _ vl vu vs) pl pu ps (by decide) ?_ (by rw [List.size_toArray]; omega)
  rw [pick_ev]
  exact ⟨.ref _, _, I5.laid (t' := s4.toks) (o := .lst (every2 xs)) (fun b ob z => Heap.get?_push_of_some _ z) (Nat.le_refl _) ⟨Nat.le_trans (ev2_len xs) hz, _, 0, Vals.ev2 r, Heap.get?_push_size _ rfl⟩, rfl, q _ (I5.hok.fresh (Nat.le_refl _))⟩
theorem pe_od {t : TE} {k k' : Nat} {p1 p2 p3 : Pos} (he : PE X e t) : PE X (.Subscript e (.Slice (some (.Constant (.int 1) k' p2)) none (some (.Constant (.int 2) k p1)) p3) pos) (rStep X.K (fun l => every2 l.tail) t) := by
  refine ⟨fun pins s σ H Q I h => ?_⟩
  refine Subscript_ (thn (he.run pins s σ H _ I h) fun v s1 ⟨x, H1, I1, r1, a, xs, ex, hx, q⟩ => ?_)
  subst ex; cases r1
  have hst : PO X (some (.Constant (.int 2) k p1)) (tPart (tC (.int 2))) := po_some pe_int
  have hlo : PO X (some (.Constant (.int 1) k' p2)) (tPart (tC (.int 1))) := po_some pe_int
  refine wpAny_Slice (thn (hlo.run pins s1 σ H1 (fun o H2 => o = some 1 ∧ H2 = H1) I1 ⟨1, rfl, rfl, rfl⟩) fun vl s2 ⟨l, H2, I2, pl, el, e2⟩ => ?_)
  subst el e2
  refine thn (po_none.run pins s2 σ H2 (fun o H3 => o = none ∧ H3 = H2) I2 ⟨rfl, rfl⟩) fun vu s3 ⟨u, H3, I3, pu, eu, e3⟩ => ?_
  subst eu e3
  refine thn (hst.run pins s3 σ H3 (fun o H4 => o = some 2 ∧ H4 = H3) I3 ⟨2, rfl, rfl, rfl⟩) fun vs s4 ⟨o, H4, I4, ps, eo, e4⟩ => ?_
  subst eo e4
  have I5 : Inv X pins σ H4 { s4 with heap := s4.heap.push { cls := .type "slice", data := .fields #[vl, vu, vs] } } := I4.kept (t' := s4.toks) fun b ob z => Heap.get?_push_of_some _ z
  show wpAny (model X.prog X.w) X.A (subscriptTail e (.Slice (some (.Constant (.int 1) k' p2)) none (some (.Constant (.int 2) k p1)) p3) (.ref a) (.ref s4.heap.objs.size)) (EP X pins σ Q) X.xe { s4 with heap := s4.heap.push { cls := .type "slice", data := .fields #[vl, vu, vs] } }
  obtain ⟨its, r, ht, hz⟩ := I5.list hx
  have hlen := r.length
  refine tail_any (ops := [.ref a, .ref s4.heap.objs.size]) ht.isList.typeIs (PySem.slot_list_getitem.lookup) ?_ (by with_unfolding_all rfl)
  refine wpAny_getItem_list_slice ht.isList (Heap.IsSliceOf.new _ vl vu vs) pl pu ps (by decide) ?_ (by rw [List.size_toArray]; omega)
  rw [pick_od]
  have hl2 : (every2 xs.tail).length ≤ sizeLine := by have := ev2_len xs.tail; rw [List.length_tail] at this; omega
  exact ⟨.ref _, _, I5.laid (t' := s4.toks) (o := .lst (every2 xs.tail)) (fun b ob z => Heap.get?_push_of_some _ z) (Nat.le_refl _) ⟨hl2, _, 0, Vals.ev2 (Vals.tl r), Heap.get?_push_size _ rfl⟩, rfl, q _ (I5.hok.fresh (Nat.le_refl _))⟩
theorem RpAll.tl {H : Hp} : ∀ {vs : List V} {ds : List PyData}, RpAll H vs ds → RpAll H vs.tail ds.tail
  | _, _, .nil => .nil
  | _, _, .cons _ r => r
theorem d_ev {k : Nat} {p1 p3 : Pos} (he : PE X e (te X.K W φ)) : PE X (.Subscript e (.Slice none none (some (.Constant (.int 2) k p1)) p3) pos) (te X.K W (e1 gEv φ)) :=
  pe_imp (pe_ev he) fun σ H Q ⟨Hk0, H0, Hk, ρ, r, p⟩ =>
    te_thenF (g := gEv) r p fun x v Hk1 H1 g1 d1 n1 r1 p1 => by
      unfold gEv at p1
      split at p1
      · rename_i ds hd
        obtain ⟨l, xs, rfl, s1, r1⟩ := d1.kList g1.kh hd
        exact ⟨l, xs, rfl, s1.sq, own_new g1.kh (PostE.up g1 p1) (RpAll.ev2 r1)⟩
      · exact p1.elim
theorem d_od {k k' : Nat} {p1 p2 p3 : Pos} (he : PE X e (te X.K W φ)) : PE X (.Subscript e (.Slice (some (.Constant (.int 1) k' p2)) none (some (.Constant (.int 2) k p1)) p3) pos) (te X.K W (e1 gOd φ)) :=
  pe_imp (pe_od he) fun σ H Q ⟨Hk0, H0, Hk, ρ, r, p⟩ =>
    te_thenF (g := gOd) r p fun x v Hk1 H1 g1 d1 n1 r1 p1 => by
      unfold gOd at p1
      split at p1
      · rename_i ds hd
        obtain ⟨l, xs, rfl, s1, r1⟩ := d1.kList g1.kh hd
        exact ⟨l, xs, rfl, s1.sq, own_new g1.kh (PostE.up g1 p1) (RpAll.ev2 (RpAll.tl r1))⟩
      · exact p1.elim
theorem d_fn0 {x : Str} {p : Pos} {k j : Nat} {G : List PyData → R Cr} (F : FOk X.K X.prog X.w X.mg X.base j x 0 G) (hr : Room k X.A) (hj : j ≤ k) (tk : Takes X W) (hg : Gl X x := by rfl) (hdb : (x == ("__debug__" : Str)) = false := by decide) : PE X (.Call (.Name x p) [] [] pos) (te X.K W (eCall0 G)) := by
  obtain ⟨f, fd, ps, hm, hk, hb, F⟩ := F
  refine pe_imp (pe_call0 (E := fun _ _ _ => False) F (hr.mono hj) hg hm hk hb .nil (passes_call tk fun _ _ _ _ z => z.elim) hdb) fun σ H Q ⟨Hk0, H0, Hk, ρ, r, p⟩ => ?_
  unfold eCall0 at p
  refine ⟨Hk, [], ⟨r.kh, r.tab⟩, .nil, rfl, ?_⟩
  cases e1 : G [] with
  | err c => rw [e1] at p; exact p.elim
  | bad => rw [e1] at p; exact p.elim
  | ok c => rw [e1] at p; exact fun v Hk2 H2 g2 n2 d2 => p v Hk2 H2 g2 n2 (den_cl d2)
end
end Py

set_option Elab.async false
set_option linter.all false
set_option maxRecDepth 100000
set_option autoImplicit false
set_option maxHeartbeats 1000000
/-! PyX: a law's end. -/
namespace Py
open PySem L2 PyProof.Rows
open Evl (Ex)
theorem walk_py {l : PySem.W.OpenLaw} {n k : Nat} {q : Program} {loose : List Str} {XP : (Str → Option Value) → Heap → Prop} {YP : World → Heap → Prop} {d : DefRec} {x : Str} {G : List PyData → R Cr}
    (hn : l.most = some n) (hn2 : n ≤ sizeLine) (hdf : d.params.defaults = []) (hr : Room k callerA)
    (F : ∀ (w : World) (mg : Str → Option Value) (fa : Addr) (h : Heap), YP w h → h.Ns mainGlobals mg → mg d.name = some (.ref fa) →
      ∃ (K : PySem.W.Frag) (fd : FuncData), K.In h ∧ (∀ (s : Shared) (u : Value), BindsTo s fd ⟨[u], []⟩ [(x, u)]) ∧
        ∀ base : Heap, K.In base → base.Ns mainGlobals mg → FnOk l.prog w K mg base (L2.CX l.prog w) k fa fd [x] (@spF ⟨K, []⟩ K 1 G))
    (hG : ∀ ns : List Int, ns.length ≤ n → G [.list (ns.map PyData.int)] = .ok (.val (.bool true))) :
    PySem.W.WalkO q loose XP YP l.row.toRowW d [] (fun f vs => PySem.call f vs) := by
  refine Att.attach_call hn hdf fun w s₀ s₁ mg mb fa o pm cd doc a vs ns Gd Y ho hd hcd hmg hobj hints hlen hg => ?_
  obtain ⟨K, fd, KX, hb, hF⟩ := F w mg fa _ Y Gd.T.g hmg
  letI : KK := ⟨K, []⟩
  have rv := vals_ints hints
  refine law_call KX Gd.T.g Gd.T.b Gd.T.builtins Gd.T.nolimit hg hobj hints (Nat.le_trans hlen hn2) hr hF hb (fun H _ hS => ?_) fun H e s' h => ?_
  · have rl : Rl H a (ns.map V.int) := by
      rcases hS with hS | ⟨ob, its, m, hk, _⟩
      · exact .inl hS
      · have e := KX a ob hk
        rw [hobj] at e
        cases e
        exact .inr ⟨vs, _, hk, by rw [← rv.length, List.length_map]; exact Nat.le_trans hlen hn2, rv⟩
    refine ⟨H, [.list (ns.map PyData.int)], ⟨Ex.refl _, (show LamX.Tabs [] H from fun _ h => nomatch h), (fun _ h => nomatch (show _ ∈ ([] : List (Addr × Str)) from h))⟩, .cons (.lst rl (RpAll.ofInts ns)) .nil, rfl, ?_⟩
    rw [hG ns hlen]
    intro v Hk' H' _ _ dn
    cases (show Rp Hk' v (.bool true) from dn)
    rfl
  · obtain ⟨_, _, _, _, _, _, _, _, _, _, _, _, z⟩ := h
    exact z.elim
end Py

set_option Elab.async false
set_option linter.all false
set_option maxRecDepth 100000
set_option autoImplicit false
set_option maxHeartbeats 4000000
/-! PyL: plain tools: what the readings compute. -/
namespace Py
open PySem L2
@[simp] theorem r_pure {α : Type} (a : α) : (pure a : R α) = .ok a := id rfl
@[simp] theorem r_ok {α β : Type} (a : α) (f : α → R β) : (R.ok a >>= f) = f a := id rfl
@[simp] theorem r_err {α β : Type} (c : Str) (f : α → R β) : ((R.err c : R α) >>= f) = .err c := id rfl
@[simp] theorem r_bad {α β : Type} (f : α → R β) : ((R.bad : R α) >>= f) = .bad := id rfl
/-! data -/
abbrev Li (l : List Int) : PyData := .list (l.map PyData.int)
abbrev Tu (l : List Int) : PyData := .tuple (l.map PyData.int)
@[simp] theorem eqv_ints : ∀ a b : List Int, PyData.eqvAll (a.map PyData.int) (b.map PyData.int) = decide (a = b)
  | [], [] => by simp [PyData.eqvAll]
  | [], b :: bs => by simp [PyData.eqvAll]
  | a :: as, [] => by simp [PyData.eqvAll]
  | a :: as, b :: bs => by
    rw [List.map_cons, List.map_cons, PyData.eqvAll, eqv_ints as bs, PyData.eqv]
    by_cases h : a = b <;> by_cases k : as = bs <;> simp [h, k]
@[simp] theorem depth_ints : ∀ a : List Int, PyData.depthAll (a.map PyData.int) = 0
  | [] => rfl
  | a :: as => by rw [List.map_cons, PyData.depthAll, depth_ints as]; rfl
theorem depth_bools : ∀ a : List Bool, PyData.depthAll (a.map PyData.bool) = 0
  | [] => rfl
  | a :: as => by rw [List.map_cons, PyData.depthAll, depth_bools as]; rfl
@[simp] theorem eqv_list (a b : List PyData) : PyData.eqv (.list a) (.list b) = PyData.eqvAll a b := by rw [PyData.eqv]
@[simp] theorem eqv_tuple (a b : List PyData) : PyData.eqv (.tuple a) (.tuple b) = PyData.eqvAll a b := by rw [PyData.eqv]
@[simp] theorem eqv_int (a b : Int) : PyData.eqv (.int a) (.int b) = decide (a = b) := by
  rw [PyData.eqv]
  by_cases h : a = b <;> simp [h]
@[simp] theorem eqvAll_nil : PyData.eqvAll [] [] = true := id rfl
@[simp] theorem eqvAll_cons (a b : PyData) (as bs : List PyData) : PyData.eqvAll (a :: as) (b :: bs) = (PyData.eqv a b && PyData.eqvAll as bs) := by rw [PyData.eqvAll]
@[simp] theorem eqvAll_cn (a : PyData) (as : List PyData) : PyData.eqvAll (a :: as) [] = false := by rw [PyData.eqvAll]
@[simp] theorem eqvAll_nc (a : PyData) (as : List PyData) : PyData.eqvAll [] (a :: as) = false := by rw [PyData.eqvAll]
@[simp] theorem depth_int (a : Int) : PyData.depth (.int a) = 0 := id rfl
@[simp] theorem depth_list (a : List PyData) : PyData.depth (.list a) = PyData.depthAll a + 1 := by rw [PyData.depth]
@[simp] theorem depth_tuple (a : List PyData) : PyData.depth (.tuple a) = PyData.depthAll a + 1 := by rw [PyData.depth]
@[simp] theorem depthAll_nil : PyData.depthAll [] = 0 := id rfl
@[simp] theorem depthAll_cons (a : PyData) (as : List PyData) : PyData.depthAll (a :: as) = max a.depth (PyData.depthAll as) := by rw [PyData.depthAll]
abbrev kk0 : KK := ⟨[], []⟩
@[simp] theorem ints_map (ns : List Int) : asInts (ns.map PyData.int) = some ns := @asInts_map kk0 ns
@[simp] theorem bools_map (ns : List Bool) : asBools (ns.map PyData.bool) = some ns := @asBools_map kk0 ns
@[simp] theorem zip_len (a b : List PyData) : (zipD a b).length = min a.length b.length := @zipD_len kk0 a b
@[simp] theorem rg_len (i : Int) (n : Nat) : (rangeD i n).length = n := @rangeD_len kk0 i n
/-- a bound of a range, small -/
def okR (j : Int) : Prop := -(2 ^ 60) ≤ j ∧ j < 2 ^ 60
noncomputable instance (j : Int) : Decidable (okR j) := Classical.propDecidable _
theorem okR_of {j : Int} (h0 : -1000000 ≤ j) (h1 : j ≤ 1000000) : okR j := by unfold okR; omega
theorem okR_nat {n : Nat} (h1 : n ≤ 1000000) : okR (n : Int) := okR_of (by omega) (by omega)
def okM (i j : Int) : Prop := (-(2 ^ 64) < i ∧ i < 2 ^ 64) ∨ (-(2 ^ 64) < j ∧ j < 2 ^ 64)
noncomputable instance (i j : Int) : Decidable (okM i j) := Classical.propDecidable _
@[simp] theorem okM_r {i j : Int} (h0 : -1000000000000 ≤ j) (h1 : j ≤ 1000000000000) : okM i j := by unfold okM; omega
@[simp] theorem okM_l {i j : Int} (h0 : -1000000000000 ≤ i) (h1 : i ≤ 1000000000000) : okM i j := by unfold okM; omega
def okK (k : Int) : Prop := -(2 ^ 62) ≤ k ∧ k < 2 ^ 62 ∧ k.toNat ≤ 1000000
noncomputable instance (j : Int) : Decidable (okK j) := Classical.propDecidable _
theorem ite_same {α : Type} {p q : Prop} [Decidable p] [Decidable q] (h : p ↔ q) (a b : α) : (if p then a else b) = if q then a else b := by
  by_cases k : p
  · rw [if_pos k, if_pos (h.mp k)]
  · rw [if_neg k, if_neg (fun z => k (h.mpr z))]
theorem okK_of {j : Int} (h0 : -1000000 ≤ j) (h1 : j ≤ 1000000) : okK j := by unfold okK; omega
/-! readings -/
section
variable (ρ : En) (φ ψ χ : En → R Rv) (s t : En → R Bool) (Φ Ψ : En → R Out)
@[simp] theorem x_K (d : PyData) : eK d ρ = .ok (.val d) := id rfl
theorem x_var (i : Nat) : eVar i ρ = match ρ[i]? with
  | some (some (.val d)) => .ok (.val d)
  | some (some (.own ds)) => .ok (.bor i ds)
  | some (some (.tpn ds)) => .ok (.val (.tuple ds))
  | _ => .bad := id rfl
@[simp] theorem x_e2 (g : Rv → Rv → R Rv) : e2 g φ ψ ρ = (φ ρ >>= fun x => ψ ρ >>= fun y => g (frz x) (frz y)) := id rfl
@[simp] theorem x_t2 (g : Rv → Rv → R Bool) : t2 g φ ψ ρ = (φ ρ >>= fun x => ψ ρ >>= fun y => g (frz x) (frz y)) := id rfl
@[simp] theorem x_e1 (g : Rv → R Rv) : e1 g φ ρ = (φ ρ >>= fun x => g (frz x)) := id rfl
@[simp] theorem x_eT : eT s ρ = (s ρ >>= fun b => .ok (.val (.bool b))) := id rfl
@[simp] theorem x_tE : tE φ ρ = (φ ρ >>= fun x => (frz x).toBool) := id rfl
@[simp] theorem x_chain (c c' : Rv → Rv → R Bool) : eChain c c' φ ψ χ ρ = (φ ρ >>= fun x => ψ ρ >>= fun y => c (frz x) (frz y) >>= fun b => if b = true then χ ρ >>= fun z => c' (frz y) (frz z) else .ok false) := id rfl
@[simp] theorem x_tAnd : tAnd s t ρ = (s ρ >>= fun b => if b = true then t ρ else .ok false) := id rfl
@[simp] theorem x_tOr : tOr s t ρ = (s ρ >>= fun b => if b = true then .ok true else t ρ) := id rfl
@[simp] theorem x_tNot : tNot s ρ = (s ρ >>= fun b => .ok (!b)) := id rfl
@[simp] theorem x_eAnd : eAnd φ ψ ρ = (tE φ ρ >>= fun b => if b = true then ψ ρ else .ok (.val (.bool false))) := id rfl
@[simp] theorem x_eOr : eOr φ ψ ρ = (tE φ ρ >>= fun b => if b = true then .ok (.val (.bool true)) else ψ ρ) := id rfl
@[simp] theorem x_eNot : eNot φ ρ = (tE φ ρ >>= fun b => .ok (.val (.bool (!b)))) := by
  show ((tE φ ρ >>= fun b => R.ok (!b)) >>= fun b => R.ok (Rv.val (.bool b))) = _
  cases tE φ ρ <;> rfl
@[simp] theorem x_eIf : eIf s φ ψ ρ = (s ρ >>= fun b => if b = true then φ ρ else ψ ρ) := id rfl
@[simp] theorem x_evA0 : evA [] ρ = .ok [] := id rfl
@[simp] theorem x_evA (φs : List (En → R Rv)) : evA (φ :: φs) ρ = (φ ρ >>= fun r => (frz r).toVal >>= fun d => evA φs ρ >>= fun ds => .ok (d :: ds)) := id rfl
@[simp] theorem x_evR0 : evR [] ρ = .ok [] := id rfl
@[simp] theorem x_evR (φs : List (En → R Rv)) : evR (φ :: φs) ρ = (φ ρ >>= fun r => evR φs ρ >>= fun ds => .ok (frz r :: ds)) := id rfl
@[simp] theorem x_eTup (φs : List (En → R Rv)) : eTup φs ρ = (evA φs ρ >>= fun ds => .ok (.val (.tuple ds))) := id rfl
@[simp] theorem x_eLst (φs : List (En → R Rv)) : eLst φs ρ = (evA φs ρ >>= fun ds => .ok (.own ds)) := id rfl
@[simp] theorem x_eCall (F : List PyData → R Cr) (φs : List (En → R Rv)) : eCall F φs ρ = (evA φs ρ >>= fun ds => F ds >>= fun r => .ok r.rv) := id rfl
@[simp] theorem x_eB (g : List Rv → R Rv) (φs : List (En → R Rv)) : eB g φs ρ = (evR φs ρ >>= g) := id rfl
@[simp] theorem x_eF : eF φ ρ = (φ ρ >>= fun r => .ok (frz r)) := id rfl
@[simp] theorem x_eNeg : eNeg φ ρ = (φ ρ >>= fun x => (frz x).toInt >>= fun i => .ok (.val (.int (-i)))) := id rfl
@[simp] theorem x_pNo : pNo ρ = .ok none := id rfl
@[simp] theorem x_pSo : pSo φ ρ = (φ ρ >>= fun r => (frz r).toInt >>= fun i => .ok (some i)) := id rfl
@[simp] theorem x_eSl (lo hi : En → R (Option Int)) : eSl φ lo hi ρ = (φ ρ >>= fun x => lo ρ >>= fun l => hi ρ >>= fun h => gSl (frz x) l h) := id rfl
@[simp] theorem x_eIsi (T : String) : eIsi T φ ρ = (φ ρ >>= fun x => isiD T (frz x).dat >>= fun b => .ok (.val (.bool b))) := id rfl
@[simp] theorem x_iSeq : iSeq φ ρ = (φ ρ >>= fun x => seqOf (frz x)) := id rfl
@[simp] theorem x_iRg1 : iRg1 φ ρ = (φ ρ >>= fun x => (frz x).toInt >>= fun j => if okR j then .ok (true, rangeD 0 j.toNat) else .bad) := by
  unfold iRg1
  congr 1; funext x; congr 1; funext j
  exact ite_same (show (-(2 ^ 60) ≤ j ∧ j < 2 ^ 60) ↔ okR j by unfold okR; exact Iff.rfl) _ _
@[simp] theorem x_iRg2 : iRg2 φ ψ ρ = (φ ρ >>= fun x => ψ ρ >>= fun y => (frz x).toInt >>= fun i => (frz y).toInt >>= fun j => if okR i ∧ okR j then .ok (true, rangeD i (j - i).toNat) else .bad) := by
  unfold iRg2
  congr 1; funext x; congr 1; funext y; congr 1; funext i; congr 1; funext j
  exact ite_same (by unfold okR; rw [and_assoc]) _ _
@[simp] theorem x_iZ2 : iZ2 φ ψ ρ = (φ ρ >>= fun x => ψ ρ >>= fun y => z2 (frz x) (frz y)) := id rfl
@[simp] theorem x_iZ3 : iZ3 φ ψ χ ρ = (φ ρ >>= fun x => ψ ρ >>= fun y => χ ρ >>= fun z => z3 (frz x) (frz y) (frz z)) := id rfl
@[simp] theorem x_eLc (ι : En → R (Bool × List PyData)) (τ : Pat) (vs : List Nat) : eLc ι τ t φ vs ρ = (ι ρ >>= fun a => if a.2.length ≤ 1000000 then lcR τ t φ (wipeE ρ vs) a.2 >>= fun es => .ok (.own es) else .bad) := id rfl
@[simp] theorem x_seq : sSeq Φ Ψ ρ = (Φ ρ >>= seqK Ψ) := id rfl
@[simp] theorem x_seqK (ρ' : En) : seqK Ψ (.nx ρ') = Ψ ρ' := id rfl
@[simp] theorem x_seqR (r : Cr) : seqK Ψ (.rt r) = .ok (.rt r) := id rfl
@[simp] theorem x_nil : sNil ρ = .ok (.nx ρ) := id rfl
@[simp] theorem x_set (i : Nat) : sSet i φ ρ = (φ ρ >>= fun r => .ok (.nx (put i r ρ))) := id rfl
@[simp] theorem x_putV (i : Nat) (d : PyData) : put i (.val d) ρ = ρ.set i (some (.val d)) := id rfl
@[simp] theorem x_putO (i : Nat) (d : List PyData) : put i (.own d) ρ = ρ.set i (some (.own d)) := id rfl
@[simp] theorem x_unp (τ : Pat) : sUnp τ φ ρ = (φ ρ >>= fun r => (frz r).toVal >>= fun d => asg τ d ρ >>= fun ρ' => .ok (.nx ρ')) := id rfl
@[simp] theorem x_par (i j : Nat) : sPar i j φ ψ ρ = (φ ρ >>= fun x => ψ ρ >>= fun y => if sPar.noB x && sPar.noB y then .ok (.nx (put j y (put i x ρ))) else .bad) := id rfl
@[simp] theorem x_ret : sRet φ ρ = (φ ρ >>= fun r => clE ρ r >>= fun c => .ok (.rt c)) := id rfl
@[simp] theorem x_retN : sRetN ρ = .ok (.rt (.val .none)) := id rfl
@[simp] theorem x_drop : sDrop φ ρ = (φ ρ >>= fun _ => .ok (.nx ρ)) := id rfl
@[simp] theorem x_if : sIf s Φ Ψ ρ = (s ρ >>= fun b => if b = true then Φ ρ else Ψ ρ) := id rfl
@[simp] theorem x_for (ι : En → R (Bool × List PyData)) (τ : Pat) : sFor ι τ Φ ρ = (ι ρ >>= fun a => if a.1 = true then forR τ Φ a.2 ρ else .bad) := id rfl
@[simp] theorem x_raise (c : Str) : sRaise c ρ = .err c := id rfl
@[simp] theorem x_app (i : Nat) : sApp i φ ρ = (ownAt ρ i >>= fun ds => evA [φ] ρ >>= fun es => if ds.length ≤ 1000000 then .ok (.nx (ρ.set i (some (.own (ds ++ es))))) else .bad) := id rfl
@[simp] theorem x_frz (i : Nat) : sFrz i Φ ρ = Φ (frzE i ρ) := id rfl
@[simp] theorem x_clV (d : PyData) : clE ρ (.val d) = .ok (.val d) := id rfl
@[simp] theorem x_clO (d : List PyData) : clE ρ (.own d) = .ok (.own d) := id rfl
end
@[simp] theorem x_frzV (d : PyData) : frz (.val d) = .val d := id rfl
@[simp] theorem x_frzO (d : List PyData) : frz (.own d) = .val (.list d) := id rfl
@[simp] theorem x_frzB (i : Nat) (d : List PyData) : frz (.bor i d) = .bor i d := id rfl
@[simp] theorem x_toVal (d : PyData) : (Rv.val d).toVal = .ok d := id rfl
@[simp] theorem x_toInt (d : Int) : (Rv.val (.int d)).toInt = .ok d := id rfl
@[simp] theorem x_toBool (d : Bool) : (Rv.val (.bool d)).toBool = .ok d := id rfl
@[simp] theorem x_datV (d : PyData) : (Rv.val d).dat = d := id rfl
@[simp] theorem x_datO (d : List PyData) : (Rv.own d).dat = .list d := id rfl
@[simp] theorem x_datB (i : Nat) (d : List PyData) : (Rv.bor i d).dat = .list d := id rfl
@[simp] theorem x_rvV (d : PyData) : (Cr.val d).rv = .val d := id rfl
@[simp] theorem x_rvT (d : List PyData) : (Cr.tpn d).rv = .val (.tuple d) := id rfl
@[simp] theorem x_rvO (d : List PyData) : (Cr.own d).rv = .own d := id rfl
@[simp] theorem x_outN (ρ : En) : outV (.nx ρ) = .ok (.val .none) := id rfl
@[simp] theorem x_outR (r : Cr) : outV (.rt r) = .ok r := id rfl
@[simp] theorem x_noV (d : PyData) : sPar.noB (.val d) = true := id rfl
@[simp] theorem x_noO (d : List PyData) : sPar.noB (.own d) = true := id rfl
@[simp] theorem x_seqL (d : List PyData) : seqOf (.val (.list d)) = .ok (true, d) := id rfl
@[simp] theorem x_seqT (d : List PyData) : seqOf (.val (.tuple d)) = .ok (true, d) := id rfl
@[simp] theorem x_seqB (i : Nat) (d : List PyData) : seqOf (.bor i d) = .ok (false, d) := id rfl
@[simp] theorem x_z2 (x y : Rv) : z2 x y = (seqOf x >>= fun a => seqOf y >>= fun b => .ok (a.1 && b.1, zipD a.2 b.2)) := id rfl
@[simp] theorem x_z3 (x y z : Rv) : z3 x y z = (seqOf x >>= fun a => seqOf y >>= fun b => seqOf z >>= fun c => .ok (a.1 && (b.1 && c.1), zipD3 a.2 b.2 c.2)) := id rfl
@[simp] theorem x_gB (c : Rv → Rv → R Bool) (a b : Rv) : gB c a b = (c a b >>= fun k => .ok (.val (.bool k))) := id rfl
@[simp] theorem x_asg (i : Nat) (d : PyData) (ρ : En) : asg (.nm i) d ρ = .ok (ρ.set i (some (.val d))) := by rw [asg]
@[simp] theorem x_asgT (ps : List Pat) (ds : List PyData) (ρ : En) : asg (.tp ps) (.tuple ds) ρ = if ds.length = ps.length then asgs ps ds ρ else .bad := by rw [asg]
@[simp] theorem x_asg0 (ρ : En) : asgs [] [] ρ = .ok ρ := by rw [asgs]
@[simp] theorem x_asgC (p : Pat) (ps : List Pat) (d : PyData) (ds : List PyData) (ρ : En) : asgs (p :: ps) (d :: ds) ρ = (asg p d ρ >>= fun ρ' => asgs ps ds ρ') := by rw [asgs]
/-! operators on ints -/
@[simp] theorem x_add (i j : Int) : gAdd (.val (.int i)) (.val (.int j)) = .ok (.val (.int (i + j))) := id rfl
@[simp] theorem x_sub (i j : Int) : gSub (.val (.int i)) (.val (.int j)) = .ok (.val (.int (i - j))) := id rfl
@[simp] theorem x_mod (i j : Int) : gMod (.val (.int i)) (.val (.int j)) = if 0 < j then .ok (.val (.int (i % j))) else .bad := by simp [gMod, gInt]
@[simp] theorem x_div (i j : Int) : gDiv (.val (.int i)) (.val (.int j)) = if 0 < j ∧ j < 2 ^ 100 then .ok (.val (.int (i / j))) else .bad := by simp [gDiv, gInt]
@[simp] theorem x_mul (i j : Int) : gMul (.val (.int i)) (.val (.int j)) = if okM i j then .ok (.val (.int (i * j))) else .bad := by
  show (if ((decide (-(2 ^ 64) < i) && decide (i < 2 ^ 64)) || (decide (-(2 ^ 64) < j) && decide (j < 2 ^ 64))) = true then R.ok (Rv.val (.int (i * j))) else .bad) = _
  exact ite_same (by unfold okM; simp only [Bool.or_eq_true, Bool.and_eq_true, decide_eq_true_eq]) _ _
@[simp] theorem x_rep (a : PyData) (k : Int) : gMul (.val (.list [a])) (.val (.int k)) = if okK k then .ok (.own (List.replicate k.toNat a)) else .bad := by
  have e : (List.replicate k.toNat [a]).flatten = List.replicate k.toNat a := by
    induction k.toNat with
    | zero => rfl
    | succ n ih => rw [List.replicate_succ, List.flatten_cons, ih]; rfl
  show (if -(2 ^ 62) ≤ k ∧ k < 2 ^ 62 ∧ [a].length * k.toNat ≤ 1000000 then R.ok (Rv.own (List.replicate k.toNat [a]).flatten) else .bad) = _
  rw [e, List.length_singleton, Nat.one_mul]
  exact ite_same (show (-(2 ^ 62) ≤ k ∧ k < 2 ^ 62 ∧ k.toNat ≤ 1000000) ↔ okK k by unfold okK; exact Iff.rfl) _ _
@[simp] theorem x_repT (a : PyData) (k : Int) : gMul (.val (.tuple [a])) (.val (.int k)) = if 1 ≤ k ∧ k ≤ 1000 then .ok (.val (.tuple (List.replicate k.toNat a))) else .bad := by
  have e : (List.replicate k.toNat [a]).flatten = List.replicate k.toNat a := by
    induction k.toNat with
    | zero => rfl
    | succ n ih => rw [List.replicate_succ, List.flatten_cons, ih]; rfl
  show (if 1 ≤ k ∧ k ≤ 1000 ∧ [a].isEmpty = false ∧ [a].length ≤ 1000 then R.ok (Rv.val (.tuple (List.replicate k.toNat [a]).flatten)) else .bad) = _
  rw [e]
  exact ite_same (by simp) _ _
@[simp] theorem x_addL (a b : List PyData) : gAdd (.val (.list a)) (.val (.list b)) = if a.length + b.length ≤ 1000000 then .ok (.own (a ++ b)) else .bad := id rfl
@[simp] theorem x_addT (a b : List PyData) : gAdd (.val (.tuple a)) (.val (.tuple b)) = if a.length + b.length ≤ 1000000 then .ok (.val (.tuple (a ++ b))) else .bad := id rfl
@[simp] theorem x_rg1 (ρ : En) (φ : En → R Rv) (t : Bool) : eRg1 t φ ρ = (φ ρ >>= fun x => (frz x).toInt >>= fun j => gRg t 0 j) := id rfl
@[simp] theorem x_rg2 (ρ : En) (φ ψ : En → R Rv) (t : Bool) : eRg2 t φ ψ ρ = (φ ρ >>= fun x => ψ ρ >>= fun y => (frz x).toInt >>= fun i => (frz y).toInt >>= fun j => gRg t i j) := id rfl
theorem x_gRg (i j : Int) (h1 : -1000000 ≤ i) (h2 : i ≤ 1000000) (h3 : -1000000 ≤ j) (h4 : j ≤ 1000000) (h5 : j - i ≤ 1000000) : gRg false i j = .ok (.own (rangeD i (j - i).toNat)) := by
  unfold gRg
  rw [if_pos (show rgOk i j by unfold rgOk; omega)]
  rfl
theorem x_gRgT (i j : Int) (h1 : -1000000 ≤ i) (h2 : i ≤ 1000000) (h3 : -1000000 ≤ j) (h4 : j ≤ 1000000) (h5 : j - i ≤ 1000000) : gRg true i j = .ok (.val (.tuple (rangeD i (j - i).toNat))) := by
  unfold gRg
  rw [if_pos (show rgOk i j by unfold rgOk; omega)]
  rfl
theorem alike_ints (l : List Int) : alikeB (l.map PyData.int) = true := by
  unfold alikeB
  have : PyData.depthAll (l.map PyData.int) = 0 := by
    induction l with
    | nil => rfl
    | cons a as ih => rw [List.map_cons, PyData.depthAll, ih]; rfl
  rw [this]
  simp [List.all_map, PySem.W.alike, isNoneD]
theorem foldl_min : ∀ (l : List Int) (a : Int), l.foldl min a ∈ a :: l ∧ ∀ x ∈ a :: l, l.foldl min a ≤ x
  | [], a => by simp
  | b :: l, a => by
    obtain ⟨h1, h2⟩ := foldl_min l (min a b)
    rw [List.foldl_cons]
    refine ⟨?_, fun x hx => ?_⟩
    · rcases List.mem_cons.mp h1 with e | e
      · rw [e]
        by_cases h : a ≤ b
        · rw [Int.min_eq_left h]; simp
        · rw [Int.min_eq_right (by omega)]; simp
      · exact List.mem_cons_of_mem _ (List.mem_cons_of_mem _ e)
    · have h0 := h2 (min a b) (by simp)
      rcases List.mem_cons.mp hx with e | e
      · rw [e]; omega
      · rcases List.mem_cons.mp e with e | e
        · rw [e]; omega
        · exact h2 x (List.mem_cons_of_mem _ e)
theorem foldl_max : ∀ (l : List Int) (a : Int), l.foldl max a ∈ a :: l ∧ ∀ x ∈ a :: l, x ≤ l.foldl max a
  | [], a => by simp
  | b :: l, a => by
    obtain ⟨h1, h2⟩ := foldl_max l (max a b)
    rw [List.foldl_cons]
    refine ⟨?_, fun x hx => ?_⟩
    · rcases List.mem_cons.mp h1 with e | e
      · rw [e]
        by_cases h : a ≤ b
        · rw [Int.max_eq_right h]; simp
        · rw [Int.max_eq_left (by omega)]; simp
      · exact List.mem_cons_of_mem _ (List.mem_cons_of_mem _ e)
    · have h0 := h2 (max a b) (by simp)
      rcases List.mem_cons.mp hx with e | e
      · rw [e]; omega
      · rcases List.mem_cons.mp e with e | e
        · rw [e]; omega
        · exact h2 x (List.mem_cons_of_mem _ e)
theorem x_min {l : List Int} (h : l ≠ []) : ∃ m, gMin1 [.val (.list (l.map PyData.int))] = .ok (.val (.int m)) ∧ gMin1 [.val (.tuple (l.map PyData.int))] = .ok (.val (.int m)) ∧ m ∈ l ∧ ∀ x ∈ l, m ≤ x := by
  cases l with
  | nil => exact absurd rfl h
  | cons a l =>
    have e : alikeB (PyData.int a :: l.map PyData.int) = true := alike_ints (a :: l)
    obtain ⟨h1, h2⟩ := foldl_min l a
    refine ⟨l.foldl min a, ?_, ?_, h1, h2⟩
    · show (if alikeB (PyData.int a :: l.map PyData.int) = true then R.ok (Rv.val (PySem.W.minD (.int a) (l.map PyData.int))) else .bad) = _
      rw [if_pos e, PySem.W.minD_ints]
    · show (if alikeB (PyData.int a :: l.map PyData.int) = true then R.ok (Rv.val (PySem.W.minD (.int a) (l.map PyData.int))) else .bad) = _
      rw [if_pos e, PySem.W.minD_ints]
theorem x_max {l : List Int} (h : l ≠ []) : ∃ m, gMax1 [.val (.list (l.map PyData.int))] = .ok (.val (.int m)) ∧ gMax1 [.val (.tuple (l.map PyData.int))] = .ok (.val (.int m)) ∧ m ∈ l ∧ ∀ x ∈ l, x ≤ m := by
  cases l with
  | nil => exact absurd rfl h
  | cons a l =>
    have e : alikeB (PyData.int a :: l.map PyData.int) = true := alike_ints (a :: l)
    obtain ⟨h1, h2⟩ := foldl_max l a
    refine ⟨l.foldl max a, ?_, ?_, h1, h2⟩
    · show (if alikeB (PyData.int a :: l.map PyData.int) = true then R.ok (Rv.val (PySem.W.maxD (.int a) (l.map PyData.int))) else .bad) = _
      rw [if_pos e, PySem.W.maxD_ints]
    · show (if alikeB (PyData.int a :: l.map PyData.int) = true then R.ok (Rv.val (PySem.W.maxD (.int a) (l.map PyData.int))) else .bad) = _
      rw [if_pos e, PySem.W.maxD_ints]
@[simp] theorem x_lt (i j : Int) : cLt (.val (.int i)) (.val (.int j)) = .ok (decide (i < j)) := id rfl
@[simp] theorem x_le (i j : Int) : cLe (.val (.int i)) (.val (.int j)) = .ok (decide (i ≤ j)) := id rfl
@[simp] theorem x_gt (i j : Int) : cGt (.val (.int i)) (.val (.int j)) = .ok (decide (j < i)) := id rfl
@[simp] theorem x_ge (i j : Int) : cGe (.val (.int i)) (.val (.int j)) = .ok (decide (j ≤ i)) := id rfl
theorem x_eq (a b : Rv) : cEq a b = if min a.dat.depth b.dat.depth ≤ 60 then .ok (PyData.eqv a.dat b.dat) else .bad := rfl
theorem x_ne (a b : Rv) : cNe a b = if min a.dat.depth b.dat.depth ≤ 60 then .ok (!PyData.eqv a.dat b.dat) else .bad := rfl
@[simp] theorem x_lenL (d : List PyData) : gLen [.val (.list d)] = .ok (.val (.int d.length)) := id rfl
@[simp] theorem x_lenT (d : List PyData) : gLen [.val (.tuple d)] = .ok (.val (.int d.length)) := id rfl
@[simp] theorem x_lenB (i : Nat) (d : List PyData) : gLen [.bor i d] = .ok (.val (.int d.length)) := id rfl
@[simp] theorem x_sumL (d : List Int) : gSum [.val (.list (d.map PyData.int))] = .ok (.val (.int d.sum)) := by simp [gSum]
@[simp] theorem x_sumT (d : List Int) : gSum [.val (.tuple (d.map PyData.int))] = .ok (.val (.int d.sum)) := by simp [gSum]
@[simp] theorem x_tupL (d : List PyData) : gTuple [.val (.list d)] = .ok (.val (.tuple d)) := id rfl
@[simp] theorem x_tupT (d : List PyData) : gTuple [.val (.tuple d)] = .ok (.val (.tuple d)) := id rfl
@[simp] theorem x_tupB (i : Nat) (d : List PyData) : gTuple [.bor i d] = .ok (.val (.tuple d)) := id rfl
@[simp] theorem x_lisL (d : List PyData) : gList [.val (.list d)] = .ok (.own d) := id rfl
@[simp] theorem x_lisT (d : List PyData) : gList [.val (.tuple d)] = .ok (.own d) := id rfl
@[simp] theorem x_max2 (i j : Int) : gMax2 [.val (.int i), .val (.int j)] = .ok (.val (.int (max i j))) := by
  show R.ok (Rv.val (.int (if j > i then j else i))) = _
  have : (if j > i then j else i) = max i j := by split <;> omega
  rw [this]
@[simp] theorem x_min2 (i j : Int) : gMin2 [.val (.int i), .val (.int j)] = .ok (.val (.int (min i j))) := by
  show R.ok (Rv.val (.int (if j < i then j else i))) = _
  have : (if j < i then j else i) = min i j := by split <;> omega
  rw [this]
@[simp] theorem x_all (bs : List Bool) : gAll [.val (.list (bs.map PyData.bool))] = .ok (.val (.bool (bs.all id))) := by simp [gAll]
@[simp] theorem x_any (bs : List Bool) : gAny [.val (.list (bs.map PyData.bool))] = .ok (.val (.bool (bs.any id))) := by simp [gAny]
@[simp] theorem x_allP {α : Type} (l : List α) (p : α → Bool) : gAll [.val (.list (l.map fun x => PyData.bool (p x)))] = .ok (.val (.bool (l.all p))) := by
  have e : (l.map fun x => PyData.bool (p x)) = (l.map p).map PyData.bool := by rw [List.map_map]; rfl
  rw [e, x_all, List.all_map]
  rfl
@[simp] theorem x_anyP {α : Type} (l : List α) (p : α → Bool) : gAny [.val (.list (l.map fun x => PyData.bool (p x)))] = .ok (.val (.bool (l.any p))) := by
  have e : (l.map fun x => PyData.bool (p x)) = (l.map p).map PyData.bool := by rw [List.map_map]; rfl
  rw [e, x_any, List.any_map]
  rfl
theorem kit_int : kitB "int" "int" = some true := by decide +kernel
theorem kit_bi : kitB "int" "bool" = some false := by decide +kernel
theorem kit_tt : kitB "tuple" "tuple" = some true := by decide +kernel
theorem kit_ll : kitB "list" "list" = some true := by decide +kernel
@[simp] theorem x_isiI (i : Int) : isiD "int" (.int i) = .ok true := by simp [isiD, tyN, kit_int]
@[simp] theorem x_isiB (i : Int) : isiD "bool" (.int i) = .ok false := by simp [isiD, tyN, kit_bi]
@[simp] theorem x_isiT (d : List PyData) : isiD "tuple" (.tuple d) = .ok true := by simp [isiD, tyN, kit_tt]
@[simp] theorem x_isiL (d : List PyData) : isiD "list" (.list d) = .ok true := by simp [isiD, tyN, kit_ll]
/-! a[i] -/
theorem atI_nat {α : Type} (l : List α) (i : Nat) : atI l (i : Int) = l[i]? := by
  unfold atI ixN
  by_cases h : (i : Nat) < l.length
  · simp [h, List.getElem?_eq_getElem h]
  · simp [h, List.getElem?_eq_none (Nat.le_of_not_lt h)]
def nth (l : List Int) (i : Int) : Int := (l[i.toNat]?).getD 0
theorem atI_nth (l : List Int) (i : Int) (h0 : 0 ≤ i) (h1 : i < l.length) : atI (l.map PyData.int) i = some (.int (nth l i)) := by
  have h : i.toNat < l.length := by omega
  have e : ixN (l.map PyData.int).length i = some i.toNat := by
    unfold ixN
    rw [if_pos h0, if_pos (by rw [List.length_map]; exact h1)]
  unfold atI nth
  rw [e, List.getElem?_eq_getElem h]
  simp [h]
theorem nth_nat (l : List Int) (i : Nat) : nth l (i : Int) = (l[i]?).getD 0 := by unfold nth; simp
theorem x_ixL (l : List Int) (i : Int) (h0 : 0 ≤ i) (h1 : i < l.length) : gIx (.val (.list (l.map PyData.int))) (.val (.int i)) = .ok (.val (.int (nth l i))) := by simp [gIx, atI_nth l i h0 h1]
theorem x_ixT (l : List Int) (i : Int) (h0 : 0 ≤ i) (h1 : i < l.length) : gIx (.val (.tuple (l.map PyData.int))) (.val (.int i)) = .ok (.val (.int (nth l i))) := by simp [gIx, atI_nth l i h0 h1]
theorem x_ixB (j : Nat) (l : List Int) (i : Int) (h0 : 0 ≤ i) (h1 : i < l.length) : gIx (.bor j (l.map PyData.int)) (.val (.int i)) = .ok (.val (.int (nth l i))) := by simp [gIx, atI_nth l i h0 h1]
@[simp] theorem eqv_ints_nil (a : List Int) : PyData.eqvAll (a.map PyData.int) [] = decide (a = []) := eqv_ints a []
/-! loops -/
theorem forR_nil (τ : Pat) (B : En → R Out) (ρ : En) : forR τ B [] ρ = .ok (.nx ρ) := rfl
theorem for_ok {τ : Pat} {B : En → R Out} (I : Nat → En → Prop) : ∀ (ds : List PyData) (k : Nat) (ρ : En), I k ρ → (∀ i ρ d, ds[i]? = some d → I (k + i) ρ → ∃ ρ1, asg τ d ρ = .ok ρ1 ∧ ∃ ρ', B ρ1 = .ok (.nx ρ') ∧ I (k + i + 1) ρ') → ∃ ρ', forR τ B ds ρ = .ok (.nx ρ') ∧ I (k + ds.length) ρ'
  | [], k, ρ, h0, _ => ⟨ρ, rfl, h0⟩
  | d :: ds, k, ρ, h0, st => by
    obtain ⟨ρ1, h1, ρ', h2, h3⟩ := st 0 ρ d rfl h0
    obtain ⟨ρ2, h4, h5⟩ := for_ok I ds (k + 1) ρ' h3 fun i σ e he hI => by
      have := st (i + 1) σ e (by simpa using he) (by rw [show k + (i + 1) = k + 1 + i by omega]; exact hI)
      rw [show k + (i + 1) + 1 = k + 1 + i + 1 by omega] at this
      exact this
    refine ⟨ρ2, ?_, by rw [List.length_cons, show k + (ds.length + 1) = k + 1 + ds.length by omega]; exact h5⟩
    rw [forR, h1]
    show B ρ1 >>= whK (forR τ B ds) = _
    rw [h2]
    exact h4
theorem seq_nx {Φ Ψ : En → R Out} {ρ ρ1 : En} {o : R Out} (h1 : Φ ρ = .ok (.nx ρ1)) (h2 : Ψ ρ1 = o) : sSeq Φ Ψ ρ = o := by rw [x_seq, h1]; exact h2
theorem fn_rt {n : Nat} {Φ : En → R Out} {ds : List PyData} {r : Cr} (h : Φ (st0 n ds) = .ok (.rt r)) : fnR n Φ ds = .ok r := by unfold fnR; rw [h]; rfl
theorem fn_nx {n : Nat} {Φ : En → R Out} {ds : List PyData} {ρ : En} (h : Φ (st0 n ds) = .ok (.nx ρ)) : fnR n Φ ds = .ok (.val .none) := by unfold fnR; rw [h]; rfl
/-- a statement goes on, and then P -/
def Nx (Φ : En → R Out) (ρ : En) (P : En → Prop) : Prop := ∃ ρ', Φ ρ = .ok (.nx ρ') ∧ P ρ'
theorem Nx.of {Φ : En → R Out} {ρ ρ' : En} {P : En → Prop} (h : Φ ρ = .ok (.nx ρ')) (p : P ρ') : Nx Φ ρ P := ⟨ρ', h, p⟩
theorem Nx.seq {Φ Ψ : En → R Out} {ρ : En} {P Q : En → Prop} (h : Nx Φ ρ P) (k : ∀ ρ', P ρ' → Nx Ψ ρ' Q) : Nx (sSeq Φ Ψ) ρ Q := by
  obtain ⟨ρ1, h1, p⟩ := h
  obtain ⟨ρ2, h2, q⟩ := k ρ1 p
  exact ⟨ρ2, seq_nx h1 h2, q⟩
theorem Nx.step {Φ Ψ : En → R Out} {ρ ρ1 : En} {Q : En → Prop} (h : Φ ρ = .ok (.nx ρ1)) (k : Nx Ψ ρ1 Q) : Nx (sSeq Φ Ψ) ρ Q := by
  obtain ⟨ρ2, h2, q⟩ := k
  exact ⟨ρ2, seq_nx h h2, q⟩
theorem Nx.no {t : En → R Bool} {Φ Ψ : En → R Out} {ρ : En} {Q : En → Prop} (h : t ρ = .ok false) (k : Nx Ψ ρ Q) : Nx (sIf t Φ Ψ) ρ Q := by
  obtain ⟨ρ2, h2, q⟩ := k
  exact ⟨ρ2, by rw [x_if, h]; exact h2, q⟩
theorem if_no {t : En → R Bool} {Φ Ψ : En → R Out} {ρ : En} {o : R Out} (h : t ρ = .ok false) (k : Ψ ρ = o) : sIf t Φ Ψ ρ = o := by rw [x_if, h]; exact k
theorem if_yes {t : En → R Bool} {Φ Ψ : En → R Out} {ρ : En} {o : R Out} (h : t ρ = .ok true) (k : Φ ρ = o) : sIf t Φ Ψ ρ = o := by rw [x_if, h]; exact k
theorem for_nx {ι : En → R (Bool × List PyData)} {τ : Pat} {B : En → R Out} {ρ : En} {ds : List PyData} {o : R Out} (h : ι ρ = .ok (true, ds)) (k : forR τ B ds ρ = o) : sFor ι τ B ρ = o := by rw [x_for, h]; exact k
theorem Nx.for_ {ι : En → R (Bool × List PyData)} {τ : Pat} {B : En → R Out} {ρ : En} (ds : List PyData) (I : Nat → En → Prop) {Q : En → Prop} (h : ι ρ = .ok (true, ds)) (h0 : I 0 ρ) (st : ∀ i ρ d, ds[i]? = some d → I i ρ → ∃ ρ1, asg τ d ρ = .ok ρ1 ∧ Nx B ρ1 (I (i + 1))) (k : ∀ ρ', I ds.length ρ' → Q ρ') : Nx (sFor ι τ B) ρ Q := by
  obtain ⟨ρ', h1, h2⟩ := for_ok (τ := τ) (B := B) I ds 0 ρ h0 fun i ρ d hd hI => by
    rw [Nat.zero_add] at hI ⊢
    exact st i ρ d hd hI
  rw [Nat.zero_add] at h2
  exact ⟨ρ', for_nx h h1, k ρ' h2⟩
theorem lc_map {α : Type} {τ : Pat} {φ : En → R Rv} {ρ : En} (f g : α → PyData) : ∀ (xs : List α), (∀ x ∈ xs, ∃ ρ1, asg τ (f x) ρ = .ok ρ1 ∧ ∃ r, φ ρ1 = .ok r ∧ (frz r).toVal = .ok (g x)) → lcR τ tYes φ ρ (xs.map f) = .ok (xs.map g)
  | [], _ => rfl
  | x :: xs, h => by
    obtain ⟨ρ1, h1, r, h2, h3⟩ := h x (by simp)
    rw [List.map_cons, lcR, h1]
    show (nerr (φ ρ1) >>= fun r => (frz r).toVal >>= fun e => lcR τ tYes φ ρ (xs.map f) >>= fun es => .ok (e :: es)) = _
    rw [h2, lc_map f g xs fun y hy => h y (List.mem_cons_of_mem _ hy)]
    show ((frz r).toVal >>= fun e => (R.ok (xs.map g)) >>= fun es => .ok (e :: es)) = _
    rw [h3]
    rfl
theorem lc_filter {α : Type} {τ : Pat} {T : En → R Bool} {φ : En → R Rv} {ρ : En} (f g : α → PyData) (p : α → Bool) : ∀ (xs : List α), (∀ x ∈ xs, ∃ ρ1, asg τ (f x) ρ = .ok ρ1 ∧ T ρ1 = .ok (p x) ∧ (p x = true → ∃ r, φ ρ1 = .ok r ∧ (frz r).toVal = .ok (g x))) → lcR τ T φ ρ (xs.map f) = .ok ((xs.filter p).map g)
  | [], _ => rfl
  | x :: xs, h => by
    obtain ⟨ρ1, h1, h2, h3⟩ := h x (by simp)
    have ih := lc_filter (T := T) f g p xs fun y hy => h y (List.mem_cons_of_mem _ hy)
    rw [List.map_cons, lcR, h1]
    show (nerr (T ρ1) >>= fun b => if b = true then nerr (φ ρ1) >>= fun r => (frz r).toVal >>= fun e => lcR τ T φ ρ (xs.map f) >>= fun es => .ok (e :: es) else lcR τ T φ ρ (xs.map f)) = _
    rw [h2]
    cases hp : p x with
    | false =>
      rw [List.filter_cons_of_neg (by simp [hp])]
      exact ih
    | true =>
      obtain ⟨r, h4, h5⟩ := h3 hp
      rw [List.filter_cons_of_pos hp]
      show (nerr (φ ρ1) >>= fun r => (frz r).toVal >>= fun e => lcR τ T φ ρ (xs.map f) >>= fun es => .ok (e :: es)) = _
      rw [h4, ih]
      show ((frz r).toVal >>= fun e => (R.ok ((xs.filter p).map g)) >>= fun es => .ok (e :: es)) = _
      rw [h5]
      rfl
end Py

set_option Elab.async false
set_option linter.all false
set_option maxRecDepth 100000
set_option autoImplicit false
set_option maxHeartbeats 4000000
/-! PyH: objects lent to a callee; lambdas. -/
namespace Py
open PySem L2 PyProof.Rows PySem.Spec
open Evl (Ex)
/-- an object, exactly so -/
def ObjO (a : Addr) (o : Obj) : HO := .ext fun h => h.get? a = some o
theorem objO_at {P : Program} {w : World} {H : Hp} {h : Heap} {a : Addr} {o : Obj} (hok : HOk P w H h) (e : H a = some (ObjO a o)) : h.get? a = some o := (show ObjOk P w H h a (ObjO a o) from hok a _ e).1
theorem objO_ok {P : Program} {w : World} {H : Hp} {h : Heap} {a : Addr} {o : Obj} (e : h.get? a = some o) : ObjOk P w H h a (ObjO a o) := ⟨e, ⟨o, e⟩, fun _ _ p k => k o p⟩
theorem objO_nt {a : Addr} {o : Obj} (ps : Array Value) : ObjO a o ≠ .tbl ps := fun z => by unfold ObjO at z; cases z
abbrev Bk := List (Addr × Obj)
def lentH (B : Bk) (H : Hp) : Hp := fun b => match B.lookup b with
  | some o => some (ObjO b o)
  | none => H b
def hideH (B : Bk) (H : Hp) : Hp := fun b => match B.lookup b with
  | some _ => none
  | none => H b
/-- the objects of B as in H, else as in H' -/
def backH (B : Bk) (H H' : Hp) : Hp := fun b => match B.lookup b with
  | some _ => H b
  | none => H' b
section
variable {B : Bk} {H H' : Hp} {b : Addr} {o : Obj}
theorem lent_in (h : B.lookup b = some o) : lentH B H b = some (ObjO b o) := by unfold lentH; rw [h]
theorem lent_out (h : B.lookup b = none) : lentH B H b = H b := by unfold lentH; rw [h]
theorem hide_in (h : B.lookup b = some o) : hideH B H b = none := by unfold hideH; rw [h]
theorem hide_out (h : B.lookup b = none) : hideH B H b = H b := by unfold hideH; rw [h]
theorem back_in (h : B.lookup b = some o) : backH B H H' b = H b := by unfold backH; rw [h]
theorem back_out (h : B.lookup b = none) : backH B H H' b = H' b := by unfold backH; rw [h]
theorem hide_some {u : HO} (h : hideH B H b = some u) : B.lookup b = none ∧ H b = some u := by
  unfold hideH at h
  split at h
  · cases h
  · rename_i e
    exact ⟨e, h⟩
end
/-- what may be lent -/
structure LendOk (B : Bk) (H : Hp) (h : Heap) (fs : List Addr) (base : Heap) : Prop where
  get : ∀ b o, B.lookup b = some o → h.get? b = some o
  free : ∀ b o, B.lookup b = some o → H b = none
  nofr : ∀ b o, B.lookup b = some o → b ∉ fs
  new : ∀ b o, B.lookup b = some o → base.get? b = none
section
variable {P : Program} {w : World} {K : PySem.W.Frag} {mg : Str → Option Value} {base : Heap} {A : Around} {outer : List Env} {s s' : Shared} {H : Hp} {B : Bk}
theorem hok_lent (hok : HOk P w H s.heap) (L : LendOk B H s.heap (frs outer) base) : HOk P w (lentH B H) s.heap := fun b u e => by
  cases q : B.lookup b with
  | some o =>
    rw [lent_in q] at e
    cases e
    exact objO_ok (L.get b o q)
  | none =>
    rw [lent_out q] at e
    have up : ∀ c v, H c = some v → lentH B H c = some v := fun c v hc => by
      cases q2 : B.lookup c with
      | some o => rw [L.free c o q2] at hc; cases hc
      | none => rw [lent_out q2]; exact hc
    exact (hok b u e).stay (fun _ _ _ z => z) (fun c z => up c _ z) fun c xs z => up c _ z
theorem env0_lent (e0 : Env0 P w K mg base A outer s H) (L : LendOk B H s.heap (frs outer) base) : Env0 P w K mg base A outer s (lentH B H) :=
  ⟨e0.frames, e0.mod, fun b o e => ⟨(e0.bs b o e).1, by
    cases q : B.lookup b with
    | some o' => rw [L.new b o' q] at e; cases e
    | none => rw [lent_out q]; exact (e0.bs b o e).2⟩, e0.bsz, e0.funs, fun b hb => by
    cases q : B.lookup b with
    | some o' => exact absurd hb (L.nofr b o' q)
    | none => rw [lent_out q]; exact e0.frf b hb, hok_lent e0.hok L, e0.bare⟩
theorem hok_hide {h : Heap} (hok : HOk P w H h) (hB : ∀ b o, B.lookup b = some o → H b = some (ObjO b o) ∨ H b = none) : HOk P w (hideH B H) h := fun b u e => by
  obtain ⟨q, e⟩ := hide_some e
  have up : ∀ c v, H c = some v → (∀ o, v ≠ ObjO c o) → hideH B H c = some v := fun c v hc n => by
    cases q2 : B.lookup c with
    | some o =>
      rcases hB c o q2 with z | z
      · rw [z] at hc; cases hc; exact absurd rfl (n o)
      · rw [z] at hc; cases hc
    | none => rw [hide_out q2]; exact hc
  exact (hok b u e).stay (fun _ _ _ z => z) (fun c z => up c _ z fun o w => by unfold ObjO at w; cases w) fun c xs z => up c _ z fun o w => by unfold ObjO at w; cases w
/-- what was lent is given back -/
theorem ce_unlend {Q Q' : VK} {u : Value} (L : LendOk B H s.heap (frs outer) base) (h : CE outer P w (lentH B H) s Q' u s') (k : ∀ v H', HOk P w H' s'.heap → Q' v H' → (∀ b o, B.lookup b = some o → H' b = some (ObjO b o)) ∧ Q v (hideH B H')) : CE outer P w H s Q u s' := by
  obtain ⟨v, H', os, bare, un, hok, rv, q⟩ := h
  obtain ⟨kb, q⟩ := k v H' hok q
  have lo : ∀ c v, H c = some v → B.lookup c = none := fun c v hc => by
    cases q2 : B.lookup c with
    | some o => rw [L.free c o q2] at hc; cases hc
    | none => rfl
  have ln : ∀ c, H c = none → B.lookup c = none → lentH B H c = none := fun c h1 h2 => by rw [lent_out h2]; exact h1
  refine ⟨v, hideH B H', os, bare, ⟨fun b o e n nf nx => ?_, fun b o e n nf nx => ?_, fun b o e n nx => ?_, un.there, fun b xs e => ?_, fun b o x e => ?_, fun b ps e => ?_⟩, hok_hide hok fun b o e => .inl (kb b o e), rv, q⟩
  · cases q2 : B.lookup b with
    | some o' =>
      have h1 := L.get b o' q2
      rw [h1] at e
      cases e
      exact objO_at hok (kb b _ q2)
    | none => exact un.keep b o e (ln b n q2) nf nx
  · cases q2 : B.lookup b with
    | some o' => exact absurd nf (L.nofr b o' q2)
    | none => exact un.slot b o e (ln b n q2) nf nx
  · cases q2 : B.lookup b with
    | some o' => exact hide_in q2
    | none => rw [hide_out q2]; exact un.free b o e (ln b n q2) nx
  · have z := lo b _ e
    rw [hide_out z]
    exact un.tups b xs (by rw [lent_out z]; exact e)
  · have z := lo b _ e
    rw [hide_out z]
    exact un.frzs b o x (by rw [lent_out z]; exact e)
  · have z := lo b _ e
    rw [hide_out z]
    exact un.tbls b ps (by rw [lent_out z]; exact e)
/-- objects that are tracked are hidden for a while; an exception comes out -/
theorem cx_unhide {E E' : XK} {u : Value} (hB : ∀ b o, B.lookup b = some o → H b = some (ObjO b o)) (hg : ∀ b o, B.lookup b = some o → s.heap.get? b = some o) (hn : ∀ b o, B.lookup b = some o → b ∉ frs outer) (h : L2.CX P w outer (hideH B H) s E' u s')
    (k : ∀ cls d H', (∀ b o, B.lookup b = some o → H' b = none) → E' cls d H' → E cls d (backH B H H')) : L2.CX P w outer H s E u s' := by
  obtain ⟨a, G, H', cls, d, rfl, fl, hok, ub, na, os, ag, hE⟩ := h
  have gB : ∀ b o, B.lookup b = some o → G.get? b = some o := fun b o q => ub.keep b o (hg b o q) (hide_in q) (hn b o q)
  have fB : ∀ b o, B.lookup b = some o → H' b = none := fun b o q => ub.free b o (hg b o q) (hide_in q)
  have hid : ∀ c, H c = none → B.lookup c = none → hideH B H c = none := fun c h1 h2 => by rw [hide_out h2]; exact h1
  have out : ∀ c v, H c = some v → (∀ o, v ≠ ObjO c o) → B.lookup c = none := fun c v hc n => by
    cases q2 : B.lookup c with
    | some o => rw [hB c o q2] at hc; cases hc; exact absurd rfl (n o)
    | none => rfl
  have nb : ∀ c, H c = none → B.lookup c = none := fun c hc => by
    cases q2 : B.lookup c with
    | some o => rw [hB c o q2] at hc; cases hc
    | none => rfl
  refine ⟨a, G, backH B H H', cls, d, rfl, fl, fun b v e => ?_, ⟨fun b o e n nf => ?_, ub.slot, fun b o e n => ?_, ub.there, fun b xs e => ?_, fun b o x e => ?_, fun b ps e => ?_⟩, ?_, os, ag, k cls d H' fB hE⟩
  · cases q : B.lookup b with
    | some o =>
      rw [back_in q, hB b o q] at e
      cases e
      exact objO_ok (gB b o q)
    | none =>
      rw [back_out q] at e
      have up : ∀ c v, H' c = some v → backH B H H' c = some v := fun c v hc => by
        cases q2 : B.lookup c with
        | some o => rw [fB c o q2] at hc; cases hc
        | none => rw [back_out q2]; exact hc
      exact (hok b v e).stay (fun _ _ _ z => z) (fun c z => up c _ z) fun c xs z => up c _ z
  · exact ub.keep b o e (hid b n (nb b n)) nf
  · rw [back_out (nb b n)]; exact ub.free b o e (hid b n (nb b n))
  · have z := out b _ e fun o w => by unfold ObjO at w; cases w
    rw [back_out z]; exact ub.tups b xs (by rw [hide_out z]; exact e)
  · have z := out b _ e fun o w => by unfold ObjO at w; cases w
    rw [back_out z]; exact ub.frzs b o x (by rw [hide_out z]; exact e)
  · have z := out b _ e fun o w => by unfold ObjO at w; cases w
    rw [back_out z]; exact ub.tbls b ps (by rw [hide_out z]; exact e)
  · cases q : B.lookup a with
    | some o =>
      have := gB a o q
      rw [fl.2.1] at this
      cases this
    | none => rw [back_out q]; exact na
end
/-! lambdas -/
abbrev lamE (q : Str) (scope : Scope) (cl : List (Str × Addr)) (L f c : Addr) : Env := PySem.W.envX q scope L f (.ref c) cl
/-- the context of a lambda's body; cl its cells, N and the slots those of its maker -/
def lamC (P : Program) (w : World) (K : PySem.W.Frag) (mg : Str → Option Value) (base : Heap) (N : List Str) (q : Str) (scope : Scope) (cl : List (Str × Addr)) (A : Around) (outer : List Env) (s : Shared) (H : Hp) (E : XK) (f c : Addr) : Cx where
  prog := P
  w := w
  K := K
  mg := mg
  base := base
  A := A.deeper (lamE q scope cl s.heap.objs.size f c)
  N := N
  s_0 := s
  H_0 := H
  env := lamE q scope cl s.heap.objs.size f c
  outer := outer
  stack := lamE q scope cl s.heap.objs.size f c :: outer
  ex := []
  fn := fun _ => false
  calm := true
  pn := []
  xe := fun e s' => wpAny (model P w) (A.deeper (lamE q scope cl s.heap.objs.size f c)) (leaving (lamE q scope cl s.heap.objs.size f c) e) (fun _ s'' => L2.CX P w outer H s E e s'') (fun e' s'' => L2.CX P w outer H s E e' s'') s'
instance [KK] {P : Program} {w : World} {mg : Str → Option Value} {base : Heap} {N : List Str} {q : Str} {scope : Scope} {cl : List (Str × Addr)} {A : Around} {outer : List Env} {s : Shared} {H : Hp} {E : XK} {f c : Addr} : OK (lamC P w KK.K mg base N q scope cl A outer s H E f c) := ⟨rfl⟩
/-- no names of its own -/
structure LamO (scope : Scope) : Prop where
  kind : scope.kind = .function
  co : scope.isCoroutine = false
  gen : scope.isGenerator = false
  own : ∀ y ∈ scope.names, y.2 ≠ .local ∧ y.2 ≠ .cell
/-- the cells of a lambda, as they stand -/
structure CapAt (cl : List (Str × Addr)) (N : List Str) (σ : Sl) (scope : Scope) (h : Heap) (H : Hp) : Prop where
  cell : ∀ y c, cl.lookup y = some c → ∃ v, h.IsCell c v
  free : ∀ y c, cl.lookup y = some c → H c = none
  inj : ∀ y z c, cl.lookup y = some c → cl.lookup z = some c → y = z
  has : ∀ y, scope.names.lookup y = some .free → ∃ c, cl.lookup y = some c
  val : ∀ (i : Nat) (y : Str) (v : V), N[i]? = some y → σ[i]? = some (some v) → scope.names.lookup y = some .free → ∃ c u, cl.lookup y = some c ∧ RelV v u ∧ h.IsCell c (some u)
  len : σ.length = N.length
section
variable {P : Program} {w : World} {K : PySem.W.Frag} {mg : Str → Option Value} {base : Heap} {N : List Str} {q : Str} {params : Arguments} {body : Expr} {scope : Scope} {cl : List (Str × Addr)} {A : Around} {outer : List Env} {s : Shared} {H : Hp} {E : XK} {f c : Addr} {σ : Sl} {Q : VK}
theorem lam_startC {h₁ : Heap} {tk : Nat} (L : LamO scope) (e0 : Env0 P w K mg base A outer s H) (hd : A.handled = none) (C : CapAt cl N σ scope s.heap H) (hns : h₁.Ns s.heap.objs.size fun y => ([] : List (Str × Value)).reverse.lookup y) (kp : ∀ b o, s.heap.get? b = some o → h₁.get? b = some o) :
    Inv (lamC P w K mg base N q scope cl A outer s H E f c) [] σ H { s with heap := h₁, toks := tk } := by
  have cellK : ∀ {c : Addr} {v : Option Value}, s.heap.IsCell c v → h₁.IsCell c v := fun {c v} ⟨o, ho, hd⟩ => ⟨o, kp _ _ ho, hd⟩
  have noA : ∀ b : Addr, b ∉ (lamC P w K mg base N q scope cl A outer s H E f c).ex := fun b z => absurd (show b ∈ ([] : List Addr) from z) (by simp)
  refine ⟨⟨e0.mod, L.kind, rfl, rfl, Nat.le_refl _, fun y z c e1 e2 => C.inj y z c e1 e2, fun y hy => ?_, fun y c z _ => ?_, fun _ => hd, Around.frames_deeper e0.frames, .inr ⟨rfl, rfl⟩, fun b z => absurd z (noA b), e0.bs, e0.bsz, fun b _ _ => noA b,
      fun b z => absurd z (noA b), e0.funs, e0.frf⟩,
    rfl, e0.bare, Un.kept kp, ⟨_, hns, fun i y v e1 e2 e3 => ?_⟩, fun y c e => ?_, e0.hok.fresh (Nat.le_refl _), fun y c e => C.free y c e, fun q hq => absurd (show q ∈ ([] : List (Addr × Obj)) ++ [] from hq) (by simp), e0.hok.kept kp, C.len⟩
  · have hy : scope.names.lookup y = some .cell ∨ scope.names.lookup y = some .free := hy
    rcases hy with hy | hy
    · exact absurd rfl (L.own _ (PySem.mem_of_lookup hy)).2
    · exact C.has y hy
  · have z : false = true := z
    cases z
  · have e3 : Vis scope y := e3
    rcases e3 with k | k | k
    · exact absurd rfl (L.own _ (PySem.mem_of_lookup k)).1
    · exact absurd rfl (L.own _ (PySem.mem_of_lookup k)).2
    · obtain ⟨c2, u, h2, r, z⟩ := C.val i y v e1 e2 k
      exact ⟨u, r, .inr ⟨.inr k, c2, h2, cellK z⟩⟩
  · obtain ⟨w', z⟩ := C.cell y c e
    exact ⟨w', cellK z⟩
theorem lam_run {k : Nat} {pm ctv : Value} {tb : TE} (L : LamO scope) (e0 : Env0 P w K mg base A outer s H) (hf : s.heap.get? f = some (PySem.W.kla_obj "<lambda>" q params body scope cl pm c ctv)) (hc : H c = some (LamX.CodeO c q)) (C : CapAt cl N σ scope s.heap H) (hr : Room (k + 1) A)
    (hbind : bindArgs (PySem.W.kla_fn "<lambda>" q params body scope cl pm (.ref c) ctv) ⟨[], []⟩ = pure []) (hbody : Room k (A.deeper (lamE q scope cl s.heap.objs.size f c)) → PE (lamC P w K mg base N q scope cl A outer s H E f c) body tb) (ht : tb σ H Q) :
    codeAny (model P w) A (.call (.ref f) ⟨[], []⟩) (CR (L2.CX P w) outer P w H s Q E) s := by
  obtain ⟨⟨oc, vs, t, hoc, hdc, hvc⟩, _, _⟩ := e0.hok c _ hc
  have lim : s.heap.NoLimit := e0.mod.nolimit.keeps fun b o e => (e0.bs b o e).1
  refine PySem.W.kla_callFunE hr.depth hf rfl L.co L.gen rfl ⟨c, oc, vs, t, rfl, hoc, hdc, hvc⟩ ?_
  rw [hbind]
  refine wpAny_pure (wpAny_newFunctionEnv (fun y hy => (L.own y hy).2) (fun y hy => absurd hy (by simp)) (fun h₁ hns hsb => ⟨lim.fresh _ hsb, ?_⟩) L.kind)
  show codeAny _ _ (.expr body (lamE q scope cl s.heap.objs.size f c)) _ _
  have kp : ∀ b o, s.heap.get? b = some o → h₁.get? b = some o := fun b o e => hsb.extBut b o (Nat.ne_of_lt (Heap.lt_size e)) (Heap.get?_push_of_some _ e)
  have J : Inv (lamC P w K mg base N q scope cl A outer s H E f c) [] σ H { s with heap := h₁, toks := s.toks + ([] : List (Str × Value)).length } := lam_startC L e0 hr.hd C hns kp
  refine PySem.W.kla_codeExpr (wpAny_mono ((hbody (hr.deeper _)).run [] _ _ H Q J ht) (fun v s' hq => ?_) fun e s' hq => hq)
  obtain ⟨w', H', J', rv, q⟩ := hq
  exact ⟨w', H', J'.os, J'.bare, J'.base, J'.hok, rv, q⟩
end
variable [KK]
/-- called without arguments, f raises an error of the class cls -/
def Raises (P : Program) (w : World) (mg : Str → Option Value) (base : Heap) (j : Nat) (f : Addr) (cls : Str) (Hk : Hp) : Prop :=
  ∀ (A : Around) (outer : List Env) (s : Shared) (Hk1 H1 : Hp) (E : XK), Ex Hk Hk1 → Ex Hk1 H1 → TabK Hk1 H1 → Env0 P w KK.K mg base A outer s H1 → Room j A → (∀ Hk2 H2, Gr Hk1 H1 Hk2 H2 → E (.ref (He.ga KK.K cls)) none H2) →
    codeAny (model P w) A (.call (.ref f) ⟨[], []⟩) (CR (L2.CX P w) outer P w H1 s (fun _ _ => False) E) s
theorem Raises.up {P : Program} {w : World} {mg : Str → Option Value} {base : Heap} {j : Nat} {f : Addr} {cls : Str} {Hk Hk' : Hp} (e : Ex Hk Hk') (h : Raises P w mg base j f cls Hk) : Raises P w mg base j f cls Hk' :=
  fun A outer s Hk1 H1 E e1 => h A outer s Hk1 H1 E (e.trans e1)
section
variable {P : Program} {w : World} {mg : Str → Option Value} {base : Heap} {N : List Str} {q : Str} {params : Arguments} {body : Expr} {scope : Scope} {cl : List (Str × Addr)} {f c : Addr} {σ : Sl}
theorem lam_raises {k : Nat} {pm ctv : Value} {B : Bk} {Hk Hko : Hp} {ρ : En} {φ : En → R Rv} {cls : Str} (L : LamO scope) (hB : ∀ b o, B.lookup b = some o → Hk b = some (ObjO b o) ∧ ∃ v, o.data = .cell v) (hf : Hk f = some (ObjO f (PySem.W.kla_obj "<lambda>" q params body scope cl pm c ctv))) (hc : Hk c = some (LamX.CodeO c q))
    (h1 : ∀ y c, cl.lookup y = some c → ∃ o, B.lookup c = some o) (h2 : ∀ y z c, cl.lookup y = some c → cl.lookup z = some c → y = z) (h3 : ∀ y, scope.names.lookup y = some .free → ∃ c, cl.lookup y = some c)
    (h4 : ∀ (i : Nat) (y : Str) (v : V), N[i]? = some y → σ[i]? = some (some v) → scope.names.lookup y = some .free → ∃ c o u, cl.lookup y = some c ∧ B.lookup c = some o ∧ o.data = .cell (some u) ∧ RelV v u)
    (x0 : Ex Hko Hk) (x1 : ∀ b o, B.lookup b = some o → Hko b = none) (hl : σ.length = N.length) (hl2 : σ.length = ρ.length) (r1 : ∀ (i : Nat) (d : PyData), ρ[i]? = some (some (.val d)) → ∃ v, σ[i]? = some (some v) ∧ Rp Hko v d) (r2 : ∀ (i : Nat) (c : Cl), ρ[i]? = some (some c) → ∃ d, c = .val d)
    (hφ : φ ρ = .err cls) (hbind : bindArgs (PySem.W.kla_fn "<lambda>" q params body scope cl pm (.ref c) ctv) ⟨[], []⟩ = pure [])
    (hbody : ∀ (A : Around) (outer : List Env) (s : Shared) (H : Hp) (E : XK) (f c : Addr), Room k (A.deeper (lamE q scope cl s.heap.objs.size f c)) → PE (lamC P w KK.K mg base N q scope cl A outer s H E f c) body (te KK.K (fun cls d _ H => E cls d H) φ)) :
    Raises P w mg base (k + 1) f cls Hk := by
  intro A outer s Hk1 H1 E e1 e2 tb0 e0 hr hE
  have tb := tb0.1
  have H1B : ∀ b o, B.lookup b = some o → H1 b = some (ObjO b o) := fun b o z => e2 _ _ (e1 _ _ (hB b o z).1)
  have get : ∀ b o, B.lookup b = some o → s.heap.get? b = some o := fun b o z => objO_at e0.hok (H1B b o z)
  have nf : ∀ b o, B.lookup b = some o → b ∉ frs outer := fun b o z hm => by
    have := e0.frf b hm
    rw [H1B b o z] at this
    cases this
  have cnb : ∀ (d : Addr) (q' : Str), H1 d = some (LamX.CodeO d q') → B.lookup d = none := fun d q' hd => by
    cases z : B.lookup d with
    | none => rfl
    | some o =>
      obtain ⟨⟨oc, vs, t, g1, g2, _⟩, _, _⟩ := e0.hok d _ hd
      obtain ⟨v, hv⟩ := (hB d o z).2
      rw [get d o z] at g1
      cases g1
      rw [hv] at g2
      cases g2
  have tnb : ∀ (d : Addr) (ps : Array Value), H1 d = some (.tbl ps) → B.lookup d = none := fun d ps hd => by
    cases z : B.lookup d with
    | none => rfl
    | some o =>
      rw [H1B d o z] at hd
      exact absurd (Option.some.inj hd) (objO_nt ps)
  have e0' : Env0 P w KK.K mg base A outer s (hideH B H1) := ⟨e0.frames, e0.mod, fun b o e => ⟨(e0.bs b o e).1, by
    cases z : B.lookup b with
    | some o => exact hide_in z
    | none => rw [hide_out z]; exact (e0.bs b _ e).2⟩, e0.bsz, e0.funs, fun b hb => by
    cases z : B.lookup b with
    | some o => exact hide_in z
    | none => rw [hide_out z]; exact e0.frf b hb, hok_hide e0.hok fun b o z => .inl (H1B b o z), e0.bare⟩
  have tabs' : LamX.Tabs KK.T (hideH B H1) := fun z hz => by
    obtain ⟨ps, a1, a2, a3⟩ := tb z hz
    refine ⟨ps, by rw [hide_out (tnb _ ps a1)]; exact a1, a2, fun pos cv hcv => ?_⟩
    obtain ⟨d, ed, hd⟩ := a3 pos cv hcv
    exact ⟨d, ed, by rw [hide_out (cnb d _ hd)]; exact hd⟩
  have xk : Ex (hideH B Hk1) (hideH B H1) := fun b u h => by
    obtain ⟨z, h⟩ := hide_some h
    rw [hide_out z]
    exact e2 b u h
  have xo : Ex Hko (hideH B Hk1) := fun b u h => by
    cases z : B.lookup b with
    | some o => rw [x1 b o z] at h; cases h
    | none => rw [hide_out z]; exact e1 b u (x0 b u h)
  have rel : Rel (hideH B Hk1) (hideH B H1) (hideH B Hk1) (hideH B H1) σ ρ := {
    len := hl2
    gr := Gr.refl xk
    val := fun i d h => let ⟨v, a, b⟩ := r1 i d h; ⟨v, a, Rp.up xo b⟩
    own := fun i ds h => by obtain ⟨d, z⟩ := r2 i _ h; cases z
    sep := fun i j ds es p h => by obtain ⟨d, z⟩ := r2 i _ h; cases z
    raw := fun i a h => by obtain ⟨d, z⟩ := r2 i _ h; cases z
    dct := fun i ds h => by obtain ⟨d, z⟩ := r2 i _ h; cases z
    tpn := fun i ds h => by obtain ⟨d, z⟩ := r2 i _ h; cases z
    dsep := fun i j ds es p h => by obtain ⟨d, z⟩ := r2 i _ h; cases z
    kn := fun i t h => by obtain ⟨d, z⟩ := r2 i _ h; cases z
    t0 := ⟨tabs', fun p hp => by
      have z := tb0.2 p hp
      unfold hideH
      split
      · rfl
      · exact z⟩ }
  have cap : CapAt cl N σ scope s.heap (hideH B H1) := by
    refine ⟨fun y d h => ?_, fun y d h => ?_, h2, h3, fun i y v a b h => ?_, hl⟩
    · obtain ⟨o, z⟩ := h1 y d h
      obtain ⟨v, hv⟩ := (hB d o z).2
      exact ⟨v, o, get d o z, hv⟩
    · obtain ⟨o, z⟩ := h1 y d h
      exact hide_in z
    · obtain ⟨d, o, u, a1, a2, a3, a4⟩ := h4 i y v a b h
      exact ⟨d, u, a1, a4, o, get d o a2, a3⟩
  have hfo : s.heap.get? f = some (PySem.W.kla_obj "<lambda>" q params body scope cl pm c ctv) := objO_at e0.hok (e2 _ _ (e1 _ _ hf))
  have hcc : hideH B H1 c = some (LamX.CodeO c q) := by
    have := e2 _ _ (e1 _ _ hc)
    rw [hide_out (cnb c _ this)]
    exact this
  have run := lam_run (E := fun x d H2 => x = .ref (He.ga KK.K cls) ∧ d = none ∧ ∃ Hk2, Gr (hideH B Hk1) (hideH B H1) Hk2 H2) (Q := fun _ _ => False) L e0' hfo hcc cap hr hbind (fun h => hbody A outer s _ _ f c h) ⟨hideH B Hk1, hideH B H1, hideH B Hk1, ρ, rel, by
    rw [hφ]
    exact fun Hk2 H2 g => ⟨rfl, rfl, Hk2, g⟩⟩
  refine codeAny_mono run fun r s' hq => ?_
  cases r with
  | error e =>
    refine cx_unhide H1B get nf hq fun x d H' fB ⟨y1, y2, Hk2, g⟩ => ?_
    subst y1 y2
    have nb : ∀ b u, H' b = some u → B.lookup b = none := fun b u h => by
      cases z : B.lookup b with
      | some o => rw [fB b o z] at h; cases h
      | none => rfl
    refine hE (backH B Hk1 Hk2) _ ⟨fun b u h => ?_, ⟨fun b u h n => ?_, fun b ps h => ?_, fun _ => ?_⟩, fun b u h => ?_, fun p n h => ?_⟩
    · cases z : B.lookup b with
      | some o => rw [back_in z]; exact h
      | none => rw [back_out z]; exact g.k b u (by rw [hide_out z]; exact h)
    · cases z : B.lookup b with
      | some o => rw [back_in z]; exact h
      | none => rw [back_out z]; exact g.h.st b u (by rw [hide_out z]; exact h) n
    · have z := tnb b ps h
      rw [back_out z]
      exact g.h.tb b ps (by rw [hide_out z]; exact h)
    · have t2 := g.h.tabs tabs'
      intro z hz
      obtain ⟨ps, a1, a2, a3⟩ := t2 z hz
      refine ⟨ps, by rw [back_out (nb _ _ a1)]; exact a1, a2, fun pos cv hcv => ?_⟩
      obtain ⟨d, ed, hd⟩ := a3 pos cv hcv
      exact ⟨d, ed, by rw [back_out (nb _ _ hd)]; exact hd⟩
    · cases z : B.lookup b with
      | some o => rw [back_in z] at h ⊢; exact e2 b u h
      | none => rw [back_out z] at h ⊢; exact g.kh b u h
    · cases z : B.lookup p with
      | some o => rw [back_in z]; exact h
      | none => rw [back_out z]; exact g.fr p (by rw [hide_out z]; exact n) (by rw [hide_out z]; exact h)
  | ok fl =>
    cases fl with
    | ret u =>
      obtain ⟨_, _, _, _, _, _, _, z⟩ := hq
      exact z.elim
    | next => exact False.elim hq
    | brk => exact False.elim hq
    | cont => exact False.elim hq
end
end Py

set_option Elab.async false
set_option linter.all false
set_option maxRecDepth 100000
set_option autoImplicit false
set_option maxHeartbeats 4000000
/-! PyI: a def that is handed the caught error; a def that calls what it was handed. -/
namespace Py
open PySem L2 PyProof.Rows PySem.Spec
open Evl (Ex)
open L2H (RoomH PinOk cxH)
variable [KK]
instance {CX : CXT} {P : Program} {w : World} {mg : Str → Option Value} {base : Heap} {N : List Str} {qual : Str} {scope : Scope} {f : Addr} {cd : Value} {A : Around} {outer : List Env} {s : Shared} {H : Hp} {E : XK} {p : Addr × Obj} : OK (cxH CX P w KK.K mg base N qual scope f cd A outer s H E p) := ⟨rfl⟩
theorem run_pin {CX : CXT} {P : Program} {w : World} {K : PySem.W.Frag} {mg : Str → Option Value} {base : Heap} {k : Nat} {f : Addr} {name qual : Str} {params : Arguments} {body : List Stmt} {scope : Scope} {dV kV doc pm cdv ct oc : Value} {an od : Option Addr}
    {osl : Array (Option Value)} {N ps : List Str} (lk : K.lookup f = some ⟨oc, od, .func (PySem.W.fnOf name qual params body scope dV kV doc pm an cdv ct), osl⟩) (hcd : PySem.W.codeIn K cdv qual = true) (S : FnScope N ps scope)
    {A : Around} {outer : List Env} {s : Shared} {H : Hp} {args : Args} {us : List Value} {vs : List V} {Q : VK} {E : XK} {p : Addr × Obj} (hr : RoomH (k + 1) A) (hpin : PinOk outer H s p) (e0 : Env0 P w K mg base A outer s H) (hb : BindsTo s (PySem.W.fnOf name qual params body scope dV kV doc pm an cdv ct) args (ps.zip us)) (r : Vals vs us) (hl : vs.length = ps.length)
    (hbody : RoomH k (A.deeper (envOfC qual scope s.heap.objs.size f cdv)) → ∃ t, PSs (cxH CX P w K mg base N qual scope f cdv A outer s H E p) body t ∧ t { nx := fun _ H' => Q .non H', rt := Q } (L2.start N vs) H) :
    codeAny (model P w) A (.call (.ref f) args) (CR CX outer P w H s Q E) s := by
  have KX : K.In s.heap := e0.mod.kin.keeps fun b o e => (e0.bs b o e).1
  have lim : s.heap.NoLimit := e0.mod.nolimit.keeps fun b o e => (e0.bs b o e).1
  have hkind : ∀ y ∈ ps.zip us, scope.names.lookup y.1 = some .local ∨ (scope.names.lookup y.1 = some .cell ∧ ((cellsFrom (s.heap.objs.size + 1) scope.names []).lookup y.1).isSome = true) := fun ⟨n, v⟩ hy => by
    rcases S.par n (List.of_mem_zip hy).1 with q | q
    · exact .inl q
    · exact .inr ⟨q, PySem.W.cellsFrom_some _ _ _ (.inl q)⟩
  refine codeAny_call_function hr.depth (KX _ _ lk) rfl S.co S.gen rfl (PySem.W.codeRec_of KX hcd) (hb _ _ _ _ ?_)
  refine wpAny_newFunctionEnv_cells S.kind hkind fun env he s1 x => ?_
  subst he
  refine ⟨lim.keeps x.toInCall.keep, codeAny_func ?_⟩
  obtain ⟨t, ht, hq⟩ := hbody (hr.deeper _)
  have I : Inv (cxH CX P w K mg base N qual scope f cdv A outer s H E p) [] (L2.start N vs) H s1 := L2H.inv_startH S hpin e0 hl r x
  refine wpAny_mono (ht.run [] s1 (L2.start N vs) H _ I hq) (fun fl s' hs => ?_) fun e s' hs => hs
  have fin : ∀ {σ' : L2.St} {H' : Hp} {v : V} {u : Value}, Inv (cxH CX P w K mg base N qual scope f cdv A outer s H E p) [] σ' H' s' → L2.RelV v u → Q v H' → CE outer P w H s Q u s' :=
    fun {σ' H' v u} J rv q => ⟨v, H', J.os, J.bare, J.base, J.hok, rv, q⟩
  cases fl with
  | ret u =>
    obtain ⟨v, σ', H', J, rv, q⟩ := hs
    exact fin J rv q
  | next =>
    obtain ⟨σ', H', J, q⟩ := hs
    exact fin (v := V.non) (u := Value.none) J rfl q
  | brk =>
    obtain ⟨_, _, _, q⟩ := hs
    exact False.elim q
  | cont =>
    obtain ⟨_, _, _, q⟩ := hs
    exact False.elim q
/-- g(e), e the caught error; Φ what the def does with it -/
def eCls (n i : Nat) (a : Addr) (Φ : Addr → Str → En → R Out) (c : Str) : En → R Rv := fun ρ => match ρ[i]? with
  | some (some (.raw a')) => if a' = a then (match Φ 0 c (rawAt n 0 0) with
    | .ok (.rt (.val d)) => .ok (.val d)
    | _ => .bad) else .bad
  | _ => .bad
/-- a def that takes the caught error -/
def FErr (P : Program) (w : World) (mg : Str → Option Value) (base : Heap) (k : Nat) (x : Str) (n : Nat) (cs : List Str) (Φ : Addr → Str → En → R Out) : Prop :=
  ∃ (f : Addr) (name qual : Str) (params : Arguments) (body : List Stmt) (scope : Scope) (fd : FuncData) (N : List Str) (y : Str), mg x = some (.ref f) ∧ FunD KK.K name qual params body scope [] [] f fd ∧ FnScope N [y] scope ∧ N.length = n ∧ 0 < n ∧ Binds KK.K fd [y] [] ∧ (∀ a c, c ∈ cs → Φ a c (rawAt n 0 a) = Φ 0 c (rawAt n 0 0)) ∧
    ∀ (cdv : Value) (A : Around) (outer : List Env) (s : Shared) (H : Hp) (E : XK) (a : Addr) (oe : Obj) (c : Str), c ∈ cs → Zc (.ref (He.ga KK.K c)) none oe → (∃ vs, oe.data = .fields vs) → RoomH k (A.deeper (envOfC qual scope s.heap.objs.size f cdv)) →
      PSs (cxH (L2.CX P w) P w KK.K mg base N qual scope f cdv A outer s H E (a, oe)) body (ts KK.K (fun cls d _ H => E cls d H) (Φ a c))
section
variable {X : Cx} [ok : OK X] {W : WX} {a : Addr} {oe : Obj} {pn : List (Addr × Obj)} {c x y : Str} {i n k j : Nat} {cs : List Str} {p p1 pos : Pos} {Φ : Addr → Str → En → R Out}
theorem d_cls (i : Nat) (F : FErr X.prog X.w X.mg X.base j x n cs Φ) (hr : Room k X.A) (hj : j + 1 ≤ k) (hcc : c ∈ cs) (hz : Zc (.ref (He.ga X.K c)) none oe) (hf : ∃ vs, oe.data = .fields vs)
    (hi : X.N[i]? = some y := by rfl) (hv : Vis X.env.scope y := by first | exact Or.inl rfl | exact Or.inr (Or.inl rfl) | exact Or.inr (Or.inr rfl)) (hd : (y == ("__debug__" : Str)) = false := by decide) (hcd : (y == ("__classdict__" : Str)) = false := by decide)
    (hg : Gl X x := by rfl) (hdx : (x == ("__debug__" : Str)) = false := by decide)
    (h1 : starEach [.Name y p1] X.env = (false, eval (.Name y p1) X.env) :: starEach [] X.env := by rfl) (hpl : (backTo pos (starEach [] X.env)).any (·.1) = false := by rfl) :
    PE (X.suite a ((a, oe) :: pn)) (.Call (.Name x p) [.Name y p1] [] pos) (te X.K W (eCls n i a Φ c)) := by
  obtain ⟨f, name, qual, params, body, scope, fd, N, z, hm, FD, S, hn, hn0, hb, hΦ, hbody⟩ := F
  refine ⟨fun pins s σ H Q I h => ?_⟩
  obtain ⟨Hk0, H0, Hk, ρ, r, q⟩ := h
  unfold eCls at q
  split at q
  · rename_i a' ha
    split at q
    · rename_i e
      subst e
      split at q
      · rename_i d hd'
        have hσ := r.raw i _ ha
        refine wpAny_Call_Name_kw (ld_glob I hg hm ?_ hdx)
        refine PySem.W.callWith_K (h₀ := X.base) I.ok.mod.kin (by have := FD.kp; rw [← ok.eq] at this; exact this) (thn ((pa_cons (X := X.suite a' ((a', oe) :: pn)) (pe_var hi hv hd hcd) pa_nil h1).run pos pins s σ H (fun vs H1 => vs = [.ref a'] ∧ H1 = H) I ⟨.ref a', hσ, rfl, rfl⟩) fun us s1 ⟨vs, H1, I1, r1, e1, e2⟩ => ⟨I1.kIn, ?_⟩) h1 hpl
        subst e1 e2
        have P1 := I1.pin (a', oe) (List.mem_append_left _ List.mem_cons_self)
        have hpin : PinOk (X.suite a' ((a', oe) :: pn)).stack H1 s1 (a', oe) := ⟨P1.1, P1.2.1, fun hm => (List.mem_cons.mp (I1.stkSub a' hm)).elim P1.2.2.1 P1.2.2.2.1, P1.2.2.2.2⟩
        obtain ⟨oc, od, dV, kV, doc, pm, an, cdv, ct, osl, rfl, lk, hcd', _, _⟩ := FD.ex
        have e0 : Env0 X.prog X.w KK.K X.mg X.base (X.suite a' ((a', oe) :: pn)).A (X.suite a' ((a', oe) :: pn)).stack s1 H1 := by
          have := I1.env0
          have e3 : (X.suite a' ((a', oe) :: pn)).K = KK.K := ok.eq
          rw [e3] at this
          exact this
        have kin : KK.K.In s1.heap := by
          have := I1.kIn
          have e3 : (X.suite a' ((a', oe) :: pn)).K = KK.K := ok.eq
          rwa [e3] at this
        have rr : RoomH (j + 1) (X.suite a' ((a', oe) :: pn)).A := ⟨(hr.mono hj).dp, (hr.mono hj).un⟩
        have hz' : Zc (.ref (He.ga KK.K c)) none oe := by rw [← ok.eq]; exact hz
        have rc := run_pin (CX := L2.CX X.prog X.w) (E := fun _ _ _ => False) (Q := Q) lk hcd' S rr hpin e0 (by have := hb s1 us kin (by rw [List.append_nil]; exact r1.length.symm); rwa [List.append_nil] at this) r1 rfl fun hrr => ⟨_, hbody cdv _ _ s1 H1 _ a' oe c hcc hz' hf hrr, ⟨Hk, H1, Hk, rawAt n 0 a', by
          rw [← hn]
          exact rel_raw (Gr.refl r.kh) r.tab (by unfold L2.start; rw [List.length_append, List.length_map, List.length_replicate]; simp; omega) fun _ => rfl, by
          rw [hΦ a' c hcc, hd']
          exact fun v Hk' H' g n dn => q v Hk' H' g n dn⟩⟩
        refine wpAny_call (codeAny_mono rc fun t s2 hq => ?_)
        cases t with
        | error e =>
          obtain ⟨_, _, _, _, _, _, _, _, _, _, _, _, z⟩ := hq
          exact z.elim
        | ok fl =>
          cases fl with
          | ret u => exact I1.after hq
          | next => exact False.elim hq
          | brk => exact False.elim hq
          | cont => exact False.elim hq
      · exact q.elim
    · exact q.elim
  · exact q.elim
end
end Py

set_option Elab.async false
set_option linter.all false
set_option maxRecDepth 100000
set_option autoImplicit false
set_option maxHeartbeats 4000000
/-! PyI2: isinstance of a pinned error; a def that calls what it was handed, a def that does so for a list. -/
namespace Py
open PySem L2 PyProof.Rows PySem.Spec
open Evl (Ex)
variable [KK]
section
variable {X : Cx} [ok : OK X] {W : WX} {a : Addr} {oe : Obj} {c x y : Str} {i : Nat} {b : Bool} {p p1 p2 pos : Pos}
theorem call_isP {D : Addr} (hp : (a, oe) ∈ X.pn) (C : ExcC X.K D) (hz : Zc (.ref D) none oe) (hf : ∃ vs, oe.data = .fields vs) : CallR X (.builtin "isinstance") (rIsE X.K D a) := by
  intro pins s σ H xs us Q I r h
  obtain ⟨c, cv, b, rfl, hcv, e, q⟩ := h
  cases r with
  | cons rx rr =>
    cases rr with
    | cons rt rr =>
      cases rr
      cases rx
      have ec := hcv _ rt
      subst ec
      obtain ⟨hget, _⟩ := I.pin (a, oe) (List.mem_append.mpr (.inl hp))
      obtain ⟨vs, hv⟩ := hf
      have J : PySem.W.InstAt s.heap a oe D none := by
        obtain ⟨oc, od, oda, osl⟩ := oe
        obtain ⟨h1, h2⟩ := hz
        dsimp only at h1 h2 hv
        subst h1 h2 hv
        exact ⟨hget, rfl, rfl, trivial⟩
      exact PySem.W.kia_one (PySem.W.handS_kitx_exc C.hg C.hk C.hs C.hd C.ha C.hn C.ht C.hm) I.kIn J e (fun z => nomatch z) fun tk => ⟨.bl b, H, I.kept (t' := tk) fun _ _ z => z, rfl, q⟩
theorem d_isxP (i : Nat) (hp : (a, oe) ∈ X.pn) (C : ExcC X.K (He.ga X.K c)) (hz : Zc (.ref (He.ga X.K c)) none oe) (hf : ∃ vs, oe.data = .fields vs) (hk : PySem.W.kitOne X.K (.ref (He.ga X.K c)) (.ref (He.ga X.K y)) = some b) (hm : X.mg "isinstance" = none) (hy : X.mg y = some (.ref (He.ga X.K y)))
    (hi : X.N[i]? = some x := by rfl) (hv : Vis X.env.scope x := by first | exact Or.inl rfl | exact Or.inr (Or.inl rfl) | exact Or.inr (Or.inr rfl)) (hd : (x == ("__debug__" : Str)) = false := by decide) (hcd : (x == ("__classdict__" : Str)) = false := by decide)
    (hg : Gl X "isinstance" := by rfl) (hgy : Gl X y := by rfl) (hdy : (y == ("__debug__" : Str)) = false := by decide)
    (h1 : starEach [.Name x p1, .Name y p2] X.env = (false, eval (.Name x p1) X.env) :: starEach [.Name y p2] X.env := by rfl) (h2 : starEach [.Name y p2] X.env = (false, eval (.Name y p2) X.env) :: starEach [] X.env := by rfl)
    (hpl : (backTo pos (starEach [.Name y p2] X.env)).any (·.1) = false := by rfl) : PE X (.Call (.Name "isinstance" p) [.Name x p1, .Name y p2] [] pos) (te X.K W (eRaw i a b)) :=
  pe_imp (pe_callB (call_isP hp C hz hf) hg hm (by decide +kernel) (pa_cons (pe_var hi hv hd hcd) (pa_cons (pe_glob (v := .ref (He.ga X.K y)) hgy hy rfl hdy) pa_nil h2) h1) (by decide) (by decide) h1 hpl) fun σ H Q ⟨Hk0, H0, Hk, ρ, r, p⟩ => by
    unfold eRaw at p
    split at p
    · rename_i a' ha
      split at p
      · rename_i e
        subst e
        exact ⟨_, r.raw i _ ha, .ref (He.ga X.K y), .ref (He.ga X.K y), b, rfl, fun u ru => ru, hk, p _ Hk H (Gr.refl r.kh) trivial (Rp.bl b)⟩
      · exact p.elim
    · exact p.elim
theorem d_isxV {T : String} (i : Nat) (hp : (a, oe) ∈ X.pn) (C : ExcC X.K (He.ga X.K c)) (hz : Zc (.ref (He.ga X.K c)) none oe) (hf : ∃ vs, oe.data = .fields vs) (hk : PySem.W.kitOne X.K (.ref (He.ga X.K c)) (.type T) = some b) (hm : X.mg "isinstance" = none) (hy : X.mg y = none) (hb : bootBuiltins y = some (.type T))
    (hi : X.N[i]? = some x := by rfl) (hv : Vis X.env.scope x := by first | exact Or.inl rfl | exact Or.inr (Or.inl rfl) | exact Or.inr (Or.inr rfl)) (hd : (x == ("__debug__" : Str)) = false := by decide) (hcd : (x == ("__classdict__" : Str)) = false := by decide)
    (hg : Gl X "isinstance" := by rfl) (hgy : Gl X y := by rfl) (hny : y ≠ "__name__" := by decide) (hdy : (y == ("__debug__" : Str)) = false := by decide)
    (h1 : starEach [.Name x p1, .Name y p2] X.env = (false, eval (.Name x p1) X.env) :: starEach [.Name y p2] X.env := by rfl) (h2 : starEach [.Name y p2] X.env = (false, eval (.Name y p2) X.env) :: starEach [] X.env := by rfl)
    (hpl : (backTo pos (starEach [.Name y p2] X.env)).any (·.1) = false := by rfl) : PE X (.Call (.Name "isinstance" p) [.Name x p1, .Name y p2] [] pos) (te X.K W (eRaw i a b)) :=
  pe_imp (pe_callB (call_isP hp C hz hf) hg hm (by decide +kernel) (pa_cons (pe_var hi hv hd hcd) (pa_cons (pe_bltn (v := .ty T) hgy hy hb rfl hny hdy) pa_nil h2) h1) (by decide) (by decide) h1 hpl) fun σ H Q ⟨Hk0, H0, Hk, ρ, r, p⟩ => by
    unfold eRaw at p
    split at p
    · rename_i a' ha
      split at p
      · rename_i e
        subst e
        exact ⟨_, r.raw i _ ha, .ty T, .type T, b, rfl, fun u ru => ru, hk, p _ Hk H (Gr.refl r.kh) trivial (Rp.bl b)⟩
      · exact p.elim
    · exact p.elim
end
/-- a thing without parameters that raises cls when it is called -/
structure Rz (P : Program) (w : World) (mg : Str → Option Value) (base : Heap) (j : Nat) (f : Addr) (cls : Str) (Hk : Hp) : Prop where
  fn : ∃ oc od fd sl, Hk f = some (ObjO f ⟨oc, od, .func fd, sl⟩)
  run : Raises P w mg base j f cls Hk
theorem Rz.up {P : Program} {w : World} {mg : Str → Option Value} {base : Heap} {j : Nat} {f : Addr} {cls : Str} {Hk Hk' : Hp} (e : Ex Hk Hk') (h : Rz P w mg base j f cls Hk) : Rz P w mg base j f cls Hk' := ⟨let ⟨a, b, c, d, q⟩ := h.fn; ⟨a, b, c, d, e _ _ q⟩, h.run.up e⟩
def tAct (P : Program) (w : World) (mg : Str → Option Value) (base : Heap) (j i : Nat) (W : WX) : TE := fun σ H _ => ∃ f cls Hk, σ[i]? = some (some (.ref f)) ∧ (Ex Hk H ∧ TabK Hk H) ∧ Rz P w mg base j f cls Hk ∧ ∀ Hk2 H2, Gr Hk H Hk2 H2 → W (.ref (He.ga KK.K cls)) none σ H2
theorem pe_actR {X : Cx} [ok : OK X] {W : WX} {a : Str} {j : Nat} {p1 p2 : Pos} (i : Nat) (tk : Takes X W) (hr : Room j X.A) (hN : X.N[i]? = some a) (hv : Vis X.env.scope a) (hd : (a == ("__debug__" : Str)) = false := by decide) (hcd : (a == ("__classdict__" : Str)) = false := by decide) :
    PE X (.Call (.Name a p1) [] [] p2) (tAct X.prog X.w X.mg X.base j i W) := by
  refine ⟨fun pins s σ H Q I h => ?_⟩
  obtain ⟨f, cls, Hk, hs, ⟨ex, tb⟩, rz, hW⟩ := h
  refine wpAny_Call_Name_kw (thn ((pe_var (pos := p1) (i := i) hN hv hd hcd).run pins s σ H (fun v H1 => v = .ref f ∧ H1 = H) I ⟨.ref f, hs, rfl, rfl⟩) fun u s1 ⟨v, H1, I1, r1, q1⟩ => ?_)
  obtain ⟨ev, eH⟩ := q1
  subst ev
  rw [eH] at I1
  obtain rfl : u = Value.ref f := r1
  obtain ⟨oc, od, fd, sl, hfn⟩ := rz.fn
  refine PySem.W.callWith_F0 ⟨oc, od, fd, sl, objO_at I1.hok (ex _ _ hfn)⟩ ?_
  have e0 : Env0 X.prog X.w KK.K X.mg X.base X.A X.stack s1 H := by
    have := I1.env0
    rwa [ok.eq] at this
  have rc := rz.run X.A X.stack s1 Hk H (fun cls d H' => W cls d σ H') (Ex.refl _) ex tb e0 hr fun Hk2 H2 g => hW Hk2 H2 g
  refine wpAny_call (codeAny_mono rc fun r s' hq => ?_)
  cases r with
  | error e => exact passAt tk σ pins H s1 e s' I1 hq
  | ok fl =>
    cases fl with
    | ret u =>
      obtain ⟨_, _, _, _, _, _, _, z⟩ := hq
      exact z.elim
    | next => exact False.elim hq
    | brk => exact False.elim hq
    | cont => exact False.elim hq
/-- what _law_result promises: called with a thing that raises cls it gives res cls -/
def spRes (P : Program) (w : World) (mg : Str → Option Value) (base : Heap) (j : Nat) (cs : List Str) (res : Str → PyData) : Sp := fun vs H Q _ => ∃ f cls Hk, vs = [.ref f] ∧ (Ex Hk H ∧ TabK Hk H) ∧ cls ∈ cs ∧ Rz P w mg base j f cls Hk ∧ ∀ v Hk' H', Gr Hk H Hk' H' → Rp Hk' v (res cls) → Q v H'
section
variable {P : Program} {w : World} {mg : Str → Option Value} {base : Heap} {N : List Str} {name qual a x e : Str} {params : Arguments} {b₀ : Stmt} {suite : List Stmt} {scope : Scope} {f : Addr} {fd : FuncData} {p1 p2 p3 np pos' pos : Pos} {i j k : Nat} {cs : List Str} {res : Str → PyData} {Ψ : Addr → Str → En → R Out}
theorem ok_res (F : FunD KK.K name qual params [.Try [.Return (some (.Call (.Name a p1) [] [] p2)) p3] [.ExceptHandler (some (.Name x np)) (some e) (b₀ :: suite) pos'] [] [] pos] scope [] [] f fd) (S : FnScope N [a] scope) (hj : j ≤ k) (hN0 : N[0]? = some a) (hNi : N[i]? = some e) (hva : Vis scope a) (hle : scope.names.lookup e = some .local)
    (hd : (a == ("__debug__" : Str)) = false) (hcd : (a == ("__classdict__" : Str)) = false)
    (hnm : ∀ (cdv : Value) (A : Around) (outer : List Env) (s : Shared) (H : Hp) (E : XK), Names (cxOf (L2.CX P w) P w KK.K mg base N qual scope f cdv A outer s H E) x (.ref (He.ga KK.K x)))
    (hcs : ∀ c ∈ cs, PySem.W.exmOne KK.K (.ref (He.ga KK.K c)) (.ref (He.ga KK.K x)) = some true) (hΨ : ∀ a c, Ψ a c (rawAt N.length i a) = Ψ 0 c (rawAt N.length i 0)) (hres : ∀ c ∈ cs, Ψ 0 c (rawAt N.length i 0) = .ok (.rt (.val (res c))))
    (hsu : ∀ (cdv : Value) (A : Around) (outer : List Env) (s : Shared) (H : Hp) (E : XK) (a : Addr) (oe : Obj) (c : Str) (pn : List (Addr × Obj)), Room k (A.deeper (envOfC qual scope s.heap.objs.size f cdv)) → c ∈ cs → Zc (.ref (He.ga KK.K c)) none oe → (∃ vs, oe.data = .fields vs) →
      PSs ((cxOf (L2.CX P w) P w KK.K mg base N qual scope f cdv A outer s H E).suite a ((a, oe) :: pn)) (b₀ :: suite) (ts KK.K (fun _ _ _ _ => False) (Ψ a c))) :
    FnOk P w KK.K mg base (L2.CX P w) (k + 1) f fd [a] (spRes P w mg base j cs res) := by
  refine F.ok S (fun vs H Q E h => ?_) fun cdv A outer s H vs Q E hr h => ?_
  · obtain ⟨g, cls, Hk, rfl, _⟩ := h
    rfl
  · obtain ⟨g, cls, Hk, rfl, ⟨ex, tb⟩, hcl, rz, q⟩ := h
    refine ⟨_, pss_one (ps_try_as (X := cxOf (L2.CX P w) P w KK.K mg base N qual scope f cdv A outer s H E) (i := i) rfl rfl S.nd hNi hle (hnm cdv A outer s H E) (takes_of rfl rfl rfl rfl) (tb := fun W' => tRet (tAct P w mg base j 0 W'))
      (ts := fun a cls d D σ H => ∃ c, c ∈ cs ∧ cls = .ref (He.ga KK.K c) ∧ d = none ∧ (σ.length = N.length → Py.ts KK.K (fun _ _ _ _ => False) (Ψ a c) D σ H)) (Wout := fun cls d _ H => E cls d H)
      (fun W pn xe tk _ => pss_one (ps_ret (pe_actR (X := (cxOf (L2.CX P w) P w KK.K mg base N qual scope f cdv A outer s H E).tr pn xe) 0 tk (hr.mono hj) hN0 hva hd hcd)))
      (fun a oe cls d pn hz hfv => ⟨fun pins s1 σ H1 D I ⟨c, hc, e1, e2, t⟩ => by subst e1 e2; exact (hsu cdv A outer s H E a oe c pn hr hc hz hfv).run pins s1 σ H1 D I (t I.len)⟩)), ?_⟩
    refine ⟨g, cls, Hk, ?_, ⟨ex, tb⟩, rz, fun Hk2 H2 gr => ⟨true, hcs cls hcl, fun _ a _ => ⟨cls, hcl, rfl, rfl, fun hl => ?_⟩, fun z => nomatch z⟩⟩
    · rfl
    · refine ⟨Hk, H, Hk2, rawAt N.length i a, rel_raw gr tb hl fun hlt => ?_, ?_⟩
      · rw [get_set, if_pos rfl, if_pos (by rw [List.length_set] at hl; omega)]
      · rw [hΨ a cls, hres cls hcl]
        exact fun v Hk' H' g2 n dn => q v Hk' H' g2 dn
end
end Py
namespace Py
open PySem L2 PyProof.Rows PySem.Spec
open Evl (Ex)
variable [KK]
section
variable {X : Cx} [ok : OK X] {rn cv nm cln : Str} {p1 p2 p3 p4 p5 p6 p7 p8 p10 p11 p12 : Pos} {fr : Addr} {fdr : FuncData} {psr : List Str} {j kr k jj kk : Nat} {cs : List Str} {own : List (Str × Nat)} {cscope : Scope} {elt tgt : Expr}
abbrev errT (cls : Str) : PyData := .tuple [.str "error", .str cls]
def tElt (P : Program) (w : World) (mg : Str → Option Value) (base : Heap) (j : Nat) (cs : List Str) : TE := fun σ H Q => ∃ f cls Hk, σ[2]? = some (some (.ref f)) ∧ σ[1]? = some (some (.str cls)) ∧ (Ex Hk H ∧ TabK Hk H) ∧ cls ∈ cs ∧ Rz P w mg base j f cls Hk ∧ ∀ Hk' H', Gr Hk H Hk' H' → Q (.bl true) H'
theorem pe_eltR (FR : FnOk X.prog X.w X.K X.mg X.base (L2.CX X.prog X.w) kr fr fdr psr (spRes X.prog X.w X.mg X.base j cs errT)) (hr : Room k X.A) (hkr : kr ≤ k) (hm : X.mg rn = some (.ref fr)) (hk : PySem.W.keepIn X.K (.ref fr) = true) (hb : Binds X.K fdr psr [])
    (hN2 : X.N[2]? = some cv := by rfl) (hN1 : X.N[1]? = some nm := by rfl) (hv2 : Vis X.env.scope cv := by first | exact Or.inl rfl | exact Or.inr (Or.inl rfl) | exact Or.inr (Or.inr rfl)) (hv1 : Vis X.env.scope nm := by first | exact Or.inl rfl | exact Or.inr (Or.inl rfl) | exact Or.inr (Or.inr rfl))
    (hd2 : (cv == ("__debug__" : Str)) = false := by decide) (hcd2 : (cv == ("__classdict__" : Str)) = false := by decide) (hd1 : (nm == ("__debug__" : Str)) = false := by decide) (hcd1 : (nm == ("__classdict__" : Str)) = false := by decide)
    (hg : Gl X rn := by rfl) (hdb : (rn == ("__debug__" : Str)) = false := by decide) (he : starEach [.Name cv p3] X.env = (false, eval (.Name cv p3) X.env) :: starEach [] X.env := by rfl) (hpl : (backTo p4 (starEach [] X.env)).any (·.1) = false := by rfl)
    (h1 : starEach [.Constant (.str "error") jj p5, .Name nm p6] X.env = (false, eval (.Constant (.str "error") jj p5) X.env) :: starEach [.Name nm p6] X.env := by rfl) (h2 : starEach [.Name nm p6] X.env = (false, eval (.Name nm p6) X.env) :: starEach [] X.env := by rfl) (hmk : behindInMarks .Eq (.Tuple [.Constant (.str "error") jj p5, .Name nm p6] kk p7) = false := by first | exact nomark _ | rfl) :
    PE X (.Compare (.Call (.Name rn p2) [.Name cv p3] [] p4) [.Eq] [.Tuple [.Constant (.str "error") jj p5, .Name nm p6] kk p7] p8) (tElt X.prog X.w X.mg X.base j cs) := by
  refine pe_imp (pe_cmpR (o_eq (W := W0) hr) (pe_callS (E := fun _ _ _ _ => False) FR (hr.mono hkr) hg hm hk hb (fun σ => passAt takes0 σ) (pa_cons (pe_var hN2 hv2 hd2 hcd2) pa_nil he) hdb he hpl) (pe_tup (pa_cons pe_str (pa_cons (pe_var hN1 hv1 hd1 hcd1) pa_nil h2) h1)) hmk) fun σ H Q h => ?_
  obtain ⟨f, cls, Hk, s2, s1, ⟨ex, tb⟩, hcl, rz, q⟩ := h
  refine ⟨_, s2, f, cls, Hk, rfl, ⟨ex, tb⟩, hcl, rz, fun v Hk1 H1 g1 rv => ?_⟩
  refine ⟨_, s1, (show 2 ≤ sizeLine by decide), fun t ht => ?_⟩
  have g2 := g1.trans (Gr.new (o := .tup [.str "error", .str cls]) g1.kh ht)
  refine ⟨_, [], .val (errT cls), .val (errT cls), g2.kh, Rp.up (Ex.new (Evl.fresh_back g1.kh ht)) rv, .tup (.inl upd_same) (.cons (.str _) (.cons (.str _) .nil)), ?_⟩
  have e1 : gB cEq (.val (errT cls)) (.val (errT cls)) = .ok (.val (.bool true)) := by
    have q1 : PyData.eqv (errT cls) (errT cls) = true := by
      simp [PyData.eqv, PyData.eqvAll]
    have q2 : PyData.depth (errT cls) = 1 := rfl
    show (cEq (.val (errT cls)) (.val (errT cls)) >>= _) = _
    have : cEq (.val (errT cls)) (.val (errT cls)) = .ok true := by
      show (if min (PyData.depth (errT cls)) (PyData.depth (errT cls)) ≤ 60 then R.ok (PyData.eqv (errT cls) (errT cls)) else .bad) = _
      rw [q1, q2]
      rfl
    rw [this]
    rfl
  rw [e1]
  intro v2 Hk2 H2 g3 _ d
  cases (show Rp Hk2 v2 (.bool true) from d)
  exact q _ _ (g2.trans g3)
def tAllR (P : Program) (w : World) (mg : Str → Option Value) (base : Heap) (j : Nat) (cs : List Str) : TE := fun σ H Q => ∃ (l : Addr) (fs : List Addr) (cls : Str) (Hk : Hp), σ[0]? = some (some (.ref l)) ∧ σ[1]? = some (some (.str cls)) ∧ Hk l = some (.lst (fs.map V.ref)) ∧ fs.length ≤ 1000 ∧ (Ex Hk H ∧ TabK Hk H) ∧ cls ∈ cs ∧ (∀ f ∈ fs, Rz P w mg base j f cls Hk) ∧ (2 < σ.length) ∧ ∀ Hk' H', Gr Hk H Hk' H' → Q (.bl true) H'
theorem pe_allR (hc : X.calm = true) (hN : X.N.Nodup) (bok : BlkOk X.N X.env.scope cscope own) (ho : own.map (·.2) = [2]) (hmA : X.mg "all" = none) (hgA : Gl X "all") (hN0 : X.N[0]? = some cln) (hv0 : Vis X.env.scope cln) (hd0 : (cln == ("__debug__" : Str)) = false) (hcd0 : (cln == ("__classdict__" : Str)) = false)
    (hg : ∀ (s : Shared) (H : Hp) (C : Addr) (cl : List (Str × Addr)) (fp : List Addr), PG (X.blk s H cscope (compEnvC cscope cl C X.env) fp) tgt (gName 2))
    (he : ∀ (s : Shared) (H : Hp) (C : Addr) (cl : List (Str × Addr)) (fp : List Addr), PE (X.blk s H cscope (compEnvC cscope cl C X.env) fp) elt (tElt X.prog X.w X.mg X.base j cs))
    (hst : starEach [.ListComp elt [⟨tgt, .Name cln p10, [], 0⟩] cscope p11] X.env = (false, eval (.ListComp elt [⟨tgt, .Name cln p10, [], 0⟩] cscope p11) X.env) :: starEach [] X.env) (hpl : (backTo p12 (starEach [] X.env)).any (·.1) = false) :
    PE X (.Call (.Name "all" p1) [.ListComp elt [⟨tgt, .Name cln p10, [], 0⟩] cscope p11] [] p12) (tAllR X.prog X.w X.mg X.base j cs) := by
  refine pe_imp (pe_callB (c_all (W := W0) hc) hgA hmA (by decide +kernel) (pa_cons (pe_lc hc hN (pi_list (pe_var hN0 hv0 hd0 hcd0)) bok hg (fun _ _ _ _ _ => pts_nil) he (fun _ => rfl)) pa_nil hst) (by decide) (by decide) hst hpl) fun σ H Q h => ?_
  obtain ⟨l, fs, cls, Hk, s0, s1, hl, hlen, ⟨ex, tb⟩, hcl, rz, hz, q⟩ := h
  rw [ho]
  have sq : ∀ Hk' H', Gr Hk H Hk' H' → SqL X.K H' l (fs.map V.ref) := fun Hk' H' g => .inl (.inl (g.h.l (ex _ _ hl)))
  refine ⟨_, s0, l, rfl, ⟨_, sq Hk H (Gr.refl ex)⟩, fun D hD => ?_⟩
  refine ⟨fun i m Hc => m = fs.length - i ∧ i ≤ fs.length ∧ ∃ Hk2, Gr Hk H Hk2 Hc ∧ Hk2 D = none ∧ Hc D = some (.lst (List.replicate i (.bl true))), ⟨fs.length, by simp, Nat.zero_le _, Hk, Gr.own ex hD, Evl.fresh_back ex hD, upd_same⟩, ?_⟩
  rintro i m Hc ⟨rfl, hi, Hk2, g2, kD, cD⟩
  have lH : Hc l = some (.lst (fs.map V.ref)) := g2.h.l (ex _ _ hl)
  by_cases hlt : i < fs.length
  · refine .inr ⟨⟨_, _, sq _ _ g2, by rw [List.getElem?_map, List.getElem?_eq_getElem hlt]; rfl⟩, fun H' => i + 1 ≤ fs.length ∧ ∃ Hk2, Gr Hk H Hk2 H' ∧ Hk2 D = none ∧ H' D = some (.lst (List.replicate (i + 1) (.bl true))), fun H' n => ⟨fs.length - (i + 1), by omega, rfl, n.1, n.2⟩, fun x H' y => ?_⟩
    obtain ⟨rfl, y⟩ := y
    have yx := y _ (sq _ _ g2)
    rw [List.getElem?_map, List.getElem?_eq_getElem hlt] at yx
    have yx : some (V.ref fs[i]) = some x := yx
    cases yx
    have ws : (wipe σ [2]).length = σ.length := by simp [wipe]
    have w1 : (wipe σ [2])[1]? = σ[1]? := by rw [wipe_get]; simp
    refine ⟨by
      apply List.ext_getElem?
      intro z
      rw [wipe_get, wipe_get]
      by_cases hz2 : z = 2
      · subst hz2
        simp [ws]
      · simp [hz2]
        rw [List.getElem?_set_ne (by omega), wipe_get]
        simp [hz2], ?_⟩
    refine ⟨fs[i], cls, Hk2, by rw [List.getElem?_set_self (by rw [ws]; exact hz)], by rw [List.getElem?_set_ne (by decide), w1]; exact s1, ⟨g2.kh, tb.up g2⟩, hcl, (rz _ (List.getElem_mem hlt)).up g2.k, fun Hk3 H3 g3 => ?_⟩
    have cD3 := g3.h.l cD
    have kD3 : Hk3 D = none := g3.fr D (by rw [cD]; exact fun z => nomatch z) kD
    have G := g2.trans g3
    refine ⟨_, cD3, by rw [List.length_replicate]; exact Nat.lt_of_lt_of_le hlt (Nat.le_trans hlen (by decide)), hlt, Hk3, ⟨G.k, G.h.mutL hD cD3, fun a u z => by rw [upd_ne (ne_of_none z kD3)]; exact G.kh a u z, G.fr⟩, kD3, by rw [upd_same, List.replicate_succ']⟩
  · have e3 : i = fs.length := by omega
    subst e3
    refine .inl ⟨⟨_, sq _ _ g2, by rw [List.length_map]; exact Nat.le_refl _⟩, ?_⟩
    refine ⟨Hk2, [], [.own (List.replicate fs.length (.bool true))], g2.kh, .cons ⟨D, _, rfl, kD, cD, ?_⟩ .nil, ?_⟩
    · have : ∀ n, RpAll Hk2 (List.replicate n (.bl true)) (List.replicate n (.bool true)) := fun n => by
        induction n with
        | zero => exact .nil
        | succ n ih => exact .cons (.bl true) ih
      exact this _
    · have e1 : gAll [.own (List.replicate fs.length (.bool true))] = .ok (.val (.bool true)) := by
        have e : List.replicate fs.length (PyData.bool true) = (List.replicate fs.length true).map PyData.bool := by rw [List.map_replicate]
        unfold gAll
        show (match asBools (List.replicate fs.length (PyData.bool true)) with | some bs => R.ok (Rv.val (.bool (bs.all id))) | none => .bad) = _
        rw [e, asBools_map]
        show R.ok (Rv.val (.bool ((List.replicate fs.length true).all id))) = _
        congr 3
        simp
      rw [e1]
      intro v2 Hk3 H3 g3 _ d
      cases (show Rp Hk3 v2 (.bool true) from d)
      exact q _ _ (g2.trans g3)
end
end Py

set_option Elab.async false
set_option linter.all false
set_option maxRecDepth 100000
set_option autoImplicit false
set_option maxHeartbeats 4000000
/-! PyI3: a lambda made and tracked. -/
namespace Py
open PySem L2 PyProof.Rows PySem.Spec
open Evl (Ex)
variable [KK]
abbrev lamOb (X : Cx) (params : Arguments) (body : Expr) (scope : Scope) (pm : Value) (c : Addr) (ct : Value) : Obj := PySem.W.kla_obj "<lambda>" (X.env.qual ++ "<lambda>") params body scope (cloFrom X.env.cells scope.names []) pm c ct
section
variable {X : Cx} {pins : List (Addr × Obj)} {σ : Sl} {H : Hp} {s : Shared} {T : List (Addr × Str)} {c P : Addr} {params : Arguments} {body : Expr} {scope : Scope} {pos : Pos} {E : Value → Shared → Prop} {Q : Value → Shared → Prop}
/-- what is true behind a lambda's making -/
structure Made (X : Cx) (T : List (Addr × Str)) (params : Arguments) (body : Expr) (scope : Scope) (H : Hp) (f : Addr) (H1 : Hp) : Prop where
  st : ∀ b o, H b = some o → (∀ ps, o ≠ .tbl ps) → H1 b = some o
  tb : ∀ b ps, H b = some (.tbl ps) → ∃ qs, H1 b = some (.tbl qs)
  keep : ∀ b o, H b = some o → (∀ p ∈ T, p.1 ≠ b) → H1 b = some o
  tabs : LamX.Tabs T H1
  new : H f = none
  ob : ∃ c pm ct, H1 f = some (ObjO f (lamOb X params body scope pm c ct)) ∧ H1 c = some (LamX.CodeO c (X.env.qual ++ "<lambda>")) ∧ c ≠ f
theorem lam_makeO (I : Inv X pins σ H s) (TB : LamX.TabB X.base X.mg c P) (hcode : X.env.code = .ref c) (hm : (P, X.env.qual ++ "<lambda>") ∈ T) (hu : ∀ p ∈ T, p.1 = P → p.2 = X.env.qual ++ "<lambda>") (hT : LamX.Tabs T H) (hdef : defaultsOf params X.env = ([], [])) (hfree : ∀ y ∈ scope.names, y.2 = .free → ∃ c, X.env.cells.lookup y.1 = some c)
    (h : ∀ (f : Addr) (H1 : Hp) (s' : Shared), Inv X pins σ H1 s' → Made X T params body scope H f H1 → Q (.ref f) s') : wpAny (model X.prog X.w) X.A (eval (.Lambda params body scope pos) X.env) Q E s := by
  obtain ⟨ps, hP, ht, ha⟩ := hT _ hm
  have tP : s.heap.get? P = some { cls := .none, data := .fields ps } := I.hok P _ hP
  refine PySem.W.kla_eval hdef ?_
  cases hc : codeAmong pos ps.toList with
  | some cv =>
    obtain ⟨d, ed, hd⟩ := ha pos cv hc
    subst ed
    refine PySem.W.kla_makeFunctionHit (mg := X.mg) (c := c) (P := P) (ps := ps) (closure_ok hfree) I.ok.glob (I.mod.glob.keeps I.bk) hcode (TB.code.keeps I.bk) tP ht hc (TB.bm.keeps I.bk) fun ctv g tk hx hsz => ?_
    have J : Inv X pins σ H { s with heap := g, toks := tk } := I.kept hx
    have nf : H g.objs.size = none := J.hok.fresh (Nat.le_refl _)
    have J2 := J.laid (t' := tk) (a := g.objs.size) (o := ObjO g.objs.size (lamOb X params body scope ((X.mg "__name__").getD .none) d ctv)) (h' := g.push (lamOb X params body scope ((X.mg "__name__").getD .none) d ctv)) (fun b o e => Heap.get?_push_of_some _ e) (Nat.le_refl _) (objO_ok (Heap.get?_push_size _ rfl))
    have nd : d ≠ g.objs.size := ne_of_none hd nf
    exact h _ _ _ J2 ⟨fun b o e _ => by rw [upd_ne (ne_of_none e nf)]; exact e, fun b qs e => ⟨qs, by rw [upd_ne (ne_of_none e nf)]; exact e⟩, fun b o e _ => by rw [upd_ne (ne_of_none e nf)]; exact e, hT.ext fun b o e => by rw [upd_ne (ne_of_none e nf)]; exact e, nf, d, _, ctv, upd_same, by rw [upd_ne nd]; exact hd, nd⟩
  | none =>
    refine PySem.W.kla_makeFunction (mg := X.mg) (c := c) (P := P) (ps := ps) (closure_ok hfree) I.ok.glob (I.mod.glob.keeps I.bk) hcode (TB.code.keeps I.bk) tP ht hc TB.gP (TB.bm.keeps I.bk) fun d ctv g tk hx hge hlt hrec htb => ?_
    obtain ⟨d2, oc, vs, t, e2, hoc, hd, hv⟩ := hrec
    cases e2
    have nd : H d = none := I.hok.fresh hge
    have J := LamX.inv_table (t' := tk) (more := #[rawInt pos.line, rawInt pos.col, .ref d]) (h' := g) I hP hx htb hge ⟨oc, vs, t, hoc, hd, hv⟩
    have nf : upd (upd H P (.tbl (ps ++ #[rawInt pos.line, rawInt pos.col, .ref d]))) d (LamX.CodeO d (X.env.qual ++ "<lambda>")) g.objs.size = none := J.hok.fresh (Nat.le_refl _)
    have J2 := J.laid (t' := tk) (a := g.objs.size) (o := ObjO g.objs.size (lamOb X params body scope ((X.mg "__name__").getD .none) d ctv)) (h' := g.push (lamOb X params body scope ((X.mg "__name__").getD .none) d ctv)) (fun b o e => Heap.get?_push_of_some _ e) (Nat.le_refl _) (objO_ok (Heap.get?_push_size _ rfl))
    have nPd : P ≠ d := ne_of_none hP nd
    have ndf : d ≠ g.objs.size := ne_of_none (o := LamX.CodeO d (X.env.qual ++ "<lambda>")) upd_same nf
    have nPf : P ≠ g.objs.size := ne_of_none (o := .tbl (ps ++ #[rawInt pos.line, rawInt pos.col, .ref d])) (by rw [upd_ne nPd, upd_same]) nf
    have fH : H g.objs.size = none := by rw [upd_ne ndf.symm, upd_ne nPf.symm] at nf; exact nf
    have st : ∀ b o, H b = some o → (∀ ps, o ≠ .tbl ps) → upd (upd (upd H P (.tbl (ps ++ #[rawInt pos.line, rawInt pos.col, .ref d]))) d (LamX.CodeO d (X.env.qual ++ "<lambda>"))) g.objs.size (ObjO g.objs.size (lamOb X params body scope ((X.mg "__name__").getD .none) d ctv)) b = some o := fun b o e n => by
      rw [upd_ne (ne_of_none e fH), upd_ne (ne_of_none e nd), upd_ne (fun z => n ps (Option.some.inj (e.symm.trans (by rw [z]; exact hP))))]; exact e
    have eL : (ps ++ #[rawInt pos.line, rawInt pos.col, .ref d]).toList = ps.toList ++ [rawInt pos.line, rawInt pos.col, .ref d] := by simp
    refine h _ _ _ J2 ⟨st, fun b qs e => ?_, fun b o e n => by rw [upd_ne (ne_of_none e fH), upd_ne (ne_of_none e nd), upd_ne (Ne.symm (n _ hm))]; exact e, fun p hp => ?_, fH, d, _, ctv, upd_same, by rw [upd_ne ndf, upd_same], ndf⟩
    · by_cases z : b = P
      · subst z; exact ⟨_, by rw [upd_ne nPf, upd_ne nPd, upd_same]⟩
      · exact ⟨qs, by rw [upd_ne (ne_of_none e fH), upd_ne (ne_of_none e nd), upd_ne z]; exact e⟩
    · by_cases z : p.1 = P
      · rw [hu p hp z, z]
        refine ⟨_, by rw [upd_ne nPf, upd_ne nPd, upd_same], by rw [eL]; exact PySem.TriplesOk_snoc _ _ _ _ ht, fun p' cv q => ?_⟩
        rw [eL] at q
        rcases LamX.among_app _ ht q with y | y
        · obtain ⟨c0, y1, y2⟩ := ha p' cv y; exact ⟨c0, y1, st _ _ y2 LamX.codeO_ne⟩
        · exact ⟨d, y, by rw [upd_ne ndf, upd_same]⟩
      · obtain ⟨qs, a1, a2, a3⟩ := hT p hp
        refine ⟨qs, by rw [upd_ne (ne_of_none a1 fH), upd_ne (ne_of_none a1 nd), upd_ne z]; exact a1, a2, fun p' cv q => ?_⟩
        obtain ⟨c0, y1, y2⟩ := a3 p' cv q; exact ⟨c0, y1, st _ _ y2 LamX.codeO_ne⟩
end
end Py

set_option Elab.async false
set_option linter.all false
set_option maxRecDepth 100000
set_option autoImplicit false
set_option maxHeartbeats 4000000
/-! PyI4: x([lambda: ..], "c"). -/
namespace Py
open PySem L2 PyProof.Rows PySem.Spec
open Evl (Ex)
variable [KK]
def spAll (P : Program) (w : World) (mg : Str → Option Value) (base : Heap) (j : Nat) (cs : List Str) : Sp := fun vs H Q _ => ∃ (l : Addr) (fs : List Addr) (cls : Str) (Hk : Hp), vs = [.ref l, .str cls] ∧ Hk l = some (.lst (fs.map V.ref)) ∧ fs.length ≤ 1000 ∧ (Ex Hk H ∧ TabK Hk H) ∧ cls ∈ cs ∧ (∀ f ∈ fs, Rz P w mg base j f cls Hk) ∧ ∀ Hk' H', Gr Hk H Hk' H' → Q (.bl true) H'
theorem ok_allF {P : Program} {w : World} {mg : Str → Option Value} {base : Heap} {N : List Str} {name qual a b : Str} {params : Arguments} {e : Expr} {scope : Scope} {f : Addr} {fd : FuncData} {pos : Pos} {j k : Nat} {cs : List Str} (F : FunD KK.K name qual params [.Return (some e) pos] scope [] [] f fd) (S : FnScope N [a, b] scope) (hN : 2 < N.length)
    (hb : ∀ (cdv : Value) (A : Around) (outer : List Env) (s : Shared) (H : Hp) (E : XK), Room k (A.deeper (envOfC qual scope s.heap.objs.size f cdv)) → PE (cxOf (L2.CX P w) P w KK.K mg base N qual scope f cdv A outer s H E) e (tAllR P w mg base j cs)) :
    FnOk P w KK.K mg base (L2.CX P w) (k + 1) f fd [a, b] (spAll P w mg base j cs) := by
  refine F.ok S (fun vs H Q E h => ?_) fun cdv A outer s H vs Q E hr h => ?_
  · obtain ⟨l, fs, cls, Hk, rfl, _⟩ := h
    rfl
  · obtain ⟨l, fs, cls, Hk, rfl, h1, h2, h3, h4, h5, q⟩ := h
    refine ⟨_, pss_one (ps_ret (hb cdv A outer s H E hr)), ?_⟩
    exact ⟨l, fs, cls, Hk, rfl, rfl, h1, h2, h3, h4, h5, by unfold L2.start; rw [List.length_append, List.length_map, List.length_replicate]; simp; omega, q⟩
/-- the captured slots that hold data -/
def capE (caps : List Nat) (ρ : En) : En := (List.range ρ.length).map fun i => if i ∈ caps then (match ρ[i]? with
  | some (some (.val d)) => some (.val d)
  | _ => none) else none
theorem capE_len (caps : List Nat) (ρ : En) : (capE caps ρ).length = ρ.length := by simp [capE]
theorem capE_get {caps : List Nat} {ρ : En} {i : Nat} {c : Cl} (h : (capE caps ρ)[i]? = some (some c)) : ∃ d, c = .val d ∧ ρ[i]? = some (some (.val d)) := by
  unfold capE at h
  rw [List.getElem?_map] at h
  by_cases hi : i < ρ.length
  · rw [List.getElem?_range hi] at h
    simp only [Option.map_some, Option.some.injEq] at h
    split at h
    · split at h
      · rename_i d e
        cases h
        exact ⟨d, rfl, e⟩
      · cases h
    · cases h
  · rw [List.getElem?_eq_none (by simp; omega)] at h
    cases h
def eAllL (caps : List Nat) (φ : En → R Rv) (cls : Str) : En → R Rv := fun ρ => match φ (capE caps ρ) with
  | .err c => if c = cls then .ok (.val (.bool true)) else .bad
  | _ => .bad
theorem lk_mem {c : Addr} {o : Obj} : ∀ {B : Bk}, B.lookup c = some o → (c, o) ∈ B
  | [], h => by cases h
  | (d, u) :: r, h => by
    rw [List.lookup_cons] at h
    split at h
    · rename_i e
      cases h
      rw [show c = d from by simpa using e]
      exact List.mem_cons_self
    · exact List.mem_cons_of_mem _ (lk_mem h)
/-- the cells' objects -/
def cellsB (cl : List (Str × Addr)) (h : Heap) : Bk := cl.filterMap fun p => (h.get? p.2).map fun o => (p.2, o)
theorem cellsB_of {cl : List (Str × Addr)} {h : Heap} {c : Addr} {o : Obj} (e : (cellsB cl h).lookup c = some o) : h.get? c = some o ∧ ∃ y, (y, c) ∈ cl := by
  have m : (c, o) ∈ cellsB cl h := lk_mem e
  unfold cellsB at m
  obtain ⟨p, hp, e⟩ := List.mem_filterMap.mp m
  cases q : h.get? p.2 with
  | none => rw [q] at e; cases e
  | some u =>
    rw [q] at e
    have e2 : (p.2, u) = (c, o) := Option.some.inj e
    injection e2 with e3 e4
    subst e3 e4
    exact ⟨q, p.1, hp⟩
theorem cellsB_has {cl : List (Str × Addr)} {h : Heap} {y : Str} {c : Addr} {o : Obj} (m : (y, c) ∈ cl) (e : h.get? c = some o) : (cellsB cl h).lookup c = some o := by
  have mm : (c, o) ∈ cellsB cl h := List.mem_filterMap.mpr ⟨(y, c), m, by rw [e]; rfl⟩
  cases q : (cellsB cl h).lookup c with
  | none =>
    have := List.lookup_eq_none_iff.mp q (c, o) mm
    simp at this
  | some u =>
    have := (cellsB_of q).1
    rw [e] at this
    rw [Option.some.inj this]
theorem pe_lamO {X : Cx} {T : List (Addr × Str)} {c P : Addr} {params : Arguments} {body : Expr} {scope : Scope} {pos : Pos} (TB : LamX.TabB X.base X.mg c P) (hcode : X.env.code = .ref c) (hm : (P, X.env.qual ++ "<lambda>") ∈ T) (hu : ∀ p ∈ T, p.1 = P → p.2 = X.env.qual ++ "<lambda>") (hdef : defaultsOf params X.env = ([], [])) (L : LamX.LamS X.env.scope scope) :
    PE X (.Lambda params body scope pos) (fun σ H Q => LamX.Tabs T H ∧ ∀ f H1, Made X T params body scope H f H1 → Q (.ref f) H1) :=
  ⟨fun pins s σ H Q I ⟨hT, h⟩ => lam_makeO I TB hcode hm hu hT hdef (L.has I.ok) fun f H1 s' I1 M => ⟨.ref f, H1, I1, rfl, h f H1 M⟩⟩
section
variable {X : Cx} [ok : OK X] {W : WX} {an cls : Str} {fa c P : Addr} {fda : FuncData} {psa : List Str} {ka kk k jj : Nat} {cs : List Str} {params : Arguments} {body : Expr} {scope : Scope} {p lpos lp p3 pos : Pos} {caps : List Nat} {φ : En → R Rv}
theorem d_lamall (FA : FnOk X.prog X.w X.K X.mg X.base (L2.CX X.prog X.w) ka fa fda psa (spAll X.prog X.w X.mg X.base (k + 1) cs)) (hr : Room kk X.A) (hka : ka ≤ kk) (hm : X.mg an = some (.ref fa)) (hk : PySem.W.keepIn X.K (.ref fa) = true) (hb : Binds X.K fda psa []) (hfn : ∀ y, X.fn y = true)
    (TB : LamX.TabB X.base X.mg c P) (hcode : X.env.code = .ref c) (hmT : (P, X.env.qual ++ "<lambda>") ∈ KK.T) (hu : ∀ p ∈ KK.T, p.1 = P → p.2 = X.env.qual ++ "<lambda>") (L : LamX.LamS X.env.scope scope) (hdef : defaultsOf params X.env = ([], []))
    (hbind : ∀ pm c ctv, bindArgs (PySem.W.kla_fn "<lambda>" (X.env.qual ++ "<lambda>") params body scope (cloFrom X.env.cells scope.names []) pm (.ref c) ctv) ⟨[], []⟩ = pure []) (hcl : cls ∈ cs)
    (hbody : ∀ (A : Around) (outer : List Env) (s : Shared) (H : Hp) (E : XK) (f c : Addr), Room k (A.deeper (lamE (X.env.qual ++ "<lambda>") scope (cloFrom X.env.cells scope.names []) s.heap.objs.size f c)) → PE (lamC X.prog X.w KK.K X.mg X.base X.N (X.env.qual ++ "<lambda>") scope (cloFrom X.env.cells scope.names []) A outer s H E f c) body (te KK.K (fun cls d _ H => E cls d H) φ))
    (hg : Gl X an := by rfl) (hdb : (an == ("__debug__" : Str)) = false := by decide) (he : starEach [.List [.Lambda params body scope lpos] lp, .Constant (.str cls) jj p3] X.env = (false, eval (.List [.Lambda params body scope lpos] lp) X.env) :: starEach [.Constant (.str cls) jj p3] X.env := by rfl) (hpl : (backTo pos (starEach [.Constant (.str cls) jj p3] X.env)).any (·.1) = false := by rfl)
    (hl1 : starEach [.Lambda params body scope lpos] X.env = (false, eval (.Lambda params body scope lpos) X.env) :: starEach [] X.env := by rfl) (h2 : starEach [.Constant (.str cls) jj p3] X.env = (false, eval (.Constant (.str cls) jj p3) X.env) :: starEach [] X.env := by rfl) :
    PE X (.Call (.Name an p) [.List [.Lambda params body scope lpos] lp, .Constant (.str cls) jj p3] [] pos) (te X.K W (eAllL caps φ cls)) := by
  refine ⟨fun pins s σ H Q I h => ?_⟩
  obtain ⟨Hk0, H0, Hk, ρ, r, q⟩ := h
  have hq : φ (capE caps ρ) = .err cls ∧ PostE X.K W Hk H σ Q (.ok (.val (.bool true))) := by
    unfold eAllL at q
    split at q
    · rename_i c' e
      split at q
      · rename_i e2
        subst e2
        exact ⟨e, q⟩
      · exact q.elim
    · exact q.elim
  obtain ⟨hφ, q⟩ := hq
  have PAr := pa_cons (X := X) (pe_lst (pos := lp) (pa_cons (pe_lamO (body := body) (pos := lpos) TB hcode hmT hu hdef L) pa_nil hl1)) (pa_cons (pe_str (X := X) (j := jj) (pos := p3)) pa_nil h2) he
  refine wpAny_Call_Name_kw (ld_glob I hg hm ?_ hdb)
  refine PySem.W.callWith_K (h₀ := X.base) I.ok.mod.kin hk (thn (PAr.run pos pins s σ H (fun vs H2 => ∃ f l H1, vs = [.ref l, .str cls] ∧ Made X KK.T params body scope H f H1 ∧ H1 l = none ∧ H2 = upd H1 l (.lst [.ref f])) I
    ⟨r.tab.1, fun f H1 M => ⟨(show 1 ≤ sizeLine by decide), fun l hl => ⟨f, l, H1, rfl, M, hl, rfl⟩⟩⟩) fun us s2 ⟨vs, H2, I2, rv, f, l, H1, e1, M, hl, e2⟩ => ⟨I2.kIn, ?_⟩) he hpl
  subst e1 e2
  have hfree := L.has I2.ok
  have cm : ∀ {y : Str} {d : Addr}, (y, d) ∈ cloFrom X.env.cells scope.names [] → X.env.cells.lookup y = some d := fun {y d} m => by
    rcases cloFrom_mem m with hm | ⟨h1, h2⟩
    · cases hm
    · obtain ⟨c1, hc⟩ := hfree _ h1 rfl
      have hc : X.env.cells.lookup y = some c1 := hc
      rw [h2, hc] <;> first | rfl | exact hc
  generalize hB : cellsB (cloFrom X.env.cells scope.names []) s2.heap = B
  have bO : ∀ b o, B.lookup b = some o → s2.heap.get? b = some o ∧ ∃ y, X.env.cells.lookup y = some b := fun b o z => by
    rw [← hB] at z
    obtain ⟨h1, y, hy⟩ := cellsB_of z
    exact ⟨h1, y, cm hy⟩
  have LO : LendOk B (upd H1 l (.lst [.ref f])) s2.heap (frs X.stack) X.base := by
    have ge : ∀ b o, B.lookup b = some o → X.s_0.heap.objs.size ≤ b := fun b o z => by
      obtain ⟨_, y, hy⟩ := bO b o z
      exact I2.ok.cab y b (hfn y) hy
    refine ⟨fun b o z => (bO b o z).1, fun b o z => ?_, fun b o z hm => ?_, fun b o z => ?_⟩
    · obtain ⟨_, y, hy⟩ := bO b o z
      exact I2.freeC y b hy
    · obtain ⟨_, y, hy⟩ := bO b o z
      rcases List.mem_cons.mp (I2.stkSub b hm) with e | e
      · exact I2.cne y b hy e
      · obtain ⟨_, o', ho', _⟩ := I2.ok.funs.mem e
        exact absurd (Nat.lt_of_lt_of_le (Heap.lt_size ho') (ge b o z)) (Nat.lt_irrefl _)
    · exact Heap.get?_none_of_le (Nat.le_trans I2.ok.bsz (ge b o z))
  obtain ⟨d, pm, ct, hf1, hd1, ndf⟩ := M.ob
  have nfl : f ≠ l := ne_of_none hf1 hl
  have ndl : d ≠ l := ne_of_none hd1 hl
  have nP : ∀ b u, Hk b = some u → ∀ p ∈ KK.T, p.1 ≠ b := fun b u e p hp z => by
    have := r.tab.2 p hp
    rw [z, e] at this
    cases this
  have kf : Hk f = none := Evl.fresh_back r.kh M.new
  have kl : Hk l = none := by
    cases z : Hk l with
    | none => rfl
    | some u =>
      have := M.keep l u (r.kh _ _ z) (nP l u z)
      rw [hl] at this
      cases this
  generalize hK1 : upd (upd (upd Hk f (ObjO f (lamOb X params body scope pm d ct))) d (LamX.CodeO d (X.env.qual ++ "<lambda>"))) l (.lst [.ref f]) = Hk1
  have x1 : Ex Hk1 (upd H1 l (.lst [.ref f])) := fun b u e => by
    rw [← hK1] at e
    by_cases z1 : b = l
    · subst z1; rw [upd_same] at e ⊢; exact e
    · rw [upd_ne z1] at e ⊢
      by_cases z2 : b = d
      · subst z2; rw [upd_same] at e; rw [hd1]; exact e
      · rw [upd_ne z2] at e
        by_cases z3 : b = f
        · subst z3; rw [upd_same] at e; rw [hf1]; exact e
        · rw [upd_ne z3] at e; exact M.keep b u (r.kh _ _ e) (nP b u e)
  have x0 : Ex Hk Hk1 := fun b u e => by
    rw [← hK1, upd_ne (ne_of_none e kl)]
    by_cases z2 : b = d
    · subst z2
      have := M.keep b u (r.kh _ _ e) (nP b u e)
      rw [hd1] at this
      rw [upd_same]; exact this
    · rw [upd_ne z2, upd_ne (ne_of_none e kf)]; exact e
  have lk0 : ∀ b u, upd H1 l (.lst [.ref f]) b = some u → B.lookup b = none := fun b u e => by
    cases z : B.lookup b with
    | none => rfl
    | some o => rw [LO.free b o z] at e; cases e
  have lk1 : ∀ b u, Hk1 b = some u → B.lookup b = none := fun b u e => lk0 b u (x1 _ _ e)
  have xl : Ex (lentH B Hk1) (lentH B (upd H1 l (.lst [.ref f]))) := fun b u e => by
    cases z : B.lookup b with
    | some o => rw [lent_in z] at e ⊢; exact e
    | none => rw [lent_out z] at e ⊢; exact x1 _ _ e
  have xkl : Ex Hk1 (lentH B Hk1) := fun b u e => by rw [lent_out (lk1 b u e)]; exact e
  have t1 : LamX.Tabs KK.T (upd H1 l (.lst [.ref f])) := M.tabs.ext fun b o e => by rw [upd_ne (ne_of_none e hl)]; exact e
  have tT : LamX.Tabs KK.T (lentH B (upd H1 l (.lst [.ref f]))) := t1.ext fun b o e => by rw [lent_out (lk0 b o e)]; exact e
  have tabL : TabK (lentH B Hk1) (lentH B (upd H1 l (.lst [.ref f]))) := ⟨tT, fun z hz => by
    obtain ⟨ps, h1, _⟩ := M.tabs z hz
    have n1 : z.1 ≠ l := ne_of_none h1 hl
    have n2 : z.1 ≠ d := fun w => by rw [w, hd1] at h1; exact LamX.codeO_ne ps (Option.some.inj h1)
    have n3 : z.1 ≠ f := fun w => by rw [w, hf1] at h1; exact objO_nt ps (Option.some.inj h1)
    rw [lent_out (lk0 z.1 (.tbl ps) (by rw [upd_ne n1]; exact h1)), ← hK1, upd_ne n1, upd_ne n2, upd_ne n3]
    exact r.tab.2 z hz⟩
  have fK : Hk1 f = some (ObjO f (lamOb X params body scope pm d ct)) := by rw [← hK1, upd_ne nfl, upd_ne ndf.symm, upd_same]
  have dK : Hk1 d = some (LamX.CodeO d (X.env.qual ++ "<lambda>")) := by rw [← hK1, upd_ne ndl, upd_same]
  have clk : ∀ {y : Str} {c : Addr}, (cloFrom X.env.cells scope.names []).lookup y = some c → X.env.cells.lookup y = some c := fun {y c} e => cm (PySem.mem_of_lookup e)
  have has : ∀ {y : Str}, scope.names.lookup y = some .free → ∃ c, (cloFrom X.env.cells scope.names []).lookup y = some c := fun {y} hy => mem_lookup (cloFrom_has (cells := X.env.cells) (acc := []) (PySem.mem_of_lookup hy))
  have rz : Rz X.prog X.w X.mg X.base (k + 1) f cls (lentH B Hk1) := by
    refine ⟨⟨_, _, _, _, xkl _ _ fK⟩, lam_raises (B := B) (Hko := Hk) (σ := σ) (N := X.N) (ρ := capE caps ρ) (φ := φ) (pm := pm) (ctv := ct) (c := d) (params := params) (body := body) ⟨L.kind, L.co, L.gen, L.own⟩ (fun b o z => ⟨lent_in z, ?_⟩) (xkl _ _ fK) (xkl _ _ dK) (fun y c e => ?_) (fun y z c e1 e2 => I2.ok.inj y z c (clk e1) (clk e2)) (fun y hy => has hy) (fun i y v e1 e2 e3 => ?_) (x0.trans xkl) (fun b o z => ?_) I2.len (by rw [capE_len]; exact r.len) (fun i d' e => ?_) (fun i c e => ?_) hφ (hbind pm d ct) hbody⟩
    · obtain ⟨g1, y, hy⟩ := bO b o z
      obtain ⟨v, o', g2, hv⟩ := I2.cell y b hy
      rw [g1] at g2
      cases g2
      exact ⟨v, hv⟩
    · obtain ⟨v, o, g, hv⟩ := I2.cell y c (clk e)
      exact ⟨o, by rw [← hB]; exact cellsB_has (PySem.mem_of_lookup e) g⟩
    · obtain ⟨m, hn, hlo⟩ := I2.loc
      have hk' := L.free _ (PySem.mem_of_lookup e3) rfl
      obtain ⟨u, ru, lo⟩ := hlo i y v e1 e2 (hk'.elim (fun w => .inr (.inl w)) fun w => .inr (.inr w))
      rcases lo with ⟨k1, _⟩ | ⟨_, c1, ec, o, g, hv⟩
      · have k1 : X.env.scope.names.lookup y = some .local := k1
        rcases hk' with w | w <;> rw [show X.env.scope.names.lookup y = _ from w] at k1 <;> cases k1
      · obtain ⟨c2, hc2⟩ := has e3
        have e4 := clk hc2
        rw [ec] at e4
        cases e4
        exact ⟨c1, o, u, hc2, by rw [← hB]; exact cellsB_has (PySem.mem_of_lookup hc2) g, hv, ru⟩
    · cases w : Hk b with
      | none => rfl
      | some u => rw [lk1 b u (x0 _ _ w)] at z; cases z
    · obtain ⟨d2, e1, e2⟩ := capE_get e
      cases e1
      exact r.val i _ e2
    · obtain ⟨d2, e1, _⟩ := capE_get e
      exact ⟨d2, e1⟩
  have lK : lentH B Hk1 l = some (.lst ([f].map V.ref)) := xkl _ _ (by rw [← hK1, upd_same]; rfl)
  have hln : us.length = psa.length := by
    have := FA.len [V.ref l, V.str cls] (lentH B (upd H1 l (.lst [.ref f]))) (fun _ _ => True) (fun _ _ _ => False) ⟨l, [f], cls, _, rfl, lK, by simp, ⟨xl, tabL⟩, hcl, fun g hg => by cases List.mem_singleton.mp hg; exact rz, fun _ _ _ => trivial⟩
    rw [← rv.length]; exact this
  have bi := hb s2 us I2.kIn (by rw [List.append_nil]; exact hln)
  rw [List.append_nil] at bi
  have rc := FA.run X.A X.stack s2 (lentH B (upd H1 l (.lst [.ref f]))) ⟨us, []⟩ us [.ref l, .str cls] (fun v H' => v = .bl true ∧ ∃ Hk', Gr (lentH B Hk1) (lentH B (upd H1 l (.lst [.ref f]))) Hk' H') (fun _ _ _ => False) (hr.mono hka) (env0_lent I2.env0 LO) bi rv ⟨l, [f], cls, _, rfl, lK, by simp, ⟨xl, tabL⟩, hcl, fun g hg => by cases List.mem_singleton.mp hg; exact rz, fun Hk' H' g => ⟨rfl, Hk', g⟩⟩
  refine wpAny_call (codeAny_mono rc fun t s3 hq => ?_)
  cases t with
  | error e =>
    obtain ⟨_, _, _, _, _, _, _, _, _, _, _, _, z⟩ := hq
    exact z.elim
  | ok fl =>
    cases fl with
    | next => exact False.elim hq
    | brk => exact False.elim hq
    | cont => exact False.elim hq
    | ret u =>
      refine I2.after (ce_unlend LO hq fun v H' hok ⟨ev, Hk', g⟩ => ?_)
      subst ev
      have kB : ∀ b o, B.lookup b = some o → H' b = some (ObjO b o) := fun b o z => g.h.st b _ (lent_in z) fun ps => objO_nt ps
      refine ⟨kB, ?_⟩
      have cd : ∀ (b : Addr) (q' : Str), H' b = some (LamX.CodeO b q') → B.lookup b = none := fun b q' e => by
        cases z : B.lookup b with
        | none => rfl
        | some o =>
          obtain ⟨⟨oc, vs, t, g1, g2, _⟩, _, _⟩ := hok b _ e
          obtain ⟨g3, y, hy⟩ := bO b o z
          obtain ⟨w', o', g4, hv⟩ := I2.cell y b hy
          rw [g3] at g4
          cases g4
          rw [objO_at hok (kB b _ z)] at g1
          cases g1
          rw [hv] at g2
          cases g2
      have td : ∀ (b : Addr) ps, H' b = some (.tbl ps) → B.lookup b = none := fun b ps e => by
        cases z : B.lookup b with
        | none => rfl
        | some o => rw [kB b o z] at e; exact absurd (Option.some.inj e) (objO_nt ps)
      have up1 : ∀ b u, H1 b = some u → B.lookup b = none := fun b u e => lk0 b u (by rw [upd_ne (ne_of_none e hl)]; exact e)
      have fin : Gr Hk H Hk (hideH B H') := by
        refine ⟨Ex.refl _, ⟨fun b u e n => ?_, fun b ps e => ?_, fun _ => ?_⟩, fun b u e => ?_, fun _ _ z => z⟩
        · have e1 := M.st b u e n
          have z := up1 b u e1
          rw [hide_out z]
          exact g.h.st b u (by rw [lent_out z, upd_ne (ne_of_none e1 hl)]; exact e1) n
        · obtain ⟨qs, e1⟩ := M.tb b ps e
          have z := up1 b _ e1
          rw [hide_out z]
          exact g.h.tb b qs (by rw [lent_out z, upd_ne (ne_of_none e1 hl)]; exact e1)
        · have t2 := g.h.tabs tT
          intro z hz
          obtain ⟨ps, a1, a2, a3⟩ := t2 z hz
          refine ⟨ps, by rw [hide_out (td _ _ a1)]; exact a1, a2, fun pos cv hcv => ?_⟩
          obtain ⟨d3, ed, hd3⟩ := a3 pos cv hcv
          exact ⟨d3, ed, by rw [hide_out (cd _ _ hd3)]; exact hd3⟩
        · have e1 := x0 _ _ e
          have z := lk1 b u e1
          rw [hide_out z]
          exact g.kh _ _ (g.k _ _ (xkl _ _ e1))
      exact q _ Hk _ fin trivial (Rp.bl true)
end
end Py

set_option Elab.async false
set_option linter.all false
set_option maxRecDepth 100000
set_option autoImplicit false
set_option maxHeartbeats 4000000
/-! PyI5: rules for a def that runs while an error is handled. -/
namespace Py
open PySem L2 PyProof.Rows
open PySem.SeqAt (ne_plain)
open Evl (Ex)
variable [KK]
section
variable {X : Cx} [ok : OK X] {W : WX} {o e : Expr} {φ ψ : En → R Rv}
theorem o_neU (hu : X.A.units + 64 < cLine) : OpR X (compareOp .NotEq) (rD X.K W (gB cNe)) := by
  intro pins s σ' H x y v u Q I rx ry h
  obtain ⟨Hk, σ, a, b, e, da, db, p⟩ := h
  obtain ⟨as, ra⟩ := den_reads I e da rx
  obtain ⟨bs, rb⟩ := den_reads I e db ry
  unfold gB cNe at p
  split at p
  · rename_i h1
    exact ne_plain ra rb (den_plain e da) (den_plain e db) (by omega) (PostB I e p)
  · exact p.elim
theorem mt_countU (hu : X.A.units + 64 < cLine) : MtM X "list.count" (rM X.K W gCount) := by
  intro pins s σ' H x vs v us Q I rx rv h
  obtain ⟨Hk, σ, a, ds, b, y, ex, da, hd, rfl, db, p⟩ := h
  obtain ⟨u, rfl, ru⟩ := rv.one
  obtain ⟨l, xs, rfl, s1, r1⟩ := da.kList ex hd
  cases rx
  obtain ⟨_, its, n, rz, _, g⟩ := rd_list I s1
  obtain ⟨as, ra⟩ := readsAll_of I ex r1 rz
  obtain ⟨bs, rb⟩ := den_reads I ex db ru
  unfold gCount at p
  split at p
  · rename_i hdp
    exact SeqAt.count_list_data ⟨_, g, rfl, n, rfl⟩ ra rb (RpAll.plain r1) (den_plain ex db) (by omega) ⟨.int _, H, I.tok _, ⟨_, rfl⟩, p _ Hk H (Gr.refl ex) trivial (Rp.int _)⟩
  · exact p.elim
theorem d_countU {ap cp : Pos} (hu : X.A.units + 64 < cLine) (ho : PE X o (te X.K W φ)) (he : PE X e (te X.K W ψ)) (hbase : attributeBase o "count" X.env (eval o X.env) = eval o X.env := by rfl)
    (hfew : ((backTo cp (starEach [e] X.env)).all (fun x => !x.1) && (backToKw cp (keywordEach [] X.env)).all (fun x => x.1.isSome) && decide ([e].length + ([] : List Keyword).length + (if ([] : List Keyword).isEmpty then 0 else 1) < 30)) = true := by rfl)
    (hline : (ap.endLine == cp.line) = true := by rfl) (hs : starEach [e] X.env = (false, eval e X.env) :: starEach [] X.env := by rfl) : PE X (.Call (.Attribute o "count" ap) [e] [] cp) (te X.K W (eM gCount φ ψ)) :=
  d_meth (mt_countU hu) PySem.F.slot_list_count PySem.F.type_list_count ho he hbase hfew hline hs
theorem unitsH {k : Nat} {A : Around} (r : L2H.RoomH k A) : A.units + 64 < cLine := by have := r.un; omega
end
end Py

set_option Elab.async false
set_option linter.all false
set_option maxRecDepth 100000
set_option autoImplicit false
set_option maxHeartbeats 4000000
/-! PyI6: the three defs by their names. -/
namespace Py
open PySem L2 PyProof.Rows
open Evl (Ex)
variable [KK]
def FRes (P : Program) (w : World) (mg : Str → Option Value) (base : Heap) (k : Nat) (x : Str) (j : Nat) (cs : List Str) : Prop :=
  ∃ (f : Addr) (fd : FuncData) (ps : List Str), mg x = some (.ref f) ∧ PySem.W.keepIn KK.K (.ref f) = true ∧ Binds KK.K fd ps [] ∧ FnOk P w KK.K mg base (L2.CX P w) k f fd ps (spRes P w mg base j cs errT)
def FAll (P : Program) (w : World) (mg : Str → Option Value) (base : Heap) (k : Nat) (x : Str) (j : Nat) (cs : List Str) : Prop :=
  ∃ (f : Addr) (fd : FuncData) (ps : List Str), mg x = some (.ref f) ∧ PySem.W.keepIn KK.K (.ref f) = true ∧ Binds KK.K fd ps [] ∧ FnOk P w KK.K mg base (L2.CX P w) k f fd ps (spAll P w mg base j cs)
section
variable {X : Cx} [ok : OK X] {W : WX} {rn cv nm : Str} {p2 p3 p4 p5 p6 p7 p8 : Pos} {j kr k jj kk : Nat} {cs : List Str}
theorem d_eltR (FR : FRes X.prog X.w X.mg X.base kr rn j cs) (hr : Room k X.A) (hkr : kr ≤ k)
    (hN2 : X.N[2]? = some cv := by rfl) (hN1 : X.N[1]? = some nm := by rfl) (hv2 : Vis X.env.scope cv := by first | exact Or.inl rfl | exact Or.inr (Or.inl rfl) | exact Or.inr (Or.inr rfl)) (hv1 : Vis X.env.scope nm := by first | exact Or.inl rfl | exact Or.inr (Or.inl rfl) | exact Or.inr (Or.inr rfl))
    (hd2 : (cv == ("__debug__" : Str)) = false := by decide) (hcd2 : (cv == ("__classdict__" : Str)) = false := by decide) (hd1 : (nm == ("__debug__" : Str)) = false := by decide) (hcd1 : (nm == ("__classdict__" : Str)) = false := by decide)
    (hg : Gl X rn := by rfl) (hdb : (rn == ("__debug__" : Str)) = false := by decide) (he : starEach [.Name cv p3] X.env = (false, eval (.Name cv p3) X.env) :: starEach [] X.env := by rfl) (hpl : (backTo p4 (starEach [] X.env)).any (·.1) = false := by rfl)
    (h1 : starEach [.Constant (.str "error") jj p5, .Name nm p6] X.env = (false, eval (.Constant (.str "error") jj p5) X.env) :: starEach [.Name nm p6] X.env := by rfl) (h2 : starEach [.Name nm p6] X.env = (false, eval (.Name nm p6) X.env) :: starEach [] X.env := by rfl) (hmk : behindInMarks .Eq (.Tuple [.Constant (.str "error") jj p5, .Name nm p6] kk p7) = false := by first | exact nomark _ | rfl) :
    PE X (.Compare (.Call (.Name rn p2) [.Name cv p3] [] p4) [.Eq] [.Tuple [.Constant (.str "error") jj p5, .Name nm p6] kk p7] p8) (tElt X.prog X.w X.mg X.base j cs) := by
  obtain ⟨f, fd, ps, hm, hk, hb, F⟩ := FR
  rw [← ok.eq] at hk hb F
  exact pe_eltR F hr hkr hm hk hb hN2 hN1 hv2 hv1 hd2 hcd2 hd1 hcd1 hg hdb he hpl h1 h2 hmk
end
end Py

set_option Elab.async false
set_option linter.all false
set_option maxRecDepth 100000
set_option autoImplicit false
set_option maxHeartbeats 4000000
/-! PyX2: a law's end, with tables of code objects. -/
namespace Py
open PySem L2 PyProof.Rows
open Evl (Ex)
theorem walk_pyT {l : PySem.W.OpenLaw} {n k : Nat} {q : Program} {loose : List Str} {XP : (Str → Option Value) → Heap → Prop} {YP : World → Heap → Prop} {d : DefRec} {x : Str} {G : List PyData → R Cr}
    (hn : l.most = some n) (hn2 : n ≤ sizeLine) (hdf : d.params.defaults = []) (hr : Room k callerA)
    (F : ∀ (w : World) (mg : Str → Option Value) (fa : Addr) (h : Heap), YP w h → h.Ns mainGlobals mg → mg d.name = some (.ref fa) →
      ∃ (K : PySem.W.Frag) (fd : FuncData) (cs : List (Addr × Addr × Str)), K.In h ∧ (∀ p ∈ cs, h.get? p.2.1 = some { cls := .none, data := .fields #[] }) ∧ (∀ p ∈ cs, K.lookup p.2.1 = none) ∧ (∀ p ∈ cs, PySem.W.CodeHd h p.1 p.2.1) ∧ (∀ (s : Shared) (u : Value), BindsTo s fd ⟨[u], []⟩ [(x, u)]) ∧
        ∀ base : Heap, K.In base → base.Ns mainGlobals mg → (∀ p ∈ cs, LamX.TabB base mg p.1 p.2.1) → FnOk l.prog w K mg base (L2.CX l.prog w) k fa fd [x] (@spF ⟨K, cs.map (·.2)⟩ K 1 G))
    (hG : ∀ ns : List Int, ns.length ≤ n → G [.list (ns.map PyData.int)] = .ok (.val (.bool true))) :
    PySem.W.WalkO q loose XP YP l.row.toRowW d [] (fun f vs => PySem.call f vs) := by
  refine Att.attach_call hn hdf fun w s₀ s₁ mg mb fa o pm cd doc a vs ns Gd Y ho hd hcd hmg hobj hints hlen hg => ?_
  obtain ⟨K, fd, cs, KX, hT, nT, C, hb, hF⟩ := F w mg fa _ Y Gd.T.g hmg
  letI : KK := ⟨K, cs.map (·.2)⟩
  have rv := vals_ints hints
  have mem2 : ∀ {p : Addr × Addr}, p ∈ cs.map (fun p => (p.1, p.2.1)) → ∃ z ∈ cs, p = (z.1, z.2.1) := fun {p} hp => by
    obtain ⟨z, hz, e⟩ := List.mem_map.mp hp
    exact ⟨z, hz, e.symm⟩
  refine LamX.law_callTs (cs := cs.map fun p => (p.1, p.2.1)) KX Gd.T.g Gd.T.b Gd.T.builtins Gd.T.nolimit hg (fun p hp => by obtain ⟨z, hz, rfl⟩ := mem2 hp; exact hT z hz) (fun p hp => by obtain ⟨z, hz, rfl⟩ := mem2 hp; exact nT z hz) (fun p hp => by obtain ⟨z, hz, rfl⟩ := mem2 hp; exact C z hz) Gd.T.bmain hobj hints (Nat.le_trans hlen hn2) hr
    (fun base h1 h2 h3 => hF base h1 h2 fun p hp => h3 (p.1, p.2.1) (List.mem_map.mpr ⟨p, hp, rfl⟩)) hb (fun H hH hS => ?_) fun H e s' h => ?_
  · have tP : ∀ z ∈ cs, H z.2.1 = some (.tbl #[]) := fun z hz => hH (z.1, z.2.1) (List.mem_map.mpr ⟨z, hz, rfl⟩)
    have na : ∀ z ∈ cs, ∀ u, H a = some u → (∀ ps, u ≠ .tbl ps) → z.2.1 ≠ a := fun z hz u hu n e => by
      have := tP z hz
      rw [e, hu] at this
      exact n _ (Option.some.inj this)
    classical
    let Hk : Hp := fun b => if (∃ z ∈ cs, z.2.1 = b) then none else H b
    have out : ∀ b, ¬ (∃ z ∈ cs, z.2.1 = b) → Hk b = H b := fun b h => if_neg h
    have rl : Rl Hk a (ns.map V.int) := by
      rcases hS with hS | ⟨ob, its, m, hk, _⟩
      · rcases hS with hS | ⟨ob, hS⟩
        · exact .inl (.inl (by rw [out a fun ⟨z, hz, e⟩ => na z hz _ hS (fun _ w => nomatch w) e]; exact hS))
        · exact .inl (.inr ⟨ob, by rw [out a fun ⟨z, hz, e⟩ => na z hz _ hS (fun _ w => nomatch w) e]; exact hS⟩)
      · have e := KX a ob hk
        rw [hobj] at e
        cases e
        exact .inr ⟨vs, _, hk, by rw [← rv.length, List.length_map]; exact Nat.le_trans hlen hn2, rv⟩
    have ex : Ex Hk H := fun b u e => by
      by_cases h : ∃ z ∈ cs, z.2.1 = b
      · have : Hk b = none := if_pos h
        rw [this] at e
        cases e
      · rw [out b h] at e
        exact e
    refine ⟨Hk, [.list (ns.map PyData.int)], ⟨ex, fun p hp => ?_, fun p hp => ?_⟩, .cons (.lst rl (RpAll.ofInts ns)) .nil, rfl, ?_⟩
    · obtain ⟨z, hz, e⟩ := List.mem_map.mp (show p ∈ cs.map (·.2) from hp)
      subst e
      exact LamX.TabS.nil (tP z hz)
    · obtain ⟨z, hz, e⟩ := List.mem_map.mp (show p ∈ cs.map (·.2) from hp)
      subst e
      exact if_pos ⟨z, hz, rfl⟩
    · rw [hG ns hlen]
      intro v Hk' H' _ _ dn
      cases (show Rp Hk' v (.bool true) from dn)
      rfl
  · obtain ⟨_, _, _, _, _, _, _, _, _, _, _, _, z⟩ := h
    exact z.elim
section
variable [KK] {P : Program} {w : World} {mg : Str → Option Value} {base : Heap} {x qual : Str} {params : Arguments} {body : List Stmt} {scope : Scope} {f : Addr} {fd : FuncData} {N ps : List Str} {k : Nat} {Φ : En → R Out}
/-- a def keeps its promise, its code object told -/
theorem fn_okP {p : He.Defn} (F : FunD KK.K x qual params body scope [] [] (He.fAd KK.K p) fd) (S : FnScope N ps scope)
    (hbody : ∀ (A : Around) (outer : List Env) (s : Shared) (H : Hp) (E : XK), Room k (A.deeper (PyProof.Rows.envOfC qual scope s.heap.objs.size (He.fAd KK.K p) (.ref (He.codeOf KK.K p)))) →
      PSs (cxOf (L2.CX P w) P w KK.K mg base N qual scope (He.fAd KK.K p) (.ref (He.codeOf KK.K p)) A outer s H E) body (ts KK.K (fun cls d _ H => E cls d H) Φ)) :
    FnOk P w KK.K mg base (L2.CX P w) (k + 1) (He.fAd KK.K p) fd ps (spF KK.K ps.length (fnR N.length Φ)) := by
  obtain ⟨oc, od, dV, kV, doc, pm, an, cdv, ct, osl, rfl, lk, hcd, _, _⟩ := F.ex
  have ec : cdv = .ref (He.codeOf KK.K p) := by
    obtain ⟨c, hc⟩ := He.codeIn_ref hcd
    rw [He.codeOf_eq lk (c := c) hc]
    exact hc
  subst ec
  refine fn_of lk hcd S (fun vs H Q E h => ?_) fun A outer s H vs Q E hr h => ⟨_, hbody A outer s H E hr, ?_⟩
  · obtain ⟨Hk, ds, _, r, l, _⟩ := h
    rw [RpAll.length r, l]
  · obtain ⟨Hk, ds, ⟨e, t⟩, r, l, q⟩ := h
    refine ⟨Hk, H, Hk, st0 N.length ds, rel_start e t r, ?_⟩
    unfold fnR at q
    cases e1 : Φ (st0 N.length ds) with
    | err c => rw [e1] at q; exact fun σ' Hk' H' g => q Hk' H' g
    | bad => rw [e1] at q; exact q
    | ok o =>
      rw [e1] at q
      cases o with
      | nx ρ => exact fun σ' Hk' H' e' r' => q .non Hk' H' r'.gr trivial Rp.non
      | rt r => exact q
      | bk ρ => exact q.elim
      | ct ρ => exact q.elim
theorem fokP {p : He.Defn} {nm y : Str} {n : Nat} (hm : mg y = some (.ref (He.fAd KK.K p))) (F : FunD KK.K nm qual params body scope [] [] (He.fAd KK.K p) fd) (S : FnScope N ps scope) (hn : ps.length = n)
    (hb : ∀ (kV doc pm : Value) (an : Option Addr) (cdv ct : Value) (us : List Value), us.length = ps.length → bindArgs (PySem.W.fnOf nm qual params body scope .none kV doc pm an cdv ct) ⟨us, []⟩ = pure (ps.zip us))
    (hbody : ∀ (A : Around) (outer : List Env) (s : Shared) (H : Hp) (E : XK), Room k (A.deeper (PyProof.Rows.envOfC qual scope s.heap.objs.size (He.fAd KK.K p) (.ref (He.codeOf KK.K p)))) →
      PSs (cxOf (L2.CX P w) P w KK.K mg base N qual scope (He.fAd KK.K p) (.ref (He.codeOf KK.K p)) A outer s H E) body (ts KK.K (fun cls d _ H => E cls d H) Φ)) :
    FOk KK.K P w mg base (k + 1) y n (fnR N.length Φ) := ⟨_, fd, ps, hm, F.kp, F.bindsN hb, by rw [← hn]; exact fn_okP F S hbody⟩
end
/-- the tables of the defs that make lambdas -/
def TbOk [KK] (tf : List (He.Defn × Str)) (mg : Str → Option Value) (base : Heap) : Prop :=
  KK.T = tf.map (fun p => ((He.cT KK.K p.1).2, p.2)) ∧ (∀ p ∈ tf, LamX.TabB base mg (He.cT KK.K p.1).1 (He.cT KK.K p.1).2) ∧ ∀ p ∈ tf, ∀ q ∈ tf, (He.cT KK.K p.1).2 = (He.cT KK.K q.1).2 → p = q
def exL (tf : List He.Defn) (xf : List XF) (K : PySem.W.Frag) : Bool := (xf.all fun f => f.ok K) && decide ((tf.map fun p => (He.cT K p).2).Nodup)
theorem tb_of {tf : List (He.Defn × Str)} {xf : List XF} {K : PySem.W.Frag} (h : exL (tf.map (·.1)) xf K = true) {p q : He.Defn × Str} (hp : p ∈ tf) (hq : q ∈ tf) (e : (He.cT K p.1).2 = (He.cT K q.1).2) : p = q := by
  have h2 := of_decide_eq_true (He.ba h).2
  rw [List.map_map] at h2
  obtain ⟨i, hi, ei⟩ := List.mem_iff_getElem.mp hp
  obtain ⟨j, hj, ej⟩ := List.mem_iff_getElem.mp hq
  have z := (List.getElem_inj (h₀ := by simpa using hi) (h₁ := by simpa using hj) h2).mp (by simp only [List.getElem_map, Function.comp_apply]; rw [ei, ej]; exact e)
  subst z
  exact ei.symm.trans ej
/-- the end's facts -/
theorem end_tab {tf : List (He.Defn × Str)} {fa : List He.Fa} {fn : List He.DefD} {xf : List XF} {w : World} {h : Heap} {K : PySem.W.Frag} (KX : K.In h) (c : He.SaysX fa fn [] (tf.map (·.1)) (exL (tf.map (·.1)) xf) w h K) :
    (∀ p ∈ tf.map (fun p => ((He.cT K p.1).1, (He.cT K p.1).2, p.2)), h.get? p.2.1 = some { cls := .none, data := .fields #[] }) ∧ (∀ p ∈ tf.map (fun p => ((He.cT K p.1).1, (He.cT K p.1).2, p.2)), K.lookup p.2.1 = none) ∧ (∀ p ∈ tf.map (fun p => ((He.cT K p.1).1, (He.cT K p.1).2, p.2)), PySem.W.CodeHd h p.1 p.2.1) ∧
    ∀ (mg : Str → Option Value) (base : Heap), (∀ p ∈ tf.map (fun p => ((He.cT K p.1).1, (He.cT K p.1).2, p.2)), LamX.TabB base mg p.1 p.2.1) → @TbOk ⟨K, (tf.map (fun p => ((He.cT K p.1).1, (He.cT K p.1).2, p.2))).map (·.2)⟩ tf mg base := by
  have mem : ∀ {z : Addr × Addr × Str}, z ∈ tf.map (fun p => ((He.cT K p.1).1, (He.cT K p.1).2, p.2)) → ∃ p ∈ tf, z = ((He.cT K p.1).1, (He.cT K p.1).2, p.2) := fun {z} hz => by
    obtain ⟨p, hp, e⟩ := List.mem_map.mp hz
    exact ⟨p, hp, e.symm⟩
  refine ⟨fun z hz => ?_, fun z hz => ?_, fun z hz => ?_, fun mg base hTB => ⟨?_, fun p hp => hTB _ (List.mem_map.mpr ⟨p, hp, rfl⟩), fun p hp q hq e => tb_of c.more hp hq e⟩⟩
  · obtain ⟨p, hp, rfl⟩ := mem hz
    exact c.empty p.1 (List.mem_map.mpr ⟨p, hp, rfl⟩)
  · obtain ⟨p, hp, rfl⟩ := mem hz
    exact c.out p.1 (List.mem_map.mpr ⟨p, hp, rfl⟩)
  · obtain ⟨p, hp, rfl⟩ := mem hz
    exact PySem.W.codeHd_of_K KX (c.hd p.1 (List.mem_map.mpr ⟨p, hp, rfl⟩))
  · show (tf.map (fun p => ((He.cT K p.1).1, (He.cT K p.1).2, p.2))).map (·.2) = _
    rw [List.map_map]
    rfl
end Py

set_option Elab.async false
set_option linter.all false
set_option maxRecDepth 100000
set_option autoImplicit false
set_option maxHeartbeats 4000000
/-! PyI7: the lambda's call by its def's name. -/
namespace Py
open PySem L2 PyProof.Rows
open Evl (Ex)
variable [KK]
theorem kiv_of {fa : List He.Fa} {fn : List He.DefD} {xf : List XF} {K : PySem.W.Frag} {c : Str} (s : SaysX fa fn xf K) (h : XF.kiv c ∈ xf) : PySem.W.kitOne K (.ref (He.ga K c)) (.type "ValueError") = some true := kiv_ok (s.xf h)
section
variable {X : Cx} [ok : OK X] {W : WX} {an cls q : Str} {ka kk k jj : Nat} {cs : List Str} {params : Arguments} {body : Expr} {scope : Scope} {p lpos lp p3 pos : Pos} {φ : En → R Rv} {tf : List (He.Defn × Str)} {df : He.Defn}
theorem d_lamA (caps : List Nat) (df : He.Defn) (FA : FAll X.prog X.w X.mg X.base ka an (k + 1) cs) (hr : Room kk X.A) (hka : ka ≤ kk) (B : TbOk tf X.mg X.base) (hp : (df, q) ∈ tf) (hq : X.env.qual ++ "<lambda>" = q) (hcode : X.env.code = .ref (He.codeOf KK.K df)) (hfn : ∀ y, X.fn y = true)
    (L : LamX.LamS X.env.scope scope) (hdef : defaultsOf params X.env = ([], []))
    (hbind : ∀ pm c ctv, bindArgs (PySem.W.kla_fn "<lambda>" (X.env.qual ++ "<lambda>") params body scope (cloFrom X.env.cells scope.names []) pm (.ref c) ctv) ⟨[], []⟩ = pure []) (hcl : cls ∈ cs)
    (hbody : ∀ (A : Around) (outer : List Env) (s : Shared) (H : Hp) (E : XK) (f c : Addr), Room k (A.deeper (lamE (X.env.qual ++ "<lambda>") scope (cloFrom X.env.cells scope.names []) s.heap.objs.size f c)) → PE (lamC X.prog X.w KK.K X.mg X.base X.N (X.env.qual ++ "<lambda>") scope (cloFrom X.env.cells scope.names []) A outer s H E f c) body (te KK.K (fun cls d _ H => E cls d H) φ))
    (hg : Gl X an := by rfl) (hdb : (an == ("__debug__" : Str)) = false := by decide) (he : starEach [.List [.Lambda params body scope lpos] lp, .Constant (.str cls) jj p3] X.env = (false, eval (.List [.Lambda params body scope lpos] lp) X.env) :: starEach [.Constant (.str cls) jj p3] X.env := by rfl) (hpl : (backTo pos (starEach [.Constant (.str cls) jj p3] X.env)).any (·.1) = false := by rfl)
    (hl1 : starEach [.Lambda params body scope lpos] X.env = (false, eval (.Lambda params body scope lpos) X.env) :: starEach [] X.env := by rfl) (h2 : starEach [.Constant (.str cls) jj p3] X.env = (false, eval (.Constant (.str cls) jj p3) X.env) :: starEach [] X.env := by rfl) :
    PE X (.Call (.Name an p) [.List [.Lambda params body scope lpos] lp, .Constant (.str cls) jj p3] [] pos) (te X.K W (eAllL caps φ cls)) := by
  obtain ⟨f, fd, ps, hm, hk, hb, F⟩ := FA
  rw [← ok.eq] at hk hb F
  have hmT : ((He.cT KK.K df).2, X.env.qual ++ "<lambda>") ∈ KK.T := by
    rw [hq, B.1]
    exact List.mem_map.mpr ⟨_, hp, rfl⟩
  exact d_lamall (caps := caps) F hr hka hm hk hb hfn (B.2.1 _ hp) hcode hmT (fun z hz e => by
    rw [B.1] at hz
    obtain ⟨y, hy, ey⟩ := List.mem_map.mp hz
    subst ey
    rw [B.2.2 y hy _ hp e, hq]) L hdef hbind hcl hbody hg hdb he hpl hl1 h2
end
end Py

set_option Elab.async false
set_option linter.all false
set_option maxRecDepth 100000
set_option autoImplicit false
set_option maxHeartbeats 4000000
namespace Py
open PySem L2
def lcs : List Str := ["InvalidBorders", "InvalidData", "OutOfBuckets", "TooLarge", "InvalidHistogram", "InvalidValue", "InvalidRank", "InvalidPercent", "EmptyHistogram", "InvalidNumber", "InvalidStatement", "UnequalSizes", "NoCommonData", "NotCoarser", "InvalidStatements"]
def excs : List Str := ["InvalidBorders", "InvalidData", "OutOfBuckets", "TooLarge", "InvalidHistogram", "InvalidValue", "InvalidRank", "InvalidPercent", "EmptyHistogram", "InvalidNumber", "InvalidStatement", "UnequalSizes", "NoCommonData", "NotCoarser", "InvalidStatements"]
def m_is_int : En → R Out := sRet (eAnd (eIsi "int" (eVar 0)) (eAnd (eNot (eIsi "bool" (eVar 0))) (eT (eChain cLe cLe (eVar 1) (eVar 0) (eVar 2)))))
def F_is_int : List PyData → R Cr := fnR 3 m_is_int
def m_are_data : En → R Out := sSeq (sIf (tOr (tNot (tE (eIsi "list" (eVar 0)))) (t2 cGt (eB gLen [eVar 0]) (eK (.int 200)))) (sRet (eK (.bool false))) (sNil))
  (sSeq (sIf (tNot (tE (eB gAll [eLc (iSeq (eVar 0)) (.nm 1) (tYes) (eCall F_is_int [eVar 1, eK (.int 0), eK (.int 999)]) [1]]))) (sRet (eK (.bool false))) (sNil))
  (sRet (eB gAll [eLc (iZ2 (eVar 0) (eSl (eVar 0) (pSo (eK (.int 1))) (pNo))) (.tp [.nm 2, .nm 3]) (tYes) (eT (t2 cLe (eVar 2) (eVar 3))) [2, 3]])))
def F_are_data : List PyData → R Cr := fnR 4 m_are_data
def m_are_borders : En → R Out := sSeq (sIf (tOr (tNot (tE (eIsi "tuple" (eVar 0)))) (tNot (eChain cLe cLe (eK (.int 2)) (eB gLen [eVar 0]) (eK (.int 12))))) (sRet (eK (.bool false))) (sNil))
  (sSeq (sIf (tNot (tE (eB gAll [eLc (iSeq (eVar 0)) (.nm 1) (tYes) (eCall F_is_int [eVar 1, eK (.int 0), eK (.int 1000)]) [1]]))) (sRet (eK (.bool false))) (sNil))
  (sRet (eB gAll [eLc (iZ2 (eVar 0) (eSl (eVar 0) (pSo (eK (.int 1))) (pNo))) (.tp [.nm 2, .nm 3]) (tYes) (eT (t2 cLt (eVar 2) (eVar 3))) [2, 3]])))
def F_are_borders : List PyData → R Cr := fnR 4 m_are_borders
def m_is_histogram : En → R Out := sSeq (sIf (tOr (tNot (tE (eIsi "tuple" (eVar 0)))) (tOr (t2 cNe (eB gLen [eVar 0]) (eK (.int 2))) (tNot (tE (eCall F_are_borders [e2 gIx (eVar 0) (eK (.int 0))]))))) (sRet (eK (.bool false))) (sNil))
  (sSeq (sUnp (.tp [.nm 1, .nm 2]) (eVar 0))
  (sSeq (sIf (tOr (tNot (tE (eIsi "tuple" (eVar 2)))) (t2 cNe (eB gLen [eVar 2]) (e2 gSub (eB gLen [eVar 1]) (eK (.int 1))))) (sRet (eK (.bool false))) (sNil))
  (sRet (eAnd (eB gAll [eLc (iSeq (eVar 2)) (.nm 3) (tYes) (eCall F_is_int [eVar 3, eK (.int 0), eK (.int 60)]) [3]]) (eT (t2 cLe (eB gSum [eVar 2]) (eK (.int 200))))))))
def F_is_histogram : List PyData → R Cr := fnR 4 m_is_histogram
def m_check_histogram : En → R Out := sIf (tNot (tE (eCall F_is_histogram [eVar 0]))) (sRaise "InvalidHistogram") (sNil)
def F_check_histogram : List PyData → R Cr := fnR 1 m_check_histogram
def m_find_bucket : En → R Out := sSeq (sIf (tNot (eChain cLe cLt (e2 gIx (eVar 0) (eK (.int 0))) (eVar 1) (e2 gIx (eVar 0) (eNeg (eK (.int 1)))))) (sRet (eK .none)) (sNil))
  (sRet (e2 gSub (eB gLen [eLc (iSeq (eVar 0)) (.nm 2) (t2 cLe (eVar 2) (eVar 1)) (eVar 2) [2]]) (eK (.int 1))))
def F_find_bucket : List PyData → R Cr := fnR 3 m_find_bucket
def m_count_data : En → R Out := sSeq (sSet 2 (eF (eLc (iSeq (eVar 1)) (.nm 3) (tYes) (eCall F_find_bucket [eVar 0, eVar 3]) [3])))
  (sRet (eB gTuple [eLc (iRg1 (e2 gSub (eB gLen [eVar 0]) (eK (.int 1)))) (.nm 4) (tYes) (eM gCount (eVar 2) (eVar 4)) [4]]))
def F_count_data : List PyData → R Cr := fnR 5 m_count_data
def m_size_of : En → R Out := sRet (eB gSum [e2 gIx (eVar 0) (eK (.int 1))])
def F_size_of : List PyData → R Cr := fnR 1 m_size_of
def m_do_have : En → R Out := sRet (eAnd (eT (t2 cEq (eB gLen [eVar 0]) (eCall F_size_of [eVar 1]))) (eT (t2 cEq (eCall F_count_data [e2 gIx (eVar 1) (eK (.int 0)), eVar 0]) (e2 gIx (eVar 1) (eK (.int 1))))))
def F_do_have : List PyData → R Cr := fnR 2 m_do_have
abbrev b_filled_0 : En → R Out := sExt 2 (e2 gMul (eLst [eVar 3]) (eVar 4))
def m_filled : En → R Out := sSeq (sSet 2 (eLst []))
  (sSeq (sFor (iZ2 (eVar 1) (e2 gIx (eVar 0) (eK (.int 1)))) (.tp [.nm 3, .nm 4]) (b_filled_0))
  (sRet (eVar 2)))
def F_filled : List PyData → R Cr := fnR 5 m_filled
def m_lowest : En → R Out := sRet (eCall F_filled [eVar 0, eSl (e2 gIx (eVar 0) (eK (.int 0))) (pNo) (pSo (eNeg (eK (.int 1))))])
def F_lowest : List PyData → R Cr := fnR 1 m_lowest
def m_highest : En → R Out := sRet (eCall F_filled [eVar 0, eLc (iSeq (eSl (e2 gIx (eVar 0) (eK (.int 0))) (pSo (eK (.int 1))) (pNo))) (.nm 1) (tYes) (e2 gSub (eVar 1) (eK (.int 1))) [1]])
def F_highest : List PyData → R Cr := fnR 2 m_highest
def m_check_rank : En → R Out := sIf (tNot (tE (eCall F_is_int [eVar 1, eK (.int 1), eCall F_size_of [eVar 0]]))) (sRaise "InvalidRank") (sNil)
def F_check_rank : List PyData → R Cr := fnR 2 m_check_rank
def m_find_range : En → R Out := sSeq (sSet 2 (eB gLen [eLc (iSeq (eCall F_highest [eVar 0])) (.nm 3) (t2 cLt (eVar 3) (eVar 1)) (eVar 3) [3]]))
  (sRet (eTup [eVar 2, eB gLen [eLc (iSeq (eCall F_lowest [eVar 0])) (.nm 3) (t2 cLt (eVar 3) (eVar 1)) (eVar 3) [3]]]))
def F_find_range : List PyData → R Cr := fnR 4 m_find_range
def m_check_two : En → R Out := sSeq (sDrop (eCall F_check_histogram [eVar 0]))
  (sDrop (eCall F_check_histogram [eVar 1]))
def F_check_two : List PyData → R Cr := fnR 2 m_check_two
def m_is_conflict : En → R Out := sSeq (sPar 3 4 (eCall F_find_range [eVar 0, eVar 2]) (eCall F_find_range [eVar 1, eVar 2]))
  (sRet (eOr (eT (t2 cLt (e2 gIx (eVar 3) (eK (.int 1))) (e2 gIx (eVar 4) (eK (.int 0))))) (eT (t2 cLt (e2 gIx (eVar 4) (eK (.int 1))) (e2 gIx (eVar 3) (eK (.int 0)))))))
def F_is_conflict : List PyData → R Cr := fnR 5 m_is_conflict
def m_find_conflict : En → R Out := sSeq (sSet 2 (eF (eLc (iRg1 (e2 gAdd (eK (.int 1000)) (eK (.int 1)))) (.nm 3) (tE (eCall F_is_conflict [eVar 0, eVar 1, eVar 3])) (eVar 3) [3])))
  (sRet (eIf (t2 cNe (eVar 2) (eLst [])) (e2 gIx (eVar 2) (eK (.int 0))) (eK .none)))
def F_find_conflict : List PyData → R Cr := fnR 4 m_find_conflict
def m_are_compatible : En → R Out := sSeq (sIf (t2 cNe (eCall F_size_of [eVar 0]) (eCall F_size_of [eVar 1])) (sRet (eK (.bool false))) (sNil))
  (sRet (eNot (eB gAny [eLc (iSeq (e2 gAdd (e2 gIx (eVar 0) (eK (.int 0))) (e2 gIx (eVar 1) (eK (.int 0))))) (.nm 2) (tYes) (eCall F_is_conflict [eVar 0, eVar 1, eVar 2]) [2]])))
def F_are_compatible : List PyData → R Cr := fnR 3 m_are_compatible
def m_can_be_same : En → R Out := sSeq (sDrop (eCall F_check_two [eVar 0, eVar 1]))
  (sRet (eCall F_are_compatible [eVar 0, eVar 1]))
def F_can_be_same : List PyData → R Cr := fnR 2 m_can_be_same
def m_conflict : En → R Out := sSeq (sDrop (eCall F_check_two [eVar 0, eVar 1]))
  (sSeq (sIf (t2 cNe (eCall F_size_of [eVar 0]) (eCall F_size_of [eVar 1])) (sRaise "UnequalSizes") (sNil))
  (sRet (eCall F_find_conflict [eVar 0, eVar 1])))
def F_conflict : List PyData → R Cr := fnR 2 m_conflict
abbrev b_known_ranks_0 : En → R Out := sSeq (sPar 4 5 (eCall F_find_range [eVar 0, eVar 3]) (eCall F_find_range [eVar 1, eVar 3]))
  (sIf (tOr (t2 cEq (e2 gIx (eVar 4) (eK (.int 0))) (e2 gIx (eVar 4) (eK (.int 1)))) (t2 cEq (e2 gIx (eVar 5) (eK (.int 0))) (e2 gIx (eVar 5) (eK (.int 1))))) (sApp 2 (eTup [eVar 3, eIf (t2 cEq (e2 gIx (eVar 4) (eK (.int 0))) (e2 gIx (eVar 4) (eK (.int 1)))) (e2 gIx (eVar 4) (eK (.int 0))) (e2 gIx (eVar 5) (eK (.int 0)))])) (sNil))
def m_known_ranks : En → R Out := sSeq (sSet 2 (eLst []))
  (sSeq (sFor (iSeq (e1 gSS (e2 gAdd (e2 gIx (eVar 0) (eK (.int 0))) (e2 gIx (eVar 1) (eK (.int 0)))))) (.nm 3) (b_known_ranks_0))
  (sRet (eVar 2)))
def F_known_ranks : List PyData → R Cr := fnR 6 m_known_ranks
def m_find_common_bounds : En → R Out := sSeq (sSet 3 (eF (eCall F_known_ranks [eVar 0, eVar 1])))
  (sSeq (sSet 4 (eB gMax1 [eLc (iSeq (eVar 3)) (.tp [.nm 5, .nm 6]) (t2 cLt (eVar 6) (eVar 2)) (eVar 5) [5, 6]]))
  (sRet (eTup [eVar 4, e2 gSub (eB gMin1 [eLc (iSeq (eVar 3)) (.tp [.nm 5, .nm 6]) (t2 cGe (eVar 6) (eVar 2)) (eVar 5) [5, 6]]) (eK (.int 1))])))
def F_find_common_bounds : List PyData → R Cr := fnR 7 m_find_common_bounds
def m_find_common : En → R Out := sSeq (sIf (tNot (tE (eCall F_are_compatible [eVar 0, eVar 1]))) (sRet (eK .none)) (sNil))
  (sRet (eLc (iRg2 (eK (.int 1)) (e2 gAdd (eCall F_size_of [eVar 0]) (eK (.int 1)))) (.nm 2) (tYes) (e2 gIx (eCall F_find_common_bounds [eVar 0, eVar 1, eVar 2]) (eK (.int 0))) [2]))
def F_find_common : List PyData → R Cr := fnR 3 m_find_common
def m_common_data : En → R Out := sSeq (sDrop (eCall F_check_two [eVar 0, eVar 1]))
  (sRet (eCall F_find_common [eVar 0, eVar 1]))
def F_common_data : List PyData → R Cr := fnR 2 m_common_data
def m_are_common_data : En → R Out := sSeq (sDrop (eCall F_check_two [eVar 0, eVar 1]))
  (sRet (eAnd (eCall F_are_data [eVar 2]) (eAnd (eCall F_do_have [eVar 2, eVar 0]) (eCall F_do_have [eVar 2, eVar 1]))))
def F_are_common_data : List PyData → R Cr := fnR 3 m_are_common_data
def m_common_rank_bounds : En → R Out := sSeq (sDrop (eCall F_check_two [eVar 0, eVar 1]))
  (sSeq (sIf (tNot (tE (eCall F_are_compatible [eVar 0, eVar 1]))) (sRaise "NoCommonData") (sNil))
  (sSeq (sDrop (eCall F_check_rank [eVar 0, eVar 2]))
  (sRet (eCall F_find_common_bounds [eVar 0, eVar 1, eVar 2]))))
def F_common_rank_bounds : List PyData → R Cr := fnR 3 m_common_rank_bounds
abbrev b__law_pick_0 : En → R Out := sPar 5 6 (e2 gDiv (eVar 5) (eK (.int 840))) (e2 gSub (eVar 6) (eK (.int 1)))
def m__law_pick : En → R Out := sSeq (sSet 3 (eIf (t2 cNe (eVar 0) (eLst [])) (e2 gIx (eVar 0) (e2 gMod (eVar 1) (eB gLen [eVar 0]))) (eK (.int 0))))
  (sSeq (sPar 5 6 (e2 gDiv (eVar 3) (e2 gPow (eK (.int 10)) (eK (.int 18)))) (e2 gDiv (eVar 1) (eB gMax2 [eB gLen [eVar 0], eK (.int 1)])))
  (sSeq (sWhile 5000 (tAnd (t2 cGt (eVar 5) (eK (.int 0))) (t2 cGt (eVar 6) (eK (.int 0)))) (b__law_pick_0))
  (sSeq (sIf (t2 cGt (eVar 5) (eK (.int 0))) (sRet (e2 gMod (e2 gMod (eVar 5) (eK (.int 840))) (eVar 2))) (sNil))
  (sSeq (sSet 4 (e2 gMod (e2 gMul (e2 gAdd (e2 gMul (eVar 3) (eK (.int 31))) (e2 gMul (eK (.int 6151)) (e2 gAdd (eVar 1) (eK (.int 1))))) (eK (.int 40692))) (eK (.int 2147483399))))
  (sRet (e2 gMod (e2 gMod (e2 gAdd (e2 gMul (eVar 4) (eVar 4)) (e2 gDiv (eVar 4) (eK (.int 31)))) (eK (.int 2147483629))) (eVar 2)))))))
def F__law_pick : List PyData → R Cr := fnR 7 m__law_pick
abbrev b__law_counts_0 : En → R Out := sApp 2 (eB gLen [eLc (iSeq (eVar 1)) (.nm 5) (tAnd (t2 cLe (eVar 3) (eVar 5)) (t2 cLt (eVar 5) (eVar 4))) (eVar 5) [5]])
def m__law_counts : En → R Out := sSeq (sSet 2 (eLst []))
  (sSeq (sFor (iZ2 (eVar 0) (eSl (eVar 0) (pSo (eK (.int 1))) (pNo))) (.tp [.nm 3, .nm 4]) (b__law_counts_0))
  (sRet (eB gTuple [eVar 2])))
def F__law_counts : List PyData → R Cr := fnR 6 m__law_counts
abbrev b__law_ends_0 : En → R Out := sSeq (sExt 4 (e2 gMul (eLst [e2 gIx (eVar 2) (eVar 1)]) (e2 gIx (eVar 3) (eVar 1))))
  (sExt 5 (e2 gMul (eLst [e2 gSub (e2 gIx (eVar 2) (e2 gAdd (eVar 1) (eK (.int 1)))) (eK (.int 1))]) (e2 gIx (eVar 3) (eVar 1))))
def m__law_ends : En → R Out := sSeq (sUnp (.tp [.nm 2, .nm 3]) (eVar 0))
  (sSeq (sPar 4 5 (eLst []) (eLst []))
  (sSeq (sFor (iRg1 (eB gLen [eVar 3])) (.nm 1) (b__law_ends_0))
  (sFrz 5 (sFrz 4 (sRet (eTup [eVar 4, eVar 5]))))))
def F__law_ends : List PyData → R Cr := fnR 6 m__law_ends
abbrev b__law_small_0 : En → R Out := sSeq (sSet 3 (eF (e2 gAdd (e2 gAdd (eVar 3) (eK (.int 1))) (eCall F__law_pick [eVar 0, e2 gAdd (e2 gAdd (eVar 1) (eK (.int 2))) (eVar 2), eK (.int 4)]))))
  (sSeq (sApp 4 (eVar 3))
  (sSeq (sSet 7 (eB gMin2 [eVar 6, eCall F__law_pick [eVar 0, e2 gAdd (e2 gAdd (eVar 1) (eK (.int 6))) (eVar 2), eK (.int 4)]]))
  (sSeq (sApp 5 (eVar 7))
  (sSet 6 (e2 gSub (eVar 6) (eVar 7))))))
def m__law_small : En → R Out := sSeq (sPar4 3 4 5 6 (eCall F__law_pick [eVar 0, eVar 1, eK (.int 3)]) (eLst []) (eLst []) (eK (.int 5)))
  (sSeq (sApp 4 (eVar 3))
  (sSeq (sFor (iRg1 (e2 gAdd (eK (.int 1)) (eCall F__law_pick [eVar 0, e2 gAdd (eVar 1) (eK (.int 1)), eK (.int 3)]))) (.nm 2) (b__law_small_0))
  (sRet (eTup [eB gTuple [eVar 4], eB gTuple [eVar 5]]))))
def F__law_small : List PyData → R Cr := fnR 8 m__law_small
abbrev b__law_every_0 : En → R Out := sSeq (sSet 8 (eB gMax2 [e2 gIx (eVar 3) (eVar 2), eIf (t2 cNe (eVar 7) (eLst [])) (e2 gIx (eVar 7) (eNeg (eK (.int 1)))) (eK (.int 0))]))
  (sExt 6 (eLc (iRg2 (eVar 8) (e2 gIx (eVar 3) (e2 gAdd (eVar 2) (eK (.int 1))))) (.nm 9) (tYes) (e2 gAdd (eVar 7) (eLst [eVar 9])) [9]))
abbrev b__law_every_1 : En → R Out := sSeq (sSet 6 (eLst []))
  (sSeq (sFor (iSeq (eVar 1)) (.nm 7) (b__law_every_0))
  (sFrz 6 (sSet 1 (eF (eVar 6)))))
abbrev b__law_every_2 : En → R Out := sFor (iRg1 (e2 gIx (eVar 4) (eVar 2))) (.nm 5) (b__law_every_1)
def m__law_every : En → R Out := sSeq (sUnp (.tp [.nm 3, .nm 4]) (eVar 0))
  (sSeq (sSet 1 (eF (eLst [eLst []])))
  (sSeq (sFor (iRg1 (eB gLen [eVar 4])) (.nm 2) (b__law_every_2))
  (sRet (eVar 1))))
def F__law_every : List PyData → R Cr := fnR 10 m__law_every
def m__law_fits : En → R Out := sSeq (sIf (tOr (tNot (tE (eIsi "list" (eVar 0)))) (t2 cNe (eVar 0) (eB gSorted [eVar 0]))) (sRet (eK (.bool false))) (sNil))
  (sRet (eAnd (eT (t2 cEq (eCall F__law_counts [e2 gIx (eVar 1) (eK (.int 0)), eVar 0]) (e2 gIx (eVar 1) (eK (.int 1))))) (eT (t2 cEq (eB gLen [eVar 0]) (eB gSum [e2 gIx (eVar 1) (eK (.int 1))])))))
def F__law_fits : List PyData → R Cr := fnR 2 m__law_fits
def k__law_class (a : Addr) (b0 b1 b2 b3 b4 b5 b6 b7 b8 b9 b10 b11 b12 b13 b14 : Bool) : En → R Out := sSeq (sSet 1 (eLst [eRaw 0 a b0, eRaw 0 a b1]))
  (sSeq (sExt 1 (eLst [eRaw 0 a b2, eRaw 0 a b3]))
  (sSeq (sExt 1 (eLst [eRaw 0 a b4, eRaw 0 a b5]))
  (sSeq (sExt 1 (eLst [eRaw 0 a b6, eRaw 0 a b7]))
  (sSeq (sExt 1 (eLst [eRaw 0 a b8, eRaw 0 a b9]))
  (sSeq (sExt 1 (eLst [eRaw 0 a b10, eRaw 0 a b11]))
  (sSeq (sExt 1 (eLst [eRaw 0 a b12, eRaw 0 a b13]))
  (sSeq (sExt 1 (eLst [eRaw 0 a b14]))
  (sSeq (sIf (tOr (t2 cNe (eM gCount (eVar 1) (eK (.bool true))) (eK (.int 1))) (tNot (tE (eRaw 0 a true)))) (sRet (eK (.str "wrong"))) (sNil))
  (sSeq (sSet 2 (eLst [eK (.str "InvalidBorders"), eK (.str "InvalidData"), eK (.str "OutOfBuckets"), eK (.str "TooLarge"), eK (.str "InvalidHistogram")]))
  (sSeq (sExt 2 (eLst [eK (.str "InvalidValue"), eK (.str "InvalidRank"), eK (.str "InvalidPercent"), eK (.str "EmptyHistogram"), eK (.str "InvalidNumber")]))
  (sSeq (sExt 2 (eLst [eK (.str "InvalidStatement"), eK (.str "UnequalSizes"), eK (.str "NoCommonData"), eK (.str "NotCoarser"), eK (.str "InvalidStatements")]))
  (sRet (e2 gIx (eVar 2) (eM gIndex (eVar 1) (eK (.bool true))))))))))))))))
def h__law_class : Addr → Str → En → R Out := fun a c => k__law_class a (decide (c = ("InvalidBorders" : Str))) (decide (c = ("InvalidData" : Str))) (decide (c = ("OutOfBuckets" : Str))) (decide (c = ("TooLarge" : Str))) (decide (c = ("InvalidHistogram" : Str))) (decide (c = ("InvalidValue" : Str))) (decide (c = ("InvalidRank" : Str))) (decide (c = ("InvalidPercent" : Str))) (decide (c = ("EmptyHistogram" : Str))) (decide (c = ("InvalidNumber" : Str))) (decide (c = ("InvalidStatement" : Str))) (decide (c = ("UnequalSizes" : Str))) (decide (c = ("NoCommonData" : Str))) (decide (c = ("NotCoarser" : Str))) (decide (c = ("InvalidStatements" : Str)))
def h__law_result : Addr → Str → En → R Out := fun a c => sRet (eTup [eK (.str "error"), eCls 3 1 a h__law_class c])
def m__law_other : En → R Out := sSeq (sSet 4 (eF (e1 gSS (e2 gAdd (eLst [e2 gIx (eVar 3) (eK (.int 0)), e2 gIx (eVar 3) (eNeg (eK (.int 1)))]) (eLc (iRg1 (eK (.int 3))) (.nm 10) (tYes) (e2 gAdd (eK (.int 1)) (eCall F__law_pick [eVar 0, e2 gAdd (eVar 1) (eVar 10), eK (.int 15)])) [10])))))
  (sSeq (sUnp (.tp [.nm 6, .nm 7]) (eIf (t2 cEq (eVar 2) (eLst [])) (eTup [e2 gIx (eVar 4) (eK (.int 0)), e2 gIx (eVar 4) (eNeg (eK (.int 1)))]) (eTup [eB gMin2 [e2 gIx (eVar 4) (eK (.int 0)), e2 gIx (eVar 2) (eK (.int 0))], eB gMax2 [e2 gIx (eVar 4) (eNeg (eK (.int 1))), e2 gAdd (e2 gIx (eVar 2) (eNeg (eK (.int 1)))) (eK (.int 1))]])))
  (sSeq (sSet 4 (eB gTuple [e1 gSS (e2 gAdd (eVar 4) (eLst [eVar 6, eVar 7]))]))
  (sSeq (sSet 5 (eB gList [eCall F__law_counts [eVar 4, eVar 2]]))
  (sSeq (sIf (tAnd (t2 cEq (eCall F__law_pick [eVar 0, e2 gAdd (eVar 1) (eK (.int 5)), eK (.int 3)]) (eK (.int 0))) (tAnd (t2 cGt (eB gSum [eVar 5]) (eK (.int 0))) (t2 cGt (eB gLen [eVar 5]) (eK (.int 1))))) (sSeq (sSet 8 (eM gIndex (eVar 5) (eB gMax1 [eVar 5])))
  (sSeq (sSub 5 (eVar 8) (e2 gSub (e2 gIx (eVar 5) (eVar 8)) (eK (.int 1))))
  (sSeq (sSet 9 (e2 gMod (e2 gAdd (eVar 8) (eK (.int 1))) (eB gLen [eVar 5])))
  (sSub 5 (eVar 9) (e2 gAdd (e2 gIx (eVar 5) (eVar 9)) (eK (.int 1))))))) (sNil))
  (sRet (eTup [eVar 4, eB gTuple [eVar 5]]))))))
def F__law_other : List PyData → R Cr := fnR 11 m__law_other
abbrev b__law_meet_0 : En → R Out := sApp 3 (eTup [eB gLen [eLc (iSeq (eVar 5)) (.nm 6) (t2 cLt (eVar 6) (eVar 2)) (eVar 6) [6]], eB gLen [eLc (iSeq (eVar 4)) (.nm 6) (t2 cLt (eVar 6) (eVar 2)) (eVar 6) [6]]])
def m__law_meet : En → R Out := sSeq (sSet 3 (eLst []))
  (sSeq (sFor (iSeq (eTup [eCall F__law_ends [eVar 0], eCall F__law_ends [eVar 1]])) (.tp [.nm 4, .nm 5]) (b__law_meet_0))
  (sRet (eT (t2 cLe (eB gMax2 [e2 gIx (e2 gIx (eVar 3) (eK (.int 0))) (eK (.int 0)), e2 gIx (e2 gIx (eVar 3) (eK (.int 1))) (eK (.int 0))]) (eB gMin2 [e2 gIx (e2 gIx (eVar 3) (eK (.int 0))) (eK (.int 1)), e2 gIx (e2 gIx (eVar 3) (eK (.int 1))) (eK (.int 1))])))))
def F__law_meet : List PyData → R Cr := fnR 7 m__law_meet
abbrev b_law_0 : En → R Out := sSeq (sSet 13 (eF (eLc (iSeq (eVar 6)) (.nm 8) (tYes) (e2 gIx (eVar 8) (e2 gSub (eVar 12) (eK (.int 1)))) [8])))
  (sIf (t2 cNe (eCall F_common_rank_bounds [eVar 2, eVar 5, eVar 12]) (eTup [eB gMin1 [eVar 13], eB gMax1 [eVar 13]])) (sRet (eK (.bool false))) (sNil))
abbrev b_law_1 : En → R Out := sIf (t2 cNe (eCall F_are_common_data [eVar 2, eVar 5, eVar 8]) (eAnd (eCall F__law_fits [eVar 8, eVar 2]) (eCall F__law_fits [eVar 8, eVar 5]))) (sRet (eK (.bool false))) (sNil)
abbrev b_law_2 : En → R Out := sSeq (sSet 2 (eCall F__law_small [eVar 0, e2 gMul (eK (.int 20)) (eVar 1)]))
  (sSeq (sSet 3 (eCall F__law_every [eVar 2]))
  (sSeq (sSet 4 (e2 gIx (eVar 3) (eCall F__law_pick [eVar 0, e2 gAdd (eK (.int 60)) (eVar 1), eB gLen [eVar 3]])))
  (sSeq (sSet 5 (eCall F__law_other [eVar 0, e2 gAdd (eK (.int 70)) (e2 gMul (eK (.int 10)) (eVar 1)), eVar 4, e2 gIx (eVar 2) (eK (.int 0))]))
  (sSeq (sSet 6 (eF (eLc (iSeq (eVar 3)) (.nm 8) (tE (eCall F__law_fits [eVar 8, eVar 5])) (eVar 8) [8])))
  (sSeq (sIf (tOr (t2 cNe (eCall F_can_be_same [eVar 2, eVar 5]) (eT (t2 cNe (eVar 6) (eLst [])))) (t2 cNe (eCall F_can_be_same [eVar 5, eVar 2]) (eT (t2 cNe (eVar 6) (eLst []))))) (sRet (eK (.bool false))) (sNil))
  (sSeq (sSet 7 (eF (eCall F_common_data [eVar 2, eVar 5])))
  (sSeq (sIf (t2 cEq (eVar 6) (eLst [])) (sSeq (sSet 10 (eCall F_conflict [eVar 2, eVar 5]))
  (sSeq (sSet 11 (eF (eLc (iRg1 (eK (.int 1001))) (.nm 14) (tNot (tE (eCall F__law_meet [eVar 2, eVar 5, eVar 14]))) (eVar 14) [14])))
  (sSeq (sIf (tOr (t2 cIsNot (eVar 7) (eK .none)) (tOr (t2 cEq (eVar 11) (eLst [])) (t2 cNe (eVar 10) (e2 gIx (eVar 11) (eK (.int 0)))))) (sRet (eK (.bool false))) (sNil))
  (sIf (tNot (tE (eAllL [2, 5] (eCall F_common_rank_bounds [eVar 2, eVar 5, eK (.int 1)]) "NoCommonData"))) (sRet (eK (.bool false))) (sNil))))) (sSeq (sIf (tOr (tNot (tE (eCall F__law_fits [eVar 7, eVar 2]))) (tOr (tNot (tE (eCall F__law_fits [eVar 7, eVar 5]))) (t2 cIsNot (eCall F_conflict [eVar 2, eVar 5]) (eK .none)))) (sRet (eK (.bool false))) (sNil))
  (sFor (iRg2 (eK (.int 1)) (e2 gAdd (eB gLen [eVar 4]) (eK (.int 1)))) (.nm 12) (b_law_0))))
  (sSeq (sFor (iSeq (e2 gAdd (eSl (eVar 3) (pNo) (pSo (eK (.int 5)))) (eLst [eVar 4, eSl (eVar 4) (pSo (eK (.int 1))) (pNo), e2 gAdd (eVar 4) (eLst [eK (.int 999)])]))) (.nm 8) (b_law_1))
  (sSeq (sSet 9 (eF (eLst [eK .none, eIf (t2 cNe (eVar 4) (eLst [])) (eB gTuple [eVar 4]) (eK (.int 5)), eK (.str "a"), eLst [eK (.int 1), eK (.int 0)], eLst [eK .none], eLst [eK (.int 1000)]])))
  (sIf (tE (eB gAny [eLc (iSeq (eVar 9)) (.nm 14) (tYes) (eT (t2 cIsNot (eCall F_are_common_data [eVar 2, eVar 5, eVar 14]) (eK (.bool false)))) [14]])) (sRet (eK (.bool false))) (sNil)))))))))))
def m_law : En → R Out := sSeq (sFor (iRg1 (eK (.int 3))) (.nm 1) (b_law_2))
  (sRet (eK (.bool true)))
def F_law : List PyData → R Cr := fnR 15 m_law
theorem kk__law_class_0 (a : Addr) : h__law_class a "InvalidBorders" (rawAt 3 0 a) = .ok (.rt (.val (.str "InvalidBorders"))) := (show h__law_class a "InvalidBorders" (rawAt 3 0 a) = k__law_class a true false false false false false false false false false false false false false false (rawAt 3 0 a) from by kernel_rfl).trans (by
  simp [k__law_class, rawAt, eRaw, sSeq, sSet, sExt, sIf, x_var, ownAt]
  kernel_rfl)
theorem kk__law_class_1 (a : Addr) : h__law_class a "InvalidData" (rawAt 3 0 a) = .ok (.rt (.val (.str "InvalidData"))) := (show h__law_class a "InvalidData" (rawAt 3 0 a) = k__law_class a false true false false false false false false false false false false false false false (rawAt 3 0 a) from by kernel_rfl).trans (by
  simp [k__law_class, rawAt, eRaw, sSeq, sSet, sExt, sIf, x_var, ownAt]
  kernel_rfl)
theorem kk__law_class_2 (a : Addr) : h__law_class a "OutOfBuckets" (rawAt 3 0 a) = .ok (.rt (.val (.str "OutOfBuckets"))) := (show h__law_class a "OutOfBuckets" (rawAt 3 0 a) = k__law_class a false false true false false false false false false false false false false false false (rawAt 3 0 a) from by kernel_rfl).trans (by
  simp [k__law_class, rawAt, eRaw, sSeq, sSet, sExt, sIf, x_var, ownAt]
  kernel_rfl)
theorem kk__law_class_3 (a : Addr) : h__law_class a "TooLarge" (rawAt 3 0 a) = .ok (.rt (.val (.str "TooLarge"))) := (show h__law_class a "TooLarge" (rawAt 3 0 a) = k__law_class a false false false true false false false false false false false false false false false (rawAt 3 0 a) from by kernel_rfl).trans (by
  simp [k__law_class, rawAt, eRaw, sSeq, sSet, sExt, sIf, x_var, ownAt]
  kernel_rfl)
theorem kk__law_class_4 (a : Addr) : h__law_class a "InvalidHistogram" (rawAt 3 0 a) = .ok (.rt (.val (.str "InvalidHistogram"))) := (show h__law_class a "InvalidHistogram" (rawAt 3 0 a) = k__law_class a false false false false true false false false false false false false false false false (rawAt 3 0 a) from by kernel_rfl).trans (by
  simp [k__law_class, rawAt, eRaw, sSeq, sSet, sExt, sIf, x_var, ownAt]
  kernel_rfl)
theorem kk__law_class_5 (a : Addr) : h__law_class a "InvalidValue" (rawAt 3 0 a) = .ok (.rt (.val (.str "InvalidValue"))) := (show h__law_class a "InvalidValue" (rawAt 3 0 a) = k__law_class a false false false false false true false false false false false false false false false (rawAt 3 0 a) from by kernel_rfl).trans (by
  simp [k__law_class, rawAt, eRaw, sSeq, sSet, sExt, sIf, x_var, ownAt]
  kernel_rfl)
theorem kk__law_class_6 (a : Addr) : h__law_class a "InvalidRank" (rawAt 3 0 a) = .ok (.rt (.val (.str "InvalidRank"))) := (show h__law_class a "InvalidRank" (rawAt 3 0 a) = k__law_class a false false false false false false true false false false false false false false false (rawAt 3 0 a) from by kernel_rfl).trans (by
  simp [k__law_class, rawAt, eRaw, sSeq, sSet, sExt, sIf, x_var, ownAt]
  kernel_rfl)
theorem kk__law_class_7 (a : Addr) : h__law_class a "InvalidPercent" (rawAt 3 0 a) = .ok (.rt (.val (.str "InvalidPercent"))) := (show h__law_class a "InvalidPercent" (rawAt 3 0 a) = k__law_class a false false false false false false false true false false false false false false false (rawAt 3 0 a) from by kernel_rfl).trans (by
  simp [k__law_class, rawAt, eRaw, sSeq, sSet, sExt, sIf, x_var, ownAt]
  kernel_rfl)
theorem kk__law_class_8 (a : Addr) : h__law_class a "EmptyHistogram" (rawAt 3 0 a) = .ok (.rt (.val (.str "EmptyHistogram"))) := (show h__law_class a "EmptyHistogram" (rawAt 3 0 a) = k__law_class a false false false false false false false false true false false false false false false (rawAt 3 0 a) from by kernel_rfl).trans (by
  simp [k__law_class, rawAt, eRaw, sSeq, sSet, sExt, sIf, x_var, ownAt]
  kernel_rfl)
theorem kk__law_class_9 (a : Addr) : h__law_class a "InvalidNumber" (rawAt 3 0 a) = .ok (.rt (.val (.str "InvalidNumber"))) := (show h__law_class a "InvalidNumber" (rawAt 3 0 a) = k__law_class a false false false false false false false false false true false false false false false (rawAt 3 0 a) from by kernel_rfl).trans (by
  simp [k__law_class, rawAt, eRaw, sSeq, sSet, sExt, sIf, x_var, ownAt]
  kernel_rfl)
theorem kk__law_class_10 (a : Addr) : h__law_class a "InvalidStatement" (rawAt 3 0 a) = .ok (.rt (.val (.str "InvalidStatement"))) := (show h__law_class a "InvalidStatement" (rawAt 3 0 a) = k__law_class a false false false false false false false false false false true false false false false (rawAt 3 0 a) from by kernel_rfl).trans (by
  simp [k__law_class, rawAt, eRaw, sSeq, sSet, sExt, sIf, x_var, ownAt]
  kernel_rfl)
theorem kk__law_class_11 (a : Addr) : h__law_class a "UnequalSizes" (rawAt 3 0 a) = .ok (.rt (.val (.str "UnequalSizes"))) := (show h__law_class a "UnequalSizes" (rawAt 3 0 a) = k__law_class a false false false false false false false false false false false true false false false (rawAt 3 0 a) from by kernel_rfl).trans (by
  simp [k__law_class, rawAt, eRaw, sSeq, sSet, sExt, sIf, x_var, ownAt]
  kernel_rfl)
theorem kk__law_class_12 (a : Addr) : h__law_class a "NoCommonData" (rawAt 3 0 a) = .ok (.rt (.val (.str "NoCommonData"))) := (show h__law_class a "NoCommonData" (rawAt 3 0 a) = k__law_class a false false false false false false false false false false false false true false false (rawAt 3 0 a) from by kernel_rfl).trans (by
  simp [k__law_class, rawAt, eRaw, sSeq, sSet, sExt, sIf, x_var, ownAt]
  kernel_rfl)
theorem kk__law_class_13 (a : Addr) : h__law_class a "NotCoarser" (rawAt 3 0 a) = .ok (.rt (.val (.str "NotCoarser"))) := (show h__law_class a "NotCoarser" (rawAt 3 0 a) = k__law_class a false false false false false false false false false false false false false true false (rawAt 3 0 a) from by kernel_rfl).trans (by
  simp [k__law_class, rawAt, eRaw, sSeq, sSet, sExt, sIf, x_var, ownAt]
  kernel_rfl)
theorem kk__law_class_14 (a : Addr) : h__law_class a "InvalidStatements" (rawAt 3 0 a) = .ok (.rt (.val (.str "InvalidStatements"))) := (show h__law_class a "InvalidStatements" (rawAt 3 0 a) = k__law_class a false false false false false false false false false false false false false false true (rawAt 3 0 a) from by kernel_rfl).trans (by
  simp [k__law_class, rawAt, eRaw, sSeq, sSet, sExt, sIf, x_var, ownAt]
  kernel_rfl)
theorem psi__law_class : ∀ (a : Addr) (c : Str), c ∈ Py.lcs → h__law_class a c (rawAt 3 0 a) = h__law_class 0 c (rawAt 3 0 0) := fun a c hc => by
  simp only [Py.lcs, List.mem_cons, List.not_mem_nil, or_false] at hc
  rcases hc with rfl | rfl | rfl | rfl | rfl | rfl | rfl | rfl | rfl | rfl | rfl | rfl | rfl | rfl | rfl
  · rw [kk__law_class_0, kk__law_class_0]
  · rw [kk__law_class_1, kk__law_class_1]
  · rw [kk__law_class_2, kk__law_class_2]
  · rw [kk__law_class_3, kk__law_class_3]
  · rw [kk__law_class_4, kk__law_class_4]
  · rw [kk__law_class_5, kk__law_class_5]
  · rw [kk__law_class_6, kk__law_class_6]
  · rw [kk__law_class_7, kk__law_class_7]
  · rw [kk__law_class_8, kk__law_class_8]
  · rw [kk__law_class_9, kk__law_class_9]
  · rw [kk__law_class_10, kk__law_class_10]
  · rw [kk__law_class_11, kk__law_class_11]
  · rw [kk__law_class_12, kk__law_class_12]
  · rw [kk__law_class_13, kk__law_class_13]
  · rw [kk__law_class_14, kk__law_class_14]
theorem rawAt_1 (a : Addr) : (rawAt 2 1 a)[1]? = some (some (.raw a)) := rfl
theorem psi__law_result : ∀ (a : Addr) (c : Str), h__law_result a c (rawAt 2 1 a) = h__law_result 0 c (rawAt 2 1 0) := fun a c => by
  simp [h__law_result, sRet, eTup, evA, eCls, rawAt]
  split <;> rfl
theorem res__law_result : ∀ c ∈ Py.lcs, h__law_result 0 c (rawAt 2 1 0) = .ok (.rt (.val (errT c))) := fun c hc => by
  simp only [Py.lcs, List.mem_cons, List.not_mem_nil, or_false] at hc
  rcases hc with rfl | rfl | rfl | rfl | rfl | rfl | rfl | rfl | rfl | rfl | rfl | rfl | rfl | rfl | rfl
  · simp [h__law_result, sRet, eTup, evA, eCls, rawAt_1, kk__law_class_0, clE]
  · simp [h__law_result, sRet, eTup, evA, eCls, rawAt_1, kk__law_class_1, clE]
  · simp [h__law_result, sRet, eTup, evA, eCls, rawAt_1, kk__law_class_2, clE]
  · simp [h__law_result, sRet, eTup, evA, eCls, rawAt_1, kk__law_class_3, clE]
  · simp [h__law_result, sRet, eTup, evA, eCls, rawAt_1, kk__law_class_4, clE]
  · simp [h__law_result, sRet, eTup, evA, eCls, rawAt_1, kk__law_class_5, clE]
  · simp [h__law_result, sRet, eTup, evA, eCls, rawAt_1, kk__law_class_6, clE]
  · simp [h__law_result, sRet, eTup, evA, eCls, rawAt_1, kk__law_class_7, clE]
  · simp [h__law_result, sRet, eTup, evA, eCls, rawAt_1, kk__law_class_8, clE]
  · simp [h__law_result, sRet, eTup, evA, eCls, rawAt_1, kk__law_class_9, clE]
  · simp [h__law_result, sRet, eTup, evA, eCls, rawAt_1, kk__law_class_10, clE]
  · simp [h__law_result, sRet, eTup, evA, eCls, rawAt_1, kk__law_class_11, clE]
  · simp [h__law_result, sRet, eTup, evA, eCls, rawAt_1, kk__law_class_12, clE]
  · simp [h__law_result, sRet, eTup, evA, eCls, rawAt_1, kk__law_class_13, clE]
  · simp [h__law_result, sRet, eTup, evA, eCls, rawAt_1, kk__law_class_14, clE]
end Py

set_option Elab.async false
set_option linter.all false
set_option maxRecDepth 100000
set_option maxHeartbeats 0
namespace Hd
open PySem PySem.Spec PyProof.Rows L2
def top (i : Nat) : Stmt := PySem.Challenge.pw_bucketdata_k22_whole_pairs.main.body.getD i (.Pass ⟨0, 0, 0, 0⟩)
abbrev s_is_int : Stmt := top 23
abbrev s_are_data : Stmt := top 24
abbrev s_are_borders : Stmt := top 25
abbrev s_is_histogram : Stmt := top 26
abbrev s_check_histogram : Stmt := top 27
abbrev s_find_bucket : Stmt := top 28
abbrev s_count_data : Stmt := top 29
abbrev s_size_of : Stmt := top 30
abbrev s_do_have : Stmt := top 31
abbrev s_filled : Stmt := top 33
abbrev s_lowest : Stmt := top 34
abbrev s_highest : Stmt := top 35
abbrev s_check_rank : Stmt := top 36
abbrev s_find_range : Stmt := top 37
abbrev s_check_two : Stmt := top 39
abbrev s_is_conflict : Stmt := top 40
abbrev s_find_conflict : Stmt := top 41
abbrev s_are_compatible : Stmt := top 42
abbrev s_can_be_same : Stmt := top 43
abbrev s_conflict : Stmt := top 44
abbrev s_known_ranks : Stmt := top 45
abbrev s_find_common_bounds : Stmt := top 46
abbrev s_find_common : Stmt := top 47
abbrev s_common_data : Stmt := top 48
abbrev s_are_common_data : Stmt := top 49
abbrev s_common_rank_bounds : Stmt := top 50
abbrev s__law_pick : Stmt := top 52
abbrev s__law_counts : Stmt := top 53
abbrev s__law_ends : Stmt := top 54
abbrev s__law_small : Stmt := top 55
abbrev s__law_every : Stmt := top 56
abbrev s__law_fits : Stmt := top 57
abbrev s__law_class : Stmt := top 58
abbrev s__law_result : Stmt := top 59
abbrev s__law_all : Stmt := top 60
abbrev s__law_other : Stmt := top 61
abbrev s__law_meet : Stmt := top 62
abbrev s_law : Stmt := top 63
def d_is_int : He.DefD := ⟨("is_int", none), "is_int", "is_int", defArgs s_is_int, defBody s_is_int, defScope s_is_int, [], []⟩
def d_are_data : He.DefD := ⟨("are_data", none), "are_data", "are_data", defArgs s_are_data, defBody s_are_data, defScope s_are_data, [], []⟩
def d_are_borders : He.DefD := ⟨("are_borders", none), "are_borders", "are_borders", defArgs s_are_borders, defBody s_are_borders, defScope s_are_borders, [], []⟩
def d_is_histogram : He.DefD := ⟨("is_histogram", none), "is_histogram", "is_histogram", defArgs s_is_histogram, defBody s_is_histogram, defScope s_is_histogram, [], []⟩
def d_check_histogram : He.DefD := ⟨("check_histogram", none), "check_histogram", "check_histogram", defArgs s_check_histogram, defBody s_check_histogram, defScope s_check_histogram, [], []⟩
def d_find_bucket : He.DefD := ⟨("find_bucket", none), "find_bucket", "find_bucket", defArgs s_find_bucket, defBody s_find_bucket, defScope s_find_bucket, [], []⟩
def d_count_data : He.DefD := ⟨("count_data", none), "count_data", "count_data", defArgs s_count_data, defBody s_count_data, defScope s_count_data, [], []⟩
def d_size_of : He.DefD := ⟨("size_of", none), "size_of", "size_of", defArgs s_size_of, defBody s_size_of, defScope s_size_of, [], []⟩
def d_do_have : He.DefD := ⟨("do_have", none), "do_have", "do_have", defArgs s_do_have, defBody s_do_have, defScope s_do_have, [], []⟩
def d_filled : He.DefD := ⟨("filled", none), "filled", "filled", defArgs s_filled, defBody s_filled, defScope s_filled, [], []⟩
def d_lowest : He.DefD := ⟨("lowest", none), "lowest", "lowest", defArgs s_lowest, defBody s_lowest, defScope s_lowest, [], []⟩
def d_highest : He.DefD := ⟨("highest", none), "highest", "highest", defArgs s_highest, defBody s_highest, defScope s_highest, [], []⟩
def d_check_rank : He.DefD := ⟨("check_rank", none), "check_rank", "check_rank", defArgs s_check_rank, defBody s_check_rank, defScope s_check_rank, [], []⟩
def d_find_range : He.DefD := ⟨("find_range", none), "find_range", "find_range", defArgs s_find_range, defBody s_find_range, defScope s_find_range, [], []⟩
def d_check_two : He.DefD := ⟨("check_two", none), "check_two", "check_two", defArgs s_check_two, defBody s_check_two, defScope s_check_two, [], []⟩
def d_is_conflict : He.DefD := ⟨("is_conflict", none), "is_conflict", "is_conflict", defArgs s_is_conflict, defBody s_is_conflict, defScope s_is_conflict, [], []⟩
def d_find_conflict : He.DefD := ⟨("find_conflict", none), "find_conflict", "find_conflict", defArgs s_find_conflict, defBody s_find_conflict, defScope s_find_conflict, [], []⟩
def d_are_compatible : He.DefD := ⟨("are_compatible", none), "are_compatible", "are_compatible", defArgs s_are_compatible, defBody s_are_compatible, defScope s_are_compatible, [], []⟩
def d_can_be_same : He.DefD := ⟨("can_be_same", none), "can_be_same", "can_be_same", defArgs s_can_be_same, defBody s_can_be_same, defScope s_can_be_same, [], []⟩
def d_conflict : He.DefD := ⟨("conflict", none), "conflict", "conflict", defArgs s_conflict, defBody s_conflict, defScope s_conflict, [], []⟩
def d_known_ranks : He.DefD := ⟨("known_ranks", none), "known_ranks", "known_ranks", defArgs s_known_ranks, defBody s_known_ranks, defScope s_known_ranks, [], []⟩
def d_find_common_bounds : He.DefD := ⟨("find_common_bounds", none), "find_common_bounds", "find_common_bounds", defArgs s_find_common_bounds, defBody s_find_common_bounds, defScope s_find_common_bounds, [], []⟩
def d_find_common : He.DefD := ⟨("find_common", none), "find_common", "find_common", defArgs s_find_common, defBody s_find_common, defScope s_find_common, [], []⟩
def d_common_data : He.DefD := ⟨("common_data", none), "common_data", "common_data", defArgs s_common_data, defBody s_common_data, defScope s_common_data, [], []⟩
def d_are_common_data : He.DefD := ⟨("are_common_data", none), "are_common_data", "are_common_data", defArgs s_are_common_data, defBody s_are_common_data, defScope s_are_common_data, [], []⟩
def d_common_rank_bounds : He.DefD := ⟨("common_rank_bounds", none), "common_rank_bounds", "common_rank_bounds", defArgs s_common_rank_bounds, defBody s_common_rank_bounds, defScope s_common_rank_bounds, [], []⟩
def d__law_pick : He.DefD := ⟨("_law_pick", none), "_law_pick", "_law_pick", defArgs s__law_pick, defBody s__law_pick, defScope s__law_pick, [], []⟩
def d__law_counts : He.DefD := ⟨("_law_counts", none), "_law_counts", "_law_counts", defArgs s__law_counts, defBody s__law_counts, defScope s__law_counts, [], []⟩
def d__law_ends : He.DefD := ⟨("_law_ends", none), "_law_ends", "_law_ends", defArgs s__law_ends, defBody s__law_ends, defScope s__law_ends, [], []⟩
def d__law_small : He.DefD := ⟨("_law_small", none), "_law_small", "_law_small", defArgs s__law_small, defBody s__law_small, defScope s__law_small, [], []⟩
def d__law_every : He.DefD := ⟨("_law_every", none), "_law_every", "_law_every", defArgs s__law_every, defBody s__law_every, defScope s__law_every, [], []⟩
def d__law_fits : He.DefD := ⟨("_law_fits", none), "_law_fits", "_law_fits", defArgs s__law_fits, defBody s__law_fits, defScope s__law_fits, [], []⟩
def d__law_class : He.DefD := ⟨("_law_class", none), "_law_class", "_law_class", defArgs s__law_class, defBody s__law_class, defScope s__law_class, [], []⟩
def d__law_result : He.DefD := ⟨("_law_result", none), "_law_result", "_law_result", defArgs s__law_result, defBody s__law_result, defScope s__law_result, [], []⟩
def d__law_all : He.DefD := ⟨("_law_all", none), "_law_all", "_law_all", defArgs s__law_all, defBody s__law_all, defScope s__law_all, [], []⟩
def d__law_other : He.DefD := ⟨("_law_other", none), "_law_other", "_law_other", defArgs s__law_other, defBody s__law_other, defScope s__law_other, [], []⟩
def d__law_meet : He.DefD := ⟨("_law_meet", none), "_law_meet", "_law_meet", defArgs s__law_meet, defBody s__law_meet, defScope s__law_meet, [], []⟩
def d_law : He.DefD := ⟨("law", none), "law", "law", defArgs s_law, defBody s_law, defScope s_law, [], []⟩
def fn : List He.DefD := ([d_is_int, d_are_data, d_are_borders, d_is_histogram, d_check_histogram, d_find_bucket, d_count_data, d_size_of, d_do_have, d_filled, d_lowest, d_highest, d_check_rank, d_find_range, d_check_two, d_is_conflict, d_find_conflict, d_are_compatible, d_can_be_same, d_conflict] : List He.DefD) ++ ([d_known_ranks, d_find_common_bounds, d_find_common, d_common_data, d_are_common_data, d_common_rank_bounds, d__law_pick, d__law_counts, d__law_ends, d__law_small, d__law_every, d__law_fits, d__law_class, d__law_result, d__law_all, d__law_other, d__law_meet, d_law] : List He.DefD)
def fa : List He.Fa := ([.glo "is_int", .glo "are_data", .glo "are_borders", .glo "is_histogram", .glo "check_histogram", .glo "find_bucket", .glo "count_data", .glo "size_of", .glo "do_have", .glo "filled", .glo "lowest", .glo "highest", .glo "check_rank", .glo "find_range", .glo "check_two", .glo "is_conflict", .glo "find_conflict", .glo "are_compatible", .glo "can_be_same", .glo "conflict"] : List He.Fa) ++ ([.glo "known_ranks", .glo "find_common_bounds", .glo "find_common", .glo "common_data", .glo "are_common_data", .glo "common_rank_bounds", .glo "_law_pick", .glo "_law_counts", .glo "_law_ends", .glo "_law_small", .glo "_law_every", .glo "_law_fits", .glo "_law_class", .glo "_law_result", .glo "_law_all", .glo "_law_other", .glo "_law_meet", .glo "law", .int "MAX_VALUE" 999, .int "MAX_DATA" 200] : List He.Fa) ++ ([.int "MAX_BORDERS" 12, .int "MAX_BORDER" 1000, .int "MAX_COUNT" 60, .free "ValueError", .free "all", .free "any", .free "bool", .free "int", .free "isinstance", .free "len", .free "list", .free "max", .free "min", .free "range", .free "set", .free "sorted", .free "sum", .free "tuple", .free "zip", .glo "BucketError"] : List He.Fa) ++ ([.exc "BucketError", .glo "InvalidBorders", .exc "InvalidBorders", .glo "InvalidData", .exc "InvalidData", .glo "OutOfBuckets", .exc "OutOfBuckets", .glo "TooLarge", .exc "TooLarge", .glo "InvalidHistogram", .exc "InvalidHistogram", .glo "InvalidValue", .exc "InvalidValue", .glo "InvalidRank", .exc "InvalidRank", .glo "InvalidPercent", .exc "InvalidPercent", .glo "EmptyHistogram", .exc "EmptyHistogram", .glo "InvalidNumber"] : List He.Fa) ++ ([.exc "InvalidNumber", .glo "InvalidStatement", .exc "InvalidStatement", .glo "UnequalSizes", .exc "UnequalSizes", .glo "NoCommonData", .exc "NoCommonData", .glo "NotCoarser", .exc "NotCoarser", .glo "InvalidStatements", .exc "InvalidStatements"] : List He.Fa)
abbrev excs : List Str := Py.excs
abbrev asked : List Str := ["InvalidBorders", "InvalidData", "OutOfBuckets", "TooLarge", "InvalidHistogram", "InvalidValue", "InvalidRank", "InvalidPercent", "EmptyHistogram", "InvalidNumber", "InvalidStatement", "UnequalSizes", "NoCommonData", "NotCoarser", "InvalidStatements"]
abbrev lcs : List Str := Py.lcs
def tf : List (He.Defn × Str) := [(("law", none), ("law" ++ ".<locals>.") ++ "<lambda>")]
abbrev R : PySem.W.OpenRow := PySem.W.OpenLaw.row PySem.Challenge.rw_bucketdata_k22_whole_pairs
abbrev hk : PySem.W.Hook := He.hookX 4 fa fn [] (tf.map (·.1)) (Py.exL (tf.map (·.1)) (Py.xfOf excs "BucketError" asked ++ lcs.map Py.XF.kiv))
def ob (s : PySem.W.SharedT) : He.AlX := He.obsX 4 fa fn [] (tf.map (·.1)) (Py.exL (tf.map (·.1)) (Py.xfOf excs "BucketError" asked ++ lcs.map Py.XF.kiv)) (HandSHeadRun.getT s)
theorem ob_eq (s : PySem.W.SharedT) : ob s = hk.obs s.abs := He.obsX_eq (HandSHeadRun.getT_eq s)
def loose : List Str := (["BucketError", "InvalidBorders", "InvalidData", "OutOfBuckets", "TooLarge", "InvalidHistogram", "InvalidValue", "InvalidRank", "InvalidPercent", "EmptyHistogram", "InvalidNumber", "InvalidStatement", "UnequalSizes", "NoCommonData", "NotCoarser", "InvalidStatements", "MAX_VALUE", "MAX_DATA", "MAX_BORDERS", "MAX_BORDER"] : List Str) ++ (["MAX_COUNT", "is_int", "are_data", "are_borders", "is_histogram", "check_histogram", "find_bucket", "count_data", "size_of", "do_have", "filled", "lowest", "highest", "check_rank", "find_range", "check_two", "is_conflict", "find_conflict", "are_compatible", "can_be_same"] : List Str) ++ (["conflict", "known_ranks", "find_common_bounds", "find_common", "common_data", "are_common_data", "common_rank_bounds", "_law_pick", "_law_counts", "_law_ends", "_law_small", "_law_every", "_law_fits", "_law_class", "_law_result", "_law_all", "_law_other", "_law_meet"] : List Str)
theorem run (w : World) : HandSHeadRun.RunEq R (PySem.W.view R.prog [63]) hk ob 6000 loose w := by
  intro os
  kernel_rfl
end Hd

set_option Elab.async false
set_option linter.all false
set_option maxRecDepth 100000
set_option autoImplicit false
set_option maxHeartbeats 4000000
/-! LibHist: borders and histograms. -/
namespace Py
open PySem L2
theorem cut_tail {α : Type} (l : List α) : cut l (some 1) none = l.tail := by
  cases l with
  | nil => rfl
  | cons a l =>
    have h : HT.sIx (a :: l).length 0 (some 1) = 1 := by simp [HT.sIx]
    unfold cut
    rw [h, HT.sIx_none]
    simp
theorem cut_init {α : Type} (l : List α) : cut l none (some (-1)) = l.dropLast := by
  have h : HT.sIx l.length l.length (some (-1)) = l.length - 1 := by
    show (if (-1 : Int) < 0 then ((-1 : Int) + (l.length : Int)).toNat else min (-1 : Int).toNat l.length) = _
    rw [if_pos (by decide)]
    omega
  unfold cut
  rw [h, HT.sIx_none, List.drop_zero, Nat.sub_zero, List.dropLast_eq_take]
theorem zipD_ints : ∀ a b : List Int, zipD (a.map PyData.int) (b.map PyData.int) = (a.zip b).map fun p => PyData.tuple [.int p.1, .int p.2]
  | [], _ => by simp [zipD]
  | _ :: _, [] => by simp [zipD]
  | a :: as, b :: bs => by simp [zipD, zipD_ints as bs]
structure VB (b : List Int) : Prop where
  lo : 2 ≤ b.length
  hi : b.length ≤ 12
  rg : ∀ x ∈ b, 0 ≤ x ∧ x ≤ 1000
  inc : b.Pairwise (· < ·)
theorem pw_zip {α : Type} {r : α → α → Prop} : ∀ {l : List α}, l.Pairwise r → ∀ p ∈ l.zip l.tail, r p.1 p.2
  | [], _, p, hp => by simp at hp
  | [a], _, p, hp => by simp at hp
  | a :: b :: l, h, p, hp => by
    obtain ⟨h1, h2⟩ := List.pairwise_cons.mp h
    rw [List.tail_cons, List.zip_cons_cons, List.mem_cons] at hp
    rcases hp with rfl | hp
    · exact h1 b (by simp)
    · exact pw_zip h2 p hp
structure VH (b c : List Int) : Prop where
  vb : VB b
  len : c.length + 1 = b.length
  rg : ∀ x ∈ c, 0 ≤ x ∧ x ≤ 60
  sum : c.sum ≤ 200
abbrev Hi (b c : List Int) : PyData := .tuple [Tu b, Tu c]
theorem is_int_eq (v l m : Int) : F_is_int [.int v, .int l, .int m] = .ok (.val (.bool (decide (l ≤ v ∧ v ≤ m)))) := by
  by_cases h : l ≤ v <;> simp [F_is_int, fnR, m_is_int, st0, x_var, h]
theorem borders_eq {b : List Int} (h : VB b) : F_are_borders [Tu b] = .ok (.val (.bool true)) := by
  have h1 : (2 : Int) ≤ (b.length : Int) := by have := h.lo; omega
  have h2 : (b.length : Int) ≤ 12 := by have := h.hi; omega
  have l1 : b.length ≤ 1000000 := by have := h.hi; omega
  have e1 : lcR (.nm 1) tYes (eCall F_is_int [eVar 1, eK (.int 0), eK (.int 1000)]) [some (.val (Tu b)), none, none, none] (b.map PyData.int) = .ok (b.map fun _ => PyData.bool true) := by
    refine lc_map _ _ b fun x hx => ⟨_, rfl, .val (.bool true), ?_, rfl⟩
    obtain ⟨r1, r2⟩ := h.rg x hx
    simp [x_var, is_int_eq, r1, r2]
  have e2 : lcR (.tp [.nm 2, .nm 3]) tYes (eT (t2 cLt (eVar 2) (eVar 3))) [some (.val (Tu b)), none, none, none] ((b.zip b.tail).map fun p => PyData.tuple [.int p.1, .int p.2]) = .ok ((b.zip b.tail).map fun _ => PyData.bool true) := by
    refine lc_map _ _ _ fun p hp => ⟨_, rfl, .val (.bool true), ?_, rfl⟩
    have := pw_zip h.inc p hp
    simp [x_var, this]
  have l2 : b.length ≤ 1000001 := by omega
  simp [F_are_borders, fnR, m_are_borders, st0, x_var, h1, h2, l1, wipeE, e1, gSl, cut_tail, ← List.map_tail, zipD_ints, e2, l2]
theorem VH.l {b c : List Int} (h : VH b c) : c.length ≤ 11 := by have := h.len; have := h.vb.hi; omega
theorem hist_eq {b c : List Int} (h : VH b c) : F_is_histogram [Hi b c] = .ok (.val (.bool true)) := by
  have l1 : c.length ≤ 1000000 := by have := h.l; omega
  have l2 : (c.length : Int) = (b.length : Int) - 1 := by have := h.len; omega
  have e1 : lcR (.nm 3) tYes (eCall F_is_int [eVar 3, eK (.int 0), eK (.int 60)]) [some (.val (Hi b c)), some (.val (Tu b)), some (.val (Tu c)), none] (c.map PyData.int) = .ok (c.map fun _ => PyData.bool true) := by
    refine lc_map _ _ c fun x hx => ⟨_, rfl, .val (.bool true), ?_, rfl⟩
    obtain ⟨r1, r2⟩ := h.rg x hx
    simp [x_var, is_int_eq, r1, r2]
  have hs := h.sum
  simp [F_is_histogram, fnR, m_is_histogram, st0, x_var, l1, l2, wipeE, e1, gIx, atI, ixN, x_ne, borders_eq h.vb, hs]
theorem check_eq {b c : List Int} (h : VH b c) : F_check_histogram [Hi b c] = .ok (.val .none) := by
  simp [F_check_histogram, fnR, m_check_histogram, st0, x_var, hist_eq h]
theorem size_eq (b c : List Int) : F_size_of [Hi b c] = .ok (.val (.int c.sum)) := by
  simp [F_size_of, fnR, m_size_of, st0, x_var, gIx, atI, ixN]
end Py

set_option Elab.async false
set_option linter.all false
set_option maxRecDepth 100000
set_option autoImplicit false
set_option maxHeartbeats 4000000
/-! LibRank: least and greatest data. -/
namespace Py
open PySem L2
def fill (ps : List (Int × Int)) : List Int := ps.flatMap fun p => List.replicate p.2.toNat p.1
def low (b c : List Int) : List Int := fill (b.dropLast.zip c)
def high (b c : List Int) : List Int := fill ((b.tail.map (· - 1)).zip c)
theorem fill_cons (p : Int × Int) (ps : List (Int × Int)) : fill (p :: ps) = List.replicate p.2.toNat p.1 ++ fill ps := by simp [fill]
theorem fill_loop {h v : Option Cl} : ∀ (ps : List (Int × Int)) (acc : List Int) (x y : Option Cl), (∀ p ∈ ps, 0 ≤ p.2 ∧ p.2 ≤ 60) → acc.length + 60 * ps.length ≤ 1000000 →
    ∃ x' y', forR (.tp [.nm 3, .nm 4]) (sExt 2 (e2 gMul (eLst [eVar 3]) (eVar 4))) (ps.map fun p => PyData.tuple [.int p.1, .int p.2]) [h, v, some (.own (acc.map PyData.int)), x, y] = .ok (.nx [h, v, some (.own ((acc ++ fill ps).map PyData.int)), x', y'])
  | [], acc, x, y, _, _ => ⟨x, y, by simp [forR, fill]⟩
  | p :: ps, acc, x, y, hp, hl => by
    obtain ⟨h1, h2⟩ := hp p (by simp)
    rw [List.length_cons] at hl
    have hr : p.2.toNat ≤ 60 := by omega
    obtain ⟨x', y', ih⟩ := fill_loop (h := h) (v := v) ps (acc ++ List.replicate p.2.toNat p.1) (some (.val (.int p.1))) (some (.val (.int p.2))) (fun q hq => hp q (List.mem_cons_of_mem _ hq)) (by rw [List.length_append, List.length_replicate]; omega)
    refine ⟨x', y', ?_⟩
    rw [fill_cons, ← List.append_assoc, ← ih]
    have c1 : okK p.2 := okK_of (by omega) (by omega)
    have c2 : acc.length + p.2.toNat ≤ 1000000 := by omega
    rw [List.map_cons, forR]
    simp [sExt, ownAt, x_var, c1, c2, whK]
theorem filled_eq {b c : List Int} {vs : PyData} {l : List Int} (hv : vs = Tu l ∨ vs = Li l) (hc : ∀ x ∈ c, 0 ≤ x ∧ x ≤ 60) (hl : c.length ≤ 1000) : F_filled [Hi b c, vs] = .ok (.own ((fill (l.zip c)).map PyData.int)) := by
  obtain ⟨x', y', e⟩ := fill_loop (h := some (.val (Hi b c))) (v := some (.val vs)) (l.zip c) [] none none (fun p hp => hc p.2 (List.of_mem_zip hp).2) (by rw [List.length_zip]; simp; omega)
  rw [List.nil_append] at e
  have e : forR (.tp [.nm 3, .nm 4]) (sExt 2 (e2 gMul (eLst [eVar 3]) (eVar 4))) ((l.zip c).map fun p => PyData.tuple [.int p.1, .int p.2]) [some (.val (Hi b c)), some (.val vs), some (.own []), none, none] = _ := e
  rcases hv with rfl | rfl <;>
  simp [F_filled, fnR, m_filled, st0, x_var, gIx, atI, ixN, zipD_ints, e, clE]
theorem lowest_eq {b c : List Int} (h : VH b c) : F_lowest [Hi b c] = .ok (.own ((low b c).map PyData.int)) := by
  have e := filled_eq (b := b) (l := b.dropLast) (.inl rfl) h.rg (by have := h.l; omega)
  simp only [Tu, List.map_dropLast] at e
  simp [F_lowest, fnR, m_lowest, st0, x_var, gIx, atI, ixN, gSl, cut_init, e, low]
theorem highest_eq {b c : List Int} (h : VH b c) : F_highest [Hi b c] = .ok (.own ((high b c).map PyData.int)) := by
  have e := filled_eq (b := b) (l := b.tail.map (· - 1)) (.inr rfl) h.rg (by have := h.l; omega)
  have e1 : lcR (.nm 1) tYes (e2 gSub (eVar 1) (eK (.int 1))) [some (.val (Hi b c)), none] (b.tail.map PyData.int) = .ok (b.tail.map fun x => PyData.int (x - 1)) := by
    refine lc_map _ _ _ fun x hx => ⟨_, rfl, .val (.int (x - 1)), ?_, rfl⟩
    simp [x_var]
  have l1 : b.length ≤ 1000001 := by have := h.vb.hi; omega
  simp only [Li, List.map_map] at e
  simp [F_highest, fnR, m_highest, st0, x_var, gIx, atI, ixN, gSl, cut_tail, ← List.map_tail, wipeE, e1, l1, Function.comp_def] 
  rw [show (List.map (fun x => PyData.int (x - 1)) b.tail) = List.map (PyData.int ∘ fun x => x - 1) b.tail from rfl, e]
  simp [high]
theorem fill_len : ∀ {ps : List (Int × Int)}, (∀ p ∈ ps, 0 ≤ p.2) → ((fill ps).length : Int) = (ps.map (·.2)).sum
  | [], _ => by simp [fill]
  | p :: ps, h => by
    have h1 := h p (by simp)
    have h2 := fill_len (ps := ps) fun q hq => h q (List.mem_cons_of_mem _ hq)
    rw [fill_cons, List.length_append, List.length_replicate, List.map_cons, List.sum_cons, Int.natCast_add, h2]
    omega
theorem zip_snd {l c : List Int} (h : c.length ≤ l.length) : (l.zip c).map (·.2) = c := by
  rw [← List.unzip_snd, List.unzip_zip_right h]
theorem low_len {b c : List Int} (h : VH b c) : ((low b c).length : Int) = c.sum := by
  unfold low
  rw [fill_len (fun p hp => (h.rg p.2 (List.of_mem_zip hp).2).1), zip_snd (by rw [List.length_dropLast]; have := h.len; omega)]
theorem high_len {b c : List Int} (h : VH b c) : ((high b c).length : Int) = c.sum := by
  unfold high
  rw [fill_len (fun p hp => (h.rg p.2 (List.of_mem_zip hp).2).1), zip_snd (by rw [List.length_map, List.length_tail]; have := h.len; omega)]
theorem filter_lc {T : En → R Bool} {φ : En → R Rv} {ρ : En} {i : Nat} (p : Int → Bool) (l : List Int) (hT : ∀ x, T (ρ.set i (some (.val (.int x)))) = .ok (p x)) (hφ : ∀ x, φ (ρ.set i (some (.val (.int x)))) = .ok (.val (.int x))) : lcR (.nm i) T φ ρ (l.map PyData.int) = .ok ((l.filter p).map PyData.int) :=
  lc_filter _ _ p l fun x _ => ⟨_, rfl, hT x, fun _ => ⟨_, hφ x, rfl⟩⟩
def below (l : List Int) (v : Int) : Int := ((l.filter fun x => decide (x < v)).length : Nat)
theorem range_eq {b c : List Int} (h : VH b c) (v : Int) : F_find_range [Hi b c, .int v] = .ok (.val (.tuple [.int (below (high b c) v), .int (below (low b c) v)])) := by
  have e1 : ∀ x (l : List Int), lcR (.nm 3) (t2 cLt (eVar 3) (eVar 1)) (eVar 3) [some (.val (Hi b c)), some (.val (.int v)), x, none] (l.map PyData.int) = .ok ((l.filter fun x => decide (x < v)).map PyData.int) := fun x l =>
    filter_lc _ l (fun y => by simp [x_var]) (fun y => by simp [x_var])
  have l1 := low_len h
  have l2 := high_len h
  have := h.sum
  have b1 : (low b c).length ≤ 1000000 := by omega
  have b2 : (high b c).length ≤ 1000000 := by omega
  simp [F_find_range, fnR, m_find_range, st0, x_var, lowest_eq h, highest_eq h, wipeE, b1, b2, e1, below]
end Py

set_option Elab.async false
set_option linter.all false
set_option maxRecDepth 100000
set_option autoImplicit false
set_option maxHeartbeats 4000000
/-! LibBlock: data by buckets; sorted lists. -/
namespace Py
open PySem L2
def Blocks : List Int → List Int → List (List Int) → Prop
  | [_], [], [] => True
  | x :: y :: b, k :: c, l :: ls => ((l.length : Int) = k ∧ ∀ v ∈ l, x ≤ v ∧ v < y) ∧ Blocks (y :: b) c ls
  | _, _, _ => False
def lowB : List Int → List Int → List (List Int)
  | x :: y :: b, k :: c => List.replicate k.toNat x :: lowB (y :: b) c
  | _, _ => []
def highB : List Int → List Int → List (List Int)
  | x :: y :: b, k :: c => List.replicate k.toNat (y - 1) :: highB (y :: b) c
  | _, _ => []
theorem low_cons (x y k : Int) (b c : List Int) : low (x :: y :: b) (k :: c) = List.replicate k.toNat x ++ low (y :: b) c := by
  unfold low
  rw [List.dropLast_cons₂, List.zip_cons_cons, fill_cons]
theorem high_cons (x y k : Int) (b c : List Int) : high (x :: y :: b) (k :: c) = List.replicate k.toNat (y - 1) ++ high (y :: b) c := by
  unfold high
  rw [List.tail_cons, List.map_cons, List.zip_cons_cons, fill_cons]
  rfl
theorem low_nil (b : List Int) : low b [] = [] := by simp [low, fill]
theorem high_nil (b : List Int) : high b [] = [] := by simp [high, fill]
theorem low_flat : ∀ (b c : List Int), c.length + 1 = b.length → low b c = (lowB b c).flatten
  | [], c, h => by simp at h
  | [x], c, h => by
    have : c = [] := List.eq_nil_of_length_eq_zero (by simpa using h)
    subst this
    simp [low_nil, lowB]
  | x :: y :: b, [], h => by simp at h
  | x :: y :: b, k :: c, h => by rw [low_cons, lowB, List.flatten_cons, low_flat (y :: b) c (by simpa using h)]
theorem high_flat : ∀ (b c : List Int), c.length + 1 = b.length → high b c = (highB b c).flatten
  | [], c, h => by simp at h
  | [x], c, h => by
    have : c = [] := List.eq_nil_of_length_eq_zero (by simpa using h)
    subst this
    simp [high_nil, highB]
  | x :: y :: b, [], h => by simp at h
  | x :: y :: b, k :: c, h => by rw [high_cons, highB, List.flatten_cons, high_flat (y :: b) c (by simpa using h)]
theorem low_blocks : ∀ {b c : List Int}, c.length + 1 = b.length → b.Pairwise (· < ·) → (∀ x ∈ c, 0 ≤ x) → Blocks b c (lowB b c)
  | [], c, h, _, _ => by simp at h
  | [x], c, h, _, _ => by
    have : c = [] := List.eq_nil_of_length_eq_zero (by simpa using h)
    subst this
    simp [Blocks, lowB]
  | x :: y :: b, [], h, _, _ => by simp at h
  | x :: y :: b, k :: c, h, p, q => by
    obtain ⟨p1, p2⟩ := List.pairwise_cons.mp p
    have := p1 y (by simp)
    have := q k (by simp)
    refine ⟨⟨by rw [List.length_replicate]; omega, fun v hv => ?_⟩, low_blocks (by simpa using h) p2 fun z hz => q z (List.mem_cons_of_mem _ hz)⟩
    rw [(List.mem_replicate.mp hv).2]
    omega
theorem high_blocks : ∀ {b c : List Int}, c.length + 1 = b.length → b.Pairwise (· < ·) → (∀ x ∈ c, 0 ≤ x) → Blocks b c (highB b c)
  | [], c, h, _, _ => by simp at h
  | [x], c, h, _, _ => by
    have : c = [] := List.eq_nil_of_length_eq_zero (by simpa using h)
    subst this
    simp [Blocks, highB]
  | x :: y :: b, [], h, _, _ => by simp at h
  | x :: y :: b, k :: c, h, p, q => by
    obtain ⟨p1, p2⟩ := List.pairwise_cons.mp p
    have := p1 y (by simp)
    have := q k (by simp)
    refine ⟨⟨by rw [List.length_replicate]; omega, fun v hv => ?_⟩, high_blocks (by simpa using h) p2 fun z hz => q z (List.mem_cons_of_mem _ hz)⟩
    rw [(List.mem_replicate.mp hv).2]
    omega
theorem Blocks.ge : ∀ {b c : List Int} {ls : List (List Int)} {x : Int}, Blocks (x :: b) c ls → (x :: b).Pairwise (· < ·) → ∀ v ∈ ls.flatten, x ≤ v
  | [], [], [], x, _, _, v, hv => by simp at hv
  | y :: b, k :: c, l :: ls, x, h, p, v, hv => by
    rw [List.flatten_cons] at hv
    obtain ⟨p1, p2⟩ := List.pairwise_cons.mp p
    rcases List.mem_append.mp hv with hv | hv
    · exact (h.1.2 v hv).1
    · have := Blocks.ge h.2 p2 v hv
      have := p1 y (by simp)
      omega
  | [], _ :: _, _, x, h, _, _, _ => by simp [Blocks] at h
  | [], [], _ :: _, x, h, _, _, _ => by simp [Blocks] at h
  | _ :: _, [], _, x, h, _, _, _ => by simp [Blocks] at h
  | _ :: _, _ :: _, [], x, h, _, _, _ => by simp [Blocks] at h
def inside (l : List Int) (p : Int × Int) : Int := ((l.filter fun v => decide (p.1 ≤ v) && decide (v < p.2)).length : Nat)
theorem Blocks.counts : ∀ {b c : List Int} {ls : List (List Int)} (pre : List Int) {x : Int}, Blocks (x :: b) c ls → (x :: b).Pairwise (· < ·) → (∀ v ∈ pre, v < x) → ((x :: b).zip b).map (inside (pre ++ ls.flatten)) = c
  | [], [], [], pre, x, _, _, _ => by simp
  | y :: b, k :: c, l :: ls, pre, x, h, p, hp => by
    obtain ⟨p1, p2⟩ := List.pairwise_cons.mp p
    have hxy := p1 y (by simp)
    obtain ⟨⟨hl, hv⟩, hr⟩ := h
    have ih := Blocks.counts (pre ++ l) hr p2 fun v hv' => by
      rcases List.mem_append.mp hv' with h | h
      · have := hp v h; omega
      · exact (hv v h).2
    rw [List.append_assoc] at ih
    rw [List.zip_cons_cons, List.map_cons, List.flatten_cons, ih]
    congr 1
    unfold inside
    have e1 : pre.filter (fun v => decide (x ≤ v) && decide (v < y)) = [] := List.filter_eq_nil_iff.mpr fun v hv' => by
      have := hp v hv'
      simp
      omega
    have e2 : l.filter (fun v => decide (x ≤ v) && decide (v < y)) = l := List.filter_eq_self.mpr fun v hv' => by
      have := hv v hv'
      simp [this]
    have e3 : ls.flatten.filter (fun v => decide (x ≤ v) && decide (v < y)) = [] := List.filter_eq_nil_iff.mpr fun v hv' => by
      have := Blocks.ge hr p2 v hv'
      simp
      omega
    rw [List.filter_append, List.filter_append, e1, e2, e3]
    simpa using hl
  | [], _ :: _, _, pre, x, h, _, _ => by simp [Blocks] at h
  | [], [], _ :: _, pre, x, h, _, _ => by simp [Blocks] at h
  | _ :: _, [], _, pre, x, h, _, _ => by simp [Blocks] at h
  | _ :: _, _ :: _, [], pre, x, h, _, _ => by simp [Blocks] at h
def cnts (b data : List Int) : List Int := (b.zip b.tail).map (inside data)
theorem inside_perm {l m : List Int} (h : l.Perm m) (p : Int × Int) : inside l p = inside m p := by
  unfold inside
  rw [(h.filter _).length_eq]
theorem cnts_perm {b l m : List Int} (h : l.Perm m) : cnts b l = cnts b m := List.map_congr_left fun p _ => inside_perm h p
theorem Blocks.cnts {b c : List Int} {ls : List (List Int)} (h : Blocks b c ls) (p : b.Pairwise (· < ·)) : Py.cnts b ls.flatten = c := by
  cases b with
  | nil => cases c <;> cases ls <;> simp [Blocks] at h
  | cons x b => exact Blocks.counts [] h p (by simp)
theorem Blocks.len : ∀ {b c : List Int} {ls : List (List Int)}, Blocks b c ls → (ls.flatten.length : Int) = c.sum
  | [_], [], [], _ => by simp
  | x :: y :: b, k :: c, l :: ls, h => by
    have := Blocks.len h.2
    have := h.1.1
    rw [List.flatten_cons, List.length_append, List.sum_cons, Int.natCast_add]
    omega
  | [], _, _, h => by simp [Blocks] at h
  | [_], _ :: _, _, h => by simp [Blocks] at h
  | [_], [], _ :: _, h => by simp [Blocks] at h
  | _ :: _ :: _, [], _, h => by simp [Blocks] at h
  | _ :: _ :: _, _ :: _, [], h => by simp [Blocks] at h
/-! sorted -/
def srt (l : List Int) : List Int := l.mergeSort fun a b => decide (a ≤ b)
theorem srt_perm (l : List Int) : (srt l).Perm l := List.mergeSort_perm l _
theorem srt_le (l : List Int) : (srt l).Pairwise (· ≤ ·) := by
  have := List.pairwise_mergeSort (le := fun a b : Int => decide (a ≤ b)) (fun a b c h1 h2 => by simp at h1 h2 ⊢; omega) (fun a b => by simp; omega) l
  exact this.imp fun h => by simpa using h
theorem srt_self {l : List Int} (h : l.Pairwise (· ≤ ·)) : srt l = l := List.mergeSort_of_pairwise (h.imp fun h => by simpa using h)
theorem le_unique : ∀ {l m : List Int}, l.Pairwise (· ≤ ·) → m.Pairwise (· ≤ ·) → l.Perm m → l = m
  | [], m, _, _, h => (List.nil_perm.mp h).symm
  | a :: l, [], _, _, h => by simp at h
  | a :: l, b :: m, p, q, h => by
    obtain ⟨p1, p2⟩ := List.pairwise_cons.mp p
    obtain ⟨q1, q2⟩ := List.pairwise_cons.mp q
    have hab : a = b := by
      have h1 : a ∈ b :: m := h.mem_iff.mp (by simp)
      have h2 : b ∈ a :: l := h.mem_iff.mpr (by simp)
      rcases List.mem_cons.mp h1 with e | e
      · exact e
      · rcases List.mem_cons.mp h2 with e' | e'
        · exact e'.symm
        · have := q1 a e
          have := p1 b e'
          omega
    subst hab
    rw [le_unique p2 q2 (List.Perm.cons_inv h)]
theorem sortD_ints (l : List Int) : sortD (l.map PyData.int) = (srt l).map PyData.int := by
  unfold sortD srt
  rw [List.map_mergeSort]
  intro a _ b _
  have := congrFun (congrFun (PySem.W.dataLe_int (fun d : Int => d)) a) b
  exact this.symm
theorem sortB_ints (l : List Int) : sortB (l.map PyData.int) = true := by
  unfold sortB
  simp [List.all_map, PySem.W.alike]
theorem x_sortL (l : List Int) (h : l.length ≤ 1000000) : gSorted [.val (.list (l.map PyData.int))] = .ok (.own ((srt l).map PyData.int)) := by simp [gSorted, sortB_ints, sortD_ints, h]
theorem x_sortBr (i : Nat) (l : List Int) (h : l.length ≤ 1000000) : gSorted [.bor i (l.map PyData.int)] = .ok (.own ((srt l).map PyData.int)) := by simp [gSorted, sortB_ints, sortD_ints, h]
theorem Blocks.sorted : ∀ {b c : List Int} {ls : List (List Int)}, Blocks b c ls → b.Pairwise (· < ·) → (∀ l ∈ ls, l.Pairwise (· ≤ ·)) → ls.flatten.Pairwise (· ≤ ·)
  | [_], [], [], _, _, _ => by simp
  | x :: y :: b, k :: c, l :: ls, h, p, q => by
    obtain ⟨p1, p2⟩ := List.pairwise_cons.mp p
    rw [List.flatten_cons]
    refine List.pairwise_append.mpr ⟨q l (by simp), Blocks.sorted h.2 p2 fun m hm => q m (List.mem_cons_of_mem _ hm), fun u hu v hv => ?_⟩
    have := (h.1.2 u hu).2
    have := Blocks.ge h.2 p2 v hv
    omega
  | [], _, _, h, _, _ => by simp [Blocks] at h
  | [_], _ :: _, _, h, _, _ => by simp [Blocks] at h
  | [_], [], _ :: _, h, _, _ => by simp [Blocks] at h
  | _ :: _ :: _, [], _, h, _, _ => by simp [Blocks] at h
  | _ :: _ :: _, _ :: _, [], h, _, _ => by simp [Blocks] at h
theorem Blocks.srt : ∀ {b c : List Int} {ls : List (List Int)}, Blocks b c ls → Blocks b c (ls.map Py.srt)
  | [_], [], [], _ => by simp [Blocks]
  | x :: y :: b, k :: c, l :: ls, h => by
    refine ⟨⟨by rw [(srt_perm l).length_eq]; exact h.1.1, fun v hv => h.1.2 v ((srt_perm l).mem_iff.mp hv)⟩, Blocks.srt h.2⟩
  | [], _, _, h => by simp [Blocks] at h
  | [_], _ :: _, _, h => by simp [Blocks] at h
  | [_], [], _ :: _, h => by simp [Blocks] at h
  | _ :: _ :: _, [], _, h => by simp [Blocks] at h
  | _ :: _ :: _, _ :: _, [], h => by simp [Blocks] at h
theorem flat_perm : ∀ ls : List (List Int), (ls.map srt).flatten.Perm ls.flatten
  | [] => by simp
  | l :: ls => by
    rw [List.map_cons, List.flatten_cons, List.flatten_cons]
    exact List.Perm.append (srt_perm l) (flat_perm ls)
theorem Blocks.srt_flat {b c : List Int} {ls : List (List Int)} (h : Blocks b c ls) (p : b.Pairwise (· < ·)) : Py.srt ls.flatten = (ls.map Py.srt).flatten := by
  refine le_unique (srt_le _) (h.srt.sorted p fun l hl => ?_) ((srt_perm _).trans (flat_perm ls).symm)
  obtain ⟨m, _, rfl⟩ := List.mem_map.mp hl
  exact srt_le m
theorem rep_sorted (n : Nat) (x : Int) : (List.replicate n x).Pairwise (· ≤ ·) := List.pairwise_replicate.mpr (.inr (Int.le_refl x))
theorem lowB_mem : ∀ {b c : List Int} {l : List Int}, l ∈ lowB b c → l.Pairwise (· ≤ ·)
  | [], _, _, h => by simp [lowB] at h
  | [_], _, _, h => by simp [lowB] at h
  | _ :: _ :: _, [], _, h => by simp [lowB] at h
  | x :: y :: b, k :: c, l, h => by
    rw [lowB, List.mem_cons] at h
    rcases h with rfl | h
    · exact rep_sorted _ _
    · exact lowB_mem h
theorem highB_mem : ∀ {b c : List Int} {l : List Int}, l ∈ highB b c → l.Pairwise (· ≤ ·)
  | [], _, _, h => by simp [highB] at h
  | [_], _, _, h => by simp [highB] at h
  | _ :: _ :: _, [], _, h => by simp [highB] at h
  | x :: y :: b, k :: c, l, h => by
    rw [highB, List.mem_cons] at h
    rcases h with rfl | h
    · exact rep_sorted _ _
    · exact highB_mem h
section
variable {b c : List Int} (h : VH b c)
include h
theorem VH.lowB : Blocks b c (lowB b c) := low_blocks h.len h.vb.inc fun x hx => (h.rg x hx).1
theorem VH.highB : Blocks b c (highB b c) := high_blocks h.len h.vb.inc fun x hx => (h.rg x hx).1
theorem low_sorted : (low b c).Pairwise (· ≤ ·) := by
  rw [low_flat b c h.len]
  exact h.lowB.sorted h.vb.inc fun l hl => lowB_mem hl
theorem high_sorted : (high b c).Pairwise (· ≤ ·) := by
  rw [high_flat b c h.len]
  exact h.highB.sorted h.vb.inc fun l hl => highB_mem hl
theorem low_cnts : cnts b (low b c) = c := by
  rw [low_flat b c h.len]
  exact h.lowB.cnts h.vb.inc
theorem high_cnts : cnts b (high b c) = c := by
  rw [high_flat b c h.len]
  exact h.highB.cnts h.vb.inc
end
theorem Blocks.between : ∀ {b c : List Int} {ls : List (List Int)}, Blocks b c ls → ∀ t ∈ (ls.flatten.zip ((Py.lowB b c).flatten.zip (Py.highB b c).flatten)), t.2.1 ≤ t.1 ∧ t.1 ≤ t.2.2
  | [_], [], [], _, t, ht => by simp at ht
  | x :: y :: b, k :: c, l :: ls, h, t, ht => by
    have hk : l.length = k.toNat := by have := h.1.1; omega
    rw [Py.lowB, Py.highB, List.flatten_cons, List.flatten_cons, List.flatten_cons, List.zip_append (by simp), List.zip_append (by simp [hk])] at ht
    rcases List.mem_append.mp ht with ht | ht
    · obtain ⟨h1, h2⟩ := List.of_mem_zip (a := t.1) (b := t.2) ht
      obtain ⟨h3, h4⟩ := List.of_mem_zip (a := t.2.1) (b := t.2.2) h2
      have := h.1.2 _ h1
      rw [(List.mem_replicate.mp h3).2, (List.mem_replicate.mp h4).2]
      omega
    · exact Blocks.between h.2 t ht
  | [], _, _, h, _, _ => by simp [Blocks] at h
  | [_], _ :: _, _, h, _, _ => by simp [Blocks] at h
  | [_], [], _ :: _, h, _, _ => by simp [Blocks] at h
  | _ :: _ :: _, [], _, h, _, _ => by simp [Blocks] at h
  | _ :: _ :: _, _ :: _, [], h, _, _ => by simp [Blocks] at h
theorem below_app (l m : List Int) (v : Int) : below (l ++ m) v = below l v + below m v := by simp [below]
theorem below_rep (n : Nat) (x v : Int) : below (List.replicate n x) v = if x < v then (n : Int) else 0 := by
  unfold below
  split <;> simp [List.filter_replicate, *]
theorem below_le (l : List Int) (v : Int) : 0 ≤ below l v ∧ below l v ≤ l.length := by
  unfold below
  have := List.length_filter_le (fun x : Int => decide (x < v)) l
  omega
theorem below_none {l : List Int} {v : Int} (h : ∀ x ∈ l, ¬ x < v) : below l v = 0 := by
  unfold below
  rw [List.filter_eq_nil_iff.mpr fun x hx => by simpa using h x hx]
  rfl
theorem below_all {l : List Int} {v : Int} (h : ∀ x ∈ l, x < v) : below l v = l.length := by
  unfold below
  rw [List.filter_eq_self.mpr fun x hx => by simpa using h x hx]
theorem below_perm {l m : List Int} (h : l.Perm m) (v : Int) : below l v = below m v := by
  unfold below
  rw [(h.filter _).length_eq]
theorem Blocks.below : ∀ {b c : List Int} {ls : List (List Int)}, Blocks b c ls → ∀ v, below (Py.highB b c).flatten v ≤ Py.below ls.flatten v ∧ Py.below ls.flatten v ≤ Py.below (Py.lowB b c).flatten v
  | [_], [], [], _, v => by simp [Py.lowB, Py.highB]
  | x :: y :: b, k :: c, l :: ls, h, v => by
    have ih := Blocks.below h.2 v
    have hk := h.1.1
    rw [Py.lowB, Py.highB, List.flatten_cons, List.flatten_cons, List.flatten_cons, below_app, below_app, below_app, below_rep, below_rep]
    have hl := below_le l v
    constructor
    · split
      · rename_i hy
        rw [below_all (l := l) fun z hz => by have := h.1.2 z hz; omega]
        omega
      · omega
    · split
      · omega
      · rename_i hx
        rw [below_none (l := l) fun z hz => by have := h.1.2 z hz; omega]
        omega
  | [], _, _, h, _ => by simp [Blocks] at h
  | [_], _ :: _, _, h, _ => by simp [Blocks] at h
  | [_], [], _ :: _, h, _ => by simp [Blocks] at h
  | _ :: _ :: _, [], _, h, _ => by simp [Blocks] at h
  | _ :: _ :: _, _ :: _, [], h, _ => by simp [Blocks] at h
end Py

set_option Elab.async false
set_option linter.all false
set_option maxRecDepth 100000
set_option autoImplicit false
set_option maxHeartbeats 4000000
/-! LibPick: what is drawn of a script. -/
namespace Py
open PySem L2
abbrev tPick : En → R Bool := tAnd (t2 cGt (eVar 5) (eK (.int 0))) (t2 cGt (eVar 6) (eK (.int 0)))
abbrev bPick : En → R Out := sPar 5 6 (e2 gDiv (eVar 5) (eK (.int 840))) (e2 gSub (eVar 6) (eK (.int 1)))
theorem pick_loop {a b c d e : Option Cl} : ∀ (n : Nat) (rest again : Int), again ≤ n → ∃ rest' again', whR tPick bPick (n + 1) [a, b, c, d, e, some (.val (.int rest)), some (.val (.int again))] = .ok (.nx [a, b, c, d, e, some (.val (.int rest')), some (.val (.int again'))])
  | n, rest, again, h => by
    by_cases h1 : 0 < rest
    · by_cases h2 : 0 < again
      · cases n with
        | zero => omega
        | succ n =>
          obtain ⟨r', g', ih⟩ := pick_loop (a := a) (b := b) (c := c) (d := d) (e := e) n (rest / 840) (again - 1) (by omega)
          refine ⟨r', g', ?_⟩
          rw [whR]
          simp [x_var, h1, h2, whK, ih]
      · refine ⟨rest, again, ?_⟩
        rw [whR]
        simp [x_var, h1, h2]
    · refine ⟨rest, again, ?_⟩
      rw [whR]
      simp [x_var, h1]
def cellOf (ns : List Int) (k : Int) : Int := if ns = [] then 0 else nth ns (k % ns.length)
theorem cell_eq (ns : List Int) (k : Int) (ρ : En) : eIf (t2 cNe (eVar 0) (eLst [])) (e2 gIx (eVar 0) (e2 gMod (eVar 1) (eB gLen [eVar 0]))) (eK (.int 0)) (some (.val (Li ns)) :: some (.val (.int k)) :: ρ) = .ok (.val (.int (cellOf ns k))) := by
  unfold cellOf
  by_cases h : ns = []
  · subst h
    simp [x_var, x_ne]
  · have h0 : 0 < ns.length := List.length_pos_iff.mpr h
    have h1 : 0 ≤ k % (ns.length : Int) := Int.emod_nonneg _ (by omega)
    have h2 : k % (ns.length : Int) < (ns.length : Int) := Int.emod_lt_of_pos _ (by omega)
    simp [x_var, x_ne, h0, h, x_ixL _ _ h1 h2]
theorem pick_ok (ns : List Int) (k many : Int) (h1 : 0 ≤ k) (h2 : k ≤ 4000) (h3 : 0 < many) (hn : ns.length ≤ 1000) : ∃ v, 0 ≤ v ∧ v < many ∧ F__law_pick [Li ns, .int k, .int many] = .ok (.val (.int v)) := by
  have hd : k / max (ns.length : Int) 1 ≤ (4999 : Nat) := by
    have : k / max (ns.length : Int) 1 ≤ k := Int.ediv_le_self _ h1
    omega
  obtain ⟨r, g, e⟩ := pick_loop (a := some (.val (Li ns))) (b := some (.val (.int k))) (c := some (.val (.int many))) (d := some (.val (.int (cellOf ns k)))) (e := none) 4999 (cellOf ns k / 1000000000000000000) (k / max (ns.length : Int) 1) hd
  have m1 : ∀ x : Int, 0 ≤ x % many ∧ x % many < many := fun x => ⟨Int.emod_nonneg _ (by omega), Int.emod_lt_of_pos _ h3⟩
  have p1 : gPow (.val (.int 10)) (.val (.int 18)) = .ok (.val (.int 1000000000000000000)) := by simp [gPow, gInt]
  have q1 : 0 < max (ns.length : Int) 1 ∧ max (ns.length : Int) 1 < 1267650600228229401496703205376 := by omega
  have ec := cell_eq ns k [some (.val (.int many)), none, none, none, none]
  by_cases hr : 0 < r
  · refine ⟨r % 840 % many, (m1 _).1, (m1 _).2, ?_⟩
    simp only [F__law_pick, fnR, m__law_pick, st0, x_seq, x_set]
    simp [-x_eIf, ec, x_var, p1, q1, sWhile, e, hr, h3]
  · have hw : ∀ x y : Int, okM (x % 2147483399) y := fun x y => by
      have := Int.emod_lt_of_pos x (show (0 : Int) < 2147483399 by decide)
      have := Int.emod_nonneg x (show (2147483399 : Int) ≠ 0 by decide)
      exact okM_l (by omega) (by omega)
    refine ⟨((cellOf ns k * 31 + 6151 * (k + 1)) * 40692 % 2147483399 * ((cellOf ns k * 31 + 6151 * (k + 1)) * 40692 % 2147483399) + (cellOf ns k * 31 + 6151 * (k + 1)) * 40692 % 2147483399 / 31) % 2147483629 % many, (m1 _).1, (m1 _).2, ?_⟩
    simp only [F__law_pick, fnR, m__law_pick, st0, x_seq, x_set]
    simp [-x_eIf, ec, x_var, p1, q1, sWhile, e, hr, h3, hw]
def pick (ns : List Int) (k many : Int) : Int := match F__law_pick [Li ns, .int k, .int many] with
  | .ok (.val (.int v)) => v
  | _ => 0
theorem pick_eq (ns : List Int) (k many : Int) (h1 : 0 ≤ k) (h2 : k ≤ 4000) (h3 : 0 < many) (hn : ns.length ≤ 1000) : F__law_pick [Li ns, .int k, .int many] = .ok (.val (.int (pick ns k many))) := by
  obtain ⟨v, _, _, e⟩ := pick_ok ns k many h1 h2 h3 hn
  unfold pick
  rw [e]
theorem pick_rg (ns : List Int) (k many : Int) (h1 : 0 ≤ k) (h2 : k ≤ 4000) (h3 : 0 < many) (hn : ns.length ≤ 1000) : 0 ≤ pick ns k many ∧ pick ns k many < many := by
  obtain ⟨v, p, q, e⟩ := pick_ok ns k many h1 h2 h3 hn
  unfold pick
  rw [e]
  exact ⟨p, q⟩
theorem rg_get {lo : Int} {n i : Nat} {d : PyData} (h : (rangeD lo n)[i]? = some d) : d = .int (lo + i) ∧ i < n := by
  unfold rangeD at h
  rw [List.getElem?_map] at h
  cases q : (List.range n)[i]? with
  | none => rw [q] at h; cases h
  | some k =>
    rw [q] at h
    obtain ⟨h1, h2⟩ := List.getElem?_eq_some_iff.mp q
    rw [List.getElem_range] at h2
    cases h
    subst h2
    exact ⟨rfl, by simpa using h1⟩
theorem rg0_get {n i : Nat} {d : PyData} (h : (rangeD 0 n)[i]? = some d) : d = .int i ∧ i < n := by
  have := rg_get h
  rwa [Int.zero_add] at this
theorem rangeD0 (n : Nat) : rangeD 0 n = (List.range n).map fun k : Nat => PyData.int (k : Int) := by simp [rangeD]
theorem x_nth {l : List Int} {i : Int} (h0 : 0 ≤ i) (h1 : i < l.length) : nth l i ∈ l := by
  unfold nth
  rw [List.getElem?_eq_getElem (show i.toNat < l.length by omega)]
  exact List.getElem_mem _
theorem len_two {l : List Int} {a b : Int} (h1 : a ∈ l) (h2 : b ∈ l) (h : a ≠ b) : 2 ≤ l.length := by
  match l with
  | [] => cases h1
  | [c] => simp at h1 h2; omega
  | c :: d :: l => simp
theorem insU_len (a : Int) : ∀ l, (insU a l).length ≤ l.length + 1
  | [] => by simp [insU]
  | b :: bs => by
    rw [insU]
    split
    · simp
    · split
      · simp
      · have := insU_len a bs
        simp only [List.length_cons]
        omega
theorem sortU_len : ∀ l, (sortU l).length ≤ l.length
  | [] => by simp [sortU]
  | a :: as => by
    have := sortU_len as
    have := insU_len a (sortU as)
    rw [sortU, List.length_cons]
    omega
abbrev bBor : En → R Out := sSeq (sSet 3 (eF (e2 gAdd (e2 gAdd (eVar 3) (eK (.int 1))) (eCall F__law_pick [eVar 0, e2 gAdd (e2 gAdd (eVar 1) (eK (.int 2))) (eVar 5), e2 gIx (eTup [eK (.int 2), eK (.int 5), eK (.int 9)]) (eCall F__law_pick [eVar 0, e2 gAdd (eVar 1) (eK (.int 12)), eK (.int 3)])]))))
  (sApp 4 (eB gMin2 [eVar 3, eK (.int 1000)]))
theorem ix_tup (l : List PyData) (m : List Int) (h : l = m.map PyData.int) (i : Int) (h0 : 0 ≤ i) (h1 : i < m.length) : gIx (.val (.tuple l)) (.val (.int i)) = .ok (.val (.int (nth m i))) := by subst h; exact x_ixT m i h0 h1
theorem sum_le {m : Int} : ∀ {c : List Int}, (∀ x ∈ c, 0 ≤ x ∧ x ≤ m) → 0 ≤ c.sum ∧ c.sum ≤ m * c.length
  | [], _ => by simp
  | a :: c, h => by
    have h1 := h a (by simp)
    have h2 := sum_le (c := c) fun x hx => h x (List.mem_cons_of_mem _ hx)
    rw [List.sum_cons, List.length_cons]
    have : m * ((c.length + 1 : Nat) : Int) = m * c.length + m := by rw [Int.natCast_add, Int.mul_add]; simp
    omega
end Py

set_option Elab.async false
set_option linter.all false
set_option maxRecDepth 100000
set_option autoImplicit false
set_option maxHeartbeats 4000000
/-! LibLawA: the laws' own helpers. -/
namespace Py
open PySem L2
theorem fill_app (a b : List (Int × Int)) : fill (a ++ b) = fill a ++ fill b := by simp [fill]
theorem fill_take {ps : List (Int × Int)} {i : Nat} {p : Int × Int} (h : ps[i]? = some p) : fill (ps.take (i + 1)) = fill (ps.take i) ++ List.replicate p.2.toNat p.1 := by
  rw [List.take_add_one, h, fill_app]
  simp [fill]
theorem nth_get {l : List Int} {i : Nat} (h : i < l.length) : l[i]? = some (nth l (i : Int)) := by
  rw [nth_nat, List.getElem?_eq_getElem h]
  rfl
theorem nth_mem {l : List Int} {i : Nat} (h : i < l.length) : nth l (i : Int) ∈ l := List.mem_of_getElem? (nth_get h)
theorem low_pair {b c : List Int} {i : Nat} (h : i < c.length) (hb : c.length + 1 = b.length) : (b.dropLast.zip c)[i]? = some (nth b i, nth c i) := by
  rw [List.getElem?_zip_eq_some, List.getElem?_dropLast, if_pos (by omega)]
  exact ⟨nth_get (by omega), nth_get h⟩
theorem high_pair {b c : List Int} {i : Nat} (h : i < c.length) (hb : c.length + 1 = b.length) : ((b.tail.map (· - 1)).zip c)[i]? = some (nth b ((i : Int) + 1) - 1, nth c i) := by
  rw [List.getElem?_zip_eq_some, List.getElem?_map, List.getElem?_tail]
  have e : b[i + 1]? = some (nth b ((i : Int) + 1)) := by
    have := nth_get (l := b) (i := i + 1) (by omega)
    simpa using this
  rw [e]
  exact ⟨rfl, nth_get h⟩
abbrev bEnds : En → R Out := sSeq (sExt 4 (e2 gMul (eLst [e2 gIx (eVar 2) (eVar 1)]) (e2 gIx (eVar 3) (eVar 1))))
  (sExt 5 (e2 gMul (eLst [e2 gSub (e2 gIx (eVar 2) (e2 gAdd (eVar 1) (eK (.int 1)))) (eK (.int 1))]) (e2 gIx (eVar 3) (eVar 1))))
theorem ends_step {b c : List Int} {i : Int} {z : Option Cl} {A B : List Int} (h0 : 0 ≤ i) (h1 : i < c.length) (h2 : i + 1 < b.length) (r1 : 0 ≤ nth c i) (r2 : nth c i ≤ 60) (ha : A.length ≤ 10000) (hb : B.length ≤ 10000) :
    bEnds [z, some (.val (.int i)), some (.val (Tu b)), some (.val (Tu c)), some (.own (A.map PyData.int)), some (.own (B.map PyData.int))] = .ok (.nx [z, some (.val (.int i)), some (.val (Tu b)), some (.val (Tu c)), some (.own ((A ++ List.replicate (nth c i).toNat (nth b i)).map PyData.int)), some (.own ((B ++ List.replicate (nth c i).toNat (nth b (i + 1) - 1)).map PyData.int))]) := by
  have e1 := x_ixT b i h0 (by omega)
  have e2 := x_ixT c i h0 h1
  have e3 := x_ixT b (i + 1) (by omega) h2
  have c1 : okK (nth c i) := okK_of (by omega) (by omega)
  have c2 : A.length + (nth c i).toNat ≤ 1000000 := by omega
  have c3 : B.length + (nth c i).toNat ≤ 1000000 := by omega
  simp [x_var, sExt, ownAt, e1, e2, e3, c1, c2, c3]
theorem ends_eq {b c : List Int} (h : VH b c) : F__law_ends [Hi b c] = .ok (.val (.tuple [Li (low b c), Li (high b c)])) := by
  have hl := h.l
  have hb := h.len
  obtain ⟨ρ', f1, x, f0, f2⟩ := for_ok (τ := .nm 1) (B := bEnds) (fun i ρ => ∃ x : Option Cl, ρ = [some (.val (Hi b c)), x, some (.val (Tu b)), some (.val (Tu c)), some (.own ((fill ((b.dropLast.zip c).take i)).map PyData.int)), some (.own ((fill (((b.tail.map (· - 1)).zip c).take i)).map PyData.int))] ∧
      (fill ((b.dropLast.zip c).take i)).length ≤ 60 * i ∧ (fill (((b.tail.map (· - 1)).zip c).take i)).length ≤ 60 * i) (rangeD 0 c.length) 0 [some (.val (Hi b c)), none, some (.val (Tu b)), some (.val (Tu c)), some (.own []), some (.own [])] ⟨none, by simp [fill], by simp [fill], by simp [fill]⟩ (by
    rintro i ρ d hd ⟨x, rfl, g1, g2⟩
    rw [Nat.zero_add] at g1 g2 ⊢
    obtain ⟨rfl, hi⟩ := rg0_get hd
    obtain ⟨r1, r2⟩ := h.rg _ (nth_mem hi)
    have t1 := fill_take (low_pair hi hb)
    have t2 := fill_take (high_pair hi hb)
    refine ⟨_, x_asg _ _ _, _, ends_step (Int.natCast_nonneg i) (by omega) (by omega) r1 r2 (by omega) (by omega), some (.val (.int i)), by rw [t1, t2], by rw [t1, List.length_append, List.length_replicate]; dsimp only; omega, by rw [t2, List.length_append, List.length_replicate]; dsimp only; omega⟩)
  have c1 : okR (c.length : Int) := okR_nat (by omega)
  have t1 : (b.dropLast.zip c).take c.length = b.dropLast.zip c := List.take_of_length_le (by rw [List.length_zip]; omega)
  have t2 : ((b.tail.map (· - 1)).zip c).take c.length = (b.tail.map (· - 1)).zip c := List.take_of_length_le (by rw [List.length_zip]; omega)
  rw [Nat.zero_add, rg_len, t1, t2] at f0
  have f0 : ρ' = [some (.val (Hi b c)), x, some (.val (Tu b)), some (.val (Tu c)), some (.own ((low b c).map PyData.int)), some (.own ((high b c).map PyData.int))] := f0
  rw [f0] at f1
  have z : ∀ (u v w x : Option Cl) (A B : List PyData), frzE 4 (frzE 5 [u, v, w, x, some (.own A), some (.own B)]) = [u, v, w, x, some (.val (.list A)), some (.val (.list B))] := fun _ _ _ _ _ _ => rfl
  refine fn_rt (seq_nx (ρ1 := [some (.val (Hi b c)), none, some (.val (Tu b)), some (.val (Tu c)), none, none]) (by simp [x_var, st0]) (seq_nx (ρ1 := [some (.val (Hi b c)), none, some (.val (Tu b)), some (.val (Tu c)), some (.own []), some (.own [])]) (by simp [x_var]) (seq_nx (for_nx (by simp [x_var, c1]) f1) ?_)))
  rw [x_frz, x_frz, z]
  simp [x_var]
theorem counts_loop {h v : Option Cl} {data : List Int} (hd : data.length ≤ 1000000) : ∀ (ps : List (Int × Int)) (acc : List Int) (x y z : Option Cl), acc.length + ps.length ≤ 1000 →
    ∃ x' y', forR (.tp [.nm 3, .nm 4]) (sApp 2 (eB gLen [eLc (iSeq (eVar 1)) (.nm 5) (tAnd (t2 cLe (eVar 3) (eVar 5)) (t2 cLt (eVar 5) (eVar 4))) (eVar 5) [5]])) (ps.map fun p => PyData.tuple [.int p.1, .int p.2])
      [h, some (.val (Li data)), some (.own (acc.map PyData.int)), x, y, none] = .ok (.nx [h, some (.val (Li data)), some (.own ((acc ++ ps.map (inside data)).map PyData.int)), x', y', none])
  | [], acc, x, y, z, _ => ⟨x, y, by simp [forR]⟩
  | p :: ps, acc, x, y, z, hl => by
    rw [List.length_cons] at hl
    obtain ⟨x', y', ih⟩ := counts_loop (h := h) (v := v) hd ps (acc ++ [inside data p]) (some (.val (.int p.1))) (some (.val (.int p.2))) none (by rw [List.length_append, List.length_singleton]; omega)
    refine ⟨x', y', ?_⟩
    have e1 : lcR (.nm 5) (tAnd (t2 cLe (eVar 3) (eVar 5)) (t2 cLt (eVar 5) (eVar 4))) (eVar 5) [h, some (.val (Li data)), some (.own (acc.map PyData.int)), some (.val (.int p.1)), some (.val (.int p.2)), none] (data.map PyData.int) = .ok ((data.filter fun v => decide (p.1 ≤ v) && decide (v < p.2)).map PyData.int) :=
      filter_lc _ data (fun y => by by_cases hy : p.1 ≤ y <;> simp [x_var, hy]) (fun y => by simp [x_var])
    have ha : acc.length ≤ 1000000 := by omega
    have hi : inside data p = ((data.filter fun v => decide (p.1 ≤ v) && decide (v < p.2)).length : Nat) := rfl
    rw [List.map_cons, List.map_cons, show acc ++ inside data p :: ps.map (inside data) = acc ++ [inside data p] ++ ps.map (inside data) by simp, ← ih, forR, hi]
    simp [ownAt, x_var, whK, wipeE, hd, e1, ha]
theorem counts_eq {b data : List Int} (hb : b.length ≤ 500) (hd : data.length ≤ 1000000) : F__law_counts [Tu b, Li data] = .ok (.val (Tu (cnts b data))) := by
  obtain ⟨x, y, e⟩ := counts_loop (h := some (.val (Tu b))) (v := none) hd (b.zip b.tail) [] none none none (by rw [List.length_zip]; simp; omega)
  rw [List.nil_append] at e
  have e : forR (.tp [.nm 3, .nm 4]) (sApp 2 (eB gLen [eLc (iSeq (eVar 1)) (.nm 5) (tAnd (t2 cLe (eVar 3) (eVar 5)) (t2 cLt (eVar 5) (eVar 4))) (eVar 5) [5]])) ((b.zip b.tail).map fun p => PyData.tuple [.int p.1, .int p.2]) [some (.val (Tu b)), some (.val (Li data)), some (.own []), none, none, none] = _ := e
  simp only [F__law_counts, fnR, m__law_counts, st0, x_seq, x_set]
  simp [x_var, gSl, cut_tail, ← List.map_tail, zipD_ints, e, cnts]
theorem fits_eq {b c data : List Int} (hb : b.length ≤ 500) (hd : data.length ≤ 1000000) (h1 : data.Pairwise (· ≤ ·)) (h2 : cnts b data = c) (h3 : (data.length : Int) = c.sum) : F__law_fits [Li data, Hi b c] = .ok (.val (.bool true)) := by
  simp [F__law_fits, fnR, m__law_fits, st0, x_var, x_ne, x_eq, x_sortL data hd, srt_self h1, gIx, atI, ixN, counts_eq hb hd, h2, h3]
theorem Blocks.snoc : ∀ {b c : List Int} {ls : List (List Int)} {x y k : Int} {l : List Int}, Blocks (b ++ [x]) c ls → (l.length : Int) = k → (∀ v ∈ l, x ≤ v ∧ v < y) → Blocks (b ++ [x, y]) (c ++ [k]) (ls ++ [l])
  | [], [], [], x, y, k, l, _, h1, h2 => ⟨⟨h1, h2⟩, trivial⟩
  | [], _ :: _, _, x, y, k, l, h, _, _ => by simp [Blocks] at h
  | [], [], _ :: _, x, y, k, l, h, _, _ => by simp [Blocks] at h
  | [z], k' :: c, m :: ls, x, y, k, l, h, h1, h2 => ⟨h.1, Blocks.snoc (b := []) h.2 h1 h2⟩
  | [z], [], _, x, y, k, l, h, _, _ => by simp [Blocks] at h
  | [z], _ :: _, [], x, y, k, l, h, _, _ => by simp [Blocks] at h
  | z :: z' :: b, k' :: c, m :: ls, x, y, k, l, h, h1, h2 => ⟨h.1, Blocks.snoc (b := z' :: b) h.2 h1 h2⟩
  | z :: z' :: b, [], _, x, y, k, l, h, _, _ => by simp [Blocks] at h
  | z :: z' :: b, _ :: _, [], x, y, k, l, h, _, _ => by simp [Blocks] at h
abbrev bIn : En → R Out := sSeq (sApp 6 (e2 gAdd (e2 gIx (eVar 4) (eVar 3)) (eCall F__law_pick [eVar 0, eVar 7, e2 gSub (e2 gIx (eVar 4) (e2 gAdd (eVar 3) (eK (.int 1)))) (e2 gIx (eVar 4) (eVar 3))])))
  (sSet 7 (e2 gAdd (eVar 7) (eK (.int 1))))
end Py

set_option Elab.async false
set_option linter.all false
set_option maxRecDepth 100000
set_option autoImplicit false
set_option maxHeartbeats 4000000
/-! LibSum: sums, means, data with a sum. -/
namespace Py
open PySem L2
theorem wh_step {t : En → R Bool} {B : En → R Out} {n : Nat} {ρ ρ' : En} (h1 : t ρ = .ok true) (h2 : B ρ = .ok (.nx ρ')) : whR t B (n + 1) ρ = whR t B n ρ' := by
  rw [whR, h1, r_ok, if_pos rfl, h2]
  rfl
theorem wh_stop {t : En → R Bool} {B : En → R Out} {n : Nat} {ρ : En} (h1 : t ρ = .ok false) : whR t B (n + 1) ρ = .ok (.nx ρ) := by
  rw [whR, h1, r_ok, if_neg Bool.false_ne_true]
theorem div_test (A B : Int) (h : B ≠ 0) : t2 cNe (eVar 1) (eK (.int 0)) [some (.val (.int A)), some (.val (.int B))] = .ok true := by simp [x_var, x_ne, h]
theorem div_stop (A : Int) : t2 cNe (eVar 1) (eK (.int 0)) [some (.val (.int A)), some (.val (.int 0))] = .ok false := by simp [x_var, x_ne]
end Py
namespace Py
open PySem L2
structure VD (d : List Int) : Prop where
  len : d.length ≤ 200
  rg : ∀ x ∈ d, 0 ≤ x ∧ x ≤ 999
  le : d.Pairwise (· ≤ ·)
theorem data_eq {d : List Int} (h : VD d) : F_are_data [Li d] = .ok (.val (.bool true)) := by
  have h0 := h.len
  have h2 : ¬ (200 : Int) < (d.length : Int) := by omega
  have h2' : ¬ 200 < d.length := by omega
  have l1 : d.length ≤ 1000000 := by omega
  have e1 : lcR (.nm 1) tYes (eCall F_is_int [eVar 1, eK (.int 0), eK (.int 999)]) [some (.val (Li d)), none, none, none] (d.map PyData.int) = .ok (d.map fun _ => PyData.bool true) := by
    refine lc_map _ _ d fun x hx => ⟨_, rfl, .val (.bool true), ?_, rfl⟩
    obtain ⟨r1, r2⟩ := h.rg x hx
    simp [x_var, is_int_eq, r1, r2]
  have e2 : lcR (.tp [.nm 2, .nm 3]) tYes (eT (t2 cLe (eVar 2) (eVar 3))) [some (.val (Li d)), none, none, none] ((d.zip d.tail).map fun p => PyData.tuple [.int p.1, .int p.2]) = .ok ((d.zip d.tail).map fun _ => PyData.bool true) := by
    refine lc_map _ _ _ fun p hp => ⟨_, rfl, .val (.bool true), ?_, rfl⟩
    have := pw_zip h.le p hp
    simp [x_var, this]
  have l2 : d.length ≤ 1000001 := by omega
  simp [F_are_data, fnR, m_are_data, st0, x_var, h2, h2', l1, wipeE, e1, gSl, cut_tail, ← List.map_tail, zipD_ints, e2, l2]
end Py

set_option Elab.async false
set_option linter.all false
set_option maxRecDepth 100000
set_option autoImplicit false
set_option maxHeartbeats 4000000
/-! LibHave: buckets, count_data, do_have. -/
namespace Py
open PySem L2
theorem cnt_le {v : Int} : ∀ {b : List Int}, b.Pairwise (· < ·) → ∀ (i : Nat) (hi : i < b.length), b[i] ≤ v ↔ i < (b.filter fun x => decide (x ≤ v)).length
  | [], _, i, hi => by simp at hi
  | a :: b, h, i, hi => by
    obtain ⟨h1, h2⟩ := List.pairwise_cons.mp h
    by_cases ha : a ≤ v
    · rw [List.filter_cons_of_pos (by simpa using ha), List.length_cons]
      cases i with
      | zero => simp [ha]
      | succ i =>
        rw [List.getElem_cons_succ, cnt_le h2 i (by simpa using hi)]
        omega
    · have e : (a :: b).filter (fun x => decide (x ≤ v)) = [] := List.filter_eq_nil_iff.mpr fun x hx => by
        rcases List.mem_cons.mp hx with rfl | hx
        · simpa using ha
        · have := h1 x hx
          simp
          omega
      rw [e]
      cases i with
      | zero => simp [ha]
      | succ i =>
        have := h1 _ (List.getElem_mem (show i < b.length by simpa using hi))
        rw [List.getElem_cons_succ]
        simp
        omega
theorem nth_elem {l : List Int} {i : Nat} (h : i < l.length) : nth l (i : Int) = l[i] := by
  have := nth_get h
  rw [List.getElem?_eq_getElem h] at this
  exact (Option.some.inj this).symm
def upTo (b : List Int) (v : Int) : Nat := (b.filter fun x => decide (x ≤ v)).length
theorem bucket_iff {b : List Int} (h : b.Pairwise (· < ·)) {i : Nat} (hi : i + 1 < b.length) (v : Int) : (upTo b v = i + 1) ↔ (nth b i ≤ v ∧ v < nth b ((i : Int) + 1)) := by
  have e1 := cnt_le (v := v) h i (by omega)
  have e2 := cnt_le (v := v) h (i + 1) hi
  rw [← nth_elem] at e1 e2
  have e3 : ((i + 1 : Nat) : Int) = (i : Int) + 1 := by omega
  rw [e3] at e2
  unfold upTo
  omega
theorem x_ixLast {l : List Int} (h : l ≠ []) : gIx (.val (.tuple (l.map PyData.int))) (.val (.int (-1))) = .ok (.val (.int (nth l ((l.length : Int) - 1)))) := by
  have hl : 0 < l.length := List.length_pos_iff.mpr h
  have e : atI (l.map PyData.int) (-1) = some (.int (nth l ((l.length : Int) - 1))) := by
    have q : ixN (l.map PyData.int).length (-1) = some (l.length - 1) := by
      unfold ixN
      rw [if_neg (by decide), List.length_map, if_pos (by omega)]
      congr 1
      omega
    unfold atI
    rw [q]
    have g := nth_get (l := l) (i := l.length - 1) (by omega)
    have c : ((l.length - 1 : Nat) : Int) = (l.length : Int) - 1 := by omega
    rw [c] at g
    simp [g]
  simp [gIx, e]
def bkt (b : List Int) (v : Int) : PyData := if nth b 0 ≤ v ∧ v < nth b ((b.length : Int) - 1) then .int ((upTo b v : Int) - 1) else .none
theorem bucket_eq {b : List Int} (hl : 0 < b.length) (hz : b.length ≤ 1000000) (v : Int) : F_find_bucket [Tu b, .int v] = .ok (.val (bkt b v)) := by
  have e0 := x_ixT b 0 (by omega) (by omega)
  have e1 := x_ixLast (l := b) (List.length_pos_iff.mp hl)
  have e2 : lcR (.nm 2) (t2 cLe (eVar 2) (eVar 1)) (eVar 2) [some (.val (Tu b)), some (.val (.int v)), none] (b.map PyData.int) = .ok ((b.filter fun x => decide (x ≤ v)).map PyData.int) :=
    filter_lc _ b (fun y => by simp [x_var]) (fun y => by simp [x_var])
  unfold bkt upTo
  by_cases h1 : nth b 0 ≤ v
  · by_cases h2 : v < nth b ((b.length : Int) - 1)
    · simp [F_find_bucket, fnR, m_find_bucket, st0, x_var, e0, e1, h1, h2, wipeE, hz, e2]
    · simp [F_find_bucket, fnR, m_find_bucket, st0, x_var, e0, e1, h1, h2]
  · simp [F_find_bucket, fnR, m_find_bucket, st0, x_var, e0, e1, h1]
theorem nth_mono {b : List Int} (h : b.Pairwise (· < ·)) {i j : Nat} (hij : i ≤ j) (hj : j < b.length) : nth b i ≤ nth b j := by
  rcases Nat.lt_or_eq_of_le hij with hlt | rfl
  · have := List.pairwise_iff_getElem.mp h i j (by omega) hj hlt
    rw [nth_elem (by omega), nth_elem hj]
    omega
  · exact Int.le_refl _
theorem bkt_is {b : List Int} (h : b.Pairwise (· < ·)) {i : Nat} (hi : i + 1 < b.length) (v : Int) : PyData.eqv (bkt b v) (.int i) = (decide (nth b i ≤ v) && decide (v < nth b ((i : Int) + 1))) := by
  have hb := bucket_iff h hi v
  have m1 := nth_mono h (Nat.zero_le i) (by omega)
  have m2 := nth_mono h (show i + 1 ≤ b.length - 1 by omega) (by omega)
  have c1 : ((i + 1 : Nat) : Int) = (i : Int) + 1 := by omega
  have c2 : ((b.length - 1 : Nat) : Int) = (b.length : Int) - 1 := by omega
  rw [c1, c2] at m2
  have m1 : nth b 0 ≤ nth b i := m1
  unfold bkt
  split
  · rw [eqv_int, ← Bool.decide_and]
    congr 1
    refine propext ⟨fun hh => hb.mp (by omega), fun hh => ?_⟩
    have := hb.mpr hh
    omega
  · rename_i hn
    have : ¬ (nth b i ≤ v ∧ v < nth b ((i : Int) + 1)) := fun hh => hn ⟨by omega, by omega⟩
    rw [← Bool.decide_and, decide_eq_false this]
    rfl
theorem bkt_depth (b : List Int) : ∀ d : List Int, PyData.depthAll (d.map (bkt b)) = 0
  | [] => rfl
  | v :: d => by
    rw [List.map_cons, depthAll_cons, bkt_depth b d]
    unfold bkt
    split <;> rfl
theorem cnts_range {b d : List Int} : cnts b d = (List.range (b.length - 1)).map fun i : Nat => inside d (nth b (i : Int), nth b ((i : Int) + 1)) := by
  unfold cnts
  apply List.ext_getElem
  · simp
  · intro i h1 h2
    have hi : i < b.length - 1 := by simpa using h2
    have g2 : b.tail[i]'(by simp; omega) = nth b ((i : Int) + 1) := by
      have := nth_elem (l := b) (i := i + 1) (by omega)
      rw [show ((i + 1 : Nat) : Int) = (i : Int) + 1 by omega] at this
      rw [this]
      simp
    simp only [List.getElem_map, List.getElem_zip, List.getElem_range]
    rw [g2, nth_elem (l := b) (i := i) (by omega)]
theorem count_data_eq {b d : List Int} (h : VB b) (hd : d.length ≤ 100000) : F_count_data [Tu b, Li d] = .ok (.val (Tu (cnts b d))) := by
  have l0 := h.lo
  have l1 := h.hi
  have e1 : ∀ x, lcR (.nm 3) tYes (eCall F_find_bucket [eVar 0, eVar 3]) [some (.val (Tu b)), some (.val (Li d)), none, none, x] (d.map PyData.int) = .ok (d.map (bkt b)) := fun x => by
    refine lc_map _ _ d fun v _ => ⟨_, rfl, .val (bkt b v), ?_, rfl⟩
    simp [x_var, bucket_eq (b := b) (by omega) (by omega) v]
  have e2 : ∀ x, lcR (.nm 4) tYes (eM gCount (eVar 2) (eVar 4)) [some (.val (Tu b)), some (.val (Li d)), some (.val (.list (d.map (bkt b)))), x, none] (rangeD 0 (b.length - 1)) = .ok ((List.range (b.length - 1)).map fun i : Nat => PyData.int (inside d (nth b (i : Int), nth b ((i : Int) + 1)))) := fun x => by
    rw [rangeD0]
    refine lc_map _ _ _ fun i hi => ⟨_, rfl, .val (.int (inside d (nth b (i : Int), nth b ((i : Int) + 1)))), ?_, rfl⟩
    have hi : i < b.length - 1 := by simpa using hi
    have ec : (d.map (bkt b)).countP (fun y => PyData.eqv y (.int i)) = (d.filter fun v => decide (nth b i ≤ v) && decide (v < nth b ((i : Int) + 1))).length := by
      rw [List.countP_map, List.countP_eq_length_filter]
      congr 1
      exact List.filter_congr fun v _ => bkt_is h.inc (by omega) v
    have eg : gCount (d.map (bkt b)) (.val (.int i)) = .ok (.val (.int (inside d (nth b (i : Int), nth b ((i : Int) + 1))))) := by
      unfold gCount
      rw [x_datV, ec, bkt_depth, if_pos (by simp)]
      rfl
    generalize d.map (bkt b) = D at eg
    simp [eM, Rv.lst, x_var, eg]
  have c1 : okR ((b.length : Int) - 1) := okR_of (by omega) (by omega)
  have c2 : ((b.length : Int) - 1).toNat = b.length - 1 := by omega
  have c3 : d.length ≤ 1000000 := by omega
  have c4 : b.length ≤ 1000001 := by omega
  have e3 : ((List.range (b.length - 1)).map fun i : Nat => PyData.int (inside d (nth b (i : Int), nth b ((i : Int) + 1)))) = (cnts b d).map PyData.int := by rw [cnts_range, List.map_map]; rfl
  rw [e3] at e2
  generalize d.map (bkt b) = D at e1 e2
  refine fn_rt (seq_nx (ρ1 := [some (.val (Tu b)), some (.val (Li d)), some (.val (.list D)), none, none]) (by simp [x_var, st0, wipeE, c3, e1]) ?_)
  simp [x_var, wipeE, c1, c2, c4, e2]
theorem have_eq {b c d : List Int} (h : VB b) (hd : d.length ≤ 100000) : F_do_have [Li d, Hi b c] = .ok (.val (.bool (decide ((d.length : Int) = c.sum) && decide (cnts b d = c)))) := by
  have e := count_data_eq h hd
  by_cases hl : (d.length : Int) = c.sum
  · simp [F_do_have, fnR, m_do_have, st0, x_var, x_eq, size_eq, gIx, atI, ixN, e, hl]
  · simp [F_do_have, fnR, m_do_have, st0, x_var, x_eq, size_eq, gIx, atI, ixN, hl]
end Py

set_option Elab.async false
set_option linter.all false
set_option maxRecDepth 100000
set_option autoImplicit false
set_option maxHeartbeats 4000000
/-! LibRaise: data between the least and the greatest are by buckets. -/
namespace Py
open PySem L2
inductive Btw : List Int → List Int → List Int → Prop
  | nil : Btw [] [] []
  | cons {x a y : Int} {l m h : List Int} (h1 : x ≤ a) (h2 : a ≤ y) (t : Btw l m h) : Btw (x :: l) (a :: m) (y :: h)
theorem Btw.split : ∀ {n : Nat} {x y : Int} {l m h : List Int}, Btw (List.replicate n x ++ l) m (List.replicate n y ++ h) → ∃ m1 m2, m = m1 ++ m2 ∧ m1.length = n ∧ (∀ v ∈ m1, x ≤ v ∧ v ≤ y) ∧ Btw l m2 h
  | 0, x, y, l, m, h, t => ⟨[], m, rfl, rfl, by simp, by simpa using t⟩
  | n + 1, x, y, l, m, h, t => by
    rw [List.replicate_succ, List.replicate_succ, List.cons_append, List.cons_append] at t
    cases t with
    | cons h1 h2 t =>
      obtain ⟨m1, m2, rfl, e, q, r⟩ := Btw.split t
      refine ⟨_ :: m1, m2, rfl, by rw [List.length_cons, e], fun v hv => ?_, r⟩
      rcases List.mem_cons.mp hv with rfl | hv
      · exact ⟨h1, h2⟩
      · exact q v hv
theorem Btw.blocks : ∀ {b c : List Int} {m : List Int}, c.length + 1 = b.length → (∀ x ∈ c, 0 ≤ x) → Btw (lowB b c).flatten m (highB b c).flatten → ∃ ls, m = ls.flatten ∧ Blocks b c ls
  | [], c, m, h, _, _ => by simp at h
  | [x], c, m, h, _, t => by
    have : c = [] := List.eq_nil_of_length_eq_zero (by simpa using h)
    subst this
    simp [lowB, highB] at t
    cases t
    exact ⟨[], rfl, trivial⟩
  | x :: y :: b, [], m, h, _, _ => by simp at h
  | x :: y :: b, k :: c, m, h, hc, t => by
    rw [lowB, highB, List.flatten_cons, List.flatten_cons] at t
    obtain ⟨m1, m2, rfl, e, q, r⟩ := Btw.split t
    obtain ⟨ls, rfl, bl⟩ := Btw.blocks (b := y :: b) (by simpa using h) (fun z hz => hc z (List.mem_cons_of_mem _ hz)) r
    have hk := hc k (by simp)
    exact ⟨m1 :: ls, by rw [List.flatten_cons], ⟨by omega, fun v hv => by have := q v hv; omega⟩, bl⟩
end Py
namespace Py
open PySem L2
theorem Btw.len : ∀ {l m h : List Int}, Btw l m h → l.length = m.length ∧ m.length = h.length
  | _, _, _, .nil => ⟨rfl, rfl⟩
  | _, _, _, .cons _ _ t => by
    have := Btw.len t
    simp only [List.length_cons]
    omega
theorem Btw.app : ∀ {l m h l' m' h' : List Int}, Btw l m h → Btw l' m' h' → Btw (l ++ l') (m ++ m') (h ++ h')
  | _, _, _, _, _, _, .nil, t => t
  | _, _, _, _, _, _, .cons a b s, t => .cons a b (Btw.app s t)
theorem Btw.rep {x y : Int} : ∀ {m : List Int}, (∀ v ∈ m, x ≤ v ∧ v ≤ y) → Btw (List.replicate m.length x) m (List.replicate m.length y)
  | [], _ => .nil
  | v :: m, h => by
    rw [List.length_cons, List.replicate_succ, List.replicate_succ]
    exact .cons (h v (by simp)).1 (h v (by simp)).2 (Btw.rep fun w hw => h w (List.mem_cons_of_mem _ hw))
theorem Blocks.btw : ∀ {b c : List Int} {ls : List (List Int)}, Blocks b c ls → Btw (Py.lowB b c).flatten ls.flatten (Py.highB b c).flatten
  | [_], [], [], _ => by simp [Py.lowB, Py.highB]; exact .nil
  | x :: y :: b, k :: c, l :: ls, h => by
    obtain ⟨⟨h1, h2⟩, h3⟩ := h
    rw [Py.lowB, Py.highB, List.flatten_cons, List.flatten_cons, List.flatten_cons]
    have e : k.toNat = l.length := by omega
    rw [e]
    exact Btw.app (Btw.rep fun v hv => by have := h2 v hv; omega) (Blocks.btw h3)
  | [], _, _, h => by simp [Blocks] at h
  | [_], _ :: _, _, h => by simp [Blocks] at h
  | [_], [], _ :: _, h => by simp [Blocks] at h
  | _ :: _ :: _, [], _, h => by simp [Blocks] at h
  | _ :: _ :: _, _ :: _, [], h => by simp [Blocks] at h
theorem VH.btw {b c : List Int} (h : VH b c) {ls : List (List Int)} (bl : Blocks b c ls) : Btw (low b c) ls.flatten (high b c) := by
  rw [low_flat b c h.len, high_flat b c h.len]
  exact bl.btw
theorem VH.bl {b c m : List Int} (h : VH b c) (t : Btw (low b c) m (high b c)) : ∃ ls, m = ls.flatten ∧ Blocks b c ls := by
  rw [low_flat b c h.len, high_flat b c h.len] at t
  exact t.blocks h.len fun x hx => (h.rg x hx).1
theorem VH.lowBtw {b c : List Int} (h : VH b c) : Btw (low b c) (low b c) (high b c) := by
  have := h.btw h.lowB
  rwa [← low_flat b c h.len] at this
theorem VH.highBtw {b c : List Int} (h : VH b c) : Btw (low b c) (high b c) (high b c) := by
  have := h.btw h.highB
  rwa [← high_flat b c h.len] at this
theorem Btw.sum : ∀ {l m h : List Int}, Btw l m h → l.sum ≤ m.sum ∧ m.sum ≤ h.sum
  | _, _, _, .nil => ⟨Int.le_refl _, Int.le_refl _⟩
  | _, _, _, .cons a b t => by
    have := Btw.sum t
    simp only [List.sum_cons]
    omega
theorem nth_cons_succ (a : Int) (l : List Int) (i : Nat) : nth (a :: l) ((i + 1 : Nat) : Int) = nth l (i : Int) := by rw [nth_nat, nth_nat]; rfl
theorem nth_cons_zero (a : Int) (l : List Int) : nth (a :: l) ((0 : Nat) : Int) = a := rfl
theorem Btw.at : ∀ {l m h : List Int} (i : Nat), Btw l m h → i < m.length → nth l i ≤ nth m i ∧ nth m i ≤ nth h i
  | _, _, _, i, .nil, hi => by simp at hi
  | _, _, _, 0, .cons a b t, hi => ⟨a, b⟩
  | _, _, _, i + 1, .cons a b t, hi => by
    rw [nth_cons_succ, nth_cons_succ, nth_cons_succ]
    exact Btw.at i t (by simpa using hi)
theorem Btw.set : ∀ {l m h : List Int} (i : Nat) (v : Int), Btw l m h → i < m.length → nth l i ≤ v → v ≤ nth h i → Btw l (m.set i v) h
  | _, _, _, i, v, .nil, hi, _, _ => by simp at hi
  | _, _, _, 0, v, .cons a b t, hi, h1, h2 => .cons h1 h2 t
  | _, _, _, i + 1, v, .cons a b t, hi, h1, h2 => by
    rw [nth_cons_succ] at h1 h2
    exact .cons a b (Btw.set i v t (by simpa using hi) h1 h2)
theorem sum_set : ∀ (m : List Int) (i : Nat) (v : Int), i < m.length → (m.set i v).sum = m.sum - nth m i + v
  | [], i, v, h => by simp at h
  | a :: m, 0, v, h => by rw [nth_cons_zero, List.set_cons_zero, List.sum_cons, List.sum_cons]; omega
  | a :: m, i + 1, v, h => by
    rw [nth_cons_succ, List.set_cons_succ, List.sum_cons, List.sum_cons, sum_set m i v (by simpa using h)]
    omega
theorem sum_perm {l m : List Int} (h : l.Perm m) : l.sum = m.sum := by
  induction h with
  | nil => rfl
  | cons x _ ih => rw [List.sum_cons, List.sum_cons, ih]
  | swap x y l => rw [List.sum_cons, List.sum_cons, List.sum_cons, List.sum_cons]; omega
  | trans _ _ h1 h2 => rw [h1, h2]
theorem x_down (i j : Int) (ρ : En) (φ ψ χ : En → R Rv) (h1 : φ ρ = .ok (.val (.int i))) (h2 : ψ ρ = .ok (.val (.int j))) (h3 : χ ρ = .ok (.val (.int (-1)))) (r1 : -1000000 ≤ i) (r2 : i ≤ 1000000) (r3 : -1000000 ≤ j) (r4 : j ≤ 1000000) : iRgD φ ψ χ ρ = .ok (true, downD i (i - j).toNat) := by
  unfold iRgD
  rw [h1, h2, h3]
  show (if (-1 : Int) = -1 ∧ -(2 ^ 60) ≤ i ∧ i < 2 ^ 60 ∧ -(2 ^ 60) ≤ j ∧ j < 2 ^ 60 then R.ok (true, downD i (i - j).toNat) else .bad) = _
  rw [if_pos ⟨rfl, by omega, by omega, by omega, by omega⟩]
theorem down_get {lo : Int} {n i : Nat} {d : PyData} (h : (downD lo n)[i]? = some d) : d = .int (lo - i) ∧ i < n := by
  unfold downD at h
  rw [List.getElem?_map] at h
  by_cases hi : i < n
  · rw [List.getElem?_range hi] at h
    cases h
    exact ⟨rfl, hi⟩
  · rw [List.getElem?_eq_none (by simpa using hi)] at h
    cases h
theorem down_len (lo : Int) (n : Nat) : (downD lo n).length = n := by simp [downD]
theorem x_subset (ρ : En) (i : Nat) (ψ φ : En → R Rv) (ds : List PyData) (d : PyData) (k : Nat) (h0 : ownAt ρ i = .ok ds) (h1 : φ ρ = .ok (.val d)) (h2 : ψ ρ = .ok (.val (.int k))) (hk : k < ds.length) : sSub i ψ φ ρ = .ok (.nx (ρ.set i (some (.own (ds.set k d))))) := by
  unfold sSub
  rw [h0, h1, h2]
  have e : ixN ds.length (k : Int) = some k := by
    unfold ixN
    rw [if_pos (by omega), if_pos (by omega)]
    simp
  show (match ixN ds.length (k : Int) with | some j => R.ok (Out.nx (ρ.set i (some (.own (ds.set j d))))) | none => .bad) = _
  rw [e]
end Py

set_option Elab.async false
set_option linter.all false
set_option maxRecDepth 100000
set_option autoImplicit false
set_option maxHeartbeats 4000000
/-! LibData: are_data of anything. -/
namespace Py
open PySem L2
theorem kb_int_NoneType : kitB "NoneType" "int" = some false := by decide +kernel
@[simp] theorem x_isi_int_NoneType  : isiD "int" .none = .ok false := by simp [isiD, tyN, kb_int_NoneType]
theorem kb_int_bool : kitB "bool" "int" = some true := by decide +kernel
@[simp] theorem x_isi_int_bool (x : Bool) : isiD "int" (.bool x) = .ok true := by simp [isiD, tyN, kb_int_bool]
theorem kb_int_str : kitB "str" "int" = some false := by decide +kernel
@[simp] theorem x_isi_int_str (x : Str) : isiD "int" (.str x) = .ok false := by simp [isiD, tyN, kb_int_str]
theorem kb_int_list : kitB "list" "int" = some false := by decide +kernel
@[simp] theorem x_isi_int_list (x : List PyData) : isiD "int" (.list x) = .ok false := by simp [isiD, tyN, kb_int_list]
theorem kb_int_tuple : kitB "tuple" "int" = some false := by decide +kernel
@[simp] theorem x_isi_int_tuple (x : List PyData) : isiD "int" (.tuple x) = .ok false := by simp [isiD, tyN, kb_int_tuple]
theorem kb_bool_NoneType : kitB "NoneType" "bool" = some false := by decide +kernel
@[simp] theorem x_isi_bool_NoneType  : isiD "bool" .none = .ok false := by simp [isiD, tyN, kb_bool_NoneType]
theorem kb_bool_bool : kitB "bool" "bool" = some true := by decide +kernel
@[simp] theorem x_isi_bool_bool (x : Bool) : isiD "bool" (.bool x) = .ok true := by simp [isiD, tyN, kb_bool_bool]
theorem kb_bool_str : kitB "str" "bool" = some false := by decide +kernel
@[simp] theorem x_isi_bool_str (x : Str) : isiD "bool" (.str x) = .ok false := by simp [isiD, tyN, kb_bool_str]
theorem kb_bool_list : kitB "list" "bool" = some false := by decide +kernel
@[simp] theorem x_isi_bool_list (x : List PyData) : isiD "bool" (.list x) = .ok false := by simp [isiD, tyN, kb_bool_list]
theorem kb_bool_tuple : kitB "tuple" "bool" = some false := by decide +kernel
@[simp] theorem x_isi_bool_tuple (x : List PyData) : isiD "bool" (.tuple x) = .ok false := by simp [isiD, tyN, kb_bool_tuple]
theorem kb_tuple_NoneType : kitB "NoneType" "tuple" = some false := by decide +kernel
@[simp] theorem x_isi_tuple_NoneType  : isiD "tuple" .none = .ok false := by simp [isiD, tyN, kb_tuple_NoneType]
theorem kb_tuple_bool : kitB "bool" "tuple" = some false := by decide +kernel
@[simp] theorem x_isi_tuple_bool (x : Bool) : isiD "tuple" (.bool x) = .ok false := by simp [isiD, tyN, kb_tuple_bool]
theorem kb_tuple_int : kitB "int" "tuple" = some false := by decide +kernel
@[simp] theorem x_isi_tuple_int (x : Int) : isiD "tuple" (.int x) = .ok false := by simp [isiD, tyN, kb_tuple_int]
theorem kb_tuple_str : kitB "str" "tuple" = some false := by decide +kernel
@[simp] theorem x_isi_tuple_str (x : Str) : isiD "tuple" (.str x) = .ok false := by simp [isiD, tyN, kb_tuple_str]
theorem kb_tuple_list : kitB "list" "tuple" = some false := by decide +kernel
@[simp] theorem x_isi_tuple_list (x : List PyData) : isiD "tuple" (.list x) = .ok false := by simp [isiD, tyN, kb_tuple_list]
theorem kb_list_NoneType : kitB "NoneType" "list" = some false := by decide +kernel
@[simp] theorem x_isi_list_NoneType  : isiD "list" .none = .ok false := by simp [isiD, tyN, kb_list_NoneType]
theorem kb_list_bool : kitB "bool" "list" = some false := by decide +kernel
@[simp] theorem x_isi_list_bool (x : Bool) : isiD "list" (.bool x) = .ok false := by simp [isiD, tyN, kb_list_bool]
theorem kb_list_int : kitB "int" "list" = some false := by decide +kernel
@[simp] theorem x_isi_list_int (x : Int) : isiD "list" (.int x) = .ok false := by simp [isiD, tyN, kb_list_int]
theorem kb_list_str : kitB "str" "list" = some false := by decide +kernel
@[simp] theorem x_isi_list_str (x : Str) : isiD "list" (.str x) = .ok false := by simp [isiD, tyN, kb_list_str]
theorem kb_list_tuple : kitB "tuple" "list" = some false := by decide +kernel
@[simp] theorem x_isi_list_tuple (x : List PyData) : isiD "list" (.tuple x) = .ok false := by simp [isiD, tyN, kb_list_tuple]
theorem kb_str_NoneType : kitB "NoneType" "str" = some false := by decide +kernel
@[simp] theorem x_isi_str_NoneType  : isiD "str" .none = .ok false := by simp [isiD, tyN, kb_str_NoneType]
theorem kb_str_bool : kitB "bool" "str" = some false := by decide +kernel
@[simp] theorem x_isi_str_bool (x : Bool) : isiD "str" (.bool x) = .ok false := by simp [isiD, tyN, kb_str_bool]
theorem kb_str_int : kitB "int" "str" = some false := by decide +kernel
@[simp] theorem x_isi_str_int (x : Int) : isiD "str" (.int x) = .ok false := by simp [isiD, tyN, kb_str_int]
theorem kb_str_str : kitB "str" "str" = some true := by decide +kernel
@[simp] theorem x_isi_str_str (x : Str) : isiD "str" (.str x) = .ok true := by simp [isiD, tyN, kb_str_str]
theorem kb_str_list : kitB "list" "str" = some false := by decide +kernel
@[simp] theorem x_isi_str_list (x : List PyData) : isiD "str" (.list x) = .ok false := by simp [isiD, tyN, kb_str_list]
theorem kb_str_tuple : kitB "tuple" "str" = some false := by decide +kernel
@[simp] theorem x_isi_str_tuple (x : List PyData) : isiD "str" (.tuple x) = .ok false := by simp [isiD, tyN, kb_str_tuple]
@[simp] theorem eqv_bool (a b : Bool) : PyData.eqv (.bool a) (.bool b) = (a == b) := by rw [PyData.eqv]
@[simp] theorem depth_bool (a : Bool) : PyData.depth (.bool a) = 0 := id rfl
@[simp] theorem depth_none : PyData.depth .none = 0 := id rfl
@[simp] theorem depth_str (a : Str) : PyData.depth (.str a) = 0 := id rfl
noncomputable instance (d : List Int) : Decidable (VD d) := Classical.propDecidable _
theorem zip_pw {l : List Int} (h : ∀ p ∈ l.zip l.tail, p.1 ≤ p.2) : l.Pairwise (· ≤ ·) := by
  induction l with
  | nil => exact .nil
  | cons a l ih =>
    cases l with
    | nil => simp
    | cons b l =>
      have h1 := h (a, b) (by simp)
      have h2 := ih fun p hp => h p (by rw [List.tail_cons] at hp ⊢; exact List.mem_cons_of_mem _ hp)
      refine List.pairwise_cons.mpr ⟨fun x hx => ?_, h2⟩
      rcases List.mem_cons.mp hx with rfl | hx
      · exact h1
      · have := (List.pairwise_cons.mp h2).1 x hx
        simp at h1
        omega
theorem is_int_lc {ρ : En} {i : Nat} (l : List Int) (lo hi : Int) (hi' : ρ.length = i + 1 + (ρ.length - i - 1)) (hp : ∀ x, eCall F_is_int [eVar i, eK (.int lo), eK (.int hi)] (ρ.set i (some (.val (.int x)))) = .ok (.val (.bool (decide (lo ≤ x ∧ x ≤ hi))))) : lcR (.nm i) tYes (eCall F_is_int [eVar i, eK (.int lo), eK (.int hi)]) ρ (l.map PyData.int) = .ok (l.map fun x => PyData.bool (decide (lo ≤ x ∧ x ≤ hi))) :=
  lc_map _ _ l fun x _ => ⟨_, rfl, _, hp x, rfl⟩
theorem data_dec (d : List Int) : F_are_data [Li d] = .ok (.val (.bool (decide (VD d)))) := by
  by_cases h : VD d
  · rw [decide_eq_true h]; exact data_eq h
  rw [decide_eq_false h]
  by_cases h0 : d.length ≤ 200
  · have h2 : ¬ (200 : Int) < (d.length : Int) := by omega
    have h2' : ¬ 200 < d.length := by omega
    have l1 : d.length ≤ 1000000 := by omega
    have l2 : d.length ≤ 1000001 := by omega
    have e1 : lcR (.nm 1) tYes (eCall F_is_int [eVar 1, eK (.int 0), eK (.int 999)]) [some (.val (Li d)), none, none, none] (d.map PyData.int) = .ok (d.map fun x => PyData.bool (decide (0 ≤ x ∧ x ≤ 999))) :=
      lc_map _ _ d fun x hx => ⟨_, rfl, .val (.bool (decide (0 ≤ x ∧ x ≤ 999))), by simp [x_var, is_int_eq], rfl⟩
    have e2 : lcR (.tp [.nm 2, .nm 3]) tYes (eT (t2 cLe (eVar 2) (eVar 3))) [some (.val (Li d)), none, none, none] ((d.zip d.tail).map fun p => PyData.tuple [.int p.1, .int p.2]) = .ok ((d.zip d.tail).map fun p => PyData.bool (decide (p.1 ≤ p.2))) :=
      lc_map _ _ _ fun p hp => ⟨_, rfl, .val (.bool (decide (p.1 ≤ p.2))), by simp [x_var], rfl⟩
    by_cases h3 : ∀ x ∈ d, 0 ≤ x ∧ x ≤ 999
    · have a1 : gAll [.val (.list (d.map fun x => PyData.bool (decide (0 ≤ x ∧ x ≤ 999))))] = .ok (.val (.bool true)) := by
        rw [x_allP]
        congr 3
        exact List.all_eq_true.mpr fun x hx => by simpa using h3 x hx
      have a2 : gAll [.val (.list ((d.zip d.tail).map fun p => PyData.bool (decide (p.1 ≤ p.2))))] = .ok (.val (.bool false)) := by
        rw [x_allP]
        congr 3
        rw [← Bool.not_eq_true]
        intro hall
        exact h ⟨h0, h3, zip_pw fun p hp => by simpa using List.all_eq_true.mp hall p hp⟩
      generalize (d.map fun x => PyData.bool (decide (0 ≤ x ∧ x ≤ 999))) = A at e1 a1
      generalize ((d.zip d.tail).map fun p => PyData.bool (decide (p.1 ≤ p.2))) = B at e2 a2
      simp [F_are_data, fnR, m_are_data, st0, x_var, h2, h2', l1, wipeE, e1, a1, gSl, cut_tail, ← List.map_tail, zipD_ints, e2, a2, l2]
    · have a1 : gAll [.val (.list (d.map fun x => PyData.bool (decide (0 ≤ x ∧ x ≤ 999))))] = .ok (.val (.bool false)) := by
        rw [x_allP]
        congr 3
        rw [← Bool.not_eq_true]
        intro hall
        exact h3 fun x hx => by simpa using List.all_eq_true.mp hall x hx
      generalize (d.map fun x => PyData.bool (decide (0 ≤ x ∧ x ≤ 999))) = A at e1 a1
      simp [F_are_data, fnR, m_are_data, st0, x_var, h2, h2', l1, wipeE, e1, a1]
  · have h2 : (200 : Int) < (d.length : Int) := by omega
    have h2' : 200 < d.length := by omega
    simp [F_are_data, fnR, m_are_data, st0, x_var, h2, h2']
theorem data_none : F_are_data [.none] = .ok (.val (.bool false)) := by simp [F_are_data, fnR, m_are_data, st0, x_var]
theorem data_tup (l : List PyData) : F_are_data [.tuple l] = .ok (.val (.bool false)) := by simp [F_are_data, fnR, m_are_data, st0, x_var]
theorem data_str (x : Str) : F_are_data [.str x] = .ok (.val (.bool false)) := by simp [F_are_data, fnR, m_are_data, st0, x_var]
theorem data_int (x : Int) : F_are_data [.int x] = .ok (.val (.bool false)) := by simp [F_are_data, fnR, m_are_data, st0, x_var]
theorem is_int_list (l : List PyData) (a b : Int) : F_is_int [.list l, .int a, .int b] = .ok (.val (.bool false)) := by simp [F_is_int, fnR, m_is_int, st0, x_var]
theorem is_int_none (a b : Int) : F_is_int [.none, .int a, .int b] = .ok (.val (.bool false)) := by simp [F_is_int, fnR, m_is_int, st0, x_var]
theorem data_nest (l : List PyData) : F_are_data [.list [.list l]] = .ok (.val (.bool false)) := by
  have a : gAll [.val (.list [.bool false])] = .ok (.val (.bool false)) := by simp [gAll, asBools]
  simp [F_are_data, fnR, m_are_data, st0, x_var, lcR, tYes, nerr, wipeE, is_int_list, a]
theorem data_noneL : F_are_data [.list [.none]] = .ok (.val (.bool false)) := by
  have a : gAll [.val (.list [.bool false])] = .ok (.val (.bool false)) := by simp [gAll, asBools]
  simp [F_are_data, fnR, m_are_data, st0, x_var, lcR, tYes, nerr, wipeE, is_int_none, a]
end Py

set_option Elab.async false
set_option linter.all false
set_option maxRecDepth 100000
set_option autoImplicit false
set_option maxHeartbeats 4000000
/-! LibTools: small tools for the laws' own texts. -/
namespace Py
open PySem L2
@[simp] theorem x_isNotB (a c : Bool) : cIsNot (.val (.bool a)) (.val (.bool c)) = .ok (!(a == c)) := by cases a <;> cases c <;> rfl
@[simp] theorem x_isB (a c : Bool) : cIs (.val (.bool a)) (.val (.bool c)) = .ok (a == c) := by cases a <;> cases c <;> rfl
@[simp] theorem x_isN (d : PyData) : cIs (.val d) (.val .none) = .ok (isNoneD d) := id rfl
@[simp] theorem x_isNotN (d : PyData) : cIsNot (.val d) (.val .none) = .ok (!isNoneD d) := id rfl
@[simp] theorem x_revL (d : List PyData) : gRev (.val (.list d)) = .ok (.own d.reverse) := id rfl
@[simp] theorem x_revT (d : List PyData) : gRev (.val (.tuple d)) = .ok (.val (.tuple d.reverse)) := id rfl
@[simp] theorem x_eRev (φ : En → R Rv) (ρ : En) : eRev φ ρ = (φ ρ >>= fun x => gRev (frz x)) := id rfl
@[simp] theorem x_slL (d : List PyData) (lo hi : Option Int) : gSl (.val (.list d)) lo hi = .ok (.own (cut d lo hi)) := id rfl
@[simp] theorem x_slT (d : List PyData) (lo hi : Option Int) : gSl (.val (.tuple d)) lo hi = .ok (.val (.tuple (cut d lo hi))) := id rfl
theorem Nx.yes {t : En → R Bool} {Φ Ψ : En → R Out} {ρ : En} {Q : En → Prop} (h : t ρ = .ok true) (k : Nx Φ ρ Q) : Nx (sIf t Φ Ψ) ρ Q := by
  obtain ⟨ρ2, h2, q⟩ := k
  exact ⟨ρ2, by rw [x_if, h]; exact h2, q⟩
theorem Blocks.rg : ∀ {b c : List Int} {ls : List (List Int)}, Blocks b c ls → (∀ x ∈ b, 0 ≤ x ∧ x ≤ 1000) → ∀ v ∈ ls.flatten, 0 ≤ v ∧ v ≤ 999
  | [_], [], [], _, _, v, hv => by simp at hv
  | x :: y :: b, k :: c, l :: ls, h, r, v, hv => by
    rw [List.flatten_cons] at hv
    rcases List.mem_append.mp hv with hv | hv
    · have := h.1.2 v hv
      have h1 := r x (by simp)
      have h2 := r y (by simp)
      omega
    · exact Blocks.rg h.2 (fun z hz => r z (List.mem_cons_of_mem _ hz)) v hv
  | [], _, _, h, _, _, _ => by simp [Blocks] at h
  | [_], _ :: _, _, h, _, _, _ => by simp [Blocks] at h
  | [_], [], _ :: _, h, _, _, _ => by simp [Blocks] at h
  | _ :: _ :: _, [], _, h, _, _, _ => by simp [Blocks] at h
  | _ :: _ :: _, _ :: _, [], h, _, _, _ => by simp [Blocks] at h
theorem VD.of_blocks {b c : List Int} {ls : List (List Int)} (h : VH b c) (bl : Blocks b c ls) : VD (srt ls.flatten) where
  len := by
    have := bl.len
    have := h.sum
    have := (srt_perm ls.flatten).length_eq
    omega
  rg := fun x hx => bl.rg h.vb.rg x ((srt_perm ls.flatten).mem_iff.mp hx)
  le := srt_le _
theorem VD.low {b c : List Int} (h : VH b c) : VD (low b c) := by
  have := VD.of_blocks h h.lowB
  rwa [← low_flat b c h.len, srt_self (low_sorted h)] at this
theorem VD.high {b c : List Int} (h : VH b c) : VD (high b c) := by
  have := VD.of_blocks h h.highB
  rwa [← high_flat b c h.len, srt_self (high_sorted h)] at this
theorem fits_dec {b c d : List Int} (hb : b.length ≤ 500) (hd : d.length ≤ 1000000) (h1 : d.Pairwise (· ≤ ·)) : F__law_fits [Li d, Hi b c] = .ok (.val (.bool (decide (cnts b d = c) && decide ((d.length : Int) = c.sum)))) := by
  by_cases h2 : cnts b d = c
  · simp [F__law_fits, fnR, m__law_fits, st0, x_var, x_ne, x_eq, x_sortL d hd, srt_self h1, gIx, atI, ixN, counts_eq hb hd, h2]
  · simp [F__law_fits, fnR, m__law_fits, st0, x_var, x_ne, x_eq, x_sortL d hd, srt_self h1, gIx, atI, ixN, counts_eq hb hd, h2]
theorem blk_sum {b c : List Int} {ls : List (List Int)} (h : VH b c) (bl : Blocks b c ls) : (Py.low b c).sum ≤ ls.flatten.sum ∧ ls.flatten.sum ≤ (Py.high b c).sum := (h.btw bl).sum
theorem blk_fit {b c : List Int} {ls : List (List Int)} (h : VH b c) (bl : Blocks b c ls) : cnts b (srt ls.flatten) = c ∧ ((srt ls.flatten).length : Int) = c.sum := by
  refine ⟨by rw [cnts_perm (srt_perm ls.flatten)]; exact bl.cnts h.vb.inc, ?_⟩
  rw [(srt_perm ls.flatten).length_eq]
  exact bl.len
theorem sum_nonneg {l : List Int} (h : ∀ x ∈ l, 0 ≤ x) : 0 ≤ l.sum := by
  induction l with
  | nil => simp
  | cons a l ih =>
    have := h a (by simp)
    have := ih fun x hx => h x (List.mem_cons_of_mem _ hx)
    rw [List.sum_cons]
    omega
end Py

set_option Elab.async false
set_option linter.all false
set_option maxRecDepth 100000
set_option autoImplicit false
set_option maxHeartbeats 4000000
/-! LibEvery: small histograms and all data with them. -/
namespace Py
open PySem L2
theorem nth_app_l {l m : List Int} {i : Nat} (h : i < l.length) : nth (l ++ m) (i : Int) = nth l (i : Int) := by
  rw [nth_nat, nth_nat, List.getElem?_append_left h]
theorem nth_app_r (l : List Int) (v : Int) : nth (l ++ [v]) (l.length : Int) = v := by
  rw [nth_nat, List.getElem?_append_right (Nat.le_refl _)]
  simp
structure Sm (b c : List Int) : Prop where
  vh : VH b c
  wid : ∀ i : Nat, i + 1 < b.length → nth b ((i : Int) + 1) ≤ nth b i + 4
  few : c.sum ≤ 5
  top : ∀ x ∈ b, x ≤ 14
theorem pw_snoc {l : List Int} {v : Int} (h : l.Pairwise (· < ·)) (k : ∀ x ∈ l, x < v) : (l ++ [v]).Pairwise (· < ·) := by
  rw [List.pairwise_append]
  exact ⟨h, by simp, fun x hx y hy => by simp at hy; subst hy; exact k x hx⟩
theorem small_pick (ns : List Int) (hn : ns.length ≤ 1000) (place : Int) (h0 : 0 ≤ place) (h1 : place ≤ 3000) : ∃ b c, F__law_small [Li ns, .int place] = .ok (.val (Hi b c)) ∧ Sm b c := by
  have q0 := pick_eq ns place 3 h0 (by omega) (by omega) hn
  have p0 := pick_rg ns place 3 h0 (by omega) (by omega) hn
  have q1 := pick_eq ns (place + 1) 3 (by omega) (by omega) (by omega) hn
  have p1 := pick_rg ns (place + 1) 3 (by omega) (by omega) (by omega) hn
  generalize pick ns place 3 = A at q0 p0
  generalize pick ns (place + 1) 3 = M at q1 p1
  obtain ⟨ρ', f1, a, B, C, x2, x7, f0, f2, f3, f4, f5, f6, f7, f8, f9⟩ := for_ok (τ := .nm 2) (B := b__law_small_0) (fun i ρ => ∃ (a : Int) (B C : List Int) (x2 x7 : Option Cl), ρ = [some (.val (Li ns)), some (.val (.int place)), x2, some (.val (.int a)), some (.own (B.map PyData.int)), some (.own (C.map PyData.int)), some (.val (.int (5 - C.sum))), x7] ∧
      B.length = i + 1 ∧ C.length = i ∧ B.Pairwise (· < ·) ∧ (∀ x ∈ B, 0 ≤ x ∧ x ≤ a) ∧ nth B i = a ∧ (a ≤ 2 + 4 * i ∧ 0 ≤ a) ∧ (∀ x ∈ C, 0 ≤ x ∧ x ≤ 3) ∧ (C.sum ≤ 5 ∧ ∀ j : Nat, j + 1 < B.length → nth B ((j : Int) + 1) ≤ nth B j + 4)) (rangeD 0 (1 + M).toNat) 0
      [some (.val (Li ns)), some (.val (.int place)), none, some (.val (.int A)), some (.own [.int A]), some (.own []), some (.val (.int 5)), none] ⟨A, [A], [], none, none, rfl, rfl, rfl, by simp, by simp; omega, rfl, by omega, by simp, by decide, fun j hj => by simp at hj⟩ (by
    rintro i ρ d hd ⟨a, B, C, x2, x7, rfl, g1, g2, g3, g4, g5, g6, g7, g8, g9⟩
    rw [Nat.zero_add] at g1 g2 g5 g6 ⊢
    obtain ⟨rfl, hi⟩ := rg0_get hd
    have hi' : (i : Int) < 3 := by omega
    have q3 := pick_eq ns (place + 2 + (i : Int)) 4 (by omega) (by omega) (by omega) hn
    have p3 := pick_rg ns (place + 2 + (i : Int)) 4 (by omega) (by omega) (by omega) hn
    have q4 := pick_eq ns (place + 6 + (i : Int)) 4 (by omega) (by omega) (by omega) hn
    have p4 := pick_rg ns (place + 6 + (i : Int)) 4 (by omega) (by omega) (by omega) hn
    generalize pick ns (place + 2 + (i : Int)) 4 = u at q3 p3
    generalize pick ns (place + 6 + (i : Int)) 4 = v at q4 p4
    have lB : B.length ≤ 1000000 := by omega
    have lC : C.length ≤ 1000000 := by omega
    have s0 := sum_nonneg fun x hx => (g7 x hx).1
    have es : (C ++ [min (5 - C.sum) v]).sum = C.sum + min (5 - C.sum) v := by simp
    refine ⟨_, rfl, [some (.val (Li ns)), some (.val (.int place)), some (.val (.int i)), some (.val (.int (a + 1 + u))), some (.own ((B ++ [a + 1 + u]).map PyData.int)), some (.own ((C ++ [min (5 - C.sum) v]).map PyData.int)), some (.val (.int (5 - (C ++ [min (5 - C.sum) v]).sum))), some (.val (.int (min (5 - C.sum) v)))], ?_, _, _, _, _, _, rfl, by simp [g1], by simp [g2], pw_snoc g3 fun x hx => by have := g4 x hx; omega, fun x hx => ?_, ?_, by omega, fun x hx => ?_, by omega, fun j hj => ?_⟩
    · rw [es]
      simp [x_var, q3, q4, ownAt, lB, lC, Int.sub_sub]
    · rcases List.mem_append.mp hx with h | h
      · have := g4 x h; omega
      · simp at h; omega
    · have := nth_app_r B (a + 1 + u)
      rw [g1] at this
      exact this
    · rcases List.mem_append.mp hx with h | h
      · exact g7 x h
      · simp at h; omega
    · rw [List.length_append, List.length_singleton] at hj
      by_cases hj2 : j + 1 < B.length
      · have a1 := nth_app_l (m := [a + 1 + u]) (show j < B.length by omega)
        have a2 := nth_app_l (m := [a + 1 + u]) hj2
        have := g9 j hj2
        rw [show ((j + 1 : Nat) : Int) = (j : Int) + 1 by omega] at a2
        rw [a1, a2]
        exact this
      · have hj3 : j = i := by omega
        subst hj3
        have a1 := nth_app_l (m := [a + 1 + u]) (show j < B.length by omega)
        have a2 := nth_app_r B (a + 1 + u)
        rw [g1, show ((j + 1 : Nat) : Int) = (j : Int) + 1 by omega] at a2
        rw [a1, a2, g5]
        omega)
  rw [Nat.zero_add, rg_len] at f2 f3 f6 f7
  have r1 : okR (1 + M) := okR_of (by omega) (by omega)
  rw [f0] at f1
  have hm : (1 + M).toNat ≤ 3 := by omega
  have sB : ∀ x ∈ B, 0 ≤ x ∧ x ≤ 14 := fun x hx => by have := f5 x hx; omega
  refine ⟨B, C, ?_, ⟨⟨⟨by omega, by omega, fun x hx => by have := sB x hx; omega, f4⟩, by omega, fun x hx => by have := f8 x hx; omega, by omega⟩, f9.2, f9.1, fun x hx => (sB x hx).2⟩⟩
  refine fn_rt (seq_nx (ρ1 := [some (.val (Li ns)), some (.val (.int place)), none, some (.val (.int A)), some (.own []), some (.own []), some (.val (.int 5)), none]) ?_ (seq_nx (ρ1 := [some (.val (Li ns)), some (.val (.int place)), none, some (.val (.int A)), some (.own [.int A]), some (.own []), some (.val (.int 5)), none]) (by simp [x_var, ownAt]) (seq_nx (for_nx (by simp [x_var, q1, r1]) f1) ?_)))
  · simp [x_var, st0, q0, sPar4]
  · simp [x_var]
/-! all data -/
def lastD (d : List Int) : Int := if d = [] then 0 else nth d ((d.length : Int) - 1)
def rng (lo hi : Int) : List Int := (List.range (hi - lo).toNat).map fun k : Nat => lo + (k : Int)
theorem mem_rng {lo hi v : Int} : v ∈ rng lo hi ↔ lo ≤ v ∧ v < hi := by
  unfold rng
  rw [List.mem_map]
  refine ⟨fun ⟨k, hk, e⟩ => ?_, fun h => ⟨(v - lo).toNat, ?_, ?_⟩⟩
  · rw [List.mem_range] at hk; omega
  · rw [List.mem_range]; omega
  · omega
theorem rng_len (lo hi : Int) : (rng lo hi).length = (hi - lo).toNat := by simp [rng]
theorem rangeD_rng (lo hi : Int) : rangeD lo (hi - lo).toNat = (rng lo hi).map PyData.int := by unfold rng; rw [List.map_map]; rfl
def ext (x y : Int) (d : List Int) : List (List Int) := (rng (max x (lastD d)) y).map fun v => d ++ [v]
theorem x_ixLastL {l : List Int} (h : l ≠ []) : gIx (.val (.list (l.map PyData.int))) (.val (.int (-1))) = .ok (.val (.int (nth l ((l.length : Int) - 1)))) := by
  have hl : 0 < l.length := List.length_pos_iff.mpr h
  have e : atI (l.map PyData.int) (-1) = some (.int (nth l ((l.length : Int) - 1))) := by
    have q : ixN (l.map PyData.int).length (-1) = some (l.length - 1) := by
      unfold ixN
      rw [if_neg (by decide), List.length_map, if_pos (by omega)]
      congr 1
      omega
    unfold atI
    rw [q]
    have g := nth_get (l := l) (i := l.length - 1) (by omega)
    have c : ((l.length - 1 : Nat) : Int) = (l.length : Int) - 1 := by omega
    rw [c] at g
    simp [g]
  simp [gIx, e]
theorem every_in {b c : List Int} {h f x5 : Option Cl} {i : Nat} (hi : i < c.length) (hb : c.length + 1 = b.length) (hv : ∀ x ∈ b, 0 ≤ x ∧ x ≤ 1000) : ∀ (E acc : List (List Int)) (x7 x8 x9 : Option Cl), (∀ d ∈ E, d.length ≤ 1000 ∧ ∀ v ∈ d, 0 ≤ v ∧ v ≤ 1000) → acc.length + 1001 * E.length ≤ 1000000 →
    ∃ x7' x8' : Option Cl, forR (.nm 7) b__law_every_0 (E.map Li) [h, f, some (.val (.int i)), some (.val (Tu b)), some (.val (Tu c)), x5, some (.own (acc.map Li)), x7, x8, x9] = .ok (.nx [h, f, some (.val (.int i)), some (.val (Tu b)), some (.val (Tu c)), x5, some (.own ((acc ++ E.flatMap (ext (nth b i) (nth b ((i : Int) + 1)))).map Li)), x7', x8', x9])
  | [], acc, x7, x8, x9, _, _ => ⟨x7, x8, by simp [forR]⟩
  | d :: E, acc, x7, x8, x9, hE, hl => by
    rw [List.length_cons] at hl
    have hx := hv _ (nth_mem (l := b) (i := i) (by omega))
    have hy := hv _ (nth_mem (l := b) (i := i + 1) (by omega))
    rw [show ((i + 1 : Nat) : Int) = (i : Int) + 1 by omega] at hy
    have hd := (hE d (by simp)).1
    have hr : (rng (max (nth b i) (lastD d)) (nth b ((i : Int) + 1))).length ≤ 1000 := by rw [rng_len]; omega
    have hel : (ext (nth b i) (nth b ((i : Int) + 1)) d).length ≤ 1000 := by unfold ext; rw [List.length_map]; exact hr
    obtain ⟨x7', x8', ih⟩ := every_in (b := b) (c := c) (h := h) (f := f) (x5 := x5) hi hb hv E (acc ++ ext (nth b i) (nth b ((i : Int) + 1)) d) (some (.val (Li d))) (some (.val (.int (max (nth b i) (lastD d))))) x9 (fun d' hd' => hE d' (List.mem_cons_of_mem _ hd')) (by rw [List.length_append]; omega)
    refine ⟨x7', x8', ?_⟩
    rw [List.flatMap_cons, ← List.append_assoc, ← ih]
    have k1 := x_ixT b (i : Int) (by omega) (by omega)
    have k2 := x_ixT b ((i : Int) + 1) (by omega) (by omega)
    have el : eIf (t2 cNe (eVar 7) (eLst [])) (e2 gIx (eVar 7) (eNeg (eK (.int 1)))) (eK (.int 0)) [h, f, some (.val (.int i)), some (.val (Tu b)), some (.val (Tu c)), x5, some (.own (acc.map Li)), some (.val (Li d)), x8, x9] = .ok (.val (.int (lastD d))) := by
      unfold lastD
      by_cases hz : d = []
      · subst hz
        simp [x_var, x_ne]
      · simp [x_var, x_ne, hz, x_ixLastL hz]
    have hlast : 0 ≤ lastD d ∧ lastD d ≤ 1000 := by
      unfold lastD
      split
      · omega
      · rename_i hz
        have hp : 0 < d.length := List.length_pos_iff.mpr hz
        have := (hE d (by simp)).2 _ (nth_mem (l := d) (i := d.length - 1) (by omega))
        rw [show ((d.length - 1 : Nat) : Int) = (d.length : Int) - 1 by omega] at this
        exact this
    generalize hM : max (nth b i) (lastD d) = M at *
    have hM2 : 0 ≤ M ∧ M ≤ 1000 := by omega
    have r1 : okR M := okR_of (by omega) (by omega)
    have r2 : okR (nth b ((i : Int) + 1)) := okR_of (by omega) (by omega)
    have dl : d.length + 1 ≤ 1000000 := by omega
    have e3 : lcR (.nm 9) tYes (e2 gAdd (eVar 7) (eLst [eVar 9])) [h, f, some (.val (.int i)), some (.val (Tu b)), some (.val (Tu c)), x5, some (.own (acc.map Li)), some (.val (Li d)), some (.val (.int M)), none] ((rng M (nth b ((i : Int) + 1))).map PyData.int) = .ok ((ext (nth b i) (nth b ((i : Int) + 1)) d).map Li) := by
      unfold ext
      rw [hM, List.map_map]
      refine lc_map _ _ _ fun v _ => ⟨_, rfl, .own ((d ++ [v]).map PyData.int), ?_, rfl⟩
      simp [x_var, dl]
    have nn : (nth b ((i : Int) + 1) - M).toNat ≤ 1000000 := by omega
    rw [← rangeD_rng] at e3
    have al : acc.length + (ext (nth b i) (nth b ((i : Int) + 1)) d).length ≤ 1000000 := by omega
    generalize ext (nth b i) (nth b ((i : Int) + 1)) d = X at e3 al ⊢
    have s1 : b__law_every_0 [h, f, some (.val (.int i)), some (.val (Tu b)), some (.val (Tu c)), x5, some (.own (acc.map Li)), some (.val (Li d)), x8, x9] = .ok (.nx [h, f, some (.val (.int i)), some (.val (Tu b)), some (.val (Tu c)), x5, some (.own ((acc ++ X).map Li)), some (.val (Li d)), some (.val (.int M)), x9]) := by
      refine seq_nx (ρ1 := [h, f, some (.val (.int i)), some (.val (Tu b)), some (.val (Tu c)), x5, some (.own (acc.map Li)), some (.val (Li d)), some (.val (.int M)), x9]) ?_ ?_
      · rw [x_set, x_eB, x_evR, x_evR, el]
        simp [x_var, k1, hM]
      · simp [x_var, sExt, ownAt, wipeE, k2, r1, r2, nn, e3, al]
    rw [List.map_cons, forR, x_asg]
    show (b__law_every_0 _ >>= whK _) = _
    rw [show ([h, f, some (.val (.int i)), some (.val (Tu b)), some (.val (Tu c)), x5, some (.own (acc.map Li)), x7, x8, x9] : En).set 7 (some (.val (Li d))) = [h, f, some (.val (.int i)), some (.val (Tu b)), some (.val (Tu c)), x5, some (.own (acc.map Li)), some (.val (Li d)), x8, x9] from rfl, s1]
    rfl
theorem Btw.snoc_iff : ∀ {L H D : List Int} {x y : Int}, Btw (L ++ [x]) D (H ++ [y]) ↔ ∃ d v, D = d ++ [v] ∧ Btw L d H ∧ x ≤ v ∧ v ≤ y := by
  intro L H D x y
  constructor
  · intro t
    induction L generalizing D H with
    | nil =>
      cases H with
      | nil => cases t with | cons h1 h2 t => cases t; exact ⟨[], _, rfl, .nil, h1, h2⟩
      | cons a H => cases t with | cons h1 h2 t => exfalso; have h3 := t.len; simp only [List.append_eq, List.length_append, List.length_cons, List.length_nil] at h3; omega
    | cons a L ih =>
      cases H with
      | nil => cases t with | cons h1 h2 t => exfalso; have h3 := t.len; simp only [List.append_eq, List.length_append, List.length_cons, List.length_nil] at h3; omega
      | cons c H =>
        cases t with
        | cons h1 h2 t =>
          obtain ⟨d, v, rfl, k1, k2, k3⟩ := ih t
          exact ⟨_ :: d, v, rfl, .cons h1 h2 k1, k2, k3⟩
  · rintro ⟨d, v, rfl, k1, k2, k3⟩
    exact Btw.app k1 (.cons k2 k3 .nil)
theorem le_snoc {d : List Int} {v : Int} : (d ++ [v]).Pairwise (· ≤ ·) ↔ d.Pairwise (· ≤ ·) ∧ ∀ u ∈ d, u ≤ v := by
  rw [List.pairwise_append]
  simp
theorem last_le {d : List Int} {v : Int} (h : d.Pairwise (· ≤ ·)) (hv : 0 ≤ v) : lastD d ≤ v ↔ ∀ u ∈ d, u ≤ v := by
  unfold lastD
  split
  · rename_i hz; subst hz; simp [hv]
  · rename_i hz
    have hp : 0 < d.length := List.length_pos_iff.mpr hz
    rw [show (d.length : Int) - 1 = ((d.length - 1 : Nat) : Int) by omega, nth_elem (by omega)]
    refine ⟨fun hl u hu => ?_, fun hu => hu _ (List.getElem_mem _)⟩
    obtain ⟨i, hi, rfl⟩ := List.getElem_of_mem hu
    by_cases he : i = d.length - 1
    · subst he; exact hl
    · have := List.pairwise_iff_getElem.mp h i (d.length - 1) hi (by omega) (by omega)
      omega
theorem ext_mem {E : List (List Int)} {L H : List Int} {x y : Int} (h0 : 0 ≤ x) (hE : ∀ d, d ∈ E ↔ d.Pairwise (· ≤ ·) ∧ Btw L d H) (D : List Int) : D ∈ E.flatMap (ext x y) ↔ D.Pairwise (· ≤ ·) ∧ Btw (L ++ [x]) D (H ++ [y - 1]) := by
  rw [List.mem_flatMap]
  constructor
  · rintro ⟨d, hd, hD⟩
    unfold ext at hD
    obtain ⟨v, hv, rfl⟩ := List.mem_map.mp hD
    rw [mem_rng] at hv
    obtain ⟨p1, p2⟩ := (hE d).mp hd
    refine ⟨le_snoc.mpr ⟨p1, (last_le p1 (by omega)).mp (by omega)⟩, Btw.snoc_iff.mpr ⟨d, v, rfl, p2, by omega, by omega⟩⟩
  · rintro ⟨p1, p2⟩
    obtain ⟨d, v, rfl, k1, k2, k3⟩ := Btw.snoc_iff.mp p2
    obtain ⟨q1, q2⟩ := le_snoc.mp p1
    have := (last_le q1 (show 0 ≤ v by omega)).mpr q2
    refine ⟨d, (hE d).mpr ⟨q1, k1⟩, ?_⟩
    unfold ext
    exact List.mem_map.mpr ⟨v, mem_rng.mpr ⟨by omega, by omega⟩, rfl⟩
theorem ext_len {x y : Int} (h : y ≤ x + 4) : ∀ E : List (List Int), (E.flatMap (ext x y)).length ≤ 4 * E.length
  | [] => by simp
  | d :: E => by
    have := ext_len h E
    rw [List.flatMap_cons, List.length_append, List.length_cons]
    have : (ext x y d).length ≤ 4 := by unfold ext; rw [List.length_map, rng_len]; omega
    omega
theorem Btw.rg2 : ∀ {L d H : List Int} {a z : Int}, Btw L d H → (∀ x ∈ L, a ≤ x) → (∀ x ∈ H, x ≤ z) → ∀ v ∈ d, a ≤ v ∧ v ≤ z
  | _, _, _, a, z, .nil, _, _, v, hv => by simp at hv
  | _, _, _, a, z, .cons h1 h2 t, hL, hH, v, hv => by
    rcases List.mem_cons.mp hv with rfl | hv
    · have := hL _ (List.mem_cons_self ..)
      have := hH _ (List.mem_cons_self ..)
      omega
    · exact Btw.rg2 t (fun x hx => hL x (List.mem_cons_of_mem _ hx)) (fun x hx => hH x (List.mem_cons_of_mem _ hx)) v hv
theorem mem_fill {ps : List (Int × Int)} {v : Int} (h : v ∈ fill ps) : ∃ p ∈ ps, v = p.1 := by
  unfold fill at h
  obtain ⟨p, hp, hv⟩ := List.mem_flatMap.mp h
  exact ⟨p, hp, List.eq_of_mem_replicate hv⟩
theorem fill_take_len (ps : List (Int × Int)) (i : Nat) : (fill (ps.take i)).length ≤ (fill ps).length := by
  have := fill_app (ps.take i) (ps.drop i)
  rw [List.take_append_drop] at this
  rw [this, List.length_append]
  omega
theorem rep_snoc (n : Nat) (x : Int) : List.replicate (n + 1) x = List.replicate n x ++ [x] := by rw [List.replicate_succ']
def All (b c : List Int) (E : List (List Int)) : Prop := ∀ d, d ∈ E ↔ d.Pairwise (· ≤ ·) ∧ Btw (low b c) d (high b c)
theorem every_eq {b c : List Int} (h : Sm b c) : ∃ E : List (List Int), F__law_every [Hi b c] = .ok (.val (.list (E.map Li))) ∧ All b c E ∧ E.length ≤ 1024 := by
  have hv := h.vh
  have hb := hv.len
  have hl := hv.l
  have hbr := hv.vb.rg
  have lw := low_len hv
  have hw := high_len hv
  have few := h.few
  obtain ⟨ρ', f1, E, x2, x5, x6, x7, x8, x9, f0, f2, f3⟩ := for_ok (τ := .nm 2) (B := b__law_every_2) (fun i ρ => ∃ (E : List (List Int)) (x2 x5 x6 x7 x8 x9 : Option Cl), ρ = [some (.val (Hi b c)), some (.val (.list (E.map Li))), x2, some (.val (Tu b)), some (.val (Tu c)), x5, x6, x7, x8, x9] ∧
      (∀ d, d ∈ E ↔ d.Pairwise (· ≤ ·) ∧ Btw (fill ((b.dropLast.zip c).take i)) d (fill (((b.tail.map (· - 1)).zip c).take i))) ∧ E.length ≤ 4 ^ (fill ((b.dropLast.zip c).take i)).length) (rangeD 0 c.length) 0
      [some (.val (Hi b c)), some (.val (.list [Li []])), none, some (.val (Tu b)), some (.val (Tu c)), none, none, none, none, none] ⟨[[]], none, none, none, none, none, none, rfl, fun d => by
        simp only [List.take_zero, fill, List.flatMap_nil, List.mem_singleton]
        refine ⟨fun e => by subst e; exact ⟨.nil, .nil⟩, fun e => ?_⟩
        cases e.2
        rfl, by simp [fill]⟩ (by
    rintro i ρ d hd ⟨E, x2, x5, x6, x7, x8, x9, rfl, g1, g2⟩
    rw [Nat.zero_add] at g1 g2 ⊢
    obtain ⟨rfl, hi⟩ := rg0_get hd
    obtain ⟨r1, r2⟩ := hv.rg _ (nth_mem hi)
    have t1 := fill_take (low_pair hi hb)
    have t2 := fill_take (high_pair hi hb)
    have hx := hbr _ (nth_mem (l := b) (i := i) (by omega))
    have hy := hbr _ (nth_mem (l := b) (i := i + 1) (by omega))
    rw [show ((i + 1 : Nat) : Int) = (i : Int) + 1 by omega] at hy
    have hw4 := h.wid i (by omega)
    have bl := fill_take_len (b.dropLast.zip c) (i + 1)
    have mL : ∀ v ∈ fill ((b.dropLast.zip c).take i), 0 ≤ v := fun v hv' => by
      obtain ⟨p, hp, rfl⟩ := mem_fill hv'
      exact (hbr _ ((List.dropLast_sublist b).subset (List.of_mem_zip (List.mem_of_mem_take hp)).1)).1
    have mH : ∀ v ∈ fill (((b.tail.map (· - 1)).zip c).take i), v ≤ 1000 := fun v hv' => by
      obtain ⟨p, hp, rfl⟩ := mem_fill hv'
      obtain ⟨q, hq, e⟩ := List.mem_map.mp (List.of_mem_zip (List.mem_of_mem_take hp)).1
      have := (hbr _ (List.mem_of_mem_tail hq)).2
      omega
    rw [t1, t2]
    rw [t1, List.length_append, List.length_replicate] at bl
    change _ ≤ (low b c).length at bl
    simp only at bl ⊢
    generalize fill ((b.dropLast.zip c).take i) = L at *
    generalize fill (((b.tail.map (· - 1)).zip c).take i) = H at *
    have k2 := x_ixT c (i : Int) (by omega) (by omega)
    obtain ⟨ρ2, u1, E2, z5, z6, z7, z8, z9, u0, u2, u3⟩ := for_ok (τ := .nm 5) (B := b__law_every_1) (fun j ρ => ∃ (E : List (List Int)) (x5 x6 x7 x8 x9 : Option Cl), ρ = [some (.val (Hi b c)), some (.val (.list (E.map Li))), some (.val (.int i)), some (.val (Tu b)), some (.val (Tu c)), x5, x6, x7, x8, x9] ∧
      (∀ d, d ∈ E ↔ d.Pairwise (· ≤ ·) ∧ Btw (L ++ List.replicate j (nth b i)) d (H ++ List.replicate j (nth b ((i : Int) + 1) - 1))) ∧ E.length ≤ 4 ^ (L.length + j)) (rangeD 0 (nth c i).toNat) 0
      [some (.val (Hi b c)), some (.val (.list (E.map Li))), some (.val (.int i)), some (.val (Tu b)), some (.val (Tu c)), x5, x6, x7, x8, x9] ⟨E, _, _, _, _, _, rfl, by simpa using g1, g2⟩ (by
      rintro j ρ d hd ⟨E, x5, x6, x7, x8, x9, rfl, g1, g2⟩
      rw [Nat.zero_add] at g1 g2 ⊢
      obtain ⟨rfl, hj⟩ := rg0_get hd
      have p4 : 4 ^ (L.length + j) ≤ 4 ^ 4 := Nat.pow_le_pow_right (by decide) (by omega)
      have p5 : (4 : Nat) ^ 4 = 256 := by decide
      have hEl : E.length ≤ 256 := by omega
      have hEd : ∀ d ∈ E, d.length ≤ 1000 ∧ ∀ v ∈ d, 0 ≤ v ∧ v ≤ 1000 := fun d hd => by
        obtain ⟨q1, q2⟩ := (g1 d).mp hd
        have := q2.len
        refine ⟨by rw [← this.1, List.length_append, List.length_replicate]; omega, Btw.rg2 q2 (fun x hx' => ?_) fun x hx' => ?_⟩
        · rcases List.mem_append.mp hx' with z | z
          · exact mL x z
          · rw [List.eq_of_mem_replicate z]; omega
        · rcases List.mem_append.mp hx' with z | z
          · exact mH x z
          · rw [List.eq_of_mem_replicate z]; omega
      obtain ⟨y7, y8, e1⟩ := every_in (b := b) (c := c) (h := some (.val (Hi b c))) (f := some (.val (.list (E.map Li)))) (x5 := some (.val (.int j))) hi hb hbr E [] x7 x8 x9 hEd (by simp; omega)
      rw [List.nil_append] at e1
      refine ⟨_, rfl, _, seq_nx (ρ1 := [some (.val (Hi b c)), some (.val (.list (E.map Li))), some (.val (.int i)), some (.val (Tu b)), some (.val (Tu c)), some (.val (.int j)), some (.own []), x7, x8, x9]) (by simp) (seq_nx (for_nx (ds := E.map Li) (by simp [x_var]) e1) (by simp [x_var, frzE]; exact ⟨rfl, rfl, rfl, rfl, rfl⟩)), E.flatMap (ext (nth b i) (nth b ((i : Int) + 1))), _, _, _, _, _, rfl, fun D => ?_, ?_⟩
      · rw [ext_mem hx.1 g1 D, rep_snoc, rep_snoc, List.append_assoc, List.append_assoc]
      · have := ext_len hw4 E
        rw [← Nat.add_assoc, Nat.pow_succ]
        omega)
    rw [Nat.zero_add, rg_len] at u2 u3
    rw [u0] at u1
    have c1 : okR (nth c i) := okR_of (by omega) (by omega)
    refine ⟨_, rfl, _, for_nx (by simp [x_var, k2, c1]) u1, E2, _, _, _, _, _, _, rfl, u2, by rw [List.length_append, List.length_replicate]; exact u3⟩)
  rw [Nat.zero_add, rg_len] at f2 f3
  have t1 : (b.dropLast.zip c).take c.length = b.dropLast.zip c := List.take_of_length_le (by rw [List.length_zip]; omega)
  have t2 : ((b.tail.map (· - 1)).zip c).take c.length = (b.tail.map (· - 1)).zip c := List.take_of_length_le (by rw [List.length_zip]; omega)
  rw [t1, t2] at f2
  rw [t1] at f3
  have f3 : E.length ≤ 4 ^ (low b c).length := f3
  have c1 : okR (c.length : Int) := okR_nat (by omega)
  rw [f0] at f1
  refine ⟨E, ?_, f2, ?_⟩
  · refine fn_rt (seq_nx (ρ1 := [some (.val (Hi b c)), none, none, some (.val (Tu b)), some (.val (Tu c)), none, none, none, none, none]) (by simp [x_var, st0]) (seq_nx (ρ1 := [some (.val (Hi b c)), some (.val (.list [Li []])), none, some (.val (Tu b)), some (.val (Tu c)), none, none, none, none, none]) (by simp) (seq_nx (for_nx (by simp [x_var, c1]) f1) (by simp [x_var]))))
  · have p4 : 4 ^ (low b c).length ≤ 4 ^ 5 := Nat.pow_le_pow_right (by decide) (by omega)
    have p5 : (4 : Nat) ^ 5 = 1024 := by decide
    omega
end Py

set_option Elab.async false
set_option linter.all false
set_option maxRecDepth 100000
set_option autoImplicit false
set_option maxHeartbeats 4000000
/-! LibMany: spreads, multiplicities, sums of all data. -/
namespace Py
open PySem L2
theorem min_is {l : List Int} {m : Int} (hm : m ∈ l) (h : ∀ x ∈ l, m ≤ x) : gMin1 [.val (.list (l.map PyData.int))] = .ok (.val (.int m)) := by
  obtain ⟨m', e, _, h1, h2⟩ := x_min (List.ne_nil_of_mem hm)
  have := h2 m hm
  have := h m' h1
  rw [e, show m' = m by omega]
theorem max_is {l : List Int} {m : Int} (hm : m ∈ l) (h : ∀ x ∈ l, x ≤ m) : gMax1 [.val (.list (l.map PyData.int))] = .ok (.val (.int m)) := by
  obtain ⟨m', e, _, h1, h2⟩ := x_max (List.ne_nil_of_mem hm)
  have := h2 m hm
  have := h m' h1
  rw [e, show m' = m by omega]
theorem Btw.blw : ∀ {l m h : List Int}, Btw l m h → ∀ v, Py.below h v ≤ Py.below m v ∧ Py.below m v ≤ Py.below l v
  | _, _, _, .nil, v => ⟨Int.le_refl _, Int.le_refl _⟩
  | _, _, _, .cons (x := x) (a := a) (y := y) (l := l) (m := m) (h := h) h1 h2 t, v => by
    have ih := Btw.blw t v
    have e : ∀ (z : Int) (l : List Int), Py.below (z :: l) v = (if z < v then 1 else 0) + Py.below l v := fun z l => by
      have := below_app [z] l v
      rw [List.singleton_append] at this
      rw [this]
      have := below_rep 1 z v
      simp only [List.replicate_one] at this
      rw [this]
      simp
    rw [e, e, e]
    split <;> split <;> split <;> omega
theorem Btw.sums : ∀ {l m h : List Int}, Btw l m h → ∀ t, l.sum ≤ t → t ≤ h.sum → ∃ m', Btw l m' h ∧ m'.sum = t
  | _, _, _, .nil, t, h1, h2 => ⟨[], .nil, by simp at h1 h2 ⊢; omega⟩
  | _, _, _, .cons (x := x) (a := a) (y := y) (l := l) (m := m) (h := h) k1 k2 s, t, h1, h2 => by
    rw [List.sum_cons] at h1 h2
    have hs := Btw.sum s
    obtain ⟨m', b1, b2⟩ := Btw.sums s (t - min y (t - l.sum)) (by omega) (by omega)
    exact ⟨min y (t - l.sum) :: m', .cons (by omega) (by omega) b1, by rw [List.sum_cons]; omega⟩
theorem btw_srt {b c m : List Int} (h : VH b c) (t : Btw (low b c) m (high b c)) : Btw (low b c) (srt m) (high b c) := by
  obtain ⟨ls, rfl, bl⟩ := h.bl t
  rw [bl.srt_flat h.vb.inc]
  exact h.btw bl.srt
theorem btw_cnts {b c m : List Int} (h : VH b c) (t : Btw (low b c) m (high b c)) : cnts b m = c := by
  obtain ⟨ls, rfl, bl⟩ := h.bl t
  exact bl.cnts h.vb.inc
theorem btw_len {b c m : List Int} (h : VH b c) (t : Btw (low b c) m (high b c)) : (m.length : Int) = c.sum := by
  rw [← t.len.1]; exact low_len h
section
variable {b c : List Int} {E : List (List Int)} (h : VH b c) (hE : All b c E)
include h hE
theorem All.low : Py.low b c ∈ E := (hE _).mpr ⟨low_sorted h, h.lowBtw⟩
theorem All.high : Py.high b c ∈ E := (hE _).mpr ⟨high_sorted h, h.highBtw⟩
theorem All.len {d : List Int} (hd : d ∈ E) : (d.length : Int) = c.sum := btw_len h ((hE d).mp hd).2
theorem All.sum {t : Int} (h1 : (Py.low b c).sum ≤ t) (h2 : t ≤ (Py.high b c).sum) : ∃ d ∈ E, d.sum = t := by
  obtain ⟨m, k1, k2⟩ := h.lowBtw.sums t h1 h2
  exact ⟨srt m, (hE _).mpr ⟨srt_le m, btw_srt h k1⟩, by rw [sum_perm (srt_perm m)]; exact k2⟩
theorem All.vd {d : List Int} (hd : d ∈ E) : VD d := by
  obtain ⟨k1, k2⟩ := (hE d).mp hd
  obtain ⟨ls, rfl, bl⟩ := h.bl k2
  have := VD.of_blocks h bl
  rwa [srt_self k1] at this
end
theorem lt_uniq : ∀ {l m : List Int}, l.Pairwise (· < ·) → m.Pairwise (· < ·) → (∀ x, x ∈ l ↔ x ∈ m) → l = m
  | [], [], _, _, _ => rfl
  | [], b :: m, _, _, h => by have := (h b).mpr (by simp); simp at this
  | a :: l, [], _, _, h => by have := (h a).mp (by simp); simp at this
  | a :: l, b :: m, p, q, h => by
    obtain ⟨p1, p2⟩ := List.pairwise_cons.mp p
    obtain ⟨q1, q2⟩ := List.pairwise_cons.mp q
    have e : a = b := by
      rcases List.mem_cons.mp ((h a).mp (by simp)) with e | e
      · exact e
      · rcases List.mem_cons.mp ((h b).mpr (by simp)) with e' | e'
        · exact e'.symm
        · have := q1 a e
          have := p1 b e'
          omega
    subst e
    refine congrArg (a :: ·) (lt_uniq p2 q2 fun x => ⟨fun hx => ?_, fun hx => ?_⟩)
    · rcases List.mem_cons.mp ((h x).mp (List.mem_cons_of_mem _ hx)) with e | e
      · have := p1 x hx; omega
      · exact e
    · rcases List.mem_cons.mp ((h x).mpr (List.mem_cons_of_mem _ hx)) with e | e
      · have := q1 x hx; omega
      · exact e
theorem rng_lt (lo hi : Int) : (rng lo hi).Pairwise (· < ·) := by
  unfold rng
  rw [List.pairwise_map]
  exact List.pairwise_lt_range.imp fun h => by omega
theorem Sm.zip {b c : List Int} (h : Sm b c) : ∀ p ∈ b.zip b.tail, p.2 ≤ p.1 + 4 := by
  intro p hp
  obtain ⟨i, hi, rfl⟩ := List.getElem_of_mem hp
  rw [List.length_zip, List.length_tail] at hi
  have := h.wid i (by omega)
  rw [show (i : Int) + 1 = ((i + 1 : Nat) : Int) by omega, nth_elem (by omega), nth_elem (by omega)] at this
  simpa using this
theorem wide3 : ∀ {b c : List Int}, (∀ p ∈ b.zip b.tail, p.1 < p.2 ∧ p.2 ≤ p.1 + 4) → c.length + 1 = b.length → Btw (low b c) (high b c) ((low b c).map (· + 3))
  | [], c, _, h => by simp at h
  | [x], c, _, h => by
    have : c = [] := List.eq_nil_of_length_eq_zero (by simpa using h)
    subst this
    rw [low_nil, high_nil]
    exact .nil
  | x :: y :: b, [], _, h => by simp at h
  | x :: y :: b, k :: c, hw, h => by
    rw [low_cons, high_cons, List.map_append, List.map_replicate]
    have h1 := hw (x, y) (by simp)
    have ih := wide3 (b := y :: b) (c := c) (fun p hp => hw p (by rw [List.tail_cons] at hp ⊢; exact List.mem_cons_of_mem _ hp)) (by simpa using h)
    have r := Btw.rep (x := x) (y := x + 3) (m := List.replicate k.toNat (y - 1)) fun v hv => by
      rw [List.eq_of_mem_replicate hv]
      simp at h1
      omega
    rw [List.length_replicate] at r
    exact Btw.app r ih
theorem sum_add3 : ∀ l : List Int, (l.map (· + 3)).sum = l.sum + 3 * l.length
  | [] => by simp
  | a :: l => by
    have := sum_add3 l
    rw [List.map_cons, List.sum_cons, List.sum_cons, List.length_cons]
    omega
theorem Sm.span {b c : List Int} (h : Sm b c) : (high b c).sum ≤ (low b c).sum + 15 := by
  have w := wide3 (b := b) (c := c) (fun p hp => ⟨pw_zip h.vh.vb.inc p hp, h.zip p hp⟩) h.vh.len
  have s := w.sum.2
  rw [sum_add3, low_len h.vh] at s
  have := h.few
  omega
theorem sums_set {b c : List Int} {E : List (List Int)} (h : VH b c) (hE : All b c E) : sortU (E.map List.sum) = rng (low b c).sum ((high b c).sum + 1) := by
  refine lt_uniq (sortU_lt _) (rng_lt _ _) fun x => ?_
  rw [mem_sortU, mem_rng, List.mem_map]
  constructor
  · rintro ⟨d, hd, rfl⟩
    have := ((hE d).mp hd).2.sum
    omega
  · rintro ⟨h1, h2⟩
    obtain ⟨d, hd, e⟩ := All.sum h hE h1 (by omega)
    exact ⟨d, hd, e⟩
/-! spreads -/
def spr (d : List Int) : Int := nth d ((d.length : Int) - 1) - nth d 0
theorem sorted_nth {d : List Int} (h : d.Pairwise (· ≤ ·)) {i j : Nat} (hij : i ≤ j) (hj : j < d.length) : nth d i ≤ nth d j := by
  rcases Nat.lt_or_eq_of_le hij with hlt | rfl
  · have := List.pairwise_iff_getElem.mp h i j (by omega) hj hlt
    rw [nth_elem (by omega), nth_elem hj]
    exact this
  · exact Int.le_refl _
theorem nth_map {f : Int → Int} {l : List Int} {i : Nat} (h : i < l.length) : nth (l.map f) (i : Int) = f (nth l i) := by
  rw [nth_elem (by simpa using h), nth_elem h]
  simp
section
variable {b c : List Int} {E : List (List Int)} (h : VH b c) (hE : All b c E) (hs : 0 < c.sum)
include h hE hs
theorem spr_one {d : List Int} (hd : d ∈ E) (h1 : c.sum = 1) : spr d = 0 := by
  have := All.len h hE hd
  unfold spr
  rw [this, h1]
  show nth d 0 - nth d 0 = 0
  omega
theorem spr_ge {d : List Int} (hd : d ∈ E) : max 0 (nth (low b c) (c.sum - 1) - nth (high b c) 0) ≤ spr d ∧ spr d ≤ nth (high b c) (c.sum - 1) - nth (low b c) 0 := by
  have hl := All.len h hE hd
  obtain ⟨k1, k2⟩ := (hE d).mp hd
  have a0 := k2.at 0 (by omega)
  have a1 := k2.at (d.length - 1) (by omega)
  have a2 := sorted_nth k1 (Nat.zero_le (d.length - 1)) (by omega)
  have e1 : ((d.length - 1 : Nat) : Int) = c.sum - 1 := by omega
  rw [e1] at a1 a2
  unfold spr
  rw [hl]
  have e0 : ((0 : Nat) : Int) = 0 := rfl
  rw [e0] at a0 a2
  omega
theorem spr_min : ∃ d ∈ E, spr d = max 0 (nth (low b c) (c.sum - 1) - nth (high b c) 0) := by
  have l1 := low_len h
  have l2 := high_len h
  have hb := h.lowBtw
  have e1 : (((low b c).length - 1 : Nat) : Int) = c.sum - 1 := by omega
  have mono : ∀ {l H : List Int} (p : Int), Btw l l H → (∀ y ∈ H, p ≤ y) → Btw l (l.map (max p)) H := by
    intro l
    induction l with
    | nil => intro H p t _; cases t; exact .nil
    | cons a l ih =>
      intro H p t hH
      cases t with
      | cons q1 q2 t =>
        have := hH _ (List.mem_cons_self ..)
        exact .cons (by omega) (by omega) (ih p t fun y hy => hH y (List.mem_cons_of_mem _ hy))
  have hp : ∀ y ∈ high b c, nth (high b c) 0 ≤ y := fun y hy => by
    obtain ⟨i, hi, rfl⟩ := List.getElem_of_mem hy
    have := sorted_nth (high_sorted h) (Nat.zero_le i) hi
    rwa [nth_elem hi] at this
  have bt := mono _ hb hp
  have so : ((low b c).map (max (nth (high b c) 0))).Pairwise (· ≤ ·) := by
    rw [List.pairwise_map]
    exact (low_sorted h).imp fun hh => by omega
  refine ⟨_, (hE _).mpr ⟨so, bt⟩, ?_⟩
  unfold spr
  rw [List.length_map, l1]
  have n0 := nth_map (f := max (nth (high b c) 0)) (l := low b c) (i := 0) (by omega)
  have n1 := nth_map (f := max (nth (high b c) 0)) (l := low b c) (i := (low b c).length - 1) (by omega)
  rw [e1] at n1
  have e0 : ((0 : Nat) : Int) = 0 := rfl
  rw [e0] at n0
  rw [n0, n1]
  have a0 := hb.at 0 (by omega)
  rw [e0] at a0
  omega
theorem spr_max (h2 : 2 ≤ c.sum) : ∃ d ∈ E, spr d = nth (high b c) (c.sum - 1) - nth (low b c) 0 := by
  have l1 := low_len h
  have l2 := high_len h
  have hb := h.lowBtw
  have e1 : (((low b c).length - 1 : Nat) : Int) = c.sum - 1 := by omega
  have a1 := hb.at ((low b c).length - 1) (by omega)
  rw [e1] at a1
  have bt := Btw.set ((low b c).length - 1) (nth (high b c) (c.sum - 1)) hb (by omega) (by rw [e1]; exact a1.2) (by rw [e1]; omega)
  have so : ((low b c).set ((low b c).length - 1) (nth (high b c) (c.sum - 1))).Pairwise (· ≤ ·) := by
    rw [List.pairwise_iff_getElem]
    intro i j hi hj hij
    rw [List.length_set] at hi hj
    have q := List.pairwise_iff_getElem.mp (low_sorted h) i j (by omega) (by omega) hij
    rw [List.getElem_set_ne (by omega)]
    by_cases hz : j = (low b c).length - 1
    · subst hz
      rw [List.getElem_set_self]
      rw [← nth_elem (by omega), ← nth_elem (by omega), e1] at q
      rw [← nth_elem (by omega)]
      omega
    · rw [List.getElem_set_ne (by omega)]
      exact q
  refine ⟨_, (hE _).mpr ⟨so, bt⟩, ?_⟩
  unfold spr
  rw [List.length_set, l1, ← e1, nth_elem (by rw [List.length_set]; omega), List.getElem_set_self]
  have : nth ((low b c).set ((low b c).length - 1) (nth (high b c) (((low b c).length - 1 : Nat) : Int))) 0 = nth (low b c) 0 := by
    rw [show (0 : Int) = ((0 : Nat) : Int) from rfl, nth_nat, List.getElem?_set_ne (by omega)]
    rfl
  rw [this]
end
/-! multiplicities -/
theorem inside_cnt (l : List Int) (p : Int × Int) : inside l p = ((l.countP fun v => decide (p.1 ≤ v) && decide (v < p.2) : Nat) : Int) := by unfold inside; rw [List.countP_eq_length_filter]
theorem inside_step (l : List Int) (x : Int) (n : Nat) : inside l (x, x + n + 1) = inside l (x, x + n) + ((l.count (x + n) : Nat) : Int) := by
  induction l with
  | nil => rfl
  | cons a l ih =>
    rw [inside_cnt, inside_cnt] at ih ⊢
    rw [List.countP_cons, List.countP_cons, List.count_cons]
    simp only at ih ⊢
    generalize (l.countP fun v => decide (x ≤ v) && decide (v < x + n + 1)) = A at ih ⊢
    generalize (l.countP fun v => decide (x ≤ v) && decide (v < x + n)) = B at ih ⊢
    generalize l.count (x + n) = C at ih ⊢
    by_cases h1 : x ≤ a
    · by_cases h2 : a < x + n
      · have h3 : a < x + n + 1 := by omega
        have h4 : ¬ a = x + n := by omega
        simp [h1, h2, h3, h4]
        omega
      · by_cases h4 : a = x + n
        · have t1 : (decide (x ≤ a) && decide (a < x + n + 1)) = true := by simp [h1]; omega
          have t2 : (decide (x ≤ a) && decide (a < x + n)) = false := by simp; omega
          have t3 : (a == x + (n : Int)) = true := by simp [h4]
          rw [t1, t2, t3]
          simp
          omega
        · have h3 : ¬ a < x + n + 1 := by omega
          simp [h1, h2, h3, h4]
          omega
    · have h4 : ¬ a = x + n := by omega
      simp [h1, h4]
      omega
theorem pigeon (l : List Int) (m : Nat) (h : ∀ v ∈ l, l.count v ≤ m) (x : Int) : ∀ n : Nat, inside l (x, x + n) ≤ m * n
  | 0 => by
    have : inside l (x, x + (0 : Nat)) = 0 := by
      rw [inside_cnt]
      have : (l.countP fun v => decide (x ≤ v) && decide (v < x + (0 : Nat))) = 0 := List.countP_eq_zero.mpr fun v _ => by simp
      simp only
      rw [this]
      rfl
    rw [this]
    simp
  | n + 1 => by
    have ih := pigeon l m h x n
    have st := inside_step l x n
    rw [show x + ((n + 1 : Nat) : Int) = x + n + 1 by omega, st]
    have hc : l.count (x + n) ≤ m := by
      by_cases hm : (x + (n : Int)) ∈ l
      · exact h _ hm
      · rw [List.count_eq_zero_of_not_mem hm]; omega
    rw [show (m : Int) * ((n + 1 : Nat) : Int) = (m : Int) * n + m by rw [Int.natCast_add]; simp [Int.mul_add]]
    omega
def mult (d : List Int) : Int := (d.map fun v => ((d.count v : Nat) : Int)).foldl max 0
theorem mult_is {d : List Int} (h : d ≠ []) : mult d ∈ (d.map fun v => ((d.count v : Nat) : Int)) ∧ ∀ v ∈ d, ((d.count v : Nat) : Int) ≤ mult d := by
  obtain ⟨h1, h2⟩ := foldl_max (d.map fun v => ((d.count v : Nat) : Int)) 0
  change mult d ∈ _ at h1
  refine ⟨?_, fun v hv => h2 _ (List.mem_cons_of_mem _ (List.mem_map.mpr ⟨v, hv, rfl⟩))⟩
  rcases List.mem_cons.mp h1 with e | e
  · cases d with
    | nil => exact absurd rfl h
    | cons a d =>
      have := h2 _ (List.mem_cons_of_mem _ (List.mem_map.mpr ⟨a, by simp, rfl⟩))
      change _ ≤ mult (a :: d) at this
      have hz : (((a :: d).count a : Nat) : Int) = mult (a :: d) := by omega
      exact List.mem_map.mpr ⟨a, by simp, hz⟩
  · exact e
theorem mult_max {d : List Int} (h : d ≠ []) : gMax1 [.val (.list ((d.map fun v => ((d.count v : Nat) : Int)).map PyData.int))] = .ok (.val (.int (mult d))) :=
  max_is (mult_is h).1 fun x hx => by
    obtain ⟨v, hv, rfl⟩ := List.mem_map.mp hx
    exact (mult_is h).2 v hv
theorem mult_le {d : List Int} (h : d ≠ []) {m : Int} (hm : ∀ v ∈ d, ((d.count v : Nat) : Int) ≤ m) : mult d ≤ m := by
  obtain ⟨v, hv, e⟩ := List.mem_map.mp (mult_is h).1
  rw [← e]
  exact hm v hv
theorem Blocks.bucket : ∀ {b c : List Int} {ls : List (List Int)}, Blocks b c ls → ∀ v ∈ ls.flatten, ∃ p ∈ b.zip b.tail, p.1 ≤ v ∧ v < p.2
  | [_], [], [], _, v, hv => by simp at hv
  | x :: y :: b, k :: c, l :: ls, h, v, hv => by
    rw [List.flatten_cons] at hv
    rcases List.mem_append.mp hv with hv | hv
    · exact ⟨(x, y), by simp, h.1.2 v hv⟩
    · obtain ⟨p, hp, q⟩ := Blocks.bucket h.2 v hv
      exact ⟨p, by rw [List.tail_cons] at hp ⊢; exact List.mem_cons_of_mem _ hp, q⟩
  | [], _, _, h, _, _ => by simp [Blocks] at h
  | [_], _ :: _, _, h, _, _ => by simp [Blocks] at h
  | [_], [], _ :: _, h, _, _ => by simp [Blocks] at h
  | _ :: _ :: _, [], _, h, _, _ => by simp [Blocks] at h
  | _ :: _ :: _, _ :: _, [], h, _, _ => by simp [Blocks] at h
theorem count_inside {d : List Int} {v : Int} {p : Int × Int} (h1 : p.1 ≤ v) (h2 : v < p.2) : ((d.count v : Nat) : Int) ≤ inside d p := by
  rw [inside_cnt, List.count_eq_countP]
  have : d.countP (fun x => x == v) ≤ d.countP fun w => decide (p.1 ≤ w) && decide (w < p.2) := List.countP_mono_left fun x _ hx => by
    have : x = v := by simpa using hx
    subst this
    simp [h1, h2]
  omega
theorem count_cnt {b c d : List Int} (h : VH b c) (t : Btw (low b c) d (high b c)) {m : Int} (hm : ∀ k ∈ c, k ≤ m) {v : Int} (hv : v ∈ d) : ((d.count v : Nat) : Int) ≤ m := by
  have hc := btw_cnts h t
  obtain ⟨ls, rfl, bl⟩ := h.bl t
  obtain ⟨p, hp, h1, h2⟩ := bl.bucket v hv
  refine Int.le_trans (count_inside h1 h2) (hm _ ?_)
  rw [← hc]
  exact List.mem_map.mpr ⟨p, hp, rfl⟩
theorem low_count {b c : List Int} (h : VH b c) {k : Int} (hk : k ∈ c) : ∃ x, k ≤ (((low b c).count x : Nat) : Int) ∧ (0 < k → x ∈ low b c) := by
  obtain ⟨i, hi, rfl⟩ := List.getElem_of_mem hk
  have hp := low_pair hi h.len
  obtain ⟨s, t, e⟩ := List.append_of_mem (List.mem_of_getElem? hp)
  have e2 : low b c = fill s ++ (List.replicate (nth c i).toNat (nth b i) ++ fill t) := by
    unfold low
    rw [e, fill_app, fill_cons]
  refine ⟨nth b i, ?_, fun hpos => ?_⟩
  · rw [e2, List.count_append, List.count_append, List.count_replicate_self, nth_elem hi]
    omega
  · rw [e2]
    refine List.mem_append.mpr (.inr (List.mem_append.mpr (.inl ?_)))
    rw [List.mem_replicate, nth_elem hi]
    exact ⟨by omega, rfl⟩
def evB (x k q : Int) : List Int := (List.range k.toNat).map fun i : Nat => x + ((i / q.toNat : Nat) : Int)
def ceil (k w : Int) : Int := (k + w - 1) / w
def evD : List Int → List Int → List (List Int)
  | x :: y :: b, k :: c => evB x k (ceil k (y - x)) :: evD (y :: b) c
  | _, _ => []
theorem ceil_ge {k w m : Int} (hw : 0 < w) (h : k ≤ m * w) : ceil k w ≤ m := by
  unfold ceil
  rw [← Int.lt_add_one_iff, Int.ediv_lt_iff_lt_mul hw, Int.add_mul]
  omega
theorem ceil_mul {k w : Int} (hw : 0 < w) : k ≤ ceil k w * w := by
  have h := Int.emod_def (k + w - 1) w
  rw [Int.mul_comm] at h
  have h2 := Int.emod_lt_of_pos (k + w - 1) hw
  unfold ceil
  omega
theorem evB_rg {x y k : Int} (hw : x < y) (hk : 0 ≤ k) : ∀ v ∈ evB x k (ceil k (y - x)), x ≤ v ∧ v < y := by
  intro v hv
  unfold evB at hv
  obtain ⟨i, hi, rfl⟩ := List.mem_map.mp hv
  rw [List.mem_range] at hi
  have hm := ceil_mul (k := k) (show 0 < y - x by omega)
  generalize ceil k (y - x) = q at *
  have hq : 0 < q := by
    rcases Int.lt_or_le 0 q with z | z
    · exact z
    · have := Int.mul_nonpos_of_nonpos_of_nonneg z (show 0 ≤ y - x by omega)
      omega
  have hd : i / q.toNat < (y - x).toNat := by
    rw [Nat.div_lt_iff_lt_mul (by omega)]
    have : (((y - x).toNat * q.toNat : Nat) : Int) = q * (y - x) := by
      rw [Int.natCast_mul, Int.toNat_of_nonneg (by omega), Int.toNat_of_nonneg (by omega), Int.mul_comm]
    omega
  generalize i / q.toNat = n at hd ⊢
  omega
theorem evB_le (x k q : Int) : (evB x k q).Pairwise (· ≤ ·) := by
  unfold evB
  rw [List.pairwise_map]
  refine List.pairwise_lt_range.imp fun {a b} h => ?_
  have := Nat.div_le_div_right (c := q.toNat) (Nat.le_of_lt h)
  omega
theorem cnt_div (q r : Nat) (hq : 0 < q) : ∀ k : Nat, (List.range k).countP (fun i => decide (i / q = r)) = min q (k - r * q)
  | 0 => by simp
  | k + 1 => by
    rw [List.range_succ, List.countP_append, cnt_div q r hq k]
    have e : k / q = r ↔ r * q ≤ k ∧ k < r * q + q := by
      rw [← Nat.le_div_iff_mul_le hq]
      have : k < r * q + q ↔ k / q < r + 1 := by rw [Nat.div_lt_iff_lt_mul hq, Nat.add_mul, Nat.one_mul]
      rw [this]
      omega
    generalize r * q = t at *
    by_cases h : k / q = r
    · simp [h]
      have := e.mp h
      omega
    · simp [h]
      have : ¬ (t ≤ k ∧ k < t + q) := fun z => h (e.mpr z)
      omega
theorem evB_count (x k q v : Int) (hq : 0 < q) : (((evB x k q).count v : Nat) : Int) ≤ q := by
  unfold evB
  rw [List.count_eq_countP, List.countP_map]
  by_cases hv : x ≤ v
  · have e : (List.range k.toNat).countP ((fun w => w == v) ∘ fun i : Nat => x + ((i / q.toNat : Nat) : Int)) = (List.range k.toNat).countP fun i => decide (i / q.toNat = (v - x).toNat) := by
      refine List.countP_congr fun i _ => ?_
      simp only [Function.comp, beq_iff_eq, decide_eq_true_eq]
      generalize i / q.toNat = n
      omega
    rw [e, cnt_div _ _ (by omega)]
    omega
  · have e : (List.range k.toNat).countP ((fun w => w == v) ∘ fun i : Nat => x + ((i / q.toNat : Nat) : Int)) = 0 := List.countP_eq_zero.mpr fun i _ => by
      simp only [Function.comp, beq_iff_eq]
      generalize i / q.toNat = n
      omega
    rw [e]
    omega
theorem evD_blocks : ∀ {b c : List Int}, c.length + 1 = b.length → b.Pairwise (· < ·) → (∀ x ∈ c, 0 ≤ x) → Blocks b c (evD b c) ∧ ∀ l ∈ evD b c, l.Pairwise (· ≤ ·)
  | [], c, h, _, _ => by simp at h
  | [x], c, h, _, _ => by
    have : c = [] := List.eq_nil_of_length_eq_zero (by simpa using h)
    subst this
    exact ⟨trivial, by simp [evD]⟩
  | x :: y :: b, [], h, _, _ => by simp at h
  | x :: y :: b, k :: c, h, p, hc => by
    obtain ⟨p1, p2⟩ := List.pairwise_cons.mp p
    obtain ⟨i1, i2⟩ := evD_blocks (b := y :: b) (c := c) (by simpa using h) p2 fun z hz => hc z (List.mem_cons_of_mem _ hz)
    have hk := hc k (by simp)
    have hxy := p1 y (by simp)
    refine ⟨⟨⟨?_, evB_rg hxy hk⟩, i1⟩, fun l hl => ?_⟩
    · unfold evB
      simp
      omega
    · rcases List.mem_cons.mp hl with rfl | hl
      · exact evB_le _ _ _
      · exact i2 l hl
theorem evD_count : ∀ {b c : List Int} {m : Int}, c.length + 1 = b.length → b.Pairwise (· < ·) → (∀ x ∈ c, 0 ≤ x) → 0 ≤ m → (∀ t ∈ c.zip (b.zip b.tail), ceil t.1 (t.2.2 - t.2.1) ≤ m) → ∀ v, (((evD b c).flatten.count v : Nat) : Int) ≤ m
  | [], c, m, h, _, _, _, _, v => by simp at h
  | [x], c, m, h, _, _, h0, _, v => by
    simp [evD]
    exact h0
  | x :: y :: b, [], m, h, _, _, _, _, v => by simp at h
  | x :: y :: b, k :: c, m, h, p, hc, h0, hm, v => by
    obtain ⟨p1, p2⟩ := List.pairwise_cons.mp p
    have hk := hc k (by simp)
    have hxy := p1 y (by simp)
    have hc' : ∀ z ∈ c, 0 ≤ z := fun z hz => hc z (List.mem_cons_of_mem _ hz)
    have hlen : c.length + 1 = (y :: b).length := by simpa using h
    rw [evD, List.flatten_cons, List.count_append]
    by_cases hv : v < y
    · have e : (evD (y :: b) c).flatten.count v = 0 := List.count_eq_zero_of_not_mem fun hm' => by
        have := Blocks.ge (evD_blocks hlen p2 hc').1 p2 v hm'
        omega
      rw [e]
      have hq := hm (k, (x, y)) (by simp)
      simp only at hq
      by_cases hz : 0 < k
      · have hqp : 0 < ceil k (y - x) := by
          have := ceil_mul (k := k) (show 0 < y - x by omega)
          rcases Int.lt_or_le 0 (ceil k (y - x)) with z | z
          · exact z
          · have := Int.mul_nonpos_of_nonpos_of_nonneg z (show 0 ≤ y - x by omega)
            omega
        have := evB_count x k (ceil k (y - x)) v hqp
        omega
      · have e2 : evB x k (ceil k (y - x)) = [] := by
          unfold evB
          rw [show k.toNat = 0 by omega]
          rfl
        rw [e2]
        simp
        exact h0
    · have e : (evB x k (ceil k (y - x))).count v = 0 := List.count_eq_zero_of_not_mem fun hm' => by
        have := evB_rg hxy hk v hm'
        omega
      rw [e, Nat.zero_add]
      exact evD_count hlen p2 hc' h0 (fun t ht => hm t (by rw [List.tail_cons, List.zip_cons_cons, List.zip_cons_cons]; exact List.mem_cons_of_mem _ ht)) v
end Py

set_option Elab.async false
set_option linter.all false
set_option maxRecDepth 100000
set_option autoImplicit false
set_option maxHeartbeats 4000000
/-! LibStat: statements. -/
namespace Py
open PySem L2
inductive Stm where
  | rank (r lo hi : Int)
  | less (v lo hi : Int)
  | sum (lo hi : Int)
abbrev sR : PyData := .str "rank"
abbrev sL : PyData := .str "less"
abbrev sS : PyData := .str "sum"
def Stm.dat : Stm → PyData
  | .rank r lo hi => .tuple [sR, .int r, .int lo, .int hi]
  | .less v lo hi => .tuple [sL, .int v, .int lo, .int hi]
  | .sum lo hi => .tuple [sS, .int lo, .int hi]
def Stm.lo : Stm → Int
  | .rank _ lo _ => lo
  | .less _ lo _ => lo
  | .sum lo _ => lo
def Stm.hi : Stm → Int
  | .rank _ _ hi => hi
  | .less _ _ hi => hi
  | .sum _ hi => hi
def Stm.ok (n : Int) : Stm → Prop
  | .rank r lo hi => (1 ≤ r ∧ r ≤ n) ∧ (0 ≤ lo ∧ lo ≤ 999) ∧ (0 ≤ hi ∧ hi ≤ 999)
  | .less v lo hi => (0 ≤ v ∧ v ≤ 1000) ∧ (0 ≤ lo ∧ lo ≤ 200) ∧ (0 ≤ hi ∧ hi ≤ 200)
  | .sum lo hi => 0 ≤ lo ∧ 0 ≤ hi
def Stm.num : Stm → List Int → Int
  | .rank r _ _, d => nth d (r - 1)
  | .less v _ _, d => below d v
  | .sum _ _, d => d.sum
def Stm.bl (b c : List Int) : Stm → Int
  | .rank r _ _ => nth (low b c) (r - 1)
  | .less v _ _ => below (high b c) v
  | .sum _ _ => (low b c).sum
def Stm.bh (b c : List Int) : Stm → Int
  | .rank r _ _ => nth (high b c) (r - 1)
  | .less v _ _ => below (low b c) v
  | .sum _ _ => (high b c).sum
def Stm.hd (s : Stm) (d : List Int) : Bool := decide (s.lo ≤ s.num d) && decide (s.num d ≤ s.hi)
theorem qv_rr : PyData.eqv sR sR = true := by decide +kernel
theorem qv_rl : PyData.eqv sR sL = false := by decide +kernel
theorem qv_rs : PyData.eqv sR sS = false := by decide +kernel
theorem qv_lr : PyData.eqv sL sR = false := by decide +kernel
theorem qv_ll : PyData.eqv sL sL = true := by decide +kernel
theorem qv_ls : PyData.eqv sL sS = false := by decide +kernel
theorem qv_sr : PyData.eqv sS sR = false := by decide +kernel
theorem qv_sl : PyData.eqv sS sL = false := by decide +kernel
theorem qv_ss : PyData.eqv sS sS = true := by decide +kernel
theorem x_ix0 (a : PyData) (l : List PyData) : gIx (.val (.tuple (a :: l))) (.val (.int 0)) = .ok (.val a) := by simp [gIx, atI, ixN]
theorem x_ix1 (a b : PyData) (l : List PyData) : gIx (.val (.tuple (a :: b :: l))) (.val (.int 1)) = .ok (.val b) := by
  have : atI (a :: b :: l) ((1 : Nat) : Int) = some b := by rw [atI_nat]; rfl
  simp only [gIx, x_datV]
  rw [show (1 : Int) = ((1 : Nat) : Int) from rfl, this]
theorem and_ends {lo hi x y : Int} (h : x ≤ y) : ((decide (lo ≤ x) && decide (x ≤ hi)) && (decide (lo ≤ y) && decide (y ≤ hi))) = (decide (lo ≤ x) && decide (y ≤ hi)) := by
  by_cases h1 : lo ≤ x
  · by_cases h2 : y ≤ hi
    · have h3 : x ≤ hi := by omega
      have h4 : lo ≤ y := by omega
      simp [h1, h2, h3, h4]
    · simp [h2]
  · simp [h1]
theorem and_ends' {lo hi x y : Int} (h : y ≤ x) : ((decide (lo ≤ x) && decide (x ≤ hi)) && (decide (lo ≤ y) && decide (y ≤ hi))) = (decide (lo ≤ y) && decide (x ≤ hi)) := by
  rw [Bool.and_comm]
  exact and_ends h
theorem cut31 (a b c d : PyData) : cut [a, b, c, d] (some 1) none = [b, c, d] := rfl
theorem cut21 (a b c : PyData) : cut [a, b, c] (some 1) none = [b, c] := rfl
def Stm.at (s : Stm) (d : List Int) : Prop := d.length ≤ 1000000 ∧ ∀ r lo hi, s = .rank r lo hi → 1 ≤ r ∧ r ≤ d.length
theorem Stm.ok.at {n : Int} {s : Stm} {d : List Int} (h : s.ok n) (hn : (d.length : Int) = n) (hl : d.length ≤ 1000000) : s.at d := ⟨hl, fun r lo hi e => by subst e; have := h.1; omega⟩
theorem stm_m2 (s : Stm) : gIx (.val s.dat) (.val (.int (-2))) = .ok (.val (.int s.lo)) := by cases s <;> rfl
theorem stm_m1 (s : Stm) : gIx (.val s.dat) (.val (.int (-1))) = .ok (.val (.int s.hi)) := by cases s <;> rfl
section
variable {b c : List Int} {s : Stm} (h : VH b c) (hs : s.ok c.sum)
include h hs
theorem low_at : s.at (low b c) := by
  have := low_len h
  have := h.sum
  exact hs.at (low_len h) (by omega)
theorem high_at : s.at (high b c) := by
  have := high_len h
  have := h.sum
  exact hs.at (high_len h) (by omega)
end
theorem hd_ends {b c : List Int} (h : VH b c) (s : Stm) (hs : s.ok c.sum) : s.bl b c ≤ s.bh b c ∧ (s.hd (low b c) && s.hd (high b c)) = (decide (s.lo ≤ s.bl b c) && decide (s.bh b c ≤ s.hi)) := by
  have hb := h.lowBtw
  have l1 := low_len h
  cases s with
  | rank r lo hi =>
    have := hb.at (r - 1).toNat (by have := hs.1; omega)
    rw [show (((r - 1).toNat : Nat) : Int) = r - 1 by have := hs.1; omega] at this
    refine ⟨this.2, ?_⟩
    exact and_ends this.2
  | less v lo hi =>
    have := hb.blw v
    refine ⟨this.1, ?_⟩
    exact and_ends' this.1
  | sum lo hi =>
    have := hb.sum
    refine ⟨this.2, ?_⟩
    exact and_ends this.2
theorem num_btw {b c d : List Int} (h : VH b c) {s : Stm} (hs : s.ok c.sum) (t : Btw (low b c) d (high b c)) : s.bl b c ≤ s.num d ∧ s.num d ≤ s.bh b c := by
  have hl := btw_len h t
  cases s with
  | rank r lo hi =>
    have := t.at (r - 1).toNat (by have := hs.1; omega)
    rw [show (((r - 1).toNat : Nat) : Int) = r - 1 by have := hs.1; omega] at this
    exact this
  | less v lo hi => exact t.blw v
  | sum lo hi => exact t.sum
theorem below_iff {v : Int} : ∀ {l : List Int}, l.Pairwise (· ≤ ·) → ∀ i : Nat, i < l.length → (nth l i < v ↔ (i : Int) < below l v)
  | [], _, i, hi => by simp at hi
  | a :: l, h, i, hi => by
    obtain ⟨h1, h2⟩ := List.pairwise_cons.mp h
    have e : below (a :: l) v = (if a < v then 1 else 0) + below l v := by
      have := below_app [a] l v
      rw [List.singleton_append] at this
      rw [this]
      have := below_rep 1 a v
      simp only [List.replicate_one] at this
      rw [this]
      simp
    have hp := below_le l v
    rw [e]
    cases i with
    | zero =>
      rw [nth_cons_zero]
      split
      · rename_i ha
        simp [ha]
        omega
      · rename_i ha
        have : below l v = 0 := below_none fun x hx => by have := h1 x hx; omega
        rw [this]
        simp [ha]
    | succ i =>
      have hi' : i < l.length := by simpa using hi
      rw [nth_cons_succ, below_iff h2 i hi']
      split
      · omega
      · rename_i ha
        have : below l v = 0 := below_none fun x hx => by have := h1 x hx; omega
        rw [this]
        omega
theorem btw_nth : ∀ {l d h : List Int}, d.length = l.length → h.length = l.length → (∀ i : Nat, i < l.length → nth l i ≤ nth d i ∧ nth d i ≤ nth h i) → Btw l d h
  | [], [], [], _, _, _ => .nil
  | a :: l, x :: d, z :: h, h1, h2, h3 => by
    refine .cons (h3 0 (by simp)).1 (h3 0 (by simp)).2 (btw_nth (by simpa using h1) (by simpa using h2) fun i hi => ?_)
    have := h3 (i + 1) (by simpa using hi)
    rwa [nth_cons_succ, nth_cons_succ, nth_cons_succ] at this
  | [], _ :: _, _, h1, _, _ => by simp at h1
  | [], [], _ :: _, _, h2, _ => by simp at h2
  | _ :: _, [], _, h1, _, _ => by simp at h1
  | _ :: _, _ :: _, [], _, h2, _ => by simp at h2
theorem num_all {b c : List Int} {E : List (List Int)} (h : VH b c) (hE : All b c E) {s : Stm} (hs : s.ok c.sum) {t : Int} (h1 : s.bl b c ≤ t) (h2 : t ≤ s.bh b c) : ∃ d ∈ E, s.num d = t := by
  have hb := h.lowBtw
  have l1 := low_len h
  have l2 := high_len h
  have so1 := low_sorted h
  have so2 := high_sorted h
  cases s with
  | rank r lo hi =>
    have hr := hs.1
    have h1 : nth (low b c) (r - 1) ≤ t := h1
    have h2 : t ≤ nth (high b c) (r - 1) := h2
    let d : List Int := (List.range (low b c).length).map fun i : Nat => max (nth (low b c) i) (min (nth (high b c) i) t)
    have dl : d.length = (low b c).length := by simp [d]
    have dn : ∀ i : Nat, i < (low b c).length → nth d i = max (nth (low b c) i) (min (nth (high b c) i) t) := fun i hi => by
      rw [nth_elem (by rw [dl]; exact hi)]
      simp [d]
    have so : d.Pairwise (· ≤ ·) := by
      rw [List.pairwise_iff_getElem]
      intro i j hi hj hij
      rw [← nth_elem hi, ← nth_elem hj, dn i (by omega), dn j (by omega)]
      have a1 := sorted_nth so1 (Nat.le_of_lt hij) (by omega)
      have a2 := sorted_nth so2 (Nat.le_of_lt hij) (by omega)
      omega
    have bt : Btw (low b c) d (high b c) := btw_nth dl (by omega) fun i hi => by
      rw [dn i hi]
      have := hb.at i hi
      omega
    refine ⟨d, (hE d).mpr ⟨so, bt⟩, ?_⟩
    show nth d (r - 1) = t
    have := dn (r - 1).toNat (by omega)
    rw [show (((r - 1).toNat : Nat) : Int) = r - 1 by omega] at this
    rw [this]
    omega
  | less v lo hi =>
    have h1 : below (high b c) v ≤ t := h1
    have h2 : t ≤ below (low b c) v := h2
    have p1 := below_le (low b c) v
    have p2 := below_le (high b c) v
    let d : List Int := (List.range (low b c).length).map fun i : Nat => if (i : Int) < t then nth (low b c) i else nth (high b c) i
    have dl : d.length = (low b c).length := by simp [d]
    have dn : ∀ i : Nat, i < (low b c).length → nth d i = if (i : Int) < t then nth (low b c) i else nth (high b c) i := fun i hi => by
      rw [nth_elem (by rw [dl]; exact hi)]
      simp [d]
    have so : d.Pairwise (· ≤ ·) := by
      rw [List.pairwise_iff_getElem]
      intro i j hi hj hij
      rw [← nth_elem hi, ← nth_elem hj, dn i (by omega), dn j (by omega)]
      have a1 := sorted_nth so1 (Nat.le_of_lt hij) (by omega)
      have a2 := sorted_nth so2 (Nat.le_of_lt hij) (by omega)
      have a3 := hb.at j (by omega)
      split <;> split <;> omega
    have bt : Btw (low b c) d (high b c) := btw_nth dl (by omega) fun i hi => by
      rw [dn i hi]
      have := hb.at i hi
      split <;> omega
    refine ⟨d, (hE d).mpr ⟨so, bt⟩, ?_⟩
    show below d v = t
    have p3 := below_le d v
    have hlow : ∀ i : Nat, (i : Int) < t → (i : Int) < below d v := fun i hi => by
      have q := (below_iff so1 (v := v) i (by omega)).mpr (by omega)
      refine (below_iff so i (by omega)).mp ?_
      rw [dn i (by omega), if_pos hi]
      exact q
    have hhigh : ∀ i : Nat, i < d.length → t ≤ (i : Int) → ¬ (i : Int) < below d v := fun i hi hti z => by
      have q := (below_iff so (v := v) i hi).mpr z
      rw [dn i (by omega), if_neg (by omega)] at q
      have := (below_iff so2 (v := v) i (by omega)).mp q
      omega
    have b1 : t ≤ below d v := by
      rcases Int.lt_or_le 0 t with z | z
      · have := hlow (t - 1).toNat (by omega)
        omega
      · omega
    have b2 : below d v ≤ t := by
      rcases Int.lt_or_le (below d v) (t + 1) with z | z
      · omega
      · have := hhigh t.toNat (by omega) (by omega)
        omega
    omega
  | sum lo hi => exact All.sum h hE h1 h2
end Py

set_option Elab.async false
set_option linter.all false
set_option maxRecDepth 100000
set_option autoImplicit false
set_option maxHeartbeats 4000000
/-! LibStat2: drawn statements. -/
namespace Py
open PySem L2
def Stm.with (s : Stm) (lo hi : Int) : Stm := match s with
  | .rank r _ _ => .rank r lo hi
  | .less v _ _ => .less v lo hi
  | .sum _ _ => .sum lo hi
theorem Stm.with_num (s : Stm) (lo hi : Int) (d : List Int) : (s.with lo hi).num d = s.num d := by cases s <;> rfl
theorem cut_map {α β : Type} (f : α → β) (l : List α) (lo hi : Option Int) : cut (l.map f) lo hi = (cut l lo hi).map f := by
  unfold cut
  rw [List.length_map, List.map_take, List.map_drop]
theorem mem_cut {α : Type} {l : List α} {lo hi : Option Int} {x : α} (h : x ∈ cut l lo hi) : x ∈ l := List.mem_of_mem_drop (List.mem_of_mem_take h)
theorem cut_len {α : Type} (l : List α) (lo hi : Option Int) : (cut l lo hi).length ≤ l.length := by
  unfold cut
  rw [List.length_take, List.length_drop]
  omega
theorem cut4m (a b c d : PyData) : cut [a, b, c, d] none (some (-2)) = [a, b] := rfl
theorem cut3m (a b c : PyData) : cut [a, b, c] none (some (-2)) = [a] := rfl
theorem stm_with (s : Stm) (lo hi : Int) : (gSl (.val s.dat) none (some (-2)) >>= fun x => gAdd (frz x) (.val (.tuple [.int lo, .int hi]))) = .ok (.val (s.with lo hi).dat) := by cases s <;> rfl
end Py

set_option Elab.async false
set_option linter.all false
set_option maxRecDepth 100000
set_option autoImplicit false
set_option maxHeartbeats 4000000
/-! LibPair: two histograms. -/
namespace Py
open PySem L2
theorem below_mono (l : List Int) {u v : Int} (h : u ≤ v) : below l u ≤ below l v := by
  unfold below
  rw [← List.countP_eq_length_filter, ← List.countP_eq_length_filter]
  have : l.countP (fun x => decide (x < u)) ≤ l.countP fun x => decide (x < v) := List.countP_mono_left fun x _ hx => by
    simp at hx ⊢
    omega
  omega
theorem lo_hi : ∀ {b c : List Int}, c.length + 1 = b.length → b.Pairwise (· < ·) → (∀ x ∈ c, 0 ≤ x) → ∀ v ∈ b, below (low b c) v = below (high b c) v
  | [], c, h, _, _, v, hv => by simp at hv
  | [x], c, h, _, _, v, hv => by
    have : c = [] := List.eq_nil_of_length_eq_zero (by simpa using h)
    subst this
    rw [low_nil, high_nil]
  | x :: y :: b, [], h, _, _, v, hv => by simp at h
  | x :: y :: b, k :: c, h, p, hc, v, hv => by
    obtain ⟨p1, p2⟩ := List.pairwise_cons.mp p
    have hxy := p1 y (by simp)
    have hc' : ∀ z ∈ c, 0 ≤ z := fun z hz => hc z (List.mem_cons_of_mem _ hz)
    have hl : c.length + 1 = (y :: b).length := by simpa using h
    rw [low_cons, high_cons, below_app, below_app, below_rep, below_rep]
    by_cases hvx : v = x
    · subst hvx
      rw [if_neg (by omega), if_neg (by omega)]
      have e1 : below (low (y :: b) c) v = 0 := below_none fun z hz => by
        rw [low_flat _ _ hl] at hz
        have := Blocks.ge (low_blocks hl p2 hc') p2 z hz
        omega
      have e2 : below (high (y :: b) c) v = 0 := below_none fun z hz => by
        rw [high_flat _ _ hl] at hz
        have := Blocks.ge (high_blocks hl p2 hc') p2 z hz
        omega
      rw [e1, e2]
    · have hv' : v ∈ y :: b := (List.mem_cons.mp hv).resolve_left hvx
      have hyv : y ≤ v := by
        rcases List.mem_cons.mp hv' with e | e
        · omega
        · have := (List.pairwise_cons.mp p2).1 v e
          omega
      rw [if_pos (by omega), if_pos (by omega), lo_hi hl p2 hc' v hv']
theorem exact_at {b c d : List Int} (h : VH b c) {v : Int} (hv : v ∈ b) (t : Btw (low b c) d (high b c)) : below (low b c) v = below d v ∧ below (high b c) v = below d v := by
  have e := lo_hi h.len h.vb.inc (fun x hx => (h.rg x hx).1) v hv
  have q := t.blw v
  omega
theorem low_in {b c : List Int} {k : Nat} (hk : k < (low b c).length) : nth (low b c) k ∈ b := by
  obtain ⟨p, hp, e⟩ := mem_fill (ps := b.dropLast.zip c) (nth_mem (l := low b c) hk)
  rw [e]
  exact (List.dropLast_sublist b).subset (List.of_mem_zip hp).1
theorem high_in {b c : List Int} {k : Nat} (hk : k < (high b c).length) : nth (high b c) k + 1 ∈ b := by
  obtain ⟨p, hp, e⟩ := mem_fill (ps := (b.tail.map (· - 1)).zip c) (nth_mem (l := high b c) hk)
  rw [e]
  obtain ⟨q, hq, e'⟩ := List.mem_map.mp (List.of_mem_zip hp).1
  rw [← e', show q - 1 + 1 = q by omega]
  exact List.mem_of_mem_tail hq
theorem low_rank {b c d : List Int} (h : VH b c) (t : Btw (low b c) d (high b c)) {r : Int} (r1 : 1 ≤ r) (r2 : r ≤ c.sum) {v : Int} (hv : v ∈ b) : below d v < r ↔ v ≤ nth (low b c) (r - 1) := by
  have l1 := low_len h
  have q := below_iff (v := v) (low_sorted h) (r - 1).toNat (by omega)
  rw [show (((r - 1).toNat : Nat) : Int) = r - 1 by omega, (exact_at h hv t).1] at q
  omega
theorem high_rank {b c d : List Int} (h : VH b c) (t : Btw (low b c) d (high b c)) {r : Int} (r1 : 1 ≤ r) (r2 : r ≤ c.sum) {v : Int} (hv : v ∈ b) : r ≤ below d v ↔ nth (high b c) (r - 1) + 1 ≤ v := by
  have l1 := high_len h
  have q := below_iff (v := v) (high_sorted h) (r - 1).toNat (by omega)
  rw [show (((r - 1).toNat : Nat) : Int) = r - 1 by omega, (exact_at h hv t).2] at q
  omega
def conf (b c b' c' : List Int) (v : Int) : Bool := decide (below (low b c) v < below (high b' c') v) || decide (below (low b' c') v < below (high b c) v)
section
variable {b c b' c' : List Int} (h : VH b c) (h' : VH b' c')
include h h'
theorem conf_eq (v : Int) : F_is_conflict [Hi b c, Hi b' c', .int v] = .ok (.val (.bool (conf b c b' c' v))) := by
  unfold conf
  by_cases q : below (low b c) v < below (high b' c') v
  · simp [F_is_conflict, fnR, m_is_conflict, st0, x_var, range_eq h, range_eq h', x_ix0, x_ix1, q]
  · simp [F_is_conflict, fnR, m_is_conflict, st0, x_var, range_eq h, range_eq h', x_ix0, x_ix1, q]
theorem find_conflict_eq : F_find_conflict [Hi b c, Hi b' c'] = .ok (.val (match (rng 0 1001).filter (conf b c b' c') with | [] => .none | v :: _ => .int v)) := by
  have r1 : okR 1001 := okR_of (by decide) (by decide)
  have e : lcR (.nm 3) (tE (eCall F_is_conflict [eVar 0, eVar 1, eVar 3])) (eVar 3) [some (.val (Hi b c)), some (.val (Hi b' c')), none, none] ((rng 0 1001).map PyData.int) = .ok (((rng 0 1001).filter (conf b c b' c')).map PyData.int) :=
    filter_lc _ _ (fun y => by simp [x_var, conf_eq h h' y]) (fun y => by simp [x_var])
  rw [← rangeD_rng] at e
  generalize (rng 0 1001).filter (conf b c b' c') = F at e ⊢
  have e : lcR (.nm 3) (tE (eCall F_is_conflict [eVar 0, eVar 1, eVar 3])) (eVar 3) [some (.val (Hi b c)), some (.val (Hi b' c')), none, none] (rangeD 0 1001) = .ok (F.map PyData.int) := e
  refine fn_rt (seq_nx (ρ1 := [some (.val (Hi b c)), some (.val (Hi b' c')), some (.val (Li F)), none]) ?_ ?_)
  · generalize hZ : rangeD 0 1001 = Z at e
    have lz : Z.length ≤ 1000000 := by rw [← hZ, rg_len]; decide
    have hi : iRg1 (e2 gAdd (eK (.int 1000)) (eK (.int 1))) (st0 4 [Hi b c, Hi b' c']) = .ok (true, Z) := by simp [r1, ← hZ]
    rw [x_set, x_eF, x_eLc, hi]
    simp [lz, st0, wipeE, e]
  · cases F with
    | nil => simp [x_var, x_ne]
    | cons v F => simp [x_var, x_ne, gIx, atI, ixN]
def compat (b c b' c' : List Int) : Bool := decide (c.sum = c'.sum) && !((b ++ b').any (conf b c b' c'))
theorem compat_eq : F_are_compatible [Hi b c, Hi b' c'] = .ok (.val (.bool (compat b c b' c'))) := by
  unfold compat
  have l1 := h.vb.hi
  have l2 := h'.vb.hi
  by_cases q : c.sum = c'.sum
  · have e : lcR (.nm 2) tYes (eCall F_is_conflict [eVar 0, eVar 1, eVar 2]) [some (.val (Hi b c)), some (.val (Hi b' c')), none] ((b ++ b').map PyData.int) = .ok ((b ++ b').map fun v => PyData.bool (conf b c b' c' v)) :=
      lc_map _ _ _ fun v _ => ⟨_, rfl, .val (.bool (conf b c b' c' v)), by simp [x_var, conf_eq h h' v], rfl⟩
    have ga := x_anyP (b ++ b') (conf b c b' c')
    have z : b.length + b'.length ≤ 1000000 := by omega
    generalize ((b ++ b').map fun v => PyData.bool (conf b c b' c' v)) = M at e ga
    simp only [List.map_append] at e
    generalize (b ++ b').any (conf b c b' c') = A at ga ⊢
    simp [F_are_compatible, fnR, m_are_compatible, st0, x_var, x_ne, size_eq, q, x_ix0, z, wipeE, e, ga]
  · simp [F_are_compatible, fnR, m_are_compatible, st0, x_var, x_ne, size_eq, q]
theorem two_eq : F_check_two [Hi b c, Hi b' c'] = .ok (.val .none) := by simp [F_check_two, fnR, m_check_two, st0, x_var, check_eq h, check_eq h']
theorem can_same_eq : F_can_be_same [Hi b c, Hi b' c'] = .ok (.val (.bool (compat b c b' c'))) := by
  simp [F_can_be_same, fnR, m_can_be_same, st0, x_var, two_eq h h', compat_eq h h']
theorem conflict_eq (hs : c.sum = c'.sum) : F_conflict [Hi b c, Hi b' c'] = .ok (.val (match (rng 0 1001).filter (conf b c b' c') with | [] => .none | v :: _ => .int v)) := by
  have k := find_conflict_eq h h'
  generalize (match (rng 0 1001).filter (conf b c b' c') with | [] => PyData.none | v :: _ => .int v) = M at k ⊢
  simp [F_conflict, fnR, m_conflict, st0, x_var, x_ne, two_eq h h', size_eq, hs, k]
theorem conf_border {v : Int} (hv : conf b c b' c' v = true) : ∃ u ∈ b ++ b', conf b c b' c' u = true := by
  have key : ∀ {b c b' c' : List Int}, VH b c → VH b' c' → below (low b c) v < below (high b' c') v → ∃ u ∈ b', below (low b c) u < below (high b' c') u := by
    intro b c b' c' h h' q
    have p1 := below_le (low b c) v
    have p2 := below_le (high b' c') v
    have q2 := (below_iff (v := v) (high_sorted h') (below (high b' c') v - 1).toNat (by omega)).mpr (by omega)
    have hin := high_in (b := b') (c := c') (k := (below (high b' c') v - 1).toNat) (by omega)
    have q3 := (below_iff (v := nth (high b' c') ((below (high b' c') v - 1).toNat : Nat) + 1) (high_sorted h') (below (high b' c') v - 1).toNat (by omega)).mp (by omega)
    have m := below_mono (low b c) (u := nth (high b' c') ((below (high b' c') v - 1).toNat : Nat) + 1) (v := v) (by omega)
    exact ⟨_, hin, by omega⟩
  unfold conf at hv ⊢
  rw [Bool.or_eq_true, decide_eq_true_eq, decide_eq_true_eq] at hv
  rcases hv with q | q
  · obtain ⟨u, hu, r⟩ := key h h' q
    exact ⟨u, List.mem_append.mpr (.inr hu), by rw [decide_eq_true r]; rfl⟩
  · obtain ⟨u, hu, r⟩ := key h' h q
    exact ⟨u, List.mem_append.mpr (.inl hu), by rw [decide_eq_true r, Bool.or_true]⟩
theorem compat_none (hs : c.sum = c'.sum) : compat b c b' c' = decide ((rng 0 1001).filter (conf b c b' c') = []) := by
  unfold compat
  rw [decide_eq_true hs, Bool.true_and, Bool.eq_iff_iff, Bool.not_eq_true', decide_eq_true_eq, List.any_eq_false, List.filter_eq_nil_iff]
  constructor
  · intro z v _ hv
    obtain ⟨u, hu, r⟩ := conf_border h h' hv
    exact z u hu r
  · intro z v hv r
    refine z v (mem_rng.mpr ?_) r
    rcases List.mem_append.mp hv with q | q
    · have := h.vb.rg v q; omega
    · have := h'.vb.rg v q; omega
theorem conf_common {d : List Int} (t : Btw (low b c) d (high b c)) (t' : Btw (low b' c') d (high b' c')) (v : Int) : conf b c b' c' v = false := by
  have q := t.blw v
  have q' := t'.blw v
  unfold conf
  rw [Bool.or_eq_false_iff, decide_eq_false_iff_not, decide_eq_false_iff_not]
  omega
theorem compat_common {d : List Int} (t : Btw (low b c) d (high b c)) (t' : Btw (low b' c') d (high b' c')) : compat b c b' c' = true := by
  have e : c.sum = c'.sum := by rw [← btw_len h t, ← btw_len h' t']
  unfold compat
  rw [decide_eq_true e, Bool.true_and, Bool.not_eq_true', List.any_eq_false]
  intro u _
  rw [conf_common h h' t t' u]
  decide
def both (b c b' c' : List Int) : List Int := (List.range (low b c).length).map fun i : Nat => max (nth (low b c) i) (nth (low b' c') i)
theorem both_len : (both b c b' c').length = (low b c).length := by simp [both]
theorem both_nth {i : Nat} (hi : i < (low b c).length) : nth (both b c b' c') i = max (nth (low b c) i) (nth (low b' c') i) := by
  rw [nth_elem (by rw [both_len h h']; exact hi)]
  simp [both]
theorem both_ok (hs : c.sum = c'.sum) (hh : ∀ i : Nat, i < (low b c).length → nth (low b c) i ≤ nth (high b' c') i ∧ nth (low b' c') i ≤ nth (high b c) i) :
    (both b c b' c').Pairwise (· ≤ ·) ∧ Btw (low b c) (both b c b' c') (high b c) ∧ Btw (low b' c') (both b c b' c') (high b' c') := by
  have l1 := low_len h
  have l2 := high_len h
  have l3 := low_len h'
  have l4 := high_len h'
  have bl := both_len h h'
  refine ⟨?_, btw_nth bl (by omega) fun i hi => ?_, btw_nth (by omega) (by omega) fun i hi => ?_⟩
  · rw [List.pairwise_iff_getElem]
    intro i j hi hj hij
    rw [← nth_elem hi, ← nth_elem hj, both_nth h h' (by omega), both_nth h h' (by omega)]
    have a1 := sorted_nth (low_sorted h) (Nat.le_of_lt hij) (by omega)
    have a2 := sorted_nth (low_sorted h') (Nat.le_of_lt hij) (by omega)
    omega
  · rw [both_nth h h' hi]
    have := h.lowBtw.at i hi
    have := hh i hi
    omega
  · rw [both_nth h h' (by omega)]
    have := h'.lowBtw.at i hi
    have := hh i (by omega)
    omega
theorem both_common {d : List Int} (t : Btw (low b c) d (high b c)) (t' : Btw (low b' c') d (high b' c')) : (both b c b' c').Pairwise (· ≤ ·) ∧ Btw (low b c) (both b c b' c') (high b c) ∧ Btw (low b' c') (both b c b' c') (high b' c') := by
  have e : c.sum = c'.sum := by rw [← btw_len h t, ← btw_len h' t']
  refine both_ok h h' e fun i hi => ?_
  have a := t.at i (by rw [← t.len.1]; exact hi)
  have a' := t'.at i (by rw [← t.len.1]; exact hi)
  omega
theorem compat_both (hc : compat b c b' c' = true) : c.sum = c'.sum ∧ (both b c b' c').Pairwise (· ≤ ·) ∧ Btw (low b c) (both b c b' c') (high b c) ∧ Btw (low b' c') (both b c b' c') (high b' c') := by
  have key : ∀ {b c b' c' : List Int}, VH b c → VH b' c' → c.sum = c'.sum → (∀ u ∈ b ++ b', conf b c b' c' u = false) → ∀ i : Nat, i < (low b c).length → nth (low b c) i ≤ nth (high b' c') i := by
    intro b c b' c' h h' hs hn i hi
    have l1 := low_len h
    have l4 := high_len h'
    rcases Int.lt_or_le (nth (high b' c') i) (nth (low b c) i) with z | z
    · have hin := high_in (b := b') (c := c') (k := i) (by omega)
      have q := hn _ (List.mem_append.mpr (.inr hin))
      unfold conf at q
      rw [Bool.or_eq_false_iff, decide_eq_false_iff_not, decide_eq_false_iff_not] at q
      have q1 := (below_iff (v := nth (high b' c') i + 1) (high_sorted h') i (by omega)).mp (by omega)
      have q2 : ¬ (i : Int) < below (low b c) (nth (high b' c') i + 1) := fun w => by
        have := (below_iff (low_sorted h) i hi).mpr w
        omega
      omega
    · exact z
  unfold compat at hc
  rw [Bool.and_eq_true, decide_eq_true_eq, Bool.not_eq_true', List.any_eq_false] at hc
  obtain ⟨hs, hn⟩ := hc
  have hn : ∀ u ∈ b ++ b', conf b c b' c' u = false := fun u hu => by simpa using hn u hu
  have hn' : ∀ u ∈ b' ++ b, conf b' c' b c u = false := fun u hu => by
    have := hn u (by simpa [or_comm] using hu)
    unfold conf at this ⊢
    rw [Bool.or_comm]
    exact this
  have l1 := low_len h
  have l3 := low_len h'
  exact ⟨hs, both_ok h h' hs fun i hi => ⟨key h h' hs hn i hi, key h' h hs.symm hn' i (by omega)⟩⟩
end
section
variable {b c b' c' d : List Int} (h : VH b c) (h' : VH b' c') (t : Btw (low b c) d (high b c)) (t' : Btw (low b' c') d (high b' c'))
include h h' t t'
theorem known_eq : F_known_ranks [Hi b c, Hi b' c'] = .ok (.own ((sortU (b ++ b')).map fun v => PyData.tuple [.int v, .int (below d v)])) := by
  have l1 := h.vb.hi
  have l2 := h'.vb.hi
  have hl := sortU_len (b ++ b')
  rw [List.length_append] at hl
  have loop : ∀ (us acc : List Int) (x3 x4 x5 : Option Cl), (∀ v ∈ us, v ∈ b ++ b') → acc.length + us.length ≤ 1000 → ∃ x3' x4' x5' : Option Cl,
      forR (.nm 3) b_known_ranks_0 (us.map PyData.int) [some (.val (Hi b c)), some (.val (Hi b' c')), some (.own (acc.map fun v => PyData.tuple [.int v, .int (below d v)])), x3, x4, x5] = .ok (.nx [some (.val (Hi b c)), some (.val (Hi b' c')), some (.own ((acc ++ us).map fun v => PyData.tuple [.int v, .int (below d v)])), x3', x4', x5']) := by
    intro us
    induction us with
    | nil => exact fun acc x3 x4 x5 _ _ => ⟨x3, x4, x5, by simp [forR]⟩
    | cons v us ih =>
      intro acc x3 x4 x5 hm hz
      rw [List.length_cons] at hz
      obtain ⟨y3, y4, y5, e⟩ := ih (acc ++ [v]) (some (.val (.int v))) (some (.val (.tuple [.int (below (high b c) v), .int (below (low b c) v)]))) (some (.val (.tuple [.int (below (high b' c') v), .int (below (low b' c') v)]))) (fun u hu => hm u (List.mem_cons_of_mem _ hu)) (by rw [List.length_append, List.length_singleton]; omega)
      refine ⟨y3, y4, y5, ?_⟩
      rw [List.append_assoc, List.singleton_append] at e
      rw [List.map_cons, forR, x_asg, ← e]
      have q := t.blw v
      have q' := t'.blw v
      have ex : (below (high b c) v = below (low b c) v ∧ below (high b c) v = below d v) ∨ (below (high b' c') v = below (low b' c') v ∧ below (high b' c') v = below d v) := by
        rcases List.mem_append.mp (hm v (by simp)) with r | r
        · have := exact_at h r t
          exact .inl ⟨by omega, by omega⟩
        · have := exact_at h' r t'
          exact .inr ⟨by omega, by omega⟩
      have z : acc.length ≤ 1000000 := by omega
      have s1 : b_known_ranks_0 [some (.val (Hi b c)), some (.val (Hi b' c')), some (.own (acc.map fun v => PyData.tuple [.int v, .int (below d v)])), some (.val (.int v)), x4, x5] = .ok (.nx [some (.val (Hi b c)), some (.val (Hi b' c')), some (.own ((acc ++ [v]).map fun v => PyData.tuple [.int v, .int (below d v)])), some (.val (.int v)), some (.val (.tuple [.int (below (high b c) v), .int (below (low b c) v)])), some (.val (.tuple [.int (below (high b' c') v), .int (below (low b' c') v)]))]) := by
        refine seq_nx (ρ1 := [some (.val (Hi b c)), some (.val (Hi b' c')), some (.own (acc.map fun v => PyData.tuple [.int v, .int (below d v)])), some (.val (.int v)), some (.val (.tuple [.int (below (high b c) v), .int (below (low b c) v)])), some (.val (.tuple [.int (below (high b' c') v), .int (below (low b' c') v)]))]) (by simp [x_var, range_eq h, range_eq h']) ?_
        by_cases c1 : below (high b c) v = below (low b c) v
        · have c2 : below (high b c) v = below d v := by omega
          refine if_yes (by simp [x_var, x_eq, x_ix0, x_ix1, c1]) ?_
          rw [x_app]
          simp [ownAt, x_var, x_eq, x_ix0, x_ix1, c1, z, ← c2]
        · have c2 : below (high b' c') v = below (low b' c') v ∧ below (high b' c') v = below d v := ex.resolve_left fun w => c1 w.1
          refine if_yes (by simp [x_var, x_eq, x_ix0, x_ix1, c1, c2.1]) ?_
          rw [x_app]
          simp [ownAt, x_var, x_eq, x_ix0, x_ix1, c1, z, c2.2]
      rw [show ([some (.val (Hi b c)), some (.val (Hi b' c')), some (.own (acc.map fun v => PyData.tuple [.int v, .int (below d v)])), x3, x4, x5] : En).set 3 (some (.val (.int v))) = [some (.val (Hi b c)), some (.val (Hi b' c')), some (.own (acc.map fun v => PyData.tuple [.int v, .int (below d v)])), some (.val (.int v)), x4, x5] from rfl]
      show (b_known_ranks_0 _ >>= whK _) = _
      rw [s1]
      rfl
  obtain ⟨y3, y4, y5, e⟩ := loop (sortU (b ++ b')) [] none none none (fun v hv => mem_sortU.mp hv) (by simp; omega)
  rw [List.nil_append] at e
  have e : forR (.nm 3) b_known_ranks_0 ((sortU (b ++ b')).map PyData.int) [some (.val (Hi b c)), some (.val (Hi b' c')), some (.own []), none, none, none] = _ := e
  have z : b.length + b'.length ≤ 1000000 := by omega
  have eg : gSS (.val (.tuple (b.map PyData.int ++ b'.map PyData.int))) = .ok (.own ((sortU (b ++ b')).map PyData.int)) := by
    rw [← List.map_append]
    simp only [gSS, intsOf, x_datV, ints_map, r_ok]
    rw [if_pos ⟨by rw [List.length_append]; omega, by omega⟩]
  refine fn_rt (seq_nx (ρ1 := [some (.val (Hi b c)), some (.val (Hi b' c')), some (.own []), none, none, none]) (by simp [st0]) (seq_nx (for_nx (ds := (sortU (b ++ b')).map PyData.int) ?_ e) ?_))
  · simp [x_var, x_ix0, z, eg]
  · simp [x_var, clE]
theorem cbounds_eq {r : Int} (r1 : 1 ≤ r) (r2 : r ≤ c.sum) : F_find_common_bounds [Hi b c, Hi b' c', .int r] = .ok (.val (.tuple [.int (max (nth (low b c) (r - 1)) (nth (low b' c') (r - 1))), .int (min (nth (high b c) (r - 1)) (nth (high b' c') (r - 1)))])) := by
  have es : c.sum = c'.sum := by rw [← btw_len h t, ← btw_len h' t']
  have l1 := low_len h
  have l2 := high_len h
  have l3 := low_len h'
  have l4 := high_len h'
  have k := known_eq h h' t t'
  have hl := sortU_len (b ++ b')
  rw [List.length_append] at hl
  have hb := h.vb.hi
  have hb' := h'.vb.hi
  have cr : (((r - 1).toNat : Nat) : Int) = r - 1 := by omega
  have i1 := low_in (b := b) (c := c) (k := (r - 1).toNat) (by omega)
  have i2 := low_in (b := b') (c := c') (k := (r - 1).toNat) (by omega)
  have i3 := high_in (b := b) (c := c) (k := (r - 1).toNat) (by omega)
  have i4 := high_in (b := b') (c := c') (k := (r - 1).toNat) (by omega)
  rw [cr] at i1 i2 i3 i4
  have low1 : ∀ v ∈ b ++ b', below d v < r → v ≤ max (nth (low b c) (r - 1)) (nth (low b' c') (r - 1)) := fun v hv q => by
    rcases List.mem_append.mp hv with z | z
    · have := (low_rank h t r1 r2 z).mp q; omega
    · have := (low_rank h' t' r1 (by omega) z).mp q; omega
  have high1 : ∀ v ∈ b ++ b', r ≤ below d v → min (nth (high b c) (r - 1)) (nth (high b' c') (r - 1)) + 1 ≤ v := fun v hv q => by
    rcases List.mem_append.mp hv with z | z
    · have := (high_rank h t r1 r2 z).mp q; omega
    · have := (high_rank h' t' r1 (by omega) z).mp q; omega
  have lowm : max (nth (low b c) (r - 1)) (nth (low b' c') (r - 1)) ∈ (sortU (b ++ b')).filter fun v => decide (below d v < r) := by
    rw [List.mem_filter, mem_sortU, decide_eq_true_eq]
    by_cases z : nth (low b c) (r - 1) ≤ nth (low b' c') (r - 1)
    · rw [Int.max_eq_right z]
      exact ⟨List.mem_append.mpr (.inr i2), (low_rank h' t' r1 (by omega) i2).mpr (Int.le_refl _)⟩
    · rw [Int.max_eq_left (by omega)]
      exact ⟨List.mem_append.mpr (.inl i1), (low_rank h t r1 r2 i1).mpr (Int.le_refl _)⟩
  have highm : min (nth (high b c) (r - 1)) (nth (high b' c') (r - 1)) + 1 ∈ (sortU (b ++ b')).filter fun v => decide (r ≤ below d v) := by
    rw [List.mem_filter, mem_sortU, decide_eq_true_eq]
    by_cases z : nth (high b c) (r - 1) ≤ nth (high b' c') (r - 1)
    · rw [Int.min_eq_left z]
      exact ⟨List.mem_append.mpr (.inl i3), (high_rank h t r1 r2 i3).mpr (Int.le_refl _)⟩
    · rw [Int.min_eq_right (by omega)]
      exact ⟨List.mem_append.mpr (.inr i4), (high_rank h' t' r1 (by omega) i4).mpr (Int.le_refl _)⟩
  have gm := max_is lowm fun v hv => by
    rw [List.mem_filter, mem_sortU, decide_eq_true_eq] at hv
    exact low1 v hv.1 hv.2
  have gn := min_is highm fun v hv => by
    rw [List.mem_filter, mem_sortU, decide_eq_true_eq] at hv
    exact high1 v hv.1 hv.2
  have lc : ∀ {T : En → R Bool} {ρ : En} (p : Int → Bool), (∀ v, T ((ρ.set 5 (some (.val (.int v)))).set 6 (some (.val (.int (below d v))))) = .ok (p v)) → (∀ v, eVar 5 ((ρ.set 5 (some (.val (.int v)))).set 6 (some (.val (.int (below d v))))) = .ok (.val (.int v))) →
      lcR (.tp [.nm 5, .nm 6]) T (eVar 5) ρ ((sortU (b ++ b')).map fun v => PyData.tuple [.int v, .int (below d v)]) = .ok (((sortU (b ++ b')).filter p).map PyData.int) := fun p hT hφ =>
    lc_filter _ _ p _ fun v _ => ⟨_, by simp, hT v, fun _ => ⟨_, hφ v, rfl⟩⟩
  have z : ((sortU (b ++ b')).map fun v => PyData.tuple [.int v, .int (below d v)]).length ≤ 1000000 := by rw [List.length_map]; omega
  have c1 : ∀ x : PyData, lcR (.tp [.nm 5, .nm 6]) (t2 cLt (eVar 6) (eVar 2)) (eVar 5) [some (.val (Hi b c)), some (.val (Hi b' c')), some (.val (.int r)), some (.val x), none, none, none] ((sortU (b ++ b')).map fun v => PyData.tuple [.int v, .int (below d v)]) = _ := fun x => lc (fun v => decide (below d v < r)) (fun v => by simp [x_var]) (fun v => by simp [x_var])
  have c2 : ∀ (x : PyData) (y : Option Cl), lcR (.tp [.nm 5, .nm 6]) (t2 cGe (eVar 6) (eVar 2)) (eVar 5) [some (.val (Hi b c)), some (.val (Hi b' c')), some (.val (.int r)), some (.val x), y, none, none] ((sortU (b ++ b')).map fun v => PyData.tuple [.int v, .int (below d v)]) = _ := fun x y => lc (fun v => decide (r ≤ below d v)) (fun v => by simp [x_var]) (fun v => by simp [x_var])
  generalize (sortU (b ++ b')).filter (fun v => decide (below d v < r)) = F1 at c1 gm
  generalize (sortU (b ++ b')).filter (fun v => decide (r ≤ below d v)) = F2 at c2 gn
  generalize ((sortU (b ++ b')).map fun v => PyData.tuple [.int v, .int (below d v)]) = K at k z c1 c2
  generalize max (nth (low b c) (r - 1)) (nth (low b' c') (r - 1)) = A at gm ⊢
  generalize min (nth (high b c) (r - 1)) (nth (high b' c') (r - 1)) = B at gn ⊢
  refine fn_rt (seq_nx (ρ1 := [some (.val (Hi b c)), some (.val (Hi b' c')), some (.val (.int r)), some (.val (.list K)), none, none, none]) (by simp [x_var, st0, k]) (seq_nx (ρ1 := [some (.val (Hi b c)), some (.val (Hi b' c')), some (.val (.int r)), some (.val (.list K)), some (.val (.int A)), none, none]) (by simp [x_var, wipeE, z, c1, gm]) ?_))
  have e1 : B + 1 - 1 = B := by omega
  simp [x_var, wipeE, z, c2, gn, e1]
theorem common_eq : F_find_common [Hi b c, Hi b' c'] = .ok (.own ((both b c b' c').map PyData.int)) := by
  have es : c.sum = c'.sum := by rw [← btw_len h t, ← btw_len h' t']
  have l1 := low_len h
  have hs := h.sum
  have s0 := sum_nonneg fun x hx => (h.rg x hx).1
  have k := compat_eq h h'
  rw [compat_common h h' t t'] at k
  have r1 : okR 1 := okR_of (by decide) (by decide)
  have r2 : okR (c.sum + 1) := okR_of (by omega) (by omega)
  have z : (c.sum + 1 - 1).toNat ≤ 1000000 := by omega
  have e : lcR (.nm 2) tYes (e2 gIx (eCall F_find_common_bounds [eVar 0, eVar 1, eVar 2]) (eK (.int 0))) [some (.val (Hi b c)), some (.val (Hi b' c')), none] (rangeD 1 (c.sum + 1 - 1).toNat) = .ok ((both b c b' c').map PyData.int) := by
    unfold both rangeD
    rw [show (c.sum + 1 - 1).toNat = (low b c).length by omega, List.map_map]
    refine lc_map _ _ _ fun i hi => ⟨_, rfl, .val (.int (max (nth (low b c) i) (nth (low b' c') i))), ?_, rfl⟩
    rw [List.mem_range] at hi
    have q := cbounds_eq h h' t t' (r := 1 + (i : Int)) (by omega) (by omega)
    rw [show 1 + (i : Int) - 1 = i by omega] at q
    simp [x_var, q, x_ix0]
  generalize both b c b' c' = D at e ⊢
  have e0 : c.sum + 1 - 1 = c.sum := by omega
  rw [e0] at e z
  simp [F_find_common, fnR, m_find_common, st0, x_var, k, size_eq, r1, r2, z, wipeE, e]
theorem common_data_eq : F_common_data [Hi b c, Hi b' c'] = .ok (.own ((both b c b' c').map PyData.int)) := by
  simp [F_common_data, fnR, m_common_data, st0, x_var, two_eq h h', common_eq h h' t t']
theorem common_rank_eq {r : Int} (r1 : 1 ≤ r) (r2 : r ≤ c.sum) : F_common_rank_bounds [Hi b c, Hi b' c', .int r] = .ok (.val (.tuple [.int (max (nth (low b c) (r - 1)) (nth (low b' c') (r - 1))), .int (min (nth (high b c) (r - 1)) (nth (high b' c') (r - 1)))])) := by
  have k := compat_eq h h'
  rw [compat_common h h' t t'] at k
  have kr : F_check_rank [Hi b c, .int r] = .ok (.val .none) := by simp [F_check_rank, fnR, m_check_rank, st0, x_var, size_eq, is_int_eq, r1, r2]
  simp [F_common_rank_bounds, fnR, m_common_rank_bounds, st0, x_var, two_eq h h', k, kr, cbounds_eq h h' t t' r1 r2]
end
theorem are_common_eq {b c b' c' d : List Int} (h : VH b c) (h' : VH b' c') (hd : VD d) : F_are_common_data [Hi b c, Hi b' c', Li d] = .ok (.val (.bool ((decide ((d.length : Int) = c.sum) && decide (cnts b d = c)) && (decide ((d.length : Int) = c'.sum) && decide (cnts b' d = c'))))) := by
  have e := have_eq (c := c) h.vb (d := d) (by have := hd.len; omega)
  have e' := have_eq (c := c') h'.vb (d := d) (by have := hd.len; omega)
  generalize (decide ((d.length : Int) = c.sum) && decide (cnts b d = c)) = A at e ⊢
  generalize (decide ((d.length : Int) = c'.sum) && decide (cnts b' d = c')) = B at e' ⊢
  cases A with
  | false => simp [F_are_common_data, fnR, m_are_common_data, st0, x_var, two_eq h h', data_eq hd, e]
  | true => simp [F_are_common_data, fnR, m_are_common_data, st0, x_var, two_eq h h', data_eq hd, e, e']
theorem are_common_no {b c b' c' : List Int} (h : VH b c) (h' : VH b' c') {x : PyData} (hx : F_are_data [x] = .ok (.val (.bool false))) : F_are_common_data [Hi b c, Hi b' c', x] = .ok (.val (.bool false)) := by
  simp [F_are_common_data, fnR, m_are_common_data, st0, x_var, two_eq h h', hx]
theorem blocks_of : ∀ {b d : List Int}, b.Pairwise (· < ·) → 2 ≤ b.length → d.Pairwise (· ≤ ·) → (∀ v ∈ d, nth b 0 ≤ v ∧ v < nth b ((b.length : Int) - 1)) → ∃ ls, Blocks b (cnts b d) ls ∧ d = ls.flatten
  | [], _, _, h, _, _ => by simp at h
  | [x], _, _, h, _, _ => by simp at h
  | [x, y], d, p, _, _, hr => by
    refine ⟨[d], ⟨⟨?_, fun v hv => hr v hv⟩, trivial⟩, by simp⟩
    have : inside d (x, y) = d.length := by
      unfold inside
      rw [List.filter_eq_self.mpr fun v hv => by have := hr v hv; simp; exact this]
    exact this.symm
  | x :: y :: z :: b, d, p, _, so, hr => by
    obtain ⟨p1, p2⟩ := List.pairwise_cons.mp p
    have hxy := p1 y (by simp)
    have hd : d = d.filter (fun v => decide (v < y)) ++ d.filter (fun v => !decide (v < y)) := by
      refine le_unique so ?_ (List.filter_append_perm _ d).symm
      rw [List.pairwise_append]
      refine ⟨so.filter _, so.filter _, fun a ha b hb => ?_⟩
      have h1 := (List.mem_filter.mp ha).2
      have h2 := (List.mem_filter.mp hb).2
      simp at h1 h2
      omega
    have hlast : nth (x :: y :: z :: b) (((x :: y :: z :: b).length : Int) - 1) = nth (y :: z :: b) (((y :: z :: b).length : Int) - 1) := by
      have := nth_cons_succ x (y :: z :: b) (b.length + 1)
      simp only [List.length_cons]
      rw [show ((b.length + 1 + 1 + 1 : Nat) : Int) - 1 = ((b.length + 1 + 1 : Nat) : Int) by omega, this, show ((b.length + 1 + 1 : Nat) : Int) - 1 = ((b.length + 1 : Nat) : Int) by omega]
    obtain ⟨ls, bl, e⟩ := blocks_of (b := y :: z :: b) (d := d.filter fun v => !decide (v < y)) p2 (by simp) (so.filter _) fun v hv => by
      obtain ⟨h1, h2⟩ := List.mem_filter.mp hv
      have := hr v h1
      rw [hlast] at this
      simp at h2
      exact ⟨h2, this.2⟩
    have ec : cnts (y :: z :: b) (d.filter fun v => !decide (v < y)) = cnts (y :: z :: b) d := by
      unfold cnts
      refine List.map_congr_left fun q hq => ?_
      unfold inside
      rw [List.filter_filter]
      congr 2
      refine List.filter_congr fun v _ => ?_
      have hy : y ≤ q.1 := by
        rcases List.mem_cons.mp (List.of_mem_zip hq).1 with w | w
        · omega
        · have := (List.pairwise_cons.mp p2).1 q.1 w
          omega
      by_cases hv : q.1 ≤ v
      · have : ¬ v < y := by omega
        simp [hv, this]
      · simp [hv]
    rw [ec] at bl
    have ei : inside d (x, y) = ((d.filter fun v => decide (v < y)).length : Nat) := by
      unfold inside
      congr 2
      refine List.filter_congr fun v hv => ?_
      have := (hr v hv).1
      have : x ≤ v := this
      simp [this]
    refine ⟨(d.filter fun v => decide (v < y)) :: ls, ⟨⟨ei.symm, fun v hv => ?_⟩, bl⟩, ?_⟩
    · obtain ⟨h1, h2⟩ := List.mem_filter.mp hv
      have := (hr v h1).1
      exact ⟨this, by simpa using h2⟩
    · rw [List.flatten_cons, ← e]
      exact hd
end Py

set_option Elab.async false
set_option linter.all false
set_option maxRecDepth 100000
set_option autoImplicit false
set_option maxHeartbeats 4000000
namespace Py
open PySem L2
variable [KK]
def Facts (mg : Str → Option Value) : Prop := (∃ h : Heap, KK.K.In h ∧ h.Ns mainGlobals mg) ∧ SaysX Hd.fa Hd.fn (xfOf Hd.excs "BucketError" Hd.asked ++ Hd.lcs.map Py.XF.kiv) KK.K
section
variable {mg : Str → Option Value}
theorem Z_glo_is_int (Z : Facts mg) : mg "is_int" = some (.ref (He.ga KK.K "is_int")) := let ⟨⟨_, X, G⟩, c⟩ := Z; He.glo_ok X G (c.fact 0 (f := .glo "is_int") rfl)
theorem Z_glo_are_data (Z : Facts mg) : mg "are_data" = some (.ref (He.ga KK.K "are_data")) := let ⟨⟨_, X, G⟩, c⟩ := Z; He.glo_ok X G (c.fact 1 (f := .glo "are_data") rfl)
theorem Z_glo_are_borders (Z : Facts mg) : mg "are_borders" = some (.ref (He.ga KK.K "are_borders")) := let ⟨⟨_, X, G⟩, c⟩ := Z; He.glo_ok X G (c.fact 2 (f := .glo "are_borders") rfl)
theorem Z_glo_is_histogram (Z : Facts mg) : mg "is_histogram" = some (.ref (He.ga KK.K "is_histogram")) := let ⟨⟨_, X, G⟩, c⟩ := Z; He.glo_ok X G (c.fact 3 (f := .glo "is_histogram") rfl)
theorem Z_glo_check_histogram (Z : Facts mg) : mg "check_histogram" = some (.ref (He.ga KK.K "check_histogram")) := let ⟨⟨_, X, G⟩, c⟩ := Z; He.glo_ok X G (c.fact 4 (f := .glo "check_histogram") rfl)
theorem Z_glo_find_bucket (Z : Facts mg) : mg "find_bucket" = some (.ref (He.ga KK.K "find_bucket")) := let ⟨⟨_, X, G⟩, c⟩ := Z; He.glo_ok X G (c.fact 5 (f := .glo "find_bucket") rfl)
theorem Z_glo_count_data (Z : Facts mg) : mg "count_data" = some (.ref (He.ga KK.K "count_data")) := let ⟨⟨_, X, G⟩, c⟩ := Z; He.glo_ok X G (c.fact 6 (f := .glo "count_data") rfl)
theorem Z_glo_size_of (Z : Facts mg) : mg "size_of" = some (.ref (He.ga KK.K "size_of")) := let ⟨⟨_, X, G⟩, c⟩ := Z; He.glo_ok X G (c.fact 7 (f := .glo "size_of") rfl)
theorem Z_glo_do_have (Z : Facts mg) : mg "do_have" = some (.ref (He.ga KK.K "do_have")) := let ⟨⟨_, X, G⟩, c⟩ := Z; He.glo_ok X G (c.fact 8 (f := .glo "do_have") rfl)
theorem Z_glo_filled (Z : Facts mg) : mg "filled" = some (.ref (He.ga KK.K "filled")) := let ⟨⟨_, X, G⟩, c⟩ := Z; He.glo_ok X G (c.fact 9 (f := .glo "filled") rfl)
theorem Z_glo_lowest (Z : Facts mg) : mg "lowest" = some (.ref (He.ga KK.K "lowest")) := let ⟨⟨_, X, G⟩, c⟩ := Z; He.glo_ok X G (c.fact 10 (f := .glo "lowest") rfl)
theorem Z_glo_highest (Z : Facts mg) : mg "highest" = some (.ref (He.ga KK.K "highest")) := let ⟨⟨_, X, G⟩, c⟩ := Z; He.glo_ok X G (c.fact 11 (f := .glo "highest") rfl)
theorem Z_glo_check_rank (Z : Facts mg) : mg "check_rank" = some (.ref (He.ga KK.K "check_rank")) := let ⟨⟨_, X, G⟩, c⟩ := Z; He.glo_ok X G (c.fact 12 (f := .glo "check_rank") rfl)
theorem Z_glo_find_range (Z : Facts mg) : mg "find_range" = some (.ref (He.ga KK.K "find_range")) := let ⟨⟨_, X, G⟩, c⟩ := Z; He.glo_ok X G (c.fact 13 (f := .glo "find_range") rfl)
theorem Z_glo_check_two (Z : Facts mg) : mg "check_two" = some (.ref (He.ga KK.K "check_two")) := let ⟨⟨_, X, G⟩, c⟩ := Z; He.glo_ok X G (c.fact 14 (f := .glo "check_two") rfl)
theorem Z_glo_is_conflict (Z : Facts mg) : mg "is_conflict" = some (.ref (He.ga KK.K "is_conflict")) := let ⟨⟨_, X, G⟩, c⟩ := Z; He.glo_ok X G (c.fact 15 (f := .glo "is_conflict") rfl)
theorem Z_glo_find_conflict (Z : Facts mg) : mg "find_conflict" = some (.ref (He.ga KK.K "find_conflict")) := let ⟨⟨_, X, G⟩, c⟩ := Z; He.glo_ok X G (c.fact 16 (f := .glo "find_conflict") rfl)
theorem Z_glo_are_compatible (Z : Facts mg) : mg "are_compatible" = some (.ref (He.ga KK.K "are_compatible")) := let ⟨⟨_, X, G⟩, c⟩ := Z; He.glo_ok X G (c.fact 17 (f := .glo "are_compatible") rfl)
theorem Z_glo_can_be_same (Z : Facts mg) : mg "can_be_same" = some (.ref (He.ga KK.K "can_be_same")) := let ⟨⟨_, X, G⟩, c⟩ := Z; He.glo_ok X G (c.fact 18 (f := .glo "can_be_same") rfl)
theorem Z_glo_conflict (Z : Facts mg) : mg "conflict" = some (.ref (He.ga KK.K "conflict")) := let ⟨⟨_, X, G⟩, c⟩ := Z; He.glo_ok X G (c.fact 19 (f := .glo "conflict") rfl)
theorem Z_glo_known_ranks (Z : Facts mg) : mg "known_ranks" = some (.ref (He.ga KK.K "known_ranks")) := let ⟨⟨_, X, G⟩, c⟩ := Z; He.glo_ok X G (c.fact 20 (f := .glo "known_ranks") rfl)
theorem Z_glo_find_common_bounds (Z : Facts mg) : mg "find_common_bounds" = some (.ref (He.ga KK.K "find_common_bounds")) := let ⟨⟨_, X, G⟩, c⟩ := Z; He.glo_ok X G (c.fact 21 (f := .glo "find_common_bounds") rfl)
theorem Z_glo_find_common (Z : Facts mg) : mg "find_common" = some (.ref (He.ga KK.K "find_common")) := let ⟨⟨_, X, G⟩, c⟩ := Z; He.glo_ok X G (c.fact 22 (f := .glo "find_common") rfl)
theorem Z_glo_common_data (Z : Facts mg) : mg "common_data" = some (.ref (He.ga KK.K "common_data")) := let ⟨⟨_, X, G⟩, c⟩ := Z; He.glo_ok X G (c.fact 23 (f := .glo "common_data") rfl)
theorem Z_glo_are_common_data (Z : Facts mg) : mg "are_common_data" = some (.ref (He.ga KK.K "are_common_data")) := let ⟨⟨_, X, G⟩, c⟩ := Z; He.glo_ok X G (c.fact 24 (f := .glo "are_common_data") rfl)
theorem Z_glo_common_rank_bounds (Z : Facts mg) : mg "common_rank_bounds" = some (.ref (He.ga KK.K "common_rank_bounds")) := let ⟨⟨_, X, G⟩, c⟩ := Z; He.glo_ok X G (c.fact 25 (f := .glo "common_rank_bounds") rfl)
theorem Z_glo__law_pick (Z : Facts mg) : mg "_law_pick" = some (.ref (He.ga KK.K "_law_pick")) := let ⟨⟨_, X, G⟩, c⟩ := Z; He.glo_ok X G (c.fact 26 (f := .glo "_law_pick") rfl)
theorem Z_glo__law_counts (Z : Facts mg) : mg "_law_counts" = some (.ref (He.ga KK.K "_law_counts")) := let ⟨⟨_, X, G⟩, c⟩ := Z; He.glo_ok X G (c.fact 27 (f := .glo "_law_counts") rfl)
theorem Z_glo__law_ends (Z : Facts mg) : mg "_law_ends" = some (.ref (He.ga KK.K "_law_ends")) := let ⟨⟨_, X, G⟩, c⟩ := Z; He.glo_ok X G (c.fact 28 (f := .glo "_law_ends") rfl)
theorem Z_glo__law_small (Z : Facts mg) : mg "_law_small" = some (.ref (He.ga KK.K "_law_small")) := let ⟨⟨_, X, G⟩, c⟩ := Z; He.glo_ok X G (c.fact 29 (f := .glo "_law_small") rfl)
theorem Z_glo__law_every (Z : Facts mg) : mg "_law_every" = some (.ref (He.ga KK.K "_law_every")) := let ⟨⟨_, X, G⟩, c⟩ := Z; He.glo_ok X G (c.fact 30 (f := .glo "_law_every") rfl)
theorem Z_glo__law_fits (Z : Facts mg) : mg "_law_fits" = some (.ref (He.ga KK.K "_law_fits")) := let ⟨⟨_, X, G⟩, c⟩ := Z; He.glo_ok X G (c.fact 31 (f := .glo "_law_fits") rfl)
theorem Z_glo__law_class (Z : Facts mg) : mg "_law_class" = some (.ref (He.ga KK.K "_law_class")) := let ⟨⟨_, X, G⟩, c⟩ := Z; He.glo_ok X G (c.fact 32 (f := .glo "_law_class") rfl)
theorem Z_glo__law_result (Z : Facts mg) : mg "_law_result" = some (.ref (He.ga KK.K "_law_result")) := let ⟨⟨_, X, G⟩, c⟩ := Z; He.glo_ok X G (c.fact 33 (f := .glo "_law_result") rfl)
theorem Z_glo__law_all (Z : Facts mg) : mg "_law_all" = some (.ref (He.ga KK.K "_law_all")) := let ⟨⟨_, X, G⟩, c⟩ := Z; He.glo_ok X G (c.fact 34 (f := .glo "_law_all") rfl)
theorem Z_glo__law_other (Z : Facts mg) : mg "_law_other" = some (.ref (He.ga KK.K "_law_other")) := let ⟨⟨_, X, G⟩, c⟩ := Z; He.glo_ok X G (c.fact 35 (f := .glo "_law_other") rfl)
theorem Z_glo__law_meet (Z : Facts mg) : mg "_law_meet" = some (.ref (He.ga KK.K "_law_meet")) := let ⟨⟨_, X, G⟩, c⟩ := Z; He.glo_ok X G (c.fact 36 (f := .glo "_law_meet") rfl)
theorem Z_glo_law (Z : Facts mg) : mg "law" = some (.ref (He.ga KK.K "law")) := let ⟨⟨_, X, G⟩, c⟩ := Z; He.glo_ok X G (c.fact 37 (f := .glo "law") rfl)
theorem Z_int_MAX_VALUE (Z : Facts mg) : ∃ t, mg "MAX_VALUE" = some (.int 999 t) := let ⟨⟨_, X, G⟩, c⟩ := Z; He.int_ok X G (c.fact 38 (f := .int "MAX_VALUE" 999) rfl)
theorem Z_int_MAX_DATA (Z : Facts mg) : ∃ t, mg "MAX_DATA" = some (.int 200 t) := let ⟨⟨_, X, G⟩, c⟩ := Z; He.int_ok X G (c.fact 39 (f := .int "MAX_DATA" 200) rfl)
theorem Z_int_MAX_BORDERS (Z : Facts mg) : ∃ t, mg "MAX_BORDERS" = some (.int 12 t) := let ⟨⟨_, X, G⟩, c⟩ := Z; He.int_ok X G (c.fact 40 (f := .int "MAX_BORDERS" 12) rfl)
theorem Z_int_MAX_BORDER (Z : Facts mg) : ∃ t, mg "MAX_BORDER" = some (.int 1000 t) := let ⟨⟨_, X, G⟩, c⟩ := Z; He.int_ok X G (c.fact 41 (f := .int "MAX_BORDER" 1000) rfl)
theorem Z_int_MAX_COUNT (Z : Facts mg) : ∃ t, mg "MAX_COUNT" = some (.int 60 t) := let ⟨⟨_, X, G⟩, c⟩ := Z; He.int_ok X G (c.fact 42 (f := .int "MAX_COUNT" 60) rfl)
theorem Z_free_ValueError (Z : Facts mg) : mg "ValueError" = none := let ⟨⟨_, X, G⟩, c⟩ := Z; He.free_ok X G (c.fact 43 (f := .free "ValueError") rfl)
theorem Z_free_all (Z : Facts mg) : mg "all" = none := let ⟨⟨_, X, G⟩, c⟩ := Z; He.free_ok X G (c.fact 44 (f := .free "all") rfl)
theorem Z_free_any (Z : Facts mg) : mg "any" = none := let ⟨⟨_, X, G⟩, c⟩ := Z; He.free_ok X G (c.fact 45 (f := .free "any") rfl)
theorem Z_free_bool (Z : Facts mg) : mg "bool" = none := let ⟨⟨_, X, G⟩, c⟩ := Z; He.free_ok X G (c.fact 46 (f := .free "bool") rfl)
theorem Z_free_int (Z : Facts mg) : mg "int" = none := let ⟨⟨_, X, G⟩, c⟩ := Z; He.free_ok X G (c.fact 47 (f := .free "int") rfl)
theorem Z_free_isinstance (Z : Facts mg) : mg "isinstance" = none := let ⟨⟨_, X, G⟩, c⟩ := Z; He.free_ok X G (c.fact 48 (f := .free "isinstance") rfl)
theorem Z_free_len (Z : Facts mg) : mg "len" = none := let ⟨⟨_, X, G⟩, c⟩ := Z; He.free_ok X G (c.fact 49 (f := .free "len") rfl)
theorem Z_free_list (Z : Facts mg) : mg "list" = none := let ⟨⟨_, X, G⟩, c⟩ := Z; He.free_ok X G (c.fact 50 (f := .free "list") rfl)
theorem Z_free_max (Z : Facts mg) : mg "max" = none := let ⟨⟨_, X, G⟩, c⟩ := Z; He.free_ok X G (c.fact 51 (f := .free "max") rfl)
theorem Z_free_min (Z : Facts mg) : mg "min" = none := let ⟨⟨_, X, G⟩, c⟩ := Z; He.free_ok X G (c.fact 52 (f := .free "min") rfl)
theorem Z_free_range (Z : Facts mg) : mg "range" = none := let ⟨⟨_, X, G⟩, c⟩ := Z; He.free_ok X G (c.fact 53 (f := .free "range") rfl)
theorem Z_free_set (Z : Facts mg) : mg "set" = none := let ⟨⟨_, X, G⟩, c⟩ := Z; He.free_ok X G (c.fact 54 (f := .free "set") rfl)
theorem Z_free_sorted (Z : Facts mg) : mg "sorted" = none := let ⟨⟨_, X, G⟩, c⟩ := Z; He.free_ok X G (c.fact 55 (f := .free "sorted") rfl)
theorem Z_free_sum (Z : Facts mg) : mg "sum" = none := let ⟨⟨_, X, G⟩, c⟩ := Z; He.free_ok X G (c.fact 56 (f := .free "sum") rfl)
theorem Z_free_tuple (Z : Facts mg) : mg "tuple" = none := let ⟨⟨_, X, G⟩, c⟩ := Z; He.free_ok X G (c.fact 57 (f := .free "tuple") rfl)
theorem Z_free_zip (Z : Facts mg) : mg "zip" = none := let ⟨⟨_, X, G⟩, c⟩ := Z; He.free_ok X G (c.fact 58 (f := .free "zip") rfl)
theorem Z_glo_BucketError (Z : Facts mg) : mg "BucketError" = some (.ref (He.ga KK.K "BucketError")) := let ⟨⟨_, X, G⟩, c⟩ := Z; He.glo_ok X G (c.fact 59 (f := .glo "BucketError") rfl)
theorem Z_exc_BucketError {mg : Str → Option Value} (Z : Facts mg) : (He.Fa.exc "BucketError").ok KK.K = true := Z.2.fact 60 (f := .exc "BucketError") rfl
theorem Z_glo_InvalidBorders (Z : Facts mg) : mg "InvalidBorders" = some (.ref (He.ga KK.K "InvalidBorders")) := let ⟨⟨_, X, G⟩, c⟩ := Z; He.glo_ok X G (c.fact 61 (f := .glo "InvalidBorders") rfl)
theorem Z_exc_InvalidBorders {mg : Str → Option Value} (Z : Facts mg) : (He.Fa.exc "InvalidBorders").ok KK.K = true := Z.2.fact 62 (f := .exc "InvalidBorders") rfl
theorem Z_glo_InvalidData (Z : Facts mg) : mg "InvalidData" = some (.ref (He.ga KK.K "InvalidData")) := let ⟨⟨_, X, G⟩, c⟩ := Z; He.glo_ok X G (c.fact 63 (f := .glo "InvalidData") rfl)
theorem Z_exc_InvalidData {mg : Str → Option Value} (Z : Facts mg) : (He.Fa.exc "InvalidData").ok KK.K = true := Z.2.fact 64 (f := .exc "InvalidData") rfl
theorem Z_glo_OutOfBuckets (Z : Facts mg) : mg "OutOfBuckets" = some (.ref (He.ga KK.K "OutOfBuckets")) := let ⟨⟨_, X, G⟩, c⟩ := Z; He.glo_ok X G (c.fact 65 (f := .glo "OutOfBuckets") rfl)
theorem Z_exc_OutOfBuckets {mg : Str → Option Value} (Z : Facts mg) : (He.Fa.exc "OutOfBuckets").ok KK.K = true := Z.2.fact 66 (f := .exc "OutOfBuckets") rfl
theorem Z_glo_TooLarge (Z : Facts mg) : mg "TooLarge" = some (.ref (He.ga KK.K "TooLarge")) := let ⟨⟨_, X, G⟩, c⟩ := Z; He.glo_ok X G (c.fact 67 (f := .glo "TooLarge") rfl)
theorem Z_exc_TooLarge {mg : Str → Option Value} (Z : Facts mg) : (He.Fa.exc "TooLarge").ok KK.K = true := Z.2.fact 68 (f := .exc "TooLarge") rfl
theorem Z_glo_InvalidHistogram (Z : Facts mg) : mg "InvalidHistogram" = some (.ref (He.ga KK.K "InvalidHistogram")) := let ⟨⟨_, X, G⟩, c⟩ := Z; He.glo_ok X G (c.fact 69 (f := .glo "InvalidHistogram") rfl)
theorem Z_exc_InvalidHistogram {mg : Str → Option Value} (Z : Facts mg) : (He.Fa.exc "InvalidHistogram").ok KK.K = true := Z.2.fact 70 (f := .exc "InvalidHistogram") rfl
theorem Z_glo_InvalidValue (Z : Facts mg) : mg "InvalidValue" = some (.ref (He.ga KK.K "InvalidValue")) := let ⟨⟨_, X, G⟩, c⟩ := Z; He.glo_ok X G (c.fact 71 (f := .glo "InvalidValue") rfl)
theorem Z_exc_InvalidValue {mg : Str → Option Value} (Z : Facts mg) : (He.Fa.exc "InvalidValue").ok KK.K = true := Z.2.fact 72 (f := .exc "InvalidValue") rfl
theorem Z_glo_InvalidRank (Z : Facts mg) : mg "InvalidRank" = some (.ref (He.ga KK.K "InvalidRank")) := let ⟨⟨_, X, G⟩, c⟩ := Z; He.glo_ok X G (c.fact 73 (f := .glo "InvalidRank") rfl)
theorem Z_exc_InvalidRank {mg : Str → Option Value} (Z : Facts mg) : (He.Fa.exc "InvalidRank").ok KK.K = true := Z.2.fact 74 (f := .exc "InvalidRank") rfl
theorem Z_glo_InvalidPercent (Z : Facts mg) : mg "InvalidPercent" = some (.ref (He.ga KK.K "InvalidPercent")) := let ⟨⟨_, X, G⟩, c⟩ := Z; He.glo_ok X G (c.fact 75 (f := .glo "InvalidPercent") rfl)
theorem Z_exc_InvalidPercent {mg : Str → Option Value} (Z : Facts mg) : (He.Fa.exc "InvalidPercent").ok KK.K = true := Z.2.fact 76 (f := .exc "InvalidPercent") rfl
theorem Z_glo_EmptyHistogram (Z : Facts mg) : mg "EmptyHistogram" = some (.ref (He.ga KK.K "EmptyHistogram")) := let ⟨⟨_, X, G⟩, c⟩ := Z; He.glo_ok X G (c.fact 77 (f := .glo "EmptyHistogram") rfl)
theorem Z_exc_EmptyHistogram {mg : Str → Option Value} (Z : Facts mg) : (He.Fa.exc "EmptyHistogram").ok KK.K = true := Z.2.fact 78 (f := .exc "EmptyHistogram") rfl
theorem Z_glo_InvalidNumber (Z : Facts mg) : mg "InvalidNumber" = some (.ref (He.ga KK.K "InvalidNumber")) := let ⟨⟨_, X, G⟩, c⟩ := Z; He.glo_ok X G (c.fact 79 (f := .glo "InvalidNumber") rfl)
theorem Z_exc_InvalidNumber {mg : Str → Option Value} (Z : Facts mg) : (He.Fa.exc "InvalidNumber").ok KK.K = true := Z.2.fact 80 (f := .exc "InvalidNumber") rfl
theorem Z_glo_InvalidStatement (Z : Facts mg) : mg "InvalidStatement" = some (.ref (He.ga KK.K "InvalidStatement")) := let ⟨⟨_, X, G⟩, c⟩ := Z; He.glo_ok X G (c.fact 81 (f := .glo "InvalidStatement") rfl)
theorem Z_exc_InvalidStatement {mg : Str → Option Value} (Z : Facts mg) : (He.Fa.exc "InvalidStatement").ok KK.K = true := Z.2.fact 82 (f := .exc "InvalidStatement") rfl
theorem Z_glo_UnequalSizes (Z : Facts mg) : mg "UnequalSizes" = some (.ref (He.ga KK.K "UnequalSizes")) := let ⟨⟨_, X, G⟩, c⟩ := Z; He.glo_ok X G (c.fact 83 (f := .glo "UnequalSizes") rfl)
theorem Z_exc_UnequalSizes {mg : Str → Option Value} (Z : Facts mg) : (He.Fa.exc "UnequalSizes").ok KK.K = true := Z.2.fact 84 (f := .exc "UnequalSizes") rfl
theorem Z_glo_NoCommonData (Z : Facts mg) : mg "NoCommonData" = some (.ref (He.ga KK.K "NoCommonData")) := let ⟨⟨_, X, G⟩, c⟩ := Z; He.glo_ok X G (c.fact 85 (f := .glo "NoCommonData") rfl)
theorem Z_exc_NoCommonData {mg : Str → Option Value} (Z : Facts mg) : (He.Fa.exc "NoCommonData").ok KK.K = true := Z.2.fact 86 (f := .exc "NoCommonData") rfl
theorem Z_glo_NotCoarser (Z : Facts mg) : mg "NotCoarser" = some (.ref (He.ga KK.K "NotCoarser")) := let ⟨⟨_, X, G⟩, c⟩ := Z; He.glo_ok X G (c.fact 87 (f := .glo "NotCoarser") rfl)
theorem Z_exc_NotCoarser {mg : Str → Option Value} (Z : Facts mg) : (He.Fa.exc "NotCoarser").ok KK.K = true := Z.2.fact 88 (f := .exc "NotCoarser") rfl
theorem Z_glo_InvalidStatements (Z : Facts mg) : mg "InvalidStatements" = some (.ref (He.ga KK.K "InvalidStatements")) := let ⟨⟨_, X, G⟩, c⟩ := Z; He.glo_ok X G (c.fact 89 (f := .glo "InvalidStatements") rfl)
theorem Z_exc_InvalidStatements {mg : Str → Option Value} (Z : Facts mg) : (He.Fa.exc "InvalidStatements").ok KK.K = true := Z.2.fact 90 (f := .exc "InvalidStatements") rfl
theorem lcs_sub {c : Str} (h : c ∈ Hd.lcs) : c ∈ Hd.excs := by
  simp only [Hd.lcs, Py.lcs, List.mem_cons, List.not_mem_nil, or_false] at h
  rcases h with rfl | rfl | rfl | rfl | rfl | rfl | rfl | rfl | rfl | rfl | rfl | rfl | rfl | rfl | rfl <;> decide +kernel
theorem Z_isx {c : Str} (Z : Facts mg) (hc : c ∈ Hd.excs) : ExcC KK.K (He.ga KK.K c) := isx_ok (Z.2.xf (List.mem_append_left _ (xf_isx hc)))
theorem Z_exm {c : Str} (Z : Facts mg) (hc : c ∈ Hd.excs) : PySem.W.exmOne KK.K (.ref (He.ga KK.K c)) (.ref (He.ga KK.K "BucketError")) = some true := exx_ok (Z.2.xf (List.mem_append_left _ (xf_exm hc)))
theorem Z_kiv {c : Str} (Z : Facts mg) (hc : c ∈ Hd.lcs) : PySem.W.kitOne KK.K (.ref (He.ga KK.K c)) (.type "ValueError") = some true := kiv_of Z.2 (List.mem_append_right _ (List.mem_map.mpr ⟨c, hc, rfl⟩))
theorem Z_kit_InvalidBorders {c : Str} (Z : Facts mg) (hc : c ∈ Hd.excs) : PySem.W.kitOne KK.K (.ref (He.ga KK.K c)) (.ref (He.ga KK.K "InvalidBorders")) = some (decide (c = ("InvalidBorders" : Str))) := kit_ok (Z.2.xf (List.mem_append_left _ (xf_kit hc (by decide))))
theorem Z_kit_InvalidData {c : Str} (Z : Facts mg) (hc : c ∈ Hd.excs) : PySem.W.kitOne KK.K (.ref (He.ga KK.K c)) (.ref (He.ga KK.K "InvalidData")) = some (decide (c = ("InvalidData" : Str))) := kit_ok (Z.2.xf (List.mem_append_left _ (xf_kit hc (by decide))))
theorem Z_kit_OutOfBuckets {c : Str} (Z : Facts mg) (hc : c ∈ Hd.excs) : PySem.W.kitOne KK.K (.ref (He.ga KK.K c)) (.ref (He.ga KK.K "OutOfBuckets")) = some (decide (c = ("OutOfBuckets" : Str))) := kit_ok (Z.2.xf (List.mem_append_left _ (xf_kit hc (by decide))))
theorem Z_kit_TooLarge {c : Str} (Z : Facts mg) (hc : c ∈ Hd.excs) : PySem.W.kitOne KK.K (.ref (He.ga KK.K c)) (.ref (He.ga KK.K "TooLarge")) = some (decide (c = ("TooLarge" : Str))) := kit_ok (Z.2.xf (List.mem_append_left _ (xf_kit hc (by decide))))
theorem Z_kit_InvalidHistogram {c : Str} (Z : Facts mg) (hc : c ∈ Hd.excs) : PySem.W.kitOne KK.K (.ref (He.ga KK.K c)) (.ref (He.ga KK.K "InvalidHistogram")) = some (decide (c = ("InvalidHistogram" : Str))) := kit_ok (Z.2.xf (List.mem_append_left _ (xf_kit hc (by decide))))
theorem Z_kit_InvalidValue {c : Str} (Z : Facts mg) (hc : c ∈ Hd.excs) : PySem.W.kitOne KK.K (.ref (He.ga KK.K c)) (.ref (He.ga KK.K "InvalidValue")) = some (decide (c = ("InvalidValue" : Str))) := kit_ok (Z.2.xf (List.mem_append_left _ (xf_kit hc (by decide))))
theorem Z_kit_InvalidRank {c : Str} (Z : Facts mg) (hc : c ∈ Hd.excs) : PySem.W.kitOne KK.K (.ref (He.ga KK.K c)) (.ref (He.ga KK.K "InvalidRank")) = some (decide (c = ("InvalidRank" : Str))) := kit_ok (Z.2.xf (List.mem_append_left _ (xf_kit hc (by decide))))
theorem Z_kit_InvalidPercent {c : Str} (Z : Facts mg) (hc : c ∈ Hd.excs) : PySem.W.kitOne KK.K (.ref (He.ga KK.K c)) (.ref (He.ga KK.K "InvalidPercent")) = some (decide (c = ("InvalidPercent" : Str))) := kit_ok (Z.2.xf (List.mem_append_left _ (xf_kit hc (by decide))))
theorem Z_kit_EmptyHistogram {c : Str} (Z : Facts mg) (hc : c ∈ Hd.excs) : PySem.W.kitOne KK.K (.ref (He.ga KK.K c)) (.ref (He.ga KK.K "EmptyHistogram")) = some (decide (c = ("EmptyHistogram" : Str))) := kit_ok (Z.2.xf (List.mem_append_left _ (xf_kit hc (by decide))))
theorem Z_kit_InvalidNumber {c : Str} (Z : Facts mg) (hc : c ∈ Hd.excs) : PySem.W.kitOne KK.K (.ref (He.ga KK.K c)) (.ref (He.ga KK.K "InvalidNumber")) = some (decide (c = ("InvalidNumber" : Str))) := kit_ok (Z.2.xf (List.mem_append_left _ (xf_kit hc (by decide))))
theorem Z_kit_InvalidStatement {c : Str} (Z : Facts mg) (hc : c ∈ Hd.excs) : PySem.W.kitOne KK.K (.ref (He.ga KK.K c)) (.ref (He.ga KK.K "InvalidStatement")) = some (decide (c = ("InvalidStatement" : Str))) := kit_ok (Z.2.xf (List.mem_append_left _ (xf_kit hc (by decide))))
theorem Z_kit_UnequalSizes {c : Str} (Z : Facts mg) (hc : c ∈ Hd.excs) : PySem.W.kitOne KK.K (.ref (He.ga KK.K c)) (.ref (He.ga KK.K "UnequalSizes")) = some (decide (c = ("UnequalSizes" : Str))) := kit_ok (Z.2.xf (List.mem_append_left _ (xf_kit hc (by decide))))
theorem Z_kit_NoCommonData {c : Str} (Z : Facts mg) (hc : c ∈ Hd.excs) : PySem.W.kitOne KK.K (.ref (He.ga KK.K c)) (.ref (He.ga KK.K "NoCommonData")) = some (decide (c = ("NoCommonData" : Str))) := kit_ok (Z.2.xf (List.mem_append_left _ (xf_kit hc (by decide))))
theorem Z_kit_NotCoarser {c : Str} (Z : Facts mg) (hc : c ∈ Hd.excs) : PySem.W.kitOne KK.K (.ref (He.ga KK.K c)) (.ref (He.ga KK.K "NotCoarser")) = some (decide (c = ("NotCoarser" : Str))) := kit_ok (Z.2.xf (List.mem_append_left _ (xf_kit hc (by decide))))
theorem Z_kit_InvalidStatements {c : Str} (Z : Facts mg) (hc : c ∈ Hd.excs) : PySem.W.kitOne KK.K (.ref (He.ga KK.K c)) (.ref (He.ga KK.K "InvalidStatements")) = some (decide (c = ("InvalidStatements" : Str))) := kit_ok (Z.2.xf (List.mem_append_left _ (xf_kit hc (by decide))))
end
section
variable {P : Program} {w : World} {mg : Str → Option Value} {base : Heap}
theorem sc_is_int : FnScope ["value", "least", "most"] ["value", "least", "most"] (defScope Hd.s_is_int) := ⟨rfl, rfl, rfl, by decide +kernel, rfl, by decide +kernel, by decide +kernel⟩
theorem ok_is_int (Z : Facts mg) : FOk KK.K P w mg base 1 "is_int" 3 F_is_int := by
  obtain ⟨fd, F⟩ := Z.2.def_ 0 (d := Hd.d_is_int) rfl
  exact fok (k := 0) (Z_glo_is_int Z) F sc_is_int rfl (fun _ _ _ _ _ _ us hl => match us, hl with | [_, _, _], _ => rfl) fun cdv A outer s H E hr =>
    s_one (s_ret (d_and (d_isi (d_var 0) (Z_free_isinstance Z) (Z_free_int Z) b_int) (d_and (d_not (d_isi (d_var 0) (Z_free_isinstance Z) (Z_free_bool Z) b_bool)) (d_one (d_chain o_le o_le (d_var 1) (d_var 0) (d_var 2))))))
theorem sc_are_data : FnScope ["candidate", "value", "one", "other"] ["candidate"] (defScope Hd.s_are_data) := ⟨rfl, rfl, rfl, by decide +kernel, rfl, by decide +kernel, by decide +kernel⟩
theorem ok_are_data (Z : Facts mg) : FOk KK.K P w mg base 2 "are_data" 1 F_are_data := by
  obtain ⟨fd, F⟩ := Z.2.def_ 1 (d := Hd.d_are_data) rfl
  exact fok (k := 1) (Z_glo_are_data Z) F sc_are_data rfl (fun _ _ _ _ _ _ us hl => match us, hl with | [_], _ => rfl) fun cdv A outer s H E hr =>
    s_cons (s_if ((d_orC (d_notT (d_val (d_isi (d_var 0) (Z_free_isinstance Z) (Z_free_list Z) b_list))) (d_or1 (d_cmpT o_gt (d_callB c_len (Z_free_len Z) b_len (d_rcons (d_var 0) d_rnil)) (d_gint (Z_int_MAX_DATA Z))))).pt) (s_one (s_ret (d_bl))) (s_nil))
    (s_cons (s_if (d_notT (d_val (d_callB (c_all rfl) (Z_free_all Z) b_all (d_rcons (d_lc (own := [("value", 1)]) rfl sc_are_data.nd (blkOk_by (by kernel_rfl)) (w_seq (d_var 0)) (fun _ _ _ _ _ => g_nm 1 sc_are_data.nd) (fun _ _ _ _ _ => d_tsNil) (fun _ _ _ _ _ => d_fn (ok_is_int Z) hr (by decide) takes0 (d_acons (d_var 1) (d_acons (d_int) (d_acons (d_gint (Z_int_MAX_VALUE Z)) d_anil))))) d_rnil)))) (s_one (s_ret (d_bl))) (s_nil))
    (s_one (s_ret (d_callB (c_all rfl) (Z_free_all Z) b_all (d_rcons (d_lc (own := [("one", 2), ("other", 3)]) rfl sc_are_data.nd (blkOk_by (by kernel_rfl)) (w_z2 (d_var 0) (d_slice (d_var 0) (d_pso (d_int)) (d_pno)) (Z_free_zip Z)) (fun _ _ _ _ _ => g_tp rfl (g_cons (g_nm 2 sc_are_data.nd) (g_cons (g_nm 3 sc_are_data.nd) g_nil))) (fun _ _ _ _ _ => d_tsNil) (fun _ _ _ _ _ => d_cmp o_le (d_var 2) (d_var 3))) d_rnil)))))
theorem sc_are_borders : FnScope ["candidate", "border", "one", "other"] ["candidate"] (defScope Hd.s_are_borders) := ⟨rfl, rfl, rfl, by decide +kernel, rfl, by decide +kernel, by decide +kernel⟩
theorem ok_are_borders (Z : Facts mg) : FOk KK.K P w mg base 2 "are_borders" 1 F_are_borders := by
  obtain ⟨fd, F⟩ := Z.2.def_ 2 (d := Hd.d_are_borders) rfl
  exact fok (k := 1) (Z_glo_are_borders Z) F sc_are_borders rfl (fun _ _ _ _ _ _ us hl => match us, hl with | [_], _ => rfl) fun cdv A outer s H E hr =>
    s_cons (s_if ((d_orC (d_notT (d_val (d_isi (d_var 0) (Z_free_isinstance Z) (Z_free_tuple Z) b_tuple))) (d_or1 (d_notT (d_chainT o_le o_le (d_int) (d_callB c_len (Z_free_len Z) b_len (d_rcons (d_var 0) d_rnil)) (d_gint (Z_int_MAX_BORDERS Z)))))).pt) (s_one (s_ret (d_bl))) (s_nil))
    (s_cons (s_if (d_notT (d_val (d_callB (c_all rfl) (Z_free_all Z) b_all (d_rcons (d_lc (own := [("border", 1)]) rfl sc_are_borders.nd (blkOk_by (by kernel_rfl)) (w_seq (d_var 0)) (fun _ _ _ _ _ => g_nm 1 sc_are_borders.nd) (fun _ _ _ _ _ => d_tsNil) (fun _ _ _ _ _ => d_fn (ok_is_int Z) hr (by decide) takes0 (d_acons (d_var 1) (d_acons (d_int) (d_acons (d_gint (Z_int_MAX_BORDER Z)) d_anil))))) d_rnil)))) (s_one (s_ret (d_bl))) (s_nil))
    (s_one (s_ret (d_callB (c_all rfl) (Z_free_all Z) b_all (d_rcons (d_lc (own := [("one", 2), ("other", 3)]) rfl sc_are_borders.nd (blkOk_by (by kernel_rfl)) (w_z2 (d_var 0) (d_slice (d_var 0) (d_pso (d_int)) (d_pno)) (Z_free_zip Z)) (fun _ _ _ _ _ => g_tp rfl (g_cons (g_nm 2 sc_are_borders.nd) (g_cons (g_nm 3 sc_are_borders.nd) g_nil))) (fun _ _ _ _ _ => d_tsNil) (fun _ _ _ _ _ => d_cmp o_lt (d_var 2) (d_var 3))) d_rnil)))))
theorem sc_is_histogram : FnScope ["candidate", "borders", "counts", "count"] ["candidate"] (defScope Hd.s_is_histogram) := ⟨rfl, rfl, rfl, by decide +kernel, rfl, by decide +kernel, by decide +kernel⟩
theorem ok_is_histogram (Z : Facts mg) : FOk KK.K P w mg base 3 "is_histogram" 1 F_is_histogram := by
  obtain ⟨fd, F⟩ := Z.2.def_ 3 (d := Hd.d_is_histogram) rfl
  exact fok (k := 2) (Z_glo_is_histogram Z) F sc_is_histogram rfl (fun _ _ _ _ _ _ us hl => match us, hl with | [_], _ => rfl) fun cdv A outer s H E hr =>
    s_cons (s_if ((d_orC (d_notT (d_val (d_isi (d_var 0) (Z_free_isinstance Z) (Z_free_tuple Z) b_tuple))) (d_orC (d_cmpT (o_ne hr) (d_callB c_len (Z_free_len Z) b_len (d_rcons (d_var 0) d_rnil)) (d_int)) (d_or1 (d_notT (d_val (d_fn (ok_are_borders Z) hr (by decide) (takes_of rfl rfl rfl rfl) (d_acons (d_ix (d_var 0) (d_int)) d_anil))))))).pt) (s_one (s_ret (d_bl))) (s_nil))
    (s_cons (s_unp (d_var 0) (g_tp rfl (g_cons (g_nm 1 sc_is_histogram.nd) (g_cons (g_nm 2 sc_is_histogram.nd) g_nil))))
    (s_cons (s_if ((d_orC (d_notT (d_val (d_isi (d_var 2) (Z_free_isinstance Z) (Z_free_tuple Z) b_tuple))) (d_or1 (d_cmpT (o_ne hr) (d_callB c_len (Z_free_len Z) b_len (d_rcons (d_var 2) d_rnil)) (d_bin o_sub (d_callB c_len (Z_free_len Z) b_len (d_rcons (d_var 1) d_rnil)) (d_int))))).pt) (s_one (s_ret (d_bl))) (s_nil))
    (s_one (s_ret (d_and (d_callB (c_all rfl) (Z_free_all Z) b_all (d_rcons (d_lc (own := [("count", 3)]) rfl sc_is_histogram.nd (blkOk_by (by kernel_rfl)) (w_seq (d_var 2)) (fun _ _ _ _ _ => g_nm 3 sc_is_histogram.nd) (fun _ _ _ _ _ => d_tsNil) (fun _ _ _ _ _ => d_fn (ok_is_int Z) hr (by decide) takes0 (d_acons (d_var 3) (d_acons (d_int) (d_acons (d_gint (Z_int_MAX_COUNT Z)) d_anil))))) d_rnil)) (d_one (d_cmp o_le (d_callB (c_sum rfl) (Z_free_sum Z) b_sum (d_rcons (d_var 2) d_rnil)) (d_gint (Z_int_MAX_DATA Z)))))))))
theorem sc_check_histogram : FnScope ["value"] ["value"] (defScope Hd.s_check_histogram) := ⟨rfl, rfl, rfl, by decide +kernel, rfl, by decide +kernel, by decide +kernel⟩
theorem ok_check_histogram (Z : Facts mg) : FOk KK.K P w mg base 4 "check_histogram" 1 F_check_histogram := by
  obtain ⟨fd, F⟩ := Z.2.def_ 4 (d := Hd.d_check_histogram) rfl
  exact fok (k := 3) (Z_glo_check_histogram Z) F sc_check_histogram rfl (fun _ _ _ _ _ _ us hl => match us, hl with | [_], _ => rfl) fun cdv A outer s H E hr =>
    s_one (s_if (d_notT (d_val (d_fn (ok_is_histogram Z) hr (by decide) (takes_of rfl rfl rfl rfl) (d_acons (d_var 0) d_anil)))) (s_one (s_raise rfl (takes_of rfl rfl rfl rfl) (Z_exc_InvalidHistogram Z) (Z_glo_InvalidHistogram Z))) (s_nil))
theorem sc_find_bucket : FnScope ["borders", "value", "border"] ["borders", "value"] (defScope Hd.s_find_bucket) := ⟨rfl, rfl, rfl, by decide +kernel, rfl, by decide +kernel, by decide +kernel⟩
theorem ok_find_bucket (Z : Facts mg) : FOk KK.K P w mg base 1 "find_bucket" 2 F_find_bucket := by
  obtain ⟨fd, F⟩ := Z.2.def_ 5 (d := Hd.d_find_bucket) rfl
  exact fok (k := 0) (Z_glo_find_bucket Z) F sc_find_bucket rfl (fun _ _ _ _ _ _ us hl => match us, hl with | [_, _], _ => rfl) fun cdv A outer s H E hr =>
    s_cons (s_if (d_notT (d_chainT o_le o_lt (d_ix (d_var 0) (d_int)) (d_var 1) (d_ix (d_var 0) (d_neg (d_int))))) (s_one (s_ret (d_non))) (s_nil))
    (s_one (s_ret (d_bin o_sub (d_callB c_len (Z_free_len Z) b_len (d_rcons (d_lc (own := [("border", 2)]) rfl sc_find_bucket.nd (blkOk_by (by kernel_rfl)) (w_seq (d_var 0)) (fun _ _ _ _ _ => g_nm 2 sc_find_bucket.nd) (fun _ _ _ _ _ => d_tsOne (d_cmpT o_le (d_var 2) (d_var 1))) (fun _ _ _ _ _ => d_var 2)) d_rnil)) (d_int))))
theorem sc_count_data : FnScope ["borders", "data", "places", "value", "index"] ["borders", "data"] (defScope Hd.s_count_data) := ⟨rfl, rfl, rfl, by decide +kernel, rfl, by decide +kernel, by decide +kernel⟩
theorem ok_count_data (Z : Facts mg) : FOk KK.K P w mg base 2 "count_data" 2 F_count_data := by
  obtain ⟨fd, F⟩ := Z.2.def_ 6 (d := Hd.d_count_data) rfl
  exact fok (k := 1) (Z_glo_count_data Z) F sc_count_data rfl (fun _ _ _ _ _ _ us hl => match us, hl with | [_, _], _ => rfl) fun cdv A outer s H E hr =>
    s_cons (s_set 2 sc_count_data.nd (d_fz (d_lc (own := [("value", 3)]) rfl sc_count_data.nd (blkOk_by (by kernel_rfl)) (w_seq (d_var 1)) (fun _ _ _ _ _ => g_nm 3 sc_count_data.nd) (fun _ _ _ _ _ => d_tsNil) (fun _ _ _ _ _ => d_fn (ok_find_bucket Z) hr (by decide) takes0 (d_acons (d_var 0) (d_acons (d_var 3) d_anil))))))
    (s_one (s_ret (d_callTy c_tuple (Z_free_tuple Z) b_tuple (d_rcons (d_lc (own := [("index", 4)]) rfl sc_count_data.nd (blkOk_by (by kernel_rfl)) (w_rg1 (d_bin o_sub (d_callB c_len (Z_free_len Z) b_len (d_rcons (d_var 0) d_rnil)) (d_int)) (Z_free_range Z)) (fun _ _ _ _ _ => g_nm 4 sc_count_data.nd) (fun _ _ _ _ _ => d_tsNil) (fun _ _ _ _ _ => d_count hr (d_var 2) (d_var 4))) d_rnil))))
theorem sc_size_of : FnScope ["histogram"] ["histogram"] (defScope Hd.s_size_of) := ⟨rfl, rfl, rfl, by decide +kernel, rfl, by decide +kernel, by decide +kernel⟩
theorem ok_size_of (Z : Facts mg) : FOk KK.K P w mg base 1 "size_of" 1 F_size_of := by
  obtain ⟨fd, F⟩ := Z.2.def_ 7 (d := Hd.d_size_of) rfl
  exact fok (k := 0) (Z_glo_size_of Z) F sc_size_of rfl (fun _ _ _ _ _ _ us hl => match us, hl with | [_], _ => rfl) fun cdv A outer s H E hr =>
    s_one (s_ret (d_callB (c_sum rfl) (Z_free_sum Z) b_sum (d_rcons (d_ix (d_var 0) (d_int)) d_rnil)))
theorem sc_do_have : FnScope ["data", "histogram"] ["data", "histogram"] (defScope Hd.s_do_have) := ⟨rfl, rfl, rfl, by decide +kernel, rfl, by decide +kernel, by decide +kernel⟩
theorem ok_do_have (Z : Facts mg) : FOk KK.K P w mg base 3 "do_have" 2 F_do_have := by
  obtain ⟨fd, F⟩ := Z.2.def_ 8 (d := Hd.d_do_have) rfl
  exact fok (k := 2) (Z_glo_do_have Z) F sc_do_have rfl (fun _ _ _ _ _ _ us hl => match us, hl with | [_, _], _ => rfl) fun cdv A outer s H E hr =>
    s_one (s_ret (d_and (d_cmp (o_eq hr) (d_callB c_len (Z_free_len Z) b_len (d_rcons (d_var 0) d_rnil)) (d_fn (ok_size_of Z) hr (by decide) (takes_of rfl rfl rfl rfl) (d_acons (d_var 1) d_anil))) (d_one (d_cmp (o_eq hr) (d_fn (ok_count_data Z) hr (by decide) (takes_of rfl rfl rfl rfl) (d_acons (d_ix (d_var 1) (d_int)) (d_acons (d_var 0) d_anil))) (d_ix (d_var 1) (d_int))))))
theorem sc_filled : FnScope ["histogram", "values", "found", "value", "count"] ["histogram", "values"] (defScope Hd.s_filled) := ⟨rfl, rfl, rfl, by decide +kernel, rfl, by decide +kernel, by decide +kernel⟩
theorem ok_filled (Z : Facts mg) : FOk KK.K P w mg base 1 "filled" 2 F_filled := by
  obtain ⟨fd, F⟩ := Z.2.def_ 9 (d := Hd.d_filled) rfl
  exact fok (k := 0) (Z_glo_filled Z) F sc_filled rfl (fun _ _ _ _ _ _ us hl => match us, hl with | [_, _], _ => rfl) fun cdv A outer s H E hr =>
    s_cons (s_set 2 sc_filled.nd (d_lst d_anil))
    (s_cons (s_for (passes_of rfl) rfl (w_z2 (d_var 1) (d_ix (d_var 0) (d_int)) (Z_free_zip Z)) (g_tp rfl (g_cons (g_nm 3 sc_filled.nd) (g_cons (g_nm 4 sc_filled.nd) g_nil))) (s_one (s_ext 2 (d_bin o_mul (d_lst (d_acons (d_var 3) d_anil)) (d_var 4)))))
    (s_one (s_ret (d_var 2))))
theorem sc_lowest : FnScope ["histogram"] ["histogram"] (defScope Hd.s_lowest) := ⟨rfl, rfl, rfl, by decide +kernel, rfl, by decide +kernel, by decide +kernel⟩
theorem ok_lowest (Z : Facts mg) : FOk KK.K P w mg base 2 "lowest" 1 F_lowest := by
  obtain ⟨fd, F⟩ := Z.2.def_ 10 (d := Hd.d_lowest) rfl
  exact fok (k := 1) (Z_glo_lowest Z) F sc_lowest rfl (fun _ _ _ _ _ _ us hl => match us, hl with | [_], _ => rfl) fun cdv A outer s H E hr =>
    s_one (s_ret (d_fn (ok_filled Z) hr (by decide) (takes_of rfl rfl rfl rfl) (d_acons (d_var 0) (d_acons (d_slice (d_ix (d_var 0) (d_int)) (d_pno) (d_pso (d_neg (d_int)))) d_anil))))
theorem sc_highest : FnScope ["histogram", "border"] ["histogram"] (defScope Hd.s_highest) := ⟨rfl, rfl, rfl, by decide +kernel, rfl, by decide +kernel, by decide +kernel⟩
theorem ok_highest (Z : Facts mg) : FOk KK.K P w mg base 2 "highest" 1 F_highest := by
  obtain ⟨fd, F⟩ := Z.2.def_ 11 (d := Hd.d_highest) rfl
  exact fok (k := 1) (Z_glo_highest Z) F sc_highest rfl (fun _ _ _ _ _ _ us hl => match us, hl with | [_], _ => rfl) fun cdv A outer s H E hr =>
    s_one (s_ret (d_fn (ok_filled Z) hr (by decide) (takes_of rfl rfl rfl rfl) (d_acons (d_var 0) (d_acons (d_lc (own := [("border", 1)]) rfl sc_highest.nd (blkOk_by (by kernel_rfl)) (w_seq (d_slice (d_ix (d_var 0) (d_int)) (d_pso (d_int)) (d_pno))) (fun _ _ _ _ _ => g_nm 1 sc_highest.nd) (fun _ _ _ _ _ => d_tsNil) (fun _ _ _ _ _ => d_bin o_sub (d_var 1) (d_int))) d_anil))))
theorem sc_check_rank : FnScope ["histogram", "rank"] ["histogram", "rank"] (defScope Hd.s_check_rank) := ⟨rfl, rfl, rfl, by decide +kernel, rfl, by decide +kernel, by decide +kernel⟩
theorem ok_check_rank (Z : Facts mg) : FOk KK.K P w mg base 2 "check_rank" 2 F_check_rank := by
  obtain ⟨fd, F⟩ := Z.2.def_ 12 (d := Hd.d_check_rank) rfl
  exact fok (k := 1) (Z_glo_check_rank Z) F sc_check_rank rfl (fun _ _ _ _ _ _ us hl => match us, hl with | [_, _], _ => rfl) fun cdv A outer s H E hr =>
    s_one (s_if (d_notT (d_val (d_fn (ok_is_int Z) hr (by decide) (takes_of rfl rfl rfl rfl) (d_acons (d_var 1) (d_acons (d_int) (d_acons (d_fn (ok_size_of Z) hr (by decide) (takes_of rfl rfl rfl rfl) (d_acons (d_var 0) d_anil)) d_anil)))))) (s_one (s_raise rfl (takes_of rfl rfl rfl rfl) (Z_exc_InvalidRank Z) (Z_glo_InvalidRank Z))) (s_nil))
theorem sc_find_range : FnScope ["histogram", "value", "least", "one"] ["histogram", "value"] (defScope Hd.s_find_range) := ⟨rfl, rfl, rfl, by decide +kernel, rfl, by decide +kernel, by decide +kernel⟩
theorem ok_find_range (Z : Facts mg) : FOk KK.K P w mg base 3 "find_range" 2 F_find_range := by
  obtain ⟨fd, F⟩ := Z.2.def_ 13 (d := Hd.d_find_range) rfl
  exact fok (k := 2) (Z_glo_find_range Z) F sc_find_range rfl (fun _ _ _ _ _ _ us hl => match us, hl with | [_, _], _ => rfl) fun cdv A outer s H E hr =>
    s_cons (s_set 2 sc_find_range.nd (d_callB c_len (Z_free_len Z) b_len (d_rcons (d_lc (own := [("one", 3)]) rfl sc_find_range.nd (blkOk_by (by kernel_rfl)) (w_seq (d_fn (ok_highest Z) hr (by decide) (takes_of rfl rfl rfl rfl) (d_acons (d_var 0) d_anil))) (fun _ _ _ _ _ => g_nm 3 sc_find_range.nd) (fun _ _ _ _ _ => d_tsOne (d_cmpT o_lt (d_var 3) (d_var 1))) (fun _ _ _ _ _ => d_var 3)) d_rnil)))
    (s_one (s_ret (d_tup (d_acons (d_var 2) (d_acons (d_callB c_len (Z_free_len Z) b_len (d_rcons (d_lc (own := [("one", 3)]) rfl sc_find_range.nd (blkOk_by (by kernel_rfl)) (w_seq (d_fn (ok_lowest Z) hr (by decide) (takes_of rfl rfl rfl rfl) (d_acons (d_var 0) d_anil))) (fun _ _ _ _ _ => g_nm 3 sc_find_range.nd) (fun _ _ _ _ _ => d_tsOne (d_cmpT o_lt (d_var 3) (d_var 1))) (fun _ _ _ _ _ => d_var 3)) d_rnil)) d_anil)))))
theorem sc_check_two : FnScope ["one", "other"] ["one", "other"] (defScope Hd.s_check_two) := ⟨rfl, rfl, rfl, by decide +kernel, rfl, by decide +kernel, by decide +kernel⟩
theorem ok_check_two (Z : Facts mg) : FOk KK.K P w mg base 5 "check_two" 2 F_check_two := by
  obtain ⟨fd, F⟩ := Z.2.def_ 14 (d := Hd.d_check_two) rfl
  exact fok (k := 4) (Z_glo_check_two Z) F sc_check_two rfl (fun _ _ _ _ _ _ us hl => match us, hl with | [_, _], _ => rfl) fun cdv A outer s H E hr =>
    s_cons (s_expr (d_fn (ok_check_histogram Z) hr (by decide) (takes_of rfl rfl rfl rfl) (d_acons (d_var 0) d_anil)))
    (s_one (s_expr (d_fn (ok_check_histogram Z) hr (by decide) (takes_of rfl rfl rfl rfl) (d_acons (d_var 1) d_anil))))
theorem sc_is_conflict : FnScope ["one", "other", "value", "left", "right"] ["one", "other", "value"] (defScope Hd.s_is_conflict) := ⟨rfl, rfl, rfl, by decide +kernel, rfl, by decide +kernel, by decide +kernel⟩
theorem ok_is_conflict (Z : Facts mg) : FOk KK.K P w mg base 4 "is_conflict" 3 F_is_conflict := by
  obtain ⟨fd, F⟩ := Z.2.def_ 15 (d := Hd.d_is_conflict) rfl
  exact fok (k := 3) (Z_glo_is_conflict Z) F sc_is_conflict rfl (fun _ _ _ _ _ _ us hl => match us, hl with | [_, _, _], _ => rfl) fun cdv A outer s H E hr =>
    s_cons (s_par 3 4 rfl sc_is_conflict.nd (d_fn (ok_find_range Z) hr (by decide) (takes_of rfl rfl rfl rfl) (d_acons (d_var 0) (d_acons (d_var 2) d_anil))) (d_fn (ok_find_range Z) hr (by decide) (takes_of rfl rfl rfl rfl) (d_acons (d_var 1) (d_acons (d_var 2) d_anil))))
    (s_one (s_ret (d_or (d_cmp o_lt (d_ix (d_var 3) (d_int)) (d_ix (d_var 4) (d_int))) (d_one (d_cmp o_lt (d_ix (d_var 4) (d_int)) (d_ix (d_var 3) (d_int)))))))
theorem sc_find_conflict : FnScope ["one", "other", "found", "value"] ["one", "other"] (defScope Hd.s_find_conflict) := ⟨rfl, rfl, rfl, by decide +kernel, rfl, by decide +kernel, by decide +kernel⟩
theorem ok_find_conflict (Z : Facts mg) : FOk KK.K P w mg base 5 "find_conflict" 2 F_find_conflict := by
  obtain ⟨fd, F⟩ := Z.2.def_ 16 (d := Hd.d_find_conflict) rfl
  exact fok (k := 4) (Z_glo_find_conflict Z) F sc_find_conflict rfl (fun _ _ _ _ _ _ us hl => match us, hl with | [_, _], _ => rfl) fun cdv A outer s H E hr =>
    s_cons (s_lcV 2 (own := [("value", 3)]) rfl sc_find_conflict.nd (blkOk_by (by kernel_rfl)) (w_rg1 (d_bin o_add (d_gint (Z_int_MAX_BORDER Z)) (d_int)) (Z_free_range Z)) (fun _ _ _ _ _ => g_nm 3 sc_find_conflict.nd) (fun _ _ _ _ _ => d_tsOne (d_val (d_fn (ok_is_conflict Z) hr (by decide) takes0 (d_acons (d_var 0) (d_acons (d_var 1) (d_acons (d_var 3) d_anil)))))) (fun _ _ _ _ _ => d_var 3) (sw_true rfl rfl rfl rfl))
    (s_one (s_ret (d_if (d_cmpT (o_ne hr) (d_var 2) (d_lst d_anil)) (d_ix (d_var 2) (d_int)) (d_non))))
theorem sc_are_compatible : FnScope ["one", "other", "value"] ["one", "other"] (defScope Hd.s_are_compatible) := ⟨rfl, rfl, rfl, by decide +kernel, rfl, by decide +kernel, by decide +kernel⟩
theorem ok_are_compatible (Z : Facts mg) : FOk KK.K P w mg base 5 "are_compatible" 2 F_are_compatible := by
  obtain ⟨fd, F⟩ := Z.2.def_ 17 (d := Hd.d_are_compatible) rfl
  exact fok (k := 4) (Z_glo_are_compatible Z) F sc_are_compatible rfl (fun _ _ _ _ _ _ us hl => match us, hl with | [_, _], _ => rfl) fun cdv A outer s H E hr =>
    s_cons (s_if (d_cmpT (o_ne hr) (d_fn (ok_size_of Z) hr (by decide) (takes_of rfl rfl rfl rfl) (d_acons (d_var 0) d_anil)) (d_fn (ok_size_of Z) hr (by decide) (takes_of rfl rfl rfl rfl) (d_acons (d_var 1) d_anil))) (s_one (s_ret (d_bl))) (s_nil))
    (s_one (s_ret (d_not (d_callB (c_any rfl) (Z_free_any Z) b_any (d_rcons (d_lc (own := [("value", 2)]) rfl sc_are_compatible.nd (blkOk_by (by kernel_rfl)) (w_seq (d_bin o_add (d_ix (d_var 0) (d_int)) (d_ix (d_var 1) (d_int)))) (fun _ _ _ _ _ => g_nm 2 sc_are_compatible.nd) (fun _ _ _ _ _ => d_tsNil) (fun _ _ _ _ _ => d_fn (ok_is_conflict Z) hr (by decide) takes0 (d_acons (d_var 0) (d_acons (d_var 1) (d_acons (d_var 2) d_anil))))) d_rnil)))))
theorem sc_can_be_same : FnScope ["one", "other"] ["one", "other"] (defScope Hd.s_can_be_same) := ⟨rfl, rfl, rfl, by decide +kernel, rfl, by decide +kernel, by decide +kernel⟩
theorem ok_can_be_same (Z : Facts mg) : FOk KK.K P w mg base 6 "can_be_same" 2 F_can_be_same := by
  obtain ⟨fd, F⟩ := Z.2.def_ 18 (d := Hd.d_can_be_same) rfl
  exact fok (k := 5) (Z_glo_can_be_same Z) F sc_can_be_same rfl (fun _ _ _ _ _ _ us hl => match us, hl with | [_, _], _ => rfl) fun cdv A outer s H E hr =>
    s_cons (s_expr (d_fn (ok_check_two Z) hr (by decide) (takes_of rfl rfl rfl rfl) (d_acons (d_var 0) (d_acons (d_var 1) d_anil))))
    (s_one (s_ret (d_fn (ok_are_compatible Z) hr (by decide) (takes_of rfl rfl rfl rfl) (d_acons (d_var 0) (d_acons (d_var 1) d_anil)))))
theorem sc_conflict : FnScope ["one", "other"] ["one", "other"] (defScope Hd.s_conflict) := ⟨rfl, rfl, rfl, by decide +kernel, rfl, by decide +kernel, by decide +kernel⟩
theorem ok_conflict (Z : Facts mg) : FOk KK.K P w mg base 6 "conflict" 2 F_conflict := by
  obtain ⟨fd, F⟩ := Z.2.def_ 19 (d := Hd.d_conflict) rfl
  exact fok (k := 5) (Z_glo_conflict Z) F sc_conflict rfl (fun _ _ _ _ _ _ us hl => match us, hl with | [_, _], _ => rfl) fun cdv A outer s H E hr =>
    s_cons (s_expr (d_fn (ok_check_two Z) hr (by decide) (takes_of rfl rfl rfl rfl) (d_acons (d_var 0) (d_acons (d_var 1) d_anil))))
    (s_cons (s_if (d_cmpT (o_ne hr) (d_fn (ok_size_of Z) hr (by decide) (takes_of rfl rfl rfl rfl) (d_acons (d_var 0) d_anil)) (d_fn (ok_size_of Z) hr (by decide) (takes_of rfl rfl rfl rfl) (d_acons (d_var 1) d_anil))) (s_one (s_raise rfl (takes_of rfl rfl rfl rfl) (Z_exc_UnequalSizes Z) (Z_glo_UnequalSizes Z))) (s_nil))
    (s_one (s_ret (d_fn (ok_find_conflict Z) hr (by decide) (takes_of rfl rfl rfl rfl) (d_acons (d_var 0) (d_acons (d_var 1) d_anil))))))
theorem sc_known_ranks : FnScope ["one", "other", "found", "value", "left", "right"] ["one", "other"] (defScope Hd.s_known_ranks) := ⟨rfl, rfl, rfl, by decide +kernel, rfl, by decide +kernel, by decide +kernel⟩
theorem ok_known_ranks (Z : Facts mg) : FOk KK.K P w mg base 4 "known_ranks" 2 F_known_ranks := by
  obtain ⟨fd, F⟩ := Z.2.def_ 20 (d := Hd.d_known_ranks) rfl
  exact fok (k := 3) (Z_glo_known_ranks Z) F sc_known_ranks rfl (fun _ _ _ _ _ _ us hl => match us, hl with | [_, _], _ => rfl) fun cdv A outer s H E hr =>
    s_cons (s_set 2 sc_known_ranks.nd (d_lst d_anil))
    (s_cons (s_for (passes_of rfl) rfl (w_seq (d_ss rfl (d_bin o_add (d_ix (d_var 0) (d_int)) (d_ix (d_var 1) (d_int))) (Z_free_sorted Z) (Z_free_set Z))) (g_nm 3 sc_known_ranks.nd) (s_cons (s_par 4 5 rfl sc_known_ranks.nd (d_fn (ok_find_range Z) hr (by decide) (takes_of rfl rfl rfl rfl) (d_acons (d_var 0) (d_acons (d_var 3) d_anil))) (d_fn (ok_find_range Z) hr (by decide) (takes_of rfl rfl rfl rfl) (d_acons (d_var 1) (d_acons (d_var 3) d_anil))))
    (s_one (s_if ((d_orC (d_cmpT (o_eq hr) (d_ix (d_var 4) (d_int)) (d_ix (d_var 4) (d_int))) (d_or1 (d_cmpT (o_eq hr) (d_ix (d_var 5) (d_int)) (d_ix (d_var 5) (d_int))))).pt) (s_one (s_app 2 (d_tup (d_acons (d_var 3) (d_acons (d_if (d_cmpT (o_eq hr) (d_ix (d_var 4) (d_int)) (d_ix (d_var 4) (d_int))) (d_ix (d_var 4) (d_int)) (d_ix (d_var 5) (d_int))) d_anil))))) (s_nil)))))
    (s_one (s_ret (d_var 2))))
theorem sc_find_common_bounds : FnScope ["one", "other", "rank", "known", "low", "value", "many"] ["one", "other", "rank"] (defScope Hd.s_find_common_bounds) := ⟨rfl, rfl, rfl, by decide +kernel, rfl, by decide +kernel, by decide +kernel⟩
theorem ok_find_common_bounds (Z : Facts mg) : FOk KK.K P w mg base 5 "find_common_bounds" 3 F_find_common_bounds := by
  obtain ⟨fd, F⟩ := Z.2.def_ 21 (d := Hd.d_find_common_bounds) rfl
  exact fok (k := 4) (Z_glo_find_common_bounds Z) F sc_find_common_bounds rfl (fun _ _ _ _ _ _ us hl => match us, hl with | [_, _, _], _ => rfl) fun cdv A outer s H E hr =>
    s_cons (s_set 3 sc_find_common_bounds.nd (d_fz (d_fn (ok_known_ranks Z) hr (by decide) (takes_of rfl rfl rfl rfl) (d_acons (d_var 0) (d_acons (d_var 1) d_anil)))))
    (s_cons (s_set 4 sc_find_common_bounds.nd (d_callB (c_max1 rfl hr) (Z_free_max Z) b_max (d_rcons (d_lc (own := [("value", 5), ("many", 6)]) rfl sc_find_common_bounds.nd (blkOk_by (by kernel_rfl)) (w_seq (d_var 3)) (fun _ _ _ _ _ => g_tp rfl (g_cons (g_nm 5 sc_find_common_bounds.nd) (g_cons (g_nm 6 sc_find_common_bounds.nd) g_nil))) (fun _ _ _ _ _ => d_tsOne (d_cmpT o_lt (d_var 6) (d_var 2))) (fun _ _ _ _ _ => d_var 5)) d_rnil)))
    (s_one (s_ret (d_tup (d_acons (d_var 4) (d_acons (d_bin o_sub (d_callB (c_min1 rfl hr) (Z_free_min Z) b_min (d_rcons (d_lc (own := [("value", 5), ("many", 6)]) rfl sc_find_common_bounds.nd (blkOk_by (by kernel_rfl)) (w_seq (d_var 3)) (fun _ _ _ _ _ => g_tp rfl (g_cons (g_nm 5 sc_find_common_bounds.nd) (g_cons (g_nm 6 sc_find_common_bounds.nd) g_nil))) (fun _ _ _ _ _ => d_tsOne (d_cmpT o_ge (d_var 6) (d_var 2))) (fun _ _ _ _ _ => d_var 5)) d_rnil)) (d_int)) d_anil))))))
theorem sc_find_common : FnScope ["one", "other", "rank"] ["one", "other"] (defScope Hd.s_find_common) := ⟨rfl, rfl, rfl, by decide +kernel, rfl, by decide +kernel, by decide +kernel⟩
theorem ok_find_common (Z : Facts mg) : FOk KK.K P w mg base 6 "find_common" 2 F_find_common := by
  obtain ⟨fd, F⟩ := Z.2.def_ 22 (d := Hd.d_find_common) rfl
  exact fok (k := 5) (Z_glo_find_common Z) F sc_find_common rfl (fun _ _ _ _ _ _ us hl => match us, hl with | [_, _], _ => rfl) fun cdv A outer s H E hr =>
    s_cons (s_if (d_notT (d_val (d_fn (ok_are_compatible Z) hr (by decide) (takes_of rfl rfl rfl rfl) (d_acons (d_var 0) (d_acons (d_var 1) d_anil))))) (s_one (s_ret (d_non))) (s_nil))
    (s_one (s_ret (d_lc (own := [("rank", 2)]) rfl sc_find_common.nd (blkOk_by (by kernel_rfl)) (w_rg2 (d_int) (d_bin o_add (d_fn (ok_size_of Z) hr (by decide) (takes_of rfl rfl rfl rfl) (d_acons (d_var 0) d_anil)) (d_int)) (Z_free_range Z)) (fun _ _ _ _ _ => g_nm 2 sc_find_common.nd) (fun _ _ _ _ _ => d_tsNil) (fun _ _ _ _ _ => d_ix (d_fn (ok_find_common_bounds Z) hr (by decide) takes0 (d_acons (d_var 0) (d_acons (d_var 1) (d_acons (d_var 2) d_anil)))) (d_int)))))
theorem sc_common_data : FnScope ["one", "other"] ["one", "other"] (defScope Hd.s_common_data) := ⟨rfl, rfl, rfl, by decide +kernel, rfl, by decide +kernel, by decide +kernel⟩
theorem ok_common_data (Z : Facts mg) : FOk KK.K P w mg base 7 "common_data" 2 F_common_data := by
  obtain ⟨fd, F⟩ := Z.2.def_ 23 (d := Hd.d_common_data) rfl
  exact fok (k := 6) (Z_glo_common_data Z) F sc_common_data rfl (fun _ _ _ _ _ _ us hl => match us, hl with | [_, _], _ => rfl) fun cdv A outer s H E hr =>
    s_cons (s_expr (d_fn (ok_check_two Z) hr (by decide) (takes_of rfl rfl rfl rfl) (d_acons (d_var 0) (d_acons (d_var 1) d_anil))))
    (s_one (s_ret (d_fn (ok_find_common Z) hr (by decide) (takes_of rfl rfl rfl rfl) (d_acons (d_var 0) (d_acons (d_var 1) d_anil)))))
theorem sc_are_common_data : FnScope ["one", "other", "candidate"] ["one", "other", "candidate"] (defScope Hd.s_are_common_data) := ⟨rfl, rfl, rfl, by decide +kernel, rfl, by decide +kernel, by decide +kernel⟩
theorem ok_are_common_data (Z : Facts mg) : FOk KK.K P w mg base 6 "are_common_data" 3 F_are_common_data := by
  obtain ⟨fd, F⟩ := Z.2.def_ 24 (d := Hd.d_are_common_data) rfl
  exact fok (k := 5) (Z_glo_are_common_data Z) F sc_are_common_data rfl (fun _ _ _ _ _ _ us hl => match us, hl with | [_, _, _], _ => rfl) fun cdv A outer s H E hr =>
    s_cons (s_expr (d_fn (ok_check_two Z) hr (by decide) (takes_of rfl rfl rfl rfl) (d_acons (d_var 0) (d_acons (d_var 1) d_anil))))
    (s_one (s_ret (d_and (d_fn (ok_are_data Z) hr (by decide) (takes_of rfl rfl rfl rfl) (d_acons (d_var 2) d_anil)) (d_and (d_fn (ok_do_have Z) hr (by decide) (takes_of rfl rfl rfl rfl) (d_acons (d_var 2) (d_acons (d_var 0) d_anil))) (d_one (d_fn (ok_do_have Z) hr (by decide) (takes_of rfl rfl rfl rfl) (d_acons (d_var 2) (d_acons (d_var 1) d_anil))))))))
theorem sc_common_rank_bounds : FnScope ["one", "other", "rank"] ["one", "other", "rank"] (defScope Hd.s_common_rank_bounds) := ⟨rfl, rfl, rfl, by decide +kernel, rfl, by decide +kernel, by decide +kernel⟩
theorem ok_common_rank_bounds (Z : Facts mg) : FOk KK.K P w mg base 6 "common_rank_bounds" 3 F_common_rank_bounds := by
  obtain ⟨fd, F⟩ := Z.2.def_ 25 (d := Hd.d_common_rank_bounds) rfl
  exact fok (k := 5) (Z_glo_common_rank_bounds Z) F sc_common_rank_bounds rfl (fun _ _ _ _ _ _ us hl => match us, hl with | [_, _, _], _ => rfl) fun cdv A outer s H E hr =>
    s_cons (s_expr (d_fn (ok_check_two Z) hr (by decide) (takes_of rfl rfl rfl rfl) (d_acons (d_var 0) (d_acons (d_var 1) d_anil))))
    (s_cons (s_if (d_notT (d_val (d_fn (ok_are_compatible Z) hr (by decide) (takes_of rfl rfl rfl rfl) (d_acons (d_var 0) (d_acons (d_var 1) d_anil))))) (s_one (s_raise rfl (takes_of rfl rfl rfl rfl) (Z_exc_NoCommonData Z) (Z_glo_NoCommonData Z))) (s_nil))
    (s_cons (s_expr (d_fn (ok_check_rank Z) hr (by decide) (takes_of rfl rfl rfl rfl) (d_acons (d_var 0) (d_acons (d_var 2) d_anil))))
    (s_one (s_ret (d_fn (ok_find_common_bounds Z) hr (by decide) (takes_of rfl rfl rfl rfl) (d_acons (d_var 0) (d_acons (d_var 1) (d_acons (d_var 2) d_anil))))))))
theorem sc__law_pick : FnScope ["script", "k", "many", "cell", "drawn", "rest", "again"] ["script", "k", "many"] (defScope Hd.s__law_pick) := ⟨rfl, rfl, rfl, by decide +kernel, rfl, by decide +kernel, by decide +kernel⟩
theorem ok__law_pick (Z : Facts mg) : FOk KK.K P w mg base 1 "_law_pick" 3 F__law_pick := by
  obtain ⟨fd, F⟩ := Z.2.def_ 26 (d := Hd.d__law_pick) rfl
  exact fok (k := 0) (Z_glo__law_pick Z) F sc__law_pick rfl (fun _ _ _ _ _ _ us hl => match us, hl with | [_, _, _], _ => rfl) fun cdv A outer s H E hr =>
    s_cons (s_set 3 sc__law_pick.nd (d_if (d_cmpT (o_ne hr) (d_var 0) (d_lst d_anil)) (d_ix (d_var 0) (d_bin o_mod (d_var 1) (d_callB c_len (Z_free_len Z) b_len (d_rcons (d_var 0) d_rnil)))) (d_int)))
    (s_cons (s_par 5 6 rfl sc__law_pick.nd (d_bin o_div (d_var 3) (d_bin o_pow (d_int) (d_int))) (d_bin o_div (d_var 1) (d_callB (c_max2 rfl) (Z_free_max Z) b_max (d_rcons (d_callB c_len (Z_free_len Z) b_len (d_rcons (d_var 0) d_rnil)) (d_rcons (d_int) d_rnil)))))
    (s_cons (s_while 5000 (passes_of rfl) ((d_andC (d_cmpT o_gt (d_var 5) (d_int)) (d_and1 (d_cmpT o_gt (d_var 6) (d_int)))).pt) (s_one (s_par 5 6 rfl sc__law_pick.nd (d_bin o_div (d_var 5) (d_int)) (d_bin o_sub (d_var 6) (d_int)))))
    (s_cons (s_if (d_cmpT o_gt (d_var 5) (d_int)) (s_one (s_ret (d_bin o_mod (d_bin o_mod (d_var 5) (d_int)) (d_var 2)))) (s_nil))
    (s_cons (s_set 4 sc__law_pick.nd (d_bin o_mod (d_bin o_mul (d_bin o_add (d_bin o_mul (d_var 3) (d_int)) (d_bin o_mul (d_int) (d_bin o_add (d_var 1) (d_int)))) (d_int)) (d_int)))
    (s_one (s_ret (d_bin o_mod (d_bin o_mod (d_bin o_add (d_bin o_mul (d_var 4) (d_var 4)) (d_bin o_div (d_var 4) (d_int))) (d_int)) (d_var 2))))))))
theorem sc__law_counts : FnScope ["borders", "data", "found", "low", "high", "value"] ["borders", "data"] (defScope Hd.s__law_counts) := ⟨rfl, rfl, rfl, by decide +kernel, rfl, by decide +kernel, by decide +kernel⟩
theorem ok__law_counts (Z : Facts mg) : FOk KK.K P w mg base 1 "_law_counts" 2 F__law_counts := by
  obtain ⟨fd, F⟩ := Z.2.def_ 27 (d := Hd.d__law_counts) rfl
  exact fok (k := 0) (Z_glo__law_counts Z) F sc__law_counts rfl (fun _ _ _ _ _ _ us hl => match us, hl with | [_, _], _ => rfl) fun cdv A outer s H E hr =>
    s_cons (s_set 2 sc__law_counts.nd (d_lst d_anil))
    (s_cons (s_for (passes_of rfl) rfl (w_z2 (d_var 0) (d_slice (d_var 0) (d_pso (d_int)) (d_pno)) (Z_free_zip Z)) (g_tp rfl (g_cons (g_nm 3 sc__law_counts.nd) (g_cons (g_nm 4 sc__law_counts.nd) g_nil))) (s_one (s_app 2 (d_callB c_len (Z_free_len Z) b_len (d_rcons (d_lc (own := [("value", 5)]) rfl sc__law_counts.nd (blkOk_by (by kernel_rfl)) (w_seq (d_var 1)) (fun _ _ _ _ _ => g_nm 5 sc__law_counts.nd) (fun _ _ _ _ _ => d_tsOne ((d_andC (d_cmpT o_le (d_var 3) (d_var 5)) (d_and1 (d_cmpT o_lt (d_var 5) (d_var 4)))).pt)) (fun _ _ _ _ _ => d_var 5)) d_rnil)))))
    (s_one (s_ret (d_callTy c_tuple (Z_free_tuple Z) b_tuple (d_rcons (d_var 2) d_rnil)))))
theorem sc__law_ends : FnScope ["histogram", "i", "borders", "counts", "low", "high"] ["histogram"] (defScope Hd.s__law_ends) := ⟨rfl, rfl, rfl, by decide +kernel, rfl, by decide +kernel, by decide +kernel⟩
theorem ok__law_ends (Z : Facts mg) : FOk KK.K P w mg base 1 "_law_ends" 1 F__law_ends := by
  obtain ⟨fd, F⟩ := Z.2.def_ 28 (d := Hd.d__law_ends) rfl
  exact fok (k := 0) (Z_glo__law_ends Z) F sc__law_ends rfl (fun _ _ _ _ _ _ us hl => match us, hl with | [_], _ => rfl) fun cdv A outer s H E hr =>
    s_cons (s_unp (d_var 0) (g_tp rfl (g_cons (g_nm 2 sc__law_ends.nd) (g_cons (g_nm 3 sc__law_ends.nd) g_nil))))
    (s_cons (s_par 4 5 rfl sc__law_ends.nd (d_lst d_anil) (d_lst d_anil))
    (s_cons (s_for (passes_of rfl) rfl (w_rg1 (d_callB c_len (Z_free_len Z) b_len (d_rcons (d_var 3) d_rnil)) (Z_free_range Z)) (g_nm 1 sc__law_ends.nd) (s_cons (s_ext 4 (d_bin o_mul (d_lst (d_acons (d_ix (d_var 2) (d_var 1)) d_anil)) (d_ix (d_var 3) (d_var 1))))
    (s_one (s_ext 5 (d_bin o_mul (d_lst (d_acons (d_bin o_sub (d_ix (d_var 2) (d_bin o_add (d_var 1) (d_int))) (d_int)) d_anil)) (d_ix (d_var 3) (d_var 1)))))))
    (s_one (s_frz 5 (s_frz 4 (s_ret (d_tup (d_acons (d_var 4) (d_acons (d_var 5) d_anil)))))))))
theorem sc__law_small : FnScope ["script", "place", "i", "at", "borders", "counts", "left", "count"] ["script", "place"] (defScope Hd.s__law_small) := ⟨rfl, rfl, rfl, by decide +kernel, rfl, by decide +kernel, by decide +kernel⟩
theorem ok__law_small (Z : Facts mg) : FOk KK.K P w mg base 2 "_law_small" 2 F__law_small := by
  obtain ⟨fd, F⟩ := Z.2.def_ 29 (d := Hd.d__law_small) rfl
  exact fok (k := 1) (Z_glo__law_small Z) F sc__law_small rfl (fun _ _ _ _ _ _ us hl => match us, hl with | [_, _], _ => rfl) fun cdv A outer s H E hr =>
    s_cons (s_par4 3 4 5 6 rfl sc__law_small.nd (d_fn (ok__law_pick Z) hr (by decide) (takes_of rfl rfl rfl rfl) (d_acons (d_var 0) (d_acons (d_var 1) (d_acons (d_int) d_anil)))) (d_lst d_anil) (d_lst d_anil) (d_int))
    (s_cons (s_app 4 (d_var 3))
    (s_cons (s_for (passes_of rfl) rfl (w_rg1 (d_bin o_add (d_int) (d_fn (ok__law_pick Z) hr (by decide) (takes_of rfl rfl rfl rfl) (d_acons (d_var 0) (d_acons (d_bin o_add (d_var 1) (d_int)) (d_acons (d_int) d_anil))))) (Z_free_range Z)) (g_nm 2 sc__law_small.nd) (s_cons (s_set 3 sc__law_small.nd (d_fz (d_bin o_add (d_bin o_add (d_var 3) (d_int)) (d_fn (ok__law_pick Z) hr (by decide) (takes_of rfl rfl rfl rfl) (d_acons (d_var 0) (d_acons (d_bin o_add (d_bin o_add (d_var 1) (d_int)) (d_var 2)) (d_acons (d_int) d_anil)))))))
    (s_cons (s_app 4 (d_var 3))
    (s_cons (s_set 7 sc__law_small.nd (d_callB (c_min2 rfl) (Z_free_min Z) b_min (d_rcons (d_var 6) (d_rcons (d_fn (ok__law_pick Z) hr (by decide) (takes_of rfl rfl rfl rfl) (d_acons (d_var 0) (d_acons (d_bin o_add (d_bin o_add (d_var 1) (d_int)) (d_var 2)) (d_acons (d_int) d_anil)))) d_rnil))))
    (s_cons (s_app 5 (d_var 7))
    (s_one (s_set 6 sc__law_small.nd (d_bin o_sub (d_var 6) (d_var 7)))))))))
    (s_one (s_ret (d_tup (d_acons (d_callTy c_tuple (Z_free_tuple Z) b_tuple (d_rcons (d_var 4) d_rnil)) (d_acons (d_callTy c_tuple (Z_free_tuple Z) b_tuple (d_rcons (d_var 5) d_rnil)) d_anil)))))))
theorem sc__law_every : FnScope ["histogram", "found", "i", "borders", "counts", "j", "longer", "data", "first", "value"] ["histogram"] (defScope Hd.s__law_every) := ⟨rfl, rfl, rfl, by decide +kernel, rfl, by decide +kernel, by decide +kernel⟩
theorem ok__law_every (Z : Facts mg) : FOk KK.K P w mg base 1 "_law_every" 1 F__law_every := by
  obtain ⟨fd, F⟩ := Z.2.def_ 30 (d := Hd.d__law_every) rfl
  exact fok (k := 0) (Z_glo__law_every Z) F sc__law_every rfl (fun _ _ _ _ _ _ us hl => match us, hl with | [_], _ => rfl) fun cdv A outer s H E hr =>
    s_cons (s_unp (d_var 0) (g_tp rfl (g_cons (g_nm 3 sc__law_every.nd) (g_cons (g_nm 4 sc__law_every.nd) g_nil))))
    (s_cons (s_set 1 sc__law_every.nd (d_fz (d_lst (d_acons (d_lst d_anil) d_anil))))
    (s_cons (s_for (passes_of rfl) rfl (w_rg1 (d_callB c_len (Z_free_len Z) b_len (d_rcons (d_var 4) d_rnil)) (Z_free_range Z)) (g_nm 2 sc__law_every.nd) (s_one (s_for (passes_of rfl) rfl (w_rg1 (d_ix (d_var 4) (d_var 2)) (Z_free_range Z)) (g_nm 5 sc__law_every.nd) (s_cons (s_set 6 sc__law_every.nd (d_lst d_anil))
    (s_cons (s_for (passes_of rfl) rfl (w_seq (d_var 1)) (g_nm 7 sc__law_every.nd) (s_cons (s_set 8 sc__law_every.nd (d_callB (c_max2 rfl) (Z_free_max Z) b_max (d_rcons (d_ix (d_var 3) (d_var 2)) (d_rcons (d_if (d_cmpT (o_ne hr) (d_var 7) (d_lst d_anil)) (d_ix (d_var 7) (d_neg (d_int))) (d_int)) d_rnil))))
    (s_one (s_ext 6 (d_lc (own := [("value", 9)]) rfl sc__law_every.nd (blkOk_by (by kernel_rfl)) (w_rg2 (d_var 8) (d_ix (d_var 3) (d_bin o_add (d_var 2) (d_int))) (Z_free_range Z)) (fun _ _ _ _ _ => g_nm 9 sc__law_every.nd) (fun _ _ _ _ _ => d_tsNil) (fun _ _ _ _ _ => d_bin o_add (d_var 7) (d_lst (d_acons (d_var 9) d_anil))))))))
    (s_one (s_frz 6 (s_set 1 sc__law_every.nd (d_fz (d_var 6))))))))))
    (s_one (s_ret (d_var 1)))))
theorem sc__law_fits : FnScope ["data", "histogram"] ["data", "histogram"] (defScope Hd.s__law_fits) := ⟨rfl, rfl, rfl, by decide +kernel, rfl, by decide +kernel, by decide +kernel⟩
theorem ok__law_fits (Z : Facts mg) : FOk KK.K P w mg base 2 "_law_fits" 2 F__law_fits := by
  obtain ⟨fd, F⟩ := Z.2.def_ 31 (d := Hd.d__law_fits) rfl
  exact fok (k := 1) (Z_glo__law_fits Z) F sc__law_fits rfl (fun _ _ _ _ _ _ us hl => match us, hl with | [_, _], _ => rfl) fun cdv A outer s H E hr =>
    s_cons (s_if ((d_orC (d_notT (d_val (d_isi (d_var 0) (Z_free_isinstance Z) (Z_free_list Z) b_list))) (d_or1 (d_cmpT (o_ne hr) (d_var 0) (d_callB (c_sorted hr) (Z_free_sorted Z) b_sorted (d_rcons (d_var 0) d_rnil))))).pt) (s_one (s_ret (d_bl))) (s_nil))
    (s_one (s_ret (d_and (d_cmp (o_eq hr) (d_fn (ok__law_counts Z) hr (by decide) (takes_of rfl rfl rfl rfl) (d_acons (d_ix (d_var 1) (d_int)) (d_acons (d_var 0) d_anil))) (d_ix (d_var 1) (d_int))) (d_one (d_cmp (o_eq hr) (d_callB c_len (Z_free_len Z) b_len (d_rcons (d_var 0) d_rnil)) (d_callB (c_sum rfl) (Z_free_sum Z) b_sum (d_rcons (d_ix (d_var 1) (d_int)) d_rnil)))))))
theorem sc__law_class : FnScope ["error", "kinds", "names"] ["error"] (defScope Hd.s__law_class) := ⟨rfl, rfl, rfl, by decide +kernel, rfl, by decide +kernel, by decide +kernel⟩
theorem ok__law_class (Z : Facts mg) : FErr P w mg base 0 "_law_class" 3 Hd.lcs h__law_class := by
  obtain ⟨fd, F⟩ := Z.2.def_ 32 (d := Hd.d__law_class) rfl
  exact ⟨_, _, _, _, _, _, fd, ["error", "kinds", "names"], "error", Z_glo__law_class Z, F, sc__law_class, rfl, by decide, F.bindsN (fun _ _ _ _ _ _ us hl => match us, hl with | [_], _ => rfl), psi__law_class, fun cdv A outer s H E a oe c hc hz hf hr =>
    s_cons (s_set 1 sc__law_class.nd (d_lst (d_acons (d_isxP 0 (List.mem_singleton_self _) (Z_isx Z (lcs_sub hc)) hz hf (Z_kit_InvalidBorders Z (lcs_sub hc)) (Z_free_isinstance Z) (Z_glo_InvalidBorders Z)) (d_acons (d_isxP 0 (List.mem_singleton_self _) (Z_isx Z (lcs_sub hc)) hz hf (Z_kit_InvalidData Z (lcs_sub hc)) (Z_free_isinstance Z) (Z_glo_InvalidData Z)) d_anil)) (by show _ ≤ 16777216; simp)))
    (s_cons (s_ext 1 (d_lst (d_acons (d_isxP 0 (List.mem_singleton_self _) (Z_isx Z (lcs_sub hc)) hz hf (Z_kit_OutOfBuckets Z (lcs_sub hc)) (Z_free_isinstance Z) (Z_glo_OutOfBuckets Z)) (d_acons (d_isxP 0 (List.mem_singleton_self _) (Z_isx Z (lcs_sub hc)) hz hf (Z_kit_TooLarge Z (lcs_sub hc)) (Z_free_isinstance Z) (Z_glo_TooLarge Z)) d_anil)) (by show _ ≤ 16777216; simp)))
    (s_cons (s_ext 1 (d_lst (d_acons (d_isxP 0 (List.mem_singleton_self _) (Z_isx Z (lcs_sub hc)) hz hf (Z_kit_InvalidHistogram Z (lcs_sub hc)) (Z_free_isinstance Z) (Z_glo_InvalidHistogram Z)) (d_acons (d_isxP 0 (List.mem_singleton_self _) (Z_isx Z (lcs_sub hc)) hz hf (Z_kit_InvalidValue Z (lcs_sub hc)) (Z_free_isinstance Z) (Z_glo_InvalidValue Z)) d_anil)) (by show _ ≤ 16777216; simp)))
    (s_cons (s_ext 1 (d_lst (d_acons (d_isxP 0 (List.mem_singleton_self _) (Z_isx Z (lcs_sub hc)) hz hf (Z_kit_InvalidRank Z (lcs_sub hc)) (Z_free_isinstance Z) (Z_glo_InvalidRank Z)) (d_acons (d_isxP 0 (List.mem_singleton_self _) (Z_isx Z (lcs_sub hc)) hz hf (Z_kit_InvalidPercent Z (lcs_sub hc)) (Z_free_isinstance Z) (Z_glo_InvalidPercent Z)) d_anil)) (by show _ ≤ 16777216; simp)))
    (s_cons (s_ext 1 (d_lst (d_acons (d_isxP 0 (List.mem_singleton_self _) (Z_isx Z (lcs_sub hc)) hz hf (Z_kit_EmptyHistogram Z (lcs_sub hc)) (Z_free_isinstance Z) (Z_glo_EmptyHistogram Z)) (d_acons (d_isxP 0 (List.mem_singleton_self _) (Z_isx Z (lcs_sub hc)) hz hf (Z_kit_InvalidNumber Z (lcs_sub hc)) (Z_free_isinstance Z) (Z_glo_InvalidNumber Z)) d_anil)) (by show _ ≤ 16777216; simp)))
    (s_cons (s_ext 1 (d_lst (d_acons (d_isxP 0 (List.mem_singleton_self _) (Z_isx Z (lcs_sub hc)) hz hf (Z_kit_InvalidStatement Z (lcs_sub hc)) (Z_free_isinstance Z) (Z_glo_InvalidStatement Z)) (d_acons (d_isxP 0 (List.mem_singleton_self _) (Z_isx Z (lcs_sub hc)) hz hf (Z_kit_UnequalSizes Z (lcs_sub hc)) (Z_free_isinstance Z) (Z_glo_UnequalSizes Z)) d_anil)) (by show _ ≤ 16777216; simp)))
    (s_cons (s_ext 1 (d_lst (d_acons (d_isxP 0 (List.mem_singleton_self _) (Z_isx Z (lcs_sub hc)) hz hf (Z_kit_NoCommonData Z (lcs_sub hc)) (Z_free_isinstance Z) (Z_glo_NoCommonData Z)) (d_acons (d_isxP 0 (List.mem_singleton_self _) (Z_isx Z (lcs_sub hc)) hz hf (Z_kit_NotCoarser Z (lcs_sub hc)) (Z_free_isinstance Z) (Z_glo_NotCoarser Z)) d_anil)) (by show _ ≤ 16777216; simp)))
    (s_cons (s_ext 1 (d_lst (d_acons (d_isxP 0 (List.mem_singleton_self _) (Z_isx Z (lcs_sub hc)) hz hf (Z_kit_InvalidStatements Z (lcs_sub hc)) (Z_free_isinstance Z) (Z_glo_InvalidStatements Z)) d_anil) (by show _ ≤ 16777216; simp)))
    (s_cons (s_if ((d_orC (d_cmpT (o_neU (unitsH hr)) (d_countU (unitsH hr) (d_var 1) (d_bl)) (d_int)) (d_or1 (d_notT (d_val (d_isxV 0 (List.mem_singleton_self _) (Z_isx Z (lcs_sub hc)) hz hf (Z_kiv Z hc) (Z_free_isinstance Z) (Z_free_ValueError Z) (by decide +kernel)))))).pt) (s_one (s_ret (d_str))) (s_nil))
    (s_cons (s_set 2 sc__law_class.nd (d_lst (d_acons (d_str) (d_acons (d_str) (d_acons (d_str) (d_acons (d_str) (d_acons (d_str) d_anil))))) (by show _ ≤ 16777216; simp)))
    (s_cons (s_ext 2 (d_lst (d_acons (d_str) (d_acons (d_str) (d_acons (d_str) (d_acons (d_str) (d_acons (d_str) d_anil))))) (by show _ ≤ 16777216; simp)))
    (s_cons (s_ext 2 (d_lst (d_acons (d_str) (d_acons (d_str) (d_acons (d_str) (d_acons (d_str) (d_acons (d_str) d_anil))))) (by show _ ≤ 16777216; simp)))
    (s_one (s_ret (d_ix (d_var 2) (d_indexU (unitsH hr) (d_var 1) (d_bl))))))))))))))))⟩
theorem sc__law_result : FnScope ["call", "error"] ["call"] (defScope Hd.s__law_result) := ⟨rfl, rfl, rfl, by decide +kernel, rfl, by decide +kernel, by decide +kernel⟩
theorem ok__law_result (Z : Facts mg) : FRes P w mg base 8 "_law_result" 7 Hd.lcs := by
  obtain ⟨fd, F⟩ := Z.2.def_ 33 (d := Hd.d__law_result) rfl
  exact ⟨_, fd, _, Z_glo__law_result Z, F.kp, F.bindsN (fun _ _ _ _ _ _ us hl => match us, hl with | [_], _ => rfl), ok_res (k := 7) (i := 1) (j := 7) (N := ["call", "error"]) (Ψ := h__law_result) F sc__law_result (by decide) rfl rfl (Or.inl rfl) rfl (by decide) (by decide) (fun _ _ _ _ _ _ => ⟨rfl, by decide, .inl (Z_glo_BucketError Z)⟩) (fun c hc => Z_exm Z (lcs_sub hc)) psi__law_result res__law_result
    (fun cdv A outer s H E a oe c pn hr hc hz hf => s_one (s_ret (d_tup (d_acons d_str (d_acons (d_cls 1 (ok__law_class Z) hr (by decide) hc hz hf) d_anil)) (by show _ ≤ 16777216; simp))))⟩
theorem sc__law_all : FnScope ["calls", "name", "call"] ["calls", "name"] (defScope Hd.s__law_all) := ⟨rfl, rfl, rfl, by decide +kernel, rfl, by decide +kernel, by decide +kernel⟩
theorem ok__law_all (Z : Facts mg) : FAll P w mg base 9 "_law_all" 7 Hd.lcs := by
  obtain ⟨fd, F⟩ := Z.2.def_ 34 (d := Hd.d__law_all) rfl
  exact ⟨_, fd, _, Z_glo__law_all Z, F.kp, F.bindsN (fun _ _ _ _ _ _ us hl => match us, hl with | [_, _], _ => rfl), ok_allF (k := 8) (N := ["calls", "name", "call"]) F sc__law_all (by decide) fun cdv A outer s H E hr => pe_allR (own := [("call", 2)]) rfl sc__law_all.nd (blkOk_by (by kernel_rfl)) rfl (Z_free_all Z) rfl rfl (by first | exact Or.inl rfl | exact Or.inr (Or.inl rfl)) (by decide) (by decide) (fun _ _ _ _ _ => pg_name sc__law_all.nd rfl (by first | exact Or.inl rfl | exact Or.inr rfl)) (fun _ _ _ _ _ => d_eltR (ok__law_result Z) hr (by decide)) rfl rfl⟩
theorem sc__law_other : FnScope ["script", "place", "data", "borders", "cuts", "counts", "first", "last", "one", "other", "i"] ["script", "place", "data", "borders"] (defScope Hd.s__law_other) := ⟨rfl, rfl, rfl, by decide +kernel, rfl, by decide +kernel, by decide +kernel⟩
theorem ok__law_other (Z : Facts mg) : FOk KK.K P w mg base 2 "_law_other" 4 F__law_other := by
  obtain ⟨fd, F⟩ := Z.2.def_ 35 (d := Hd.d__law_other) rfl
  exact fok (k := 1) (Z_glo__law_other Z) F sc__law_other rfl (fun _ _ _ _ _ _ us hl => match us, hl with | [_, _, _, _], _ => rfl) fun cdv A outer s H E hr =>
    s_cons (s_set 4 sc__law_other.nd (d_fz (d_ss rfl (d_bin o_add (d_lst (d_acons (d_ix (d_var 3) (d_int)) (d_acons (d_ix (d_var 3) (d_neg (d_int))) d_anil))) (d_lc (own := [("i", 10)]) rfl sc__law_other.nd (blkOk_by (by kernel_rfl)) (w_rg1 (d_int) (Z_free_range Z)) (fun _ _ _ _ _ => g_nm 10 sc__law_other.nd) (fun _ _ _ _ _ => d_tsNil) (fun _ _ _ _ _ => d_bin o_add (d_int) (d_fn (ok__law_pick Z) hr (by decide) takes0 (d_acons (d_var 0) (d_acons (d_bin o_add (d_var 1) (d_var 10)) (d_acons (d_int) d_anil))))))) (Z_free_sorted Z) (Z_free_set Z))))
    (s_cons (s_unp (d_if (d_cmpT (o_eq hr) (d_var 2) (d_lst d_anil)) (d_tup (d_acons (d_ix (d_var 4) (d_int)) (d_acons (d_ix (d_var 4) (d_neg (d_int))) d_anil))) (d_tup (d_acons (d_callB (c_min2 rfl) (Z_free_min Z) b_min (d_rcons (d_ix (d_var 4) (d_int)) (d_rcons (d_ix (d_var 2) (d_int)) d_rnil))) (d_acons (d_callB (c_max2 rfl) (Z_free_max Z) b_max (d_rcons (d_ix (d_var 4) (d_neg (d_int))) (d_rcons (d_bin o_add (d_ix (d_var 2) (d_neg (d_int))) (d_int)) d_rnil))) d_anil)))) (g_tp rfl (g_cons (g_nm 6 sc__law_other.nd) (g_cons (g_nm 7 sc__law_other.nd) g_nil))))
    (s_cons (s_set 4 sc__law_other.nd (d_callTy c_tuple (Z_free_tuple Z) b_tuple (d_rcons (d_ss rfl (d_bin o_add (d_var 4) (d_lst (d_acons (d_var 6) (d_acons (d_var 7) d_anil)))) (Z_free_sorted Z) (Z_free_set Z)) d_rnil)))
    (s_cons (s_set 5 sc__law_other.nd (d_callTy c_list (Z_free_list Z) b_list (d_rcons (d_fn (ok__law_counts Z) hr (by decide) (takes_of rfl rfl rfl rfl) (d_acons (d_var 4) (d_acons (d_var 2) d_anil))) d_rnil)))
    (s_cons (s_if ((d_andC (d_cmpT (o_eq hr) (d_fn (ok__law_pick Z) hr (by decide) (takes_of rfl rfl rfl rfl) (d_acons (d_var 0) (d_acons (d_bin o_add (d_var 1) (d_int)) (d_acons (d_int) d_anil)))) (d_int)) (d_andC (d_cmpT o_gt (d_callB (c_sum rfl) (Z_free_sum Z) b_sum (d_rcons (d_var 5) d_rnil)) (d_int)) (d_and1 (d_cmpT o_gt (d_callB c_len (Z_free_len Z) b_len (d_rcons (d_var 5) d_rnil)) (d_int))))).pt) (s_cons (s_set 8 sc__law_other.nd (d_index hr (d_var 5) (d_callB (c_max1 rfl hr) (Z_free_max Z) b_max (d_rcons (d_var 5) d_rnil))))
    (s_cons (s_sub 5 (d_var 8) (d_bin o_sub (d_ix (d_var 5) (d_var 8)) (d_int)))
    (s_cons (s_set 9 sc__law_other.nd (d_bin o_mod (d_bin o_add (d_var 8) (d_int)) (d_callB c_len (Z_free_len Z) b_len (d_rcons (d_var 5) d_rnil))))
    (s_one (s_sub 5 (d_var 9) (d_bin o_add (d_ix (d_var 5) (d_var 9)) (d_int))))))) (s_nil))
    (s_one (s_ret (d_tup (d_acons (d_var 4) (d_acons (d_callTy c_tuple (Z_free_tuple Z) b_tuple (d_rcons (d_var 5) d_rnil)) d_anil)))))))))
theorem sc__law_meet : FnScope ["one", "other", "value", "rows", "low", "high", "part"] ["one", "other", "value"] (defScope Hd.s__law_meet) := ⟨rfl, rfl, rfl, by decide +kernel, rfl, by decide +kernel, by decide +kernel⟩
theorem ok__law_meet (Z : Facts mg) : FOk KK.K P w mg base 2 "_law_meet" 3 F__law_meet := by
  obtain ⟨fd, F⟩ := Z.2.def_ 36 (d := Hd.d__law_meet) rfl
  exact fok (k := 1) (Z_glo__law_meet Z) F sc__law_meet rfl (fun _ _ _ _ _ _ us hl => match us, hl with | [_, _, _], _ => rfl) fun cdv A outer s H E hr =>
    s_cons (s_set 3 sc__law_meet.nd (d_lst d_anil))
    (s_cons (s_for (passes_of rfl) rfl (w_seq (d_tup (d_acons (d_fn (ok__law_ends Z) hr (by decide) (takes_of rfl rfl rfl rfl) (d_acons (d_var 0) d_anil)) (d_acons (d_fn (ok__law_ends Z) hr (by decide) (takes_of rfl rfl rfl rfl) (d_acons (d_var 1) d_anil)) d_anil)))) (g_tp rfl (g_cons (g_nm 4 sc__law_meet.nd) (g_cons (g_nm 5 sc__law_meet.nd) g_nil))) (s_one (s_app 3 (d_tup (d_acons (d_callB c_len (Z_free_len Z) b_len (d_rcons (d_lc (own := [("part", 6)]) rfl sc__law_meet.nd (blkOk_by (by kernel_rfl)) (w_seq (d_var 5)) (fun _ _ _ _ _ => g_nm 6 sc__law_meet.nd) (fun _ _ _ _ _ => d_tsOne (d_cmpT o_lt (d_var 6) (d_var 2))) (fun _ _ _ _ _ => d_var 6)) d_rnil)) (d_acons (d_callB c_len (Z_free_len Z) b_len (d_rcons (d_lc (own := [("part", 6)]) rfl sc__law_meet.nd (blkOk_by (by kernel_rfl)) (w_seq (d_var 4)) (fun _ _ _ _ _ => g_nm 6 sc__law_meet.nd) (fun _ _ _ _ _ => d_tsOne (d_cmpT o_lt (d_var 6) (d_var 2))) (fun _ _ _ _ _ => d_var 6)) d_rnil)) d_anil))))))
    (s_one (s_ret (d_cmp o_le (d_callB (c_max2 rfl) (Z_free_max Z) b_max (d_rcons (d_ix (d_ix (d_var 3) (d_int)) (d_int)) (d_rcons (d_ix (d_ix (d_var 3) (d_int)) (d_int)) d_rnil))) (d_callB (c_min2 rfl) (Z_free_min Z) b_min (d_rcons (d_ix (d_ix (d_var 3) (d_int)) (d_int)) (d_rcons (d_ix (d_ix (d_var 3) (d_int)) (d_int)) d_rnil)))))))
theorem sc_law : FnScope ["script", "i", "one", "every", "data", "other", "common", "found", "some", "odd", "clash", "least", "rank", "values", "value"] ["script"] (defScope Hd.s_law) := ⟨rfl, rfl, rfl, by decide +kernel, rfl, by decide +kernel, by decide +kernel⟩
theorem ok_law_fn {fd : FuncData} (Z : Facts mg) (B : TbOk Hd.tf mg base) (F : FunD KK.K Hd.d_law.name Hd.d_law.qual Hd.d_law.params Hd.d_law.body Hd.d_law.scope (Hd.d_law.dvs KK.K) (Hd.d_law.kws KK.K) (He.fAd KK.K Hd.d_law.at_) fd) : FnOk P w KK.K mg base (L2.CX P w) 10 (He.ga KK.K "law") fd ["script"] (spF KK.K 1 F_law) :=
  fn_okP (p := ("law", none)) (k := 9) F sc_law fun A outer s H E hr =>
    s_cons (s_for (passes_of rfl) rfl (w_rg1 (d_int) (Z_free_range Z)) (g_nm 1 sc_law.nd) (s_cons (s_set 2 sc_law.nd (d_fn (ok__law_small Z) hr (by decide) (takes_of rfl rfl rfl rfl) (d_acons (d_var 0) (d_acons (d_bin o_mul (d_int) (d_var 1)) d_anil))))
    (s_cons (s_set 3 sc_law.nd (d_fn (ok__law_every Z) hr (by decide) (takes_of rfl rfl rfl rfl) (d_acons (d_var 2) d_anil)))
    (s_cons (s_set 4 sc_law.nd (d_ix (d_var 3) (d_fn (ok__law_pick Z) hr (by decide) (takes_of rfl rfl rfl rfl) (d_acons (d_var 0) (d_acons (d_bin o_add (d_int) (d_var 1)) (d_acons (d_callB c_len (Z_free_len Z) b_len (d_rcons (d_var 3) d_rnil)) d_anil))))))
    (s_cons (s_set 5 sc_law.nd (d_fn (ok__law_other Z) hr (by decide) (takes_of rfl rfl rfl rfl) (d_acons (d_var 0) (d_acons (d_bin o_add (d_int) (d_bin o_mul (d_int) (d_var 1))) (d_acons (d_var 4) (d_acons (d_ix (d_var 2) (d_int)) d_anil))))))
    (s_cons (s_lcV 6 (own := [("some", 8)]) rfl sc_law.nd (blkOk_by (by kernel_rfl)) (w_seq (d_var 3)) (fun _ _ _ _ _ => g_nm 8 sc_law.nd) (fun _ _ _ _ _ => d_tsOne (d_val (d_fn (ok__law_fits Z) hr (by decide) takes0 (d_acons (d_var 8) (d_acons (d_var 5) d_anil))))) (fun _ _ _ _ _ => d_var 8) (sw_true rfl rfl rfl rfl))
    (s_cons (s_if ((d_orC (d_cmpT (o_ne hr) (d_fn (ok_can_be_same Z) hr (by decide) (takes_of rfl rfl rfl rfl) (d_acons (d_var 2) (d_acons (d_var 5) d_anil))) (d_cmp (o_ne hr) (d_var 6) (d_lst d_anil))) (d_or1 (d_cmpT (o_ne hr) (d_fn (ok_can_be_same Z) hr (by decide) (takes_of rfl rfl rfl rfl) (d_acons (d_var 5) (d_acons (d_var 2) d_anil))) (d_cmp (o_ne hr) (d_var 6) (d_lst d_anil))))).pt) (s_one (s_ret (d_bl))) (s_nil))
    (s_cons (s_set 7 sc_law.nd (d_fz (d_fn (ok_common_data Z) hr (by decide) (takes_of rfl rfl rfl rfl) (d_acons (d_var 2) (d_acons (d_var 5) d_anil)))))
    (s_cons (s_if (d_cmpT (o_eq hr) (d_var 6) (d_lst d_anil)) (s_cons (s_set 10 sc_law.nd (d_fn (ok_conflict Z) hr (by decide) (takes_of rfl rfl rfl rfl) (d_acons (d_var 2) (d_acons (d_var 5) d_anil))))
    (s_cons (s_lcV 11 (own := [("value", 14)]) rfl sc_law.nd (blkOk_by (by kernel_rfl)) (w_rg1 (d_int) (Z_free_range Z)) (fun _ _ _ _ _ => g_nm 14 sc_law.nd) (fun _ _ _ _ _ => d_tsOne (d_notT (d_val (d_fn (ok__law_meet Z) hr (by decide) takes0 (d_acons (d_var 2) (d_acons (d_var 5) (d_acons (d_var 14) d_anil))))))) (fun _ _ _ _ _ => d_var 14) (sw_true rfl rfl rfl rfl))
    (s_cons (s_if ((d_orC (d_cmpT o_isNot (d_var 7) (d_non)) (d_orC (d_cmpT (o_eq hr) (d_var 11) (d_lst d_anil)) (d_or1 (d_cmpT (o_ne hr) (d_var 10) (d_ix (d_var 11) (d_int)))))).pt) (s_one (s_ret (d_bl))) (s_nil))
    (s_one (s_if (d_notT (d_val (d_lamA (k := 6) [2, 5] ("law", none) (ok__law_all Z) hr (by decide) B (List.mem_of_getElem? (i := 0) rfl) rfl rfl (fun _ => rfl) (LamX.lamS_by (by kernel_rfl)) rfl (fun _ _ _ => rfl) (by simp [Py.lcs])
      (fun A outer s H E f c hr => d_fn (ok_common_rank_bounds Z) hr (by decide) (takes_of rfl rfl rfl rfl) (d_acons (d_var 2) (d_acons (d_var 5) (d_acons (d_int) d_anil))))))) (s_one (s_ret (d_bl))) (s_nil)))))) (s_cons (s_if ((d_orC (d_notT (d_val (d_fn (ok__law_fits Z) hr (by decide) (takes_of rfl rfl rfl rfl) (d_acons (d_var 7) (d_acons (d_var 2) d_anil))))) (d_orC (d_notT (d_val (d_fn (ok__law_fits Z) hr (by decide) (takes_of rfl rfl rfl rfl) (d_acons (d_var 7) (d_acons (d_var 5) d_anil))))) (d_or1 (d_cmpT o_isNot (d_fn (ok_conflict Z) hr (by decide) (takes_of rfl rfl rfl rfl) (d_acons (d_var 2) (d_acons (d_var 5) d_anil))) (d_non))))).pt) (s_one (s_ret (d_bl))) (s_nil))
    (s_one (s_for (passes_of rfl) rfl (w_rg2 (d_int) (d_bin o_add (d_callB c_len (Z_free_len Z) b_len (d_rcons (d_var 4) d_rnil)) (d_int)) (Z_free_range Z)) (g_nm 12 sc_law.nd) (s_cons (s_lcV 13 (own := [("some", 8)]) rfl sc_law.nd (blkOk_by (by kernel_rfl)) (w_seq (d_var 6)) (fun _ _ _ _ _ => g_nm 8 sc_law.nd) (fun _ _ _ _ _ => d_tsNil) (fun _ _ _ _ _ => d_ix (d_var 8) (d_bin o_sub (d_var 12) (d_int))) (sw_true rfl rfl rfl rfl))
    (s_one (s_if (d_cmpT (o_ne hr) (d_fn (ok_common_rank_bounds Z) hr (by decide) (takes_of rfl rfl rfl rfl) (d_acons (d_var 2) (d_acons (d_var 5) (d_acons (d_var 12) d_anil)))) (d_tup (d_acons (d_callB (c_min1 rfl hr) (Z_free_min Z) b_min (d_rcons (d_var 13) d_rnil)) (d_acons (d_callB (c_max1 rfl hr) (Z_free_max Z) b_max (d_rcons (d_var 13) d_rnil)) d_anil)))) (s_one (s_ret (d_bl))) (s_nil))))))))
    (s_cons (s_for (passes_of rfl) rfl (w_seq (d_bin o_add (d_slice (d_var 3) (d_pno) (d_pso (d_int))) (d_lst (d_acons (d_var 4) (d_acons (d_slice (d_var 4) (d_pso (d_int)) (d_pno)) (d_acons (d_bin o_add (d_var 4) (d_lst (d_acons (d_int) d_anil))) d_anil)))))) (g_nm 8 sc_law.nd) (s_one (s_if (d_cmpT (o_ne hr) (d_fn (ok_are_common_data Z) hr (by decide) (takes_of rfl rfl rfl rfl) (d_acons (d_var 2) (d_acons (d_var 5) (d_acons (d_var 8) d_anil)))) (d_and (d_fn (ok__law_fits Z) hr (by decide) (takes_of rfl rfl rfl rfl) (d_acons (d_var 8) (d_acons (d_var 2) d_anil))) (d_one (d_fn (ok__law_fits Z) hr (by decide) (takes_of rfl rfl rfl rfl) (d_acons (d_var 8) (d_acons (d_var 5) d_anil)))))) (s_one (s_ret (d_bl))) (s_nil))))
    (s_cons (s_set 9 sc_law.nd (d_fz (d_lst (d_acons (d_non) (d_acons (d_if (d_cmpT (o_ne hr) (d_var 4) (d_lst d_anil)) (d_callTy c_tuple (Z_free_tuple Z) b_tuple (d_rcons (d_var 4) d_rnil)) (d_int)) (d_acons (d_str) (d_acons (d_lst (d_acons (d_int) (d_acons (d_int) d_anil))) (d_acons (d_lst (d_acons (d_non) d_anil)) (d_acons (d_lst (d_acons (d_int) d_anil)) d_anil)))))))))
    (s_one (s_if (d_val (d_callB (c_any rfl) (Z_free_any Z) b_any (d_rcons (d_lc (own := [("value", 14)]) rfl sc_law.nd (blkOk_by (by kernel_rfl)) (w_seq (d_var 9)) (fun _ _ _ _ _ => g_nm 14 sc_law.nd) (fun _ _ _ _ _ => d_tsNil) (fun _ _ _ _ _ => d_cmp o_isNot (d_fn (ok_are_common_data Z) hr (by decide) takes0 (d_acons (d_var 2) (d_acons (d_var 5) (d_acons (d_var 14) d_anil)))) (d_bl))) d_rnil))) (s_one (s_ret (d_bl))) (s_nil))))))))))))))
    (s_one (s_ret (d_bl)))
end
end Py

set_option Elab.async false
set_option linter.all false
set_option maxRecDepth 100000
set_option autoImplicit false
set_option maxHeartbeats 4000000
namespace Py
open PySem L2
theorem sorted_ends {b : List Int} (h : b.Pairwise (· < ·)) {x : Int} (hx : x ∈ b) : nth b 0 ≤ x ∧ x ≤ nth b ((b.length : Int) - 1) := by
  obtain ⟨i, hi, rfl⟩ := List.getElem_of_mem hx
  have a := nth_mono h (Nat.zero_le i) hi
  have c := nth_mono h (show i ≤ b.length - 1 by omega) (by omega)
  rw [show ((b.length - 1 : Nat) : Int) = (b.length : Int) - 1 by omega] at c
  rw [← nth_elem hi]
  exact ⟨a, c⟩
theorem inside_below {x y : Int} (h : x ≤ y) : ∀ d : List Int, inside d (x, y) = below d y - below d x
  | [] => by simp [inside, below]
  | v :: d => by
    have ih := inside_below h d
    unfold inside below at *
    simp only [List.filter_cons]
    by_cases h1 : v < x
    · have h2 : v < y := by omega
      have h3 : ¬ x ≤ v := by omega
      simp [h1, h2, h3]
      simp at ih
      omega
    · by_cases h2 : v < y
      · have h3 : x ≤ v := by omega
        simp [h1, h2, h3]
        simp at ih
        omega
      · simp [h1, h2]
        simp at ih
        omega
theorem cnts_tel : ∀ {b : List Int}, b.Pairwise (· < ·) → 2 ≤ b.length → ∀ d, (cnts b d).sum = below d (nth b ((b.length : Int) - 1)) - below d (nth b 0)
  | [], _, h, _ => by simp at h
  | [x], _, h, _ => by simp at h
  | [x, y], p, _, d => by
    have := inside_below (Int.le_of_lt ((List.pairwise_cons.mp p).1 y (by simp))) d
    unfold cnts
    simp
    exact this
  | x :: y :: z :: b, p, _, d => by
    obtain ⟨p1, p2⟩ := List.pairwise_cons.mp p
    have ih := cnts_tel p2 (by simp) d
    have e := inside_below (Int.le_of_lt (p1 y (by simp))) d
    have e2 : cnts (x :: y :: z :: b) d = inside d (x, y) :: cnts (y :: z :: b) d := rfl
    have e3 : nth (x :: y :: z :: b) (((x :: y :: z :: b).length : Int) - 1) = nth (y :: z :: b) (((y :: z :: b).length : Int) - 1) := by
      have := nth_cons_succ x (y :: z :: b) (b.length + 1)
      simp only [List.length_cons]
      rw [show ((b.length + 1 + 1 + 1 : Nat) : Int) - 1 = ((b.length + 1 + 1 : Nat) : Int) by omega, this, show ((b.length + 1 + 1 : Nat) : Int) - 1 = ((b.length + 1 : Nat) : Int) by omega]
    have e4 : nth (x :: y :: z :: b) 0 = x := rfl
    have e5 : nth (y :: z :: b) 0 = y := rfl
    rw [e2, List.sum_cons, ih, e, e3, e4, e5]
    omega
theorem below_all2 {d : List Int} {v : Int} (h : below d v = d.length) : ∀ x ∈ d, x < v := by
  unfold below at h
  have e : d.filter (fun x => decide (x < v)) = d := (List.filter_sublist (l := d)).eq_of_length (by omega)
  intro x hx
  rw [← e] at hx
  simpa using (List.mem_filter.mp hx).2
theorem below_zero {d : List Int} {v : Int} (h : below d v = 0) : ∀ x ∈ d, v ≤ x := by
  unfold below at h
  have e : d.filter (fun x => decide (x < v)) = [] := List.eq_nil_of_length_eq_zero (by omega)
  intro x hx
  have := List.filter_eq_nil_iff.mp e x hx
  simp at this
  exact this
/-- data with a histogram lie between its bounds -/
theorem fit_btw {b c d : List Int} (h : VH b c) (so : d.Pairwise (· ≤ ·)) (h1 : cnts b d = c) (h2 : (d.length : Int) = c.sum) : Btw (low b c) d (high b c) := by
  have t := cnts_tel h.vb.inc h.vb.lo d
  have a := below_le d (nth b ((b.length : Int) - 1))
  have a' := below_le d (nth b 0)
  rw [h1, ← h2] at t
  have u1 := below_all2 (d := d) (v := nth b ((b.length : Int) - 1)) (by omega)
  have u2 := below_zero (d := d) (v := nth b 0) (by omega)
  obtain ⟨ls, bl, e⟩ := blocks_of h.vb.inc h.vb.lo so fun v hv => ⟨u2 v hv, u1 v hv⟩
  rw [h1] at bl
  have := h.btw bl
  rwa [← e] at this
theorem index_ok {l : List Int} {m : Int} (hm : m ∈ l) (hl : l.length ≤ 1000) : ∃ j : Nat, j < l.length ∧ nth l j = m ∧ gIndex (l.map PyData.int) (.val (.int m)) = .ok (.val (.int j)) := by
  have dp : PyData.depthAll (l.map PyData.int) = 0 := by
    have : ∀ l : List Int, PyData.depthAll (l.map PyData.int) = 0 := fun l => by
      induction l with
      | nil => rfl
      | cons a l ih => rw [List.map_cons, PyData.depthAll, ih]; rfl
    exact this l
  cases q : (l.map PyData.int).findIdx? (fun y => PyData.eqv y (.int m)) with
  | none =>
    rw [List.findIdx?_eq_none_iff] at q
    have := q (.int m) (List.mem_map.mpr ⟨m, hm, rfl⟩)
    simp at this
  | some j =>
    obtain ⟨hj, hp, _⟩ := List.findIdx?_eq_some_iff_getElem.mp q
    rw [List.length_map] at hj
    rw [List.getElem_map, eqv_int, decide_eq_true_eq] at hp
    refine ⟨j, hj, by rw [nth_elem hj]; exact hp, ?_⟩
    unfold gIndex
    rw [if_pos ⟨by rw [dp]; exact Nat.le_trans (Nat.min_le_left _ _) (by decide), by rw [List.length_map]; omega⟩]
    show (match (l.map PyData.int).findIdx? (fun y => PyData.eqv y (.int m)) with
      | some j => R.ok (Rv.val (.int (j : Nat)))
      | none => .bad) = _
    rw [q]
theorem has_max : ∀ {l : List Int}, l ≠ [] → ∃ m ∈ l, ∀ x ∈ l, x ≤ m
  | [], h => absurd rfl h
  | [a], _ => ⟨a, by simp, fun x hx => by simp at hx; omega⟩
  | a :: b :: l, _ => by
    obtain ⟨m, hm, q⟩ := has_max (l := b :: l) (by simp)
    by_cases h : a ≤ m
    · exact ⟨m, List.mem_cons_of_mem _ hm, fun x hx => by
        rcases List.mem_cons.mp hx with e | e
        · omega
        · exact q x e⟩
    · exact ⟨a, by simp, fun x hx => by
        rcases List.mem_cons.mp hx with e | e
        · omega
        · have := q x e; omega⟩
theorem sum_le_max {l : List Int} {m : Int} (h0 : ∀ x ∈ l, x ≤ m) (hm : m ≤ 0) : l.sum ≤ 0 := by
  induction l with
  | nil => simp
  | cons a l ih =>
    have := ih fun x hx => h0 x (List.mem_cons_of_mem _ hx)
    have := h0 a (by simp)
    rw [List.sum_cons]
    omega
theorem set_map (l : List Int) (k : Nat) (v : Int) : (l.map PyData.int).set k (.int v) = (l.set k v).map PyData.int := by rw [List.map_set]
abbrev tOt : En → R Bool := tAnd (t2 cEq (eCall F__law_pick [eVar 0, e2 gAdd (eVar 1) (eK (.int 5)), eK (.int 3)]) (eK (.int 0))) (tAnd (t2 cGt (eB gSum [eVar 5]) (eK (.int 0))) (t2 cGt (eB gLen [eVar 5]) (eK (.int 1))))
abbrev bOt : En → R Out := sSeq (sSet 8 (eM gIndex (eVar 5) (eB gMax1 [eVar 5]))) (sSeq (sSub 5 (eVar 8) (e2 gSub (e2 gIx (eVar 5) (eVar 8)) (eK (.int 1)))) (sSeq (sSet 9 (e2 gMod (e2 gAdd (eVar 8) (eK (.int 1))) (eB gLen [eVar 5]))) (sSub 5 (eVar 9) (e2 gAdd (e2 gIx (eVar 5) (eVar 9)) (eK (.int 1))))))
theorem sum_bor (j : Nat) (l : List Int) : gSum [.bor j (l.map PyData.int)] = .ok (.val (.int l.sum)) := by simp [gSum, Rv.dat]
theorem max_bor {j : Nat} {l : List Int} {m : Int} (hm : m ∈ l) (h : ∀ x ∈ l, x ≤ m) : gMax1 [.bor j (l.map PyData.int)] = .ok (.val (.int m)) := max_is hm h
theorem other_eq (ns : List Int) (hn : ns.length ≤ 63) {place : Int} (p0 : 0 ≤ place) (p1 : place ≤ 2000) {b c d : List Int} (hS : Sm b c) (so : d.Pairwise (· ≤ ·)) (t : Btw (low b c) d (high b c)) : ∃ b' c', F__law_other [Li ns, .int place, Li d, Tu b] = .ok (.val (Hi b' c')) ∧ VH b' c' ∧ c'.sum = c.sum := by
  have h := hS.vh
  have hl := btw_len h t
  have few := hS.few
  have lo := h.vb.lo
  have hi := h.vb.hi
  have m2 := nth_mem (l := b) (i := 0) (by omega)
  have m3 := nth_mem (l := b) (i := b.length - 1) (by omega)
  rw [show ((b.length - 1 : Nat) : Int) = (b.length : Int) - 1 by omega] at m3
  have e00 : ((0 : Nat) : Int) = 0 := rfl
  rw [e00] at m2
  have g2 := h.vb.rg _ m2
  have g3 := h.vb.rg _ m3
  have g4 := hS.top _ m3
  have hlt : nth b 0 < nth b ((b.length : Int) - 1) := by
    have := List.pairwise_iff_getElem.mp h.vb.inc 0 (b.length - 1) (by omega) (by omega) (by omega)
    rw [← nth_elem, ← nth_elem, show ((b.length - 1 : Nat) : Int) = (b.length : Int) - 1 by omega] at this
    exact this
  have drg : ∀ v ∈ d, 0 ≤ v ∧ v ≤ 14 := fun v hv => by
    obtain ⟨ls, e, bl⟩ := h.bl t
    rw [e] at hv
    obtain ⟨p, hp, q1, q2⟩ := bl.bucket v hv
    have a := h.vb.rg _ (List.of_mem_zip hp).1
    have c := hS.top _ (List.mem_of_mem_tail (List.of_mem_zip hp).2)
    omega
  have pk : ∀ k : Nat, k < 3 → F__law_pick [Li ns, .int (place + k), .int 15] = .ok (.val (.int (pick ns (place + k) 15))) ∧ 0 ≤ pick ns (place + k) 15 ∧ pick ns (place + k) 15 < 15 := fun k h2 =>
    ⟨pick_eq ns (place + k) 15 (by omega) (by omega) (by omega) (by omega), pick_rg ns (place + k) 15 (by omega) (by omega) (by omega) (by omega)⟩
  have q5 := pick_eq ns (place + 5) 3 (by omega) (by omega) (by omega) (by omega)
  generalize pick ns (place + 5) 3 = r5 at q5
  have lc : lcR (.nm 10) tYes (e2 gAdd (eK (.int 1)) (eCall F__law_pick [eVar 0, e2 gAdd (eVar 1) (eVar 10), eK (.int 15)])) [some (.val (Li ns)), some (.val (.int place)), some (.val (Li d)), some (.val (Tu b)), none, none, none, none, none, none, none] (rangeD 0 3) = .ok ((List.range 3).map fun k : Nat => PyData.int (1 + pick ns (place + k) 15)) := by
    rw [rangeD0]
    refine lc_map _ _ _ fun k hk => ⟨_, rfl, .val (.int (1 + pick ns (place + k) 15)), ?_, rfl⟩
    rw [List.mem_range] at hk
    simp [x_var, (pk k hk).1]
  have e3 : (List.range 3).map (fun k : Nat => PyData.int (1 + pick ns (place + k) 15)) = [.int (1 + pick ns (place + (0 : Nat)) 15), .int (1 + pick ns (place + (1 : Nat)) 15), .int (1 + pick ns (place + (2 : Nat)) 15)] := rfl
  rw [e3] at lc
  obtain ⟨_, u0, v0⟩ := pk 0 (by omega)
  obtain ⟨_, u1, v1⟩ := pk 1 (by omega)
  obtain ⟨_, u2, v2⟩ := pk 2 (by omega)
  clear pk e3
  generalize pick ns (place + (0 : Nat)) 15 = r0 at lc u0 v0
  generalize pick ns (place + (1 : Nat)) 15 = r1 at lc u1 v1
  generalize pick ns (place + (2 : Nat)) 15 = r2 at lc u2 v2
  obtain ⟨a, ha⟩ : ∃ a, a = sortU [nth b 0, nth b ((b.length : Int) - 1), 1 + r0, 1 + r1, 1 + r2] := ⟨_, rfl⟩
  have al := sortU_len [nth b 0, nth b ((b.length : Int) - 1), 1 + r0, 1 + r1, 1 + r2]
  rw [← ha] at al
  have al : a.length ≤ 5 := al
  have amem : ∀ x, x ∈ a ↔ x = nth b 0 ∨ x = nth b ((b.length : Int) - 1) ∨ x = 1 + r0 ∨ x = 1 + r1 ∨ x = 1 + r2 := fun x => by rw [ha, mem_sortU]; simp
  have ainc : a.Pairwise (· < ·) := by rw [ha]; exact sortU_lt _
  have arg : ∀ x ∈ a, 0 ≤ x ∧ x ≤ 15 := fun x hx => by
    rcases (amem x).mp hx with e | e | e | e | e <;> omega
  have alo := len_two ((amem _).mpr (.inl rfl)) ((amem _).mpr (.inr (.inl rfl))) (by omega)
  have am0 := nth_mem (l := a) (i := 0) (by omega)
  have am1 := nth_mem (l := a) (i := a.length - 1) (by omega)
  rw [show ((a.length - 1 : Nat) : Int) = (a.length : Int) - 1 by omega] at am1
  rw [e00] at am0
  have ar0 := arg _ am0
  have ar1 := arg _ am1
  obtain ⟨f, l, hfl, fr, lr, dfl⟩ : ∃ f l : Int, (eIf (t2 cEq (eVar 2) (eLst [])) (eTup [e2 gIx (eVar 4) (eK (.int 0)), e2 gIx (eVar 4) (eNeg (eK (.int 1)))]) (eTup [eB gMin2 [e2 gIx (eVar 4) (eK (.int 0)), e2 gIx (eVar 2) (eK (.int 0))], eB gMax2 [e2 gIx (eVar 4) (eNeg (eK (.int 1))), e2 gAdd (e2 gIx (eVar 2) (eNeg (eK (.int 1)))) (eK (.int 1))]])) [some (.val (Li ns)), some (.val (.int place)), some (.val (Li d)), some (.val (Tu b)), some (.val (Li a)), none, none, none, none, none, none] = .ok (.val (.tuple [.int f, .int l])) ∧ (0 ≤ f ∧ f ≤ 15) ∧ (0 ≤ l ∧ l ≤ 15) ∧ ∀ v ∈ d, f ≤ v ∧ v < l := by
    have z1 := x_ixL a 0 (by omega) (by omega)
    have z2 := x_ixLastL (l := a) (List.length_pos_iff.mp (by omega))
    by_cases hd : d = []
    · refine ⟨nth a 0, nth a ((a.length : Int) - 1), by simp [x_var, x_eq, hd, z1, z2], ar0, ar1, fun v hv => by rw [hd] at hv; simp at hv⟩
    · have dl : 0 < d.length := List.length_pos_iff.mpr hd
      have z3 := x_ixL d 0 (by omega) (by omega)
      have z4 := x_ixLastL (l := d) hd
      have dm0 := drg _ (nth_mem (l := d) (i := 0) dl)
      have dm1 := nth_mem (l := d) (i := d.length - 1) (by omega)
      rw [show ((d.length - 1 : Nat) : Int) = (d.length : Int) - 1 by omega] at dm1
      have dm1 := drg _ dm1
      rw [e00] at dm0
      refine ⟨min (nth a 0) (nth d 0), max (nth a ((a.length : Int) - 1)) (nth d ((d.length : Int) - 1) + 1), by simp [x_var, x_eq, hd, z1, z2, z3, z4], by omega, by omega, fun v hv => ?_⟩
      obtain ⟨i, hi, rfl⟩ := List.getElem_of_mem hv
      have s1 := sorted_nth so (Nat.zero_le i) hi
      have s2 := sorted_nth so (show i ≤ d.length - 1 by omega) (by omega)
      rw [show ((d.length - 1 : Nat) : Int) = (d.length : Int) - 1 by omega] at s2
      rw [← nth_elem hi]
      rw [e00] at s1
      omega
  obtain ⟨b', hb'⟩ : ∃ b', b' = sortU (a ++ [f, l]) := ⟨_, rfl⟩
  have bl := sortU_len (a ++ [f, l])
  rw [← hb', List.length_append] at bl
  have bl : b'.length ≤ a.length + 2 := bl
  have bmem : ∀ x, x ∈ b' ↔ x ∈ a ∨ x = f ∨ x = l := fun x => by rw [hb', mem_sortU]; simp
  have binc : b'.Pairwise (· < ·) := by rw [hb']; exact sortU_lt _
  have brg : ∀ x ∈ b', 0 ≤ x ∧ x ≤ 15 := fun x hx => by
    rcases (bmem x).mp hx with e | e | e
    · exact arg x e
    · omega
    · omega
  have blo : 2 ≤ b'.length := len_two ((bmem _).mpr (.inl ((amem _).mpr (.inl rfl)))) ((bmem _).mpr (.inl ((amem _).mpr (.inr (.inl rfl))))) (show nth b 0 ≠ nth b ((b.length : Int) - 1) by omega)
  have vb' : VB b' := ⟨blo, by omega, fun x hx => by have := brg x hx; omega, binc⟩
  have ec : F__law_counts [Tu b', Li d] = .ok (.val (Tu (cnts b' d))) := counts_eq (by omega) (by omega)
  have el : (cnts b' d).length + 1 = b'.length := by
    unfold cnts
    rw [List.length_map, List.length_zip, List.length_tail]
    omega
  have esum : (cnts b' d).sum = d.length := by
    rw [cnts_tel binc blo]
    have s1 := sorted_ends binc ((bmem f).mpr (.inr (.inl rfl)))
    have s2 := sorted_ends binc ((bmem l).mpr (.inr (.inr rfl)))
    have c1 : below d (nth b' ((b'.length : Int) - 1)) = d.length := by
      unfold below
      rw [List.filter_eq_self.mpr fun v hv => by have := dfl v hv; simp; omega]
    have c2 : below d (nth b' 0) = 0 := below_none fun v hv => by have := dfl v hv; omega
    omega
  have erg : ∀ x ∈ cnts b' d, 0 ≤ x ∧ x ≤ d.length := fun x hx => by
    obtain ⟨p, hp, rfl⟩ := List.mem_map.mp hx
    rw [inside_cnt]
    have := List.countP_le_length (p := fun v => decide (p.1 ≤ v) && decide (v < p.2)) (l := d)
    omega
  generalize cnts b' d = k at ec el esum erg
  -- the steps
  have st1 : sSet 4 (eF (e1 gSS (e2 gAdd (eLst [e2 gIx (eVar 3) (eK (.int 0)), e2 gIx (eVar 3) (eNeg (eK (.int 1)))]) (eLc (iRg1 (eK (.int 3))) (.nm 10) (tYes) (e2 gAdd (eK (.int 1)) (eCall F__law_pick [eVar 0, e2 gAdd (eVar 1) (eVar 10), eK (.int 15)])) [10])))) [some (.val (Li ns)), some (.val (.int place)), some (.val (Li d)), some (.val (Tu b)), none, none, none, none, none, none, none] = .ok (.nx [some (.val (Li ns)), some (.val (.int place)), some (.val (Li d)), some (.val (Tu b)), some (.val (Li a)), none, none, none, none, none, none]) := by
    have r3 : okR 3 := okR_of (by decide) (by decide)
    have z3 := x_ixT b 0 (by omega) (by omega)
    have z4 := x_ixLast (l := b) (List.length_pos_iff.mp (by omega))
    have eg : gSS (.val (.list [.int (nth b 0), .int (nth b ((b.length : Int) - 1)), .int (1 + r0), .int (1 + r1), .int (1 + r2)])) = .ok (.own (a.map PyData.int)) := by
      rw [show ([.int (nth b 0), .int (nth b ((b.length : Int) - 1)), .int (1 + r0), .int (1 + r1), .int (1 + r2)] : List PyData) = [nth b 0, nth b ((b.length : Int) - 1), 1 + r0, 1 + r1, 1 + r2].map PyData.int from rfl]
      simp only [gSS, intsOf, x_datV, ints_map, r_ok]
      rw [if_pos ⟨by simp, by rw [ha] at al; omega⟩, ha]
    have rl : (rangeD 0 3).length ≤ 1000000 := by rw [rg_len]; decide
    simp [x_var, z3, z4, r3, rl, wipeE, lc, eg]
  have st3 : sSet 4 (eB gTuple [e1 gSS (e2 gAdd (eVar 4) (eLst [eVar 6, eVar 7]))]) [some (.val (Li ns)), some (.val (.int place)), some (.val (Li d)), some (.val (Tu b)), some (.val (Li a)), none, some (.val (.int f)), some (.val (.int l)), none, none, none] = .ok (.nx [some (.val (Li ns)), some (.val (.int place)), some (.val (Li d)), some (.val (Tu b)), some (.val (Tu b')), none, some (.val (.int f)), some (.val (.int l)), none, none, none]) := by
    have eg : gSS (.val (.list (a.map PyData.int ++ [.int f, .int l]))) = .ok (.own (b'.map PyData.int)) := by
      rw [show a.map PyData.int ++ [.int f, .int l] = (a ++ [f, l]).map PyData.int by simp]
      simp only [gSS, intsOf, x_datV, ints_map, r_ok]
      rw [if_pos ⟨by rw [List.length_append]; show a.length + 2 ≤ _; omega, by rw [← hb']; omega⟩, hb']
    have zz : a.length + 2 ≤ 1000000 := by omega
    simp [x_var, zz, eg]
  have fin : ∀ (c' : List Int) (x8 x9 : Option Cl), c'.length + 1 = b'.length → c'.sum = d.length → (∀ x ∈ c', 0 ≤ x ∧ x ≤ 60) → sRet (eTup [eVar 4, eB gTuple [eVar 5]]) [some (.val (Li ns)), some (.val (.int place)), some (.val (Li d)), some (.val (Tu b)), some (.val (Tu b')), some (.own (c'.map PyData.int)), some (.val (.int f)), some (.val (.int l)), x8, x9, none] = .ok (.rt (.val (Hi b' c'))) ∧ VH b' c' ∧ c'.sum = c.sum := fun c' x8 x9 h1 h2 h3 =>
    ⟨by simp [x_var, clE], ⟨vb', h1, h3, by omega⟩, by omega⟩
  have pre : ∀ {o : R Out}, sSeq (sIf tOt bOt sNil) (sRet (eTup [eVar 4, eB gTuple [eVar 5]])) [some (.val (Li ns)), some (.val (.int place)), some (.val (Li d)), some (.val (Tu b)), some (.val (Tu b')), some (.own (k.map PyData.int)), some (.val (.int f)), some (.val (.int l)), none, none, none] = o → m__law_other (st0 11 [Li ns, .int place, Li d, Tu b]) = o := fun {o} ho => by
    refine seq_nx st1 (seq_nx (ρ1 := [some (.val (Li ns)), some (.val (.int place)), some (.val (Li d)), some (.val (Tu b)), some (.val (Li a)), none, some (.val (.int f)), some (.val (.int l)), none, none, none]) ?_ (seq_nx st3 (seq_nx (ρ1 := [some (.val (Li ns)), some (.val (.int place)), some (.val (Li d)), some (.val (Tu b)), some (.val (Tu b')), some (.own (k.map PyData.int)), some (.val (.int f)), some (.val (.int l)), none, none, none]) (by simp [x_var, ec]) ho)))
    rw [x_unp, hfl]
    simp
  by_cases hq : r5 = 0 ∧ 0 < k.sum ∧ 1 < (k.length : Int)
  · obtain ⟨hr, hs, hk⟩ := hq
    obtain ⟨m, hm, hx⟩ := has_max (l := k) (by rintro rfl; simp at hs)
    have mpos : 1 ≤ m := by
      rcases Int.lt_or_le 0 m with z | z
      · omega
      · have := sum_le_max hx z
        omega
    obtain ⟨j, hj, ej, ei⟩ := index_ok hm (by omega)
    have gm := max_bor (j := 5) hm hx
    have kl : (k.length : Int) ≠ 0 := by omega
    obtain ⟨j2, hj2, ej2⟩ : ∃ j2 : Nat, j2 < k.length ∧ ((j : Int) + 1) % (k.length : Int) = j2 := by
      have a1 := Int.emod_nonneg ((j : Int) + 1) kl
      have a2 := Int.emod_lt_of_pos ((j : Int) + 1) (b := (k.length : Int)) (by omega)
      exact ⟨(((j : Int) + 1) % (k.length : Int)).toNat, by omega, by omega⟩
    have s1 := sum_set k j (m - 1) hj
    obtain ⟨k2, hk2⟩ : ∃ k2, k2 = k.set j (m - 1) := ⟨_, rfl⟩
    have l1 : k2.length = k.length := by rw [hk2]; exact List.length_set
    rw [← hk2] at s1
    obtain ⟨c', hc'⟩ : ∃ c', c' = k2.set j2 (nth k2 j2 + 1) := ⟨_, rfl⟩
    have n1 : ∀ x ∈ k2, 0 ≤ x ∧ x ≤ d.length := fun x hx => by
      rw [hk2] at hx
      rcases List.mem_or_eq_of_mem_set hx with e | e
      · exact erg x e
      · have := erg m hm; omega
    have n2 := n1 _ (nth_mem (l := k2) (i := j2) (by omega))
    have s2 := sum_set k2 j2 (nth k2 j2 + 1) (by omega)
    rw [← hc'] at s2
    have f1 := fin c' (some (.val (.int j))) (some (.val (.int j2))) (by rw [hc', List.length_set, l1]; exact el) (by omega) fun x hx => by
      rw [hc'] at hx
      rcases List.mem_or_eq_of_mem_set hx with e | e
      · have := n1 x e; omega
      · omega
    refine ⟨b', c', fn_rt (pre (seq_nx (if_yes ?_ ?_) f1.1)), f1.2⟩
    · have hk2 : ¬ (k.length : Int) ≤ 1 := by omega
      simp [x_var, x_eq, q5, hr, hs, hk, sum_bor]
    · refine seq_nx (ρ1 := [some (.val (Li ns)), some (.val (.int place)), some (.val (Li d)), some (.val (Tu b)), some (.val (Tu b')), some (.own (k.map PyData.int)), some (.val (.int f)), some (.val (.int l)), some (.val (.int j)), none, none]) (by simp [x_var, eM, Rv.lst, gm, ei]) ?_
      refine seq_nx (ρ1 := [some (.val (Li ns)), some (.val (.int place)), some (.val (Li d)), some (.val (Tu b)), some (.val (Tu b')), some (.own (k2.map PyData.int)), some (.val (.int f)), some (.val (.int l)), some (.val (.int j)), none, none]) ?_ ?_
      · have z := x_ixB 5 k j (by omega) (by omega)
        rw [ej] at z
        rw [x_subset _ 5 _ _ (k.map PyData.int) (.int (m - 1)) j rfl (by simp [x_var, z]) (by simp [x_var]) (by rw [List.length_map]; exact hj), set_map, ← hk2]
        rfl
      · refine seq_nx (ρ1 := [some (.val (Li ns)), some (.val (.int place)), some (.val (Li d)), some (.val (Tu b)), some (.val (Tu b')), some (.own (k2.map PyData.int)), some (.val (.int f)), some (.val (.int l)), some (.val (.int j)), some (.val (.int j2)), none]) ?_ ?_
        · have kp : 0 < k.length := by omega
          simp [x_var, l1, kp, ej2]
        · have z := x_ixB 5 k2 j2 (by omega) (by omega)
          rw [x_subset _ 5 _ _ (k2.map PyData.int) (.int (nth k2 j2 + 1)) j2 rfl (by simp [x_var, z]) (by simp [x_var]) (by rw [List.length_map, l1]; exact hj2), set_map, ← hc']
          rfl
  · refine ⟨b', k, fn_rt (pre (seq_nx (if_no ?_ rfl) (fin k none none el esum fun x hx => ?_).1)), (fin k none none el esum fun x hx => ?_).2⟩
    · by_cases hr : r5 = 0
      · by_cases hs : 0 < k.sum
        · have hk : ¬ 1 < (k.length : Int) := fun z => hq ⟨hr, hs, z⟩
          simp [x_var, x_eq, q5, hr, hs, hk, sum_bor]
        · simp [x_var, x_eq, q5, hr, hs, sum_bor]
      · simp [x_var, x_eq, q5, hr]
    · have := erg x hx; omega
    · have := erg x hx; omega
theorem meet_eq {b c b' c' : List Int} (h : VH b c) (h' : VH b' c') (v : Int) : F__law_meet [Hi b c, Hi b' c', .int v] = .ok (.val (.bool (!conf b c b' c' v))) := by
  have ef : ∀ (i : Nat) (ρ : En) (l : List Int), (∀ x : Int, eVar 2 (ρ.set 6 (some (.val (.int x)))) = .ok (.val (.int v))) → (∀ x : Int, eVar 6 (ρ.set 6 (some (.val (.int x)))) = .ok (.val (.int x))) → lcR (.nm 6) (t2 cLt (eVar 6) (eVar 2)) (eVar 6) ρ (l.map PyData.int) = .ok ((l.filter fun x => decide (x < v)).map PyData.int) := fun i ρ l h1 h2 =>
    filter_lc _ l (fun x => by simp [h1, h2]) (fun x => h2 x)
  have z : ∀ {b c : List Int}, VH b c → (low b c).length ≤ 1000000 ∧ (high b c).length ≤ 1000000 := fun {b c} h => by
    have l1 := (VD.low h).len
    have l2 := (VD.high h).len
    omega
  have st : ∀ (b2 c2 : List Int) (R : List PyData) (x4 x5 x6 : Option Cl), VH b2 c2 → R.length ≤ 10 → b__law_meet_0 [some (.val (Hi b c)), some (.val (Hi b' c')), some (.val (.int v)), some (.own R), some (.val (Li (low b2 c2))), some (.val (Li (high b2 c2))), x6] = .ok (.nx [some (.val (Hi b c)), some (.val (Hi b' c')), some (.val (.int v)), some (.own (R ++ [.tuple [.int (below (high b2 c2) v), .int (below (low b2 c2) v)]])), some (.val (Li (low b2 c2))), some (.val (Li (high b2 c2))), x6]) := fun b2 c2 R x4 x5 x6 h2 hR => by
    have z1 := z h2
    have zR : R.length ≤ 1000000 := by omega
    have e1 := ef 6 [some (.val (Hi b c)), some (.val (Hi b' c')), some (.val (.int v)), some (.own R), some (.val (Li (low b2 c2))), some (.val (Li (high b2 c2))), none] (high b2 c2) (fun x => by simp [x_var]) (fun x => by simp [x_var])
    have e2' := ef 6 [some (.val (Hi b c)), some (.val (Hi b' c')), some (.val (.int v)), some (.own R), some (.val (Li (low b2 c2))), some (.val (Li (high b2 c2))), none] (low b2 c2) (fun x => by simp [x_var]) (fun x => by simp [x_var])
    unfold b__law_meet_0
    rw [x_app]
    simp [ownAt, x_var, z1.1, z1.2, wipeE, e1, e2', zR, below]
  have q1 := h.lowBtw.blw v
  have q2 := h'.lowBtw.blw v
  refine fn_rt (seq_nx (ρ1 := [some (.val (Hi b c)), some (.val (Hi b' c')), some (.val (.int v)), some (.own []), none, none, none]) (by simp [st0]) (seq_nx (ρ1 := [some (.val (Hi b c)), some (.val (Hi b' c')), some (.val (.int v)), some (.own [.tuple [.int (below (high b c) v), .int (below (low b c) v)], .tuple [.int (below (high b' c') v), .int (below (low b' c') v)]]), some (.val (Li (low b' c'))), some (.val (Li (high b' c'))), none]) (for_nx (ds := [.tuple [Li (low b c), Li (high b c)], .tuple [Li (low b' c'), Li (high b' c')]]) (by simp [x_var, ends_eq h, ends_eq h']) ?_) ?_))
  · have s1 := st b c [] none none none h (by simp)
    have s2 := st b' c' [.tuple [.int (below (high b c) v), .int (below (low b c) v)]] none none none h' (by simp)
    have a1 : asg (.tp [.nm 4, .nm 5]) (.tuple [Li (low b c), Li (high b c)]) [some (.val (Hi b c)), some (.val (Hi b' c')), some (.val (.int v)), some (.own []), none, none, none] = .ok [some (.val (Hi b c)), some (.val (Hi b' c')), some (.val (.int v)), some (.own []), some (.val (Li (low b c))), some (.val (Li (high b c))), none] := by simp
    have a2 : asg (.tp [.nm 4, .nm 5]) (.tuple [Li (low b' c'), Li (high b' c')]) [some (.val (Hi b c)), some (.val (Hi b' c')), some (.val (.int v)), some (.own [.tuple [.int (below (high b c) v), .int (below (low b c) v)]]), some (.val (Li (low b c))), some (.val (Li (high b c))), none] = .ok [some (.val (Hi b c)), some (.val (Hi b' c')), some (.val (.int v)), some (.own [.tuple [.int (below (high b c) v), .int (below (low b c) v)]]), some (.val (Li (low b' c'))), some (.val (Li (high b' c'))), none] := by simp
    rw [forR, a1, r_ok, s1, r_ok]
    show forR _ _ [_] _ = _
    rw [forR, List.nil_append, a2, r_ok, s2, r_ok]
    rfl
  · have i0 : ∀ (a b : PyData), gIx (.bor 3 [a, b]) (.val (.int 0)) = .ok (.val a) := fun a b => by simp [gIx, Rv.dat, atI, ixN]
    have i1 : ∀ (a b : PyData), gIx (.bor 3 [a, b]) (.val (.int 1)) = .ok (.val b) := fun a b => by simp [gIx, Rv.dat, atI, ixN]
    have e : decide (max (below (high b c) v) (below (high b' c') v) ≤ min (below (low b c) v) (below (low b' c') v)) = !conf b c b' c' v := by
      unfold conf
      rw [Bool.eq_iff_iff]
      simp only [decide_eq_true_eq, Bool.not_eq_true', Bool.or_eq_false_iff, decide_eq_false_iff_not]
      omega
    rw [← e]
    simp [x_var, i0, i1, x_ix0, x_ix1, clE]
/-- the lesser of the greatest -/
def bothH (b c b' c' : List Int) : List Int := (List.range (low b c).length).map fun i : Nat => min (nth (high b c) i) (nth (high b' c') i)
theorem bothH_ok {b c b' c' d : List Int} (h : VH b c) (h' : VH b' c') (t : Btw (low b c) d (high b c)) (t' : Btw (low b' c') d (high b' c')) :
    (bothH b c b' c').Pairwise (· ≤ ·) ∧ Btw (low b c) (bothH b c b' c') (high b c) ∧ Btw (low b' c') (bothH b c b' c') (high b' c') ∧ ∀ i : Nat, i < (low b c).length → nth (bothH b c b' c') i = min (nth (high b c) i) (nth (high b' c') i) := by
  have es : c.sum = c'.sum := by rw [← btw_len h t, ← btw_len h' t']
  have l1 := low_len h
  have l2 := high_len h
  have l3 := low_len h'
  have l4 := high_len h'
  have bl : (bothH b c b' c').length = (low b c).length := by simp [bothH]
  have bn : ∀ i : Nat, i < (low b c).length → nth (bothH b c b' c') i = min (nth (high b c) i) (nth (high b' c') i) := fun i hi => by
    rw [nth_elem (by rw [bl]; exact hi)]
    simp [bothH]
  have hh : ∀ i : Nat, i < (low b c).length → nth (low b c) i ≤ nth (high b' c') i ∧ nth (low b' c') i ≤ nth (high b c) i := fun i hi => by
    have a := t.at i (by rw [← t.len.1]; exact hi)
    have a' := t'.at i (by rw [← t.len.1]; exact hi)
    omega
  refine ⟨?_, btw_nth bl (by omega) fun i hi => ?_, btw_nth (by omega) (by omega) fun i hi => ?_, bn⟩
  · rw [List.pairwise_iff_getElem]
    intro i j hi hj hij
    rw [← nth_elem hi, ← nth_elem hj, bn i (by omega), bn j (by omega)]
    have a1 := sorted_nth (high_sorted h) (Nat.le_of_lt hij) (by omega)
    have a2 := sorted_nth (high_sorted h') (Nat.le_of_lt hij) (by omega)
    omega
  · rw [bn i hi]
    have := h.lowBtw.at i hi
    have := hh i hi
    omega
  · rw [bn i (by omega)]
    have := h'.lowBtw.at i hi
    have := hh i (by omega)
    omega
/-- those with the second histogram, too -/
def com (b' c' : List Int) (E : List (List Int)) : List (List Int) := E.filter fun d => decide (cnts b' d = c') && decide ((d.length : Int) = c'.sum)
theorem com_mem {b c b' c' : List Int} {E : List (List Int)} (h' : VH b' c') (hE : All b c E) {d : List Int} : d ∈ com b' c' E ↔ d.Pairwise (· ≤ ·) ∧ Btw (low b c) d (high b c) ∧ Btw (low b' c') d (high b' c') := by
  unfold com
  rw [List.mem_filter, hE d, Bool.and_eq_true, decide_eq_true_eq, decide_eq_true_eq]
  constructor
  · rintro ⟨⟨h1, h2⟩, h3, h4⟩
    exact ⟨h1, h2, fit_btw h' h1 h3 h4⟩
  · rintro ⟨h1, h2, h3⟩
    exact ⟨⟨h1, h2⟩, btw_cnts h' h3, btw_len h' h3⟩
theorem com_compat {b c b' c' : List Int} {E : List (List Int)} (h : VH b c) (h' : VH b' c') (hE : All b c E) : compat b c b' c' = decide (com b' c' E ≠ []) := by
  rw [Bool.eq_iff_iff, decide_eq_true_eq]
  constructor
  · intro hc
    obtain ⟨_, h1, h2, h3⟩ := compat_both h h' hc
    exact List.ne_nil_of_mem ((com_mem h' hE).mpr ⟨h1, h2, h3⟩)
  · intro hn
    obtain ⟨d, hd⟩ := List.exists_mem_of_ne_nil _ hn
    obtain ⟨h1, h2, h3⟩ := (com_mem h' hE).mp hd
    exact compat_common h h' h2 h3
theorem compat_swap {b c b' c' : List Int} : compat b' c' b c = compat b c b' c' := by
  unfold compat
  have e1 : decide (c'.sum = c.sum) = decide (c.sum = c'.sum) := by rw [Bool.eq_iff_iff, decide_eq_true_eq, decide_eq_true_eq]; exact eq_comm
  have e2 : ∀ l : List Int, l.any (conf b' c' b c) = l.any (conf b c b' c') := fun l => by
    congr 1
    funext v
    unfold conf
    rw [Bool.or_comm]
  rw [e1, e2, List.any_append, List.any_append, Bool.or_comm]
theorem common_none {b c b' c' : List Int} (h : VH b c) (h' : VH b' c') (hc : compat b c b' c' = false) : F_common_data [Hi b c, Hi b' c'] = .ok (.val .none) ∧ ∀ r : PyData, F_common_rank_bounds [Hi b c, Hi b' c', r] = .err "NoCommonData" := by
  have k := compat_eq h h'
  rw [hc] at k
  have k2 : F_find_common [Hi b c, Hi b' c'] = .ok (.val .none) := by simp [F_find_common, fnR, m_find_common, st0, x_var, k]
  refine ⟨by simp [F_common_data, fnR, m_common_data, st0, x_var, two_eq h h', k2], fun r => by simp [F_common_rank_bounds, fnR, m_common_rank_bounds, st0, x_var, two_eq h h', k]⟩
theorem li_nil (C : List (List Int)) : PyData.eqv (.list (C.map Li)) (.list []) = decide (C = []) := by
  cases C with
  | nil => rfl
  | cons a C => simp [PyData.eqv, PyData.eqvAll]
section
variable {ns : List Int} {i : Int} {b c b' c' d : List Int} {E C : List (List Int)} {x7 x8 x9 x10 x11 x12 x13 x14 : Option Cl}
theorem rank_step (h : VH b c) (h' : VH b' c') (hC : ∀ d, d ∈ C ↔ d.Pairwise (· ≤ ·) ∧ Btw (low b c) d (high b c) ∧ Btw (low b' c') d (high b' c')) (hn : C ≠ []) (hl : C.length ≤ 1024) {r : Int} (r1 : 1 ≤ r) (r2 : r ≤ c.sum) : Nx b_law_0 [some (.val (Li ns)), some (.val (.int i)), some (.val (Hi b c)), some (.val (.list (E.map Li))), some (.val (Li d)), some (.val (Hi b' c')), some (.val (.list (C.map Li))), x7, x8, x9, x10, x11, some (.val (.int r)), x13, x14] (fun (ρ : En) => ∃ x7 x8 x9 x10 x11 x12 x13 x14 : Option Cl, ρ = [some (.val (Li ns)), some (.val (.int i)), some (.val (Hi b c)), some (.val (.list (E.map Li))), some (.val (Li d)), some (.val (Hi b' c')), some (.val (.list (C.map Li))), x7, x8, x9, x10, x11, x12, x13, x14]) := by
  obtain ⟨d0, hd0⟩ := List.exists_mem_of_ne_nil _ hn
  obtain ⟨o1, o2, o3⟩ := (hC d0).mp hd0
  have es : c.sum = c'.sum := by rw [← btw_len h o2, ← btw_len h' o3]
  have k := common_rank_eq h h' o2 o3 r1 r2
  obtain ⟨a1, a2, a3⟩ := both_common h h' o2 o3
  obtain ⟨c1, c2, c3, c4⟩ := bothH_ok h h' o2 o3
  have l1 := low_len h
  have cr : (((r - 1).toNat : Nat) : Int) = r - 1 := by omega
  have n1 := both_nth h h' (i := (r - 1).toNat) (by omega)
  have n2 := c4 (r - 1).toNat (by omega)
  rw [cr] at n1 n2
  have at_ : ∀ x ∈ C, max (nth (low b c) (r - 1)) (nth (low b' c') (r - 1)) ≤ nth x (r - 1) ∧ nth x (r - 1) ≤ min (nth (high b c) (r - 1)) (nth (high b' c') (r - 1)) := fun x hx => by
    obtain ⟨_, p2, p3⟩ := (hC x).mp hx
    have ln := btw_len h p2
    have q1 := p2.at (r - 1).toNat (by omega)
    have q2 := p3.at (r - 1).toNat (by omega)
    rw [cr] at q1 q2
    omega
  have gm := min_is (l := C.map fun x => nth x (r - 1)) (m := max (nth (low b c) (r - 1)) (nth (low b' c') (r - 1))) (List.mem_map.mpr ⟨_, (hC _).mpr ⟨a1, a2, a3⟩, n1⟩) fun y hy => by
    obtain ⟨x, hx, rfl⟩ := List.mem_map.mp hy
    exact (at_ x hx).1
  have gx := max_is (l := C.map fun x => nth x (r - 1)) (m := min (nth (high b c) (r - 1)) (nth (high b' c') (r - 1))) (List.mem_map.mpr ⟨_, (hC _).mpr ⟨c1, c2, c3⟩, n2⟩) fun y hy => by
    obtain ⟨x, hx, rfl⟩ := List.mem_map.mp hy
    exact (at_ x hx).2
  have el : lcR (.nm 8) tYes (e2 gIx (eVar 8) (e2 gSub (eVar 12) (eK (.int 1)))) [some (.val (Li ns)), some (.val (.int i)), some (.val (Hi b c)), some (.val (.list (E.map Li))), some (.val (Li d)), some (.val (Hi b' c')), some (.val (.list (C.map Li))), x7, none, x9, x10, x11, some (.val (.int r)), x13, x14] (C.map Li) = .ok (C.map fun x => PyData.int (nth x (r - 1))) :=
    lc_map _ _ C fun x hx => by
      have ln := btw_len h ((hC x).mp hx).2.1
      have z := x_ixL x (r - 1) (by omega) (by omega)
      exact ⟨_, rfl, .val (.int (nth x (r - 1))), by simp [x_var, z], rfl⟩
  have z : C.length ≤ 1000000 := by omega
  rw [List.map_map] at gm gx
  have gm : gMin1 [.val (.list (C.map fun x => PyData.int (nth x (r - 1))))] = _ := gm
  have gx : gMax1 [.val (.list (C.map fun x => PyData.int (nth x (r - 1))))] = _ := gx
  generalize (C.map fun x => PyData.int (nth x (r - 1))) = V at el gm gx
  refine Nx.step (ρ1 := [some (.val (Li ns)), some (.val (.int i)), some (.val (Hi b c)), some (.val (.list (E.map Li))), some (.val (Li d)), some (.val (Hi b' c')), some (.val (.list (C.map Li))), x7, x8, x9, x10, x11, some (.val (.int r)), some (.val (.list V)), x14]) (by simp [x_var, wipeE, z, el]) ?_
  exact ⟨_, if_no (by simp [x_var, x_ne, k, gm, gx]) rfl, ⟨_, _, _, _, _, _, _, _, rfl⟩⟩
theorem some_step (h : VH b c) (h' : VH b' c') {e : List Int} (he : VD e) : Nx b_law_1 [some (.val (Li ns)), some (.val (.int i)), some (.val (Hi b c)), some (.val (.list (E.map Li))), some (.val (Li d)), some (.val (Hi b' c')), some (.val (.list (C.map Li))), x7, some (.val (Li e)), x9, x10, x11, x12, x13, x14] (fun (ρ : En) => ∃ x7 x8 x9 x10 x11 x12 x13 x14 : Option Cl, ρ = [some (.val (Li ns)), some (.val (.int i)), some (.val (Hi b c)), some (.val (.list (E.map Li))), some (.val (Li d)), some (.val (Hi b' c')), some (.val (.list (C.map Li))), x7, x8, x9, x10, x11, x12, x13, x14]) := by
  have k := are_common_eq h h' he
  have hl := he.len
  have hb := h.vb.hi
  have hb' := h'.vb.hi
  have f1 := fits_dec (b := b) (c := c) (d := e) (by omega) (by omega) he.le
  have f2 := fits_dec (b := b') (c := c') (d := e) (by omega) (by omega) he.le
  rw [Bool.and_comm (decide ((e.length : Int) = c.sum)), Bool.and_comm (decide ((e.length : Int) = c'.sum))] at k
  generalize (decide (cnts b e = c) && decide ((e.length : Int) = c.sum)) = A at k f1
  generalize (decide (cnts b' e = c') && decide ((e.length : Int) = c'.sum)) = B at k f2
  refine ⟨_, if_no ?_ rfl, ⟨_, _, _, _, _, _, _, _, rfl⟩⟩
  cases A with
  | false => simp [x_var, x_ne, k, f1]
  | true => simp [x_var, x_ne, k, f1, f2]
theorem clash_part (h : VH b c) (h' : VH b' c') (es : c.sum = c'.sum) (hc : compat b c b' c' = false) : Nx (sSeq (sSet 10 (eCall F_conflict [eVar 2, eVar 5])) (sSeq (sSet 11 (eF (eLc (iRg1 (eK (.int 1001))) (.nm 14) (tNot (tE (eCall F__law_meet [eVar 2, eVar 5, eVar 14]))) (eVar 14) [14]))) (sSeq (sIf (tOr (t2 cIsNot (eVar 7) (eK .none)) (tOr (t2 cEq (eVar 11) (eLst [])) (t2 cNe (eVar 10) (e2 gIx (eVar 11) (eK (.int 0)))))) (sRet (eK (.bool false))) (sNil)) (sIf (tNot (tE (eAllL [2, 5] (eCall F_common_rank_bounds [eVar 2, eVar 5, eK (.int 1)]) "NoCommonData"))) (sRet (eK (.bool false))) (sNil))))) [some (.val (Li ns)), some (.val (.int i)), some (.val (Hi b c)), some (.val (.list (E.map Li))), some (.val (Li d)), some (.val (Hi b' c')), some (.val (.list (C.map Li))), some (.val .none), x8, x9, x10, x11, x12, x13, x14] (fun (ρ : En) => ∃ x7 x8 x9 x10 x11 x12 x13 x14 : Option Cl, ρ = [some (.val (Li ns)), some (.val (.int i)), some (.val (Hi b c)), some (.val (.list (E.map Li))), some (.val (Li d)), some (.val (Hi b' c')), some (.val (.list (C.map Li))), x7, x8, x9, x10, x11, x12, x13, x14]) := by
  have k1 := conflict_eq h h' es
  have k2 := compat_none h h' es
  rw [hc] at k2
  have r1 : okR 1001 := okR_of (by decide) (by decide)
  have el : ∀ x10 : Option Cl, lcR (.nm 14) (tNot (tE (eCall F__law_meet [eVar 2, eVar 5, eVar 14]))) (eVar 14) [some (.val (Li ns)), some (.val (.int i)), some (.val (Hi b c)), some (.val (.list (E.map Li))), some (.val (Li d)), some (.val (Hi b' c')), some (.val (.list (C.map Li))), some (.val .none), x8, x9, x10, x11, x12, x13, none] ((rng 0 1001).map PyData.int) = .ok (((rng 0 1001).filter (conf b c b' c')).map PyData.int) := fun x10 =>
    filter_lc _ _ (fun y => by simp [x_var, meet_eq h h' y]) (fun y => by simp [x_var])
  have er : rangeD 0 1001 = (rng 0 1001).map PyData.int := rangeD_rng 0 1001
  rw [← er] at el
  generalize (rng 0 1001).filter (conf b c b' c') = F at k1 k2 el
  cases F with
  | nil => simp at k2
  | cons v F =>
    have k1 : F_conflict [Hi b c, Hi b' c'] = .ok (.val (.int v)) := k1
    have z : (rangeD 0 1001).length ≤ 1000000 := by rw [rg_len]; decide
    refine Nx.step (ρ1 := [some (.val (Li ns)), some (.val (.int i)), some (.val (Hi b c)), some (.val (.list (E.map Li))), some (.val (Li d)), some (.val (Hi b' c')), some (.val (.list (C.map Li))), some (.val .none), x8, x9, some (.val (.int v)), x11, x12, x13, x14]) (by simp [x_var, k1]) ?_
    refine Nx.step (ρ1 := [some (.val (Li ns)), some (.val (.int i)), some (.val (Hi b c)), some (.val (.list (E.map Li))), some (.val (Li d)), some (.val (Hi b' c')), some (.val (.list (C.map Li))), some (.val .none), x8, x9, some (.val (.int v)), some (.val (Li (v :: F))), x12, x13, x14]) ?_ ?_
    · have e1 := el (some (.val (.int v)))
      have hi : ∀ ρ, iRg1 (eK (.int 1001)) ρ = .ok (true, rangeD 0 1001) := fun ρ => by simp [r1]
      rw [x_set, x_eF, x_eLc, hi]
      generalize rangeD 0 1001 = Z at e1 z
      simp [z, wipeE, e1]
    · have k3 : gIx (.val (.list ((v :: F).map PyData.int))) (.val (.int 0)) = .ok (.val (.int v)) := x_ixL (v :: F) 0 (by omega) (by rw [List.length_cons]; omega)
      have en : PyData.eqv (.list (.int v :: F.map PyData.int)) (.list []) = false := by simp [PyData.eqv, PyData.eqvAll]
      refine Nx.step (if_no (by simp [x_var, x_ne, x_eq, isNoneD, k3, en]) rfl) ?_
      have kr := (common_none h h' hc).2 (.int 1)
      have kc : (eAllL [2, 5] (eCall F_common_rank_bounds [eVar 2, eVar 5, eK (.int 1)]) "NoCommonData") [some (.val (Li ns)), some (.val (.int i)), some (.val (Hi b c)), some (.val (.list (E.map Li))), some (.val (Li d)), some (.val (Hi b' c')), some (.val (.list (C.map Li))), some (.val .none), x8, x9, some (.val (.int v)), some (.val (Li (v :: F))), x12, x13, x14] = .ok (.val (.bool true)) := by
        have e1 : eCall F_common_rank_bounds [eVar 2, eVar 5, eK (.int 1)] (capE [2, 5] [some (.val (Li ns)), some (.val (.int i)), some (.val (Hi b c)), some (.val (.list (E.map Li))), some (.val (Li d)), some (.val (Hi b' c')), some (.val (.list (C.map Li))), some (.val .none), x8, x9, some (.val (.int v)), some (.val (Li (v :: F))), x12, x13, x14]) = .err "NoCommonData" := by
          have e2 : capE [2, 5] [some (.val (Li ns)), some (.val (.int i)), some (.val (Hi b c)), some (.val (.list (E.map Li))), some (.val (Li d)), some (.val (Hi b' c')), some (.val (.list (C.map Li))), some (.val .none), x8, x9, some (.val (.int v)), some (.val (Li (v :: F))), x12, x13, x14] = [none, none, some (.val (Hi b c)), none, none, some (.val (Hi b' c')), none, none, none, none, none, none, none, none, none] := rfl
          rw [e2]
          simp [x_var, kr]
        unfold eAllL
        rw [e1]
        simp
      exact ⟨_, if_no (by simp [x_var, kc]) rfl, ⟨_, _, _, _, _, _, _, _, rfl⟩⟩
theorem common_part (h : VH b c) (h' : VH b' c') (hC : ∀ d, d ∈ C ↔ d.Pairwise (· ≤ ·) ∧ Btw (low b c) d (high b c) ∧ Btw (low b' c') d (high b' c')) (hn : C ≠ []) (hl : C.length ≤ 1024) (hd : (d.length : Int) = c.sum) {f : List Int} (hf : f ∈ C) : Nx (sSeq (sIf (tOr (tNot (tE (eCall F__law_fits [eVar 7, eVar 2]))) (tOr (tNot (tE (eCall F__law_fits [eVar 7, eVar 5]))) (t2 cIsNot (eCall F_conflict [eVar 2, eVar 5]) (eK .none)))) (sRet (eK (.bool false))) (sNil)) (sFor (iRg2 (eK (.int 1)) (e2 gAdd (eB gLen [eVar 4]) (eK (.int 1)))) (.nm 12) (b_law_0))) [some (.val (Li ns)), some (.val (.int i)), some (.val (Hi b c)), some (.val (.list (E.map Li))), some (.val (Li d)), some (.val (Hi b' c')), some (.val (.list (C.map Li))), some (.val (Li f)), x8, x9, x10, x11, x12, x13, x14] (fun (ρ : En) => ∃ x7 x8 x9 x10 x11 x12 x13 x14 : Option Cl, ρ = [some (.val (Li ns)), some (.val (.int i)), some (.val (Hi b c)), some (.val (.list (E.map Li))), some (.val (Li d)), some (.val (Hi b' c')), some (.val (.list (C.map Li))), x7, x8, x9, x10, x11, x12, x13, x14]) := by
  obtain ⟨o1, o2, o3⟩ := (hC f).mp hf
  have l60 := h.sum
  have fl := btw_len h o2
  have fl' := btw_len h' o3
  have hb := h.vb.hi
  have hb' := h'.vb.hi
  have f1 := fits_eq (b := b) (c := c) (by omega) (by omega) o1 (btw_cnts h o2) fl
  have f2 := fits_eq (b := b') (c := c') (by omega) (by omega) o1 (btw_cnts h' o3) fl'
  have kf := conflict_eq h h' (by omega)
  have fn : (rng 0 1001).filter (conf b c b' c') = [] := List.filter_eq_nil_iff.mpr fun v _ => by rw [conf_common h h' o2 o3 v]; decide
  rw [fn] at kf
  have kf : F_conflict [Hi b c, Hi b' c'] = .ok (.val .none) := kf
  refine Nx.step (if_no (by simp [x_var, f1, f2, kf, isNoneD]) rfl) ?_
  have r1 : okR 1 := okR_of (by decide) (by decide)
  have r2 : okR ((d.length : Int) + 1) := okR_of (by omega) (by omega)
  refine Nx.for_ (rangeD 1 ((d.length : Int) + 1 - 1).toNat) (fun (_ : Nat) (ρ : En) => ∃ x7 x8 x9 x10 x11 x12 x13 x14 : Option Cl, ρ = [some (.val (Li ns)), some (.val (.int i)), some (.val (Hi b c)), some (.val (.list (E.map Li))), some (.val (Li d)), some (.val (Hi b' c')), some (.val (.list (C.map Li))), x7, x8, x9, x10, x11, x12, x13, x14]) (by simp [x_var, r1, r2]) ⟨_, _, _, _, _, _, _, _, rfl⟩ ?_ fun _ h => h
  rintro j ρ w hw ⟨x7, x8, x9, x10, x11, x12, x13, x14, rfl⟩
  obtain ⟨rfl, hj⟩ := rg_get hw
  exact ⟨_, rfl, rank_step h h' hC hn hl (by omega) (by omega)⟩
theorem odd_part (h : VH b c) (h' : VH b' c') : Nx (sSeq (sSet 9 (eF (eLst [eK .none, eIf (t2 cNe (eVar 4) (eLst [])) (eB gTuple [eVar 4]) (eK (.int 5)), eK (.str "a"), eLst [eK (.int 1), eK (.int 0)], eLst [eK .none], eLst [eK (.int 1000)]]))) (sIf (tE (eB gAny [eLc (iSeq (eVar 9)) (.nm 14) (tYes) (eT (t2 cIsNot (eCall F_are_common_data [eVar 2, eVar 5, eVar 14]) (eK (.bool false)))) [14]])) (sRet (eK (.bool false))) (sNil))) [some (.val (Li ns)), some (.val (.int i)), some (.val (Hi b c)), some (.val (.list (E.map Li))), some (.val (Li d)), some (.val (Hi b' c')), some (.val (.list (C.map Li))), x7, x8, x9, x10, x11, x12, x13, x14] (fun (ρ : En) => ∃ x7 x8 x9 x10 x11 x12 x13 x14 : Option Cl, ρ = [some (.val (Li ns)), some (.val (.int i)), some (.val (Hi b c)), some (.val (.list (E.map Li))), some (.val (Li d)), some (.val (Hi b' c')), some (.val (.list (C.map Li))), x7, x8, x9, x10, x11, x12, x13, x14]) := by
  obtain ⟨y, hy, ky⟩ : ∃ y : PyData, sSet 9 (eF (eLst [eK .none, eIf (t2 cNe (eVar 4) (eLst [])) (eB gTuple [eVar 4]) (eK (.int 5)), eK (.str "a"), eLst [eK (.int 1), eK (.int 0)], eLst [eK .none], eLst [eK (.int 1000)]])) [some (.val (Li ns)), some (.val (.int i)), some (.val (Hi b c)), some (.val (.list (E.map Li))), some (.val (Li d)), some (.val (Hi b' c')), some (.val (.list (C.map Li))), x7, x8, x9, x10, x11, x12, x13, x14] = .ok (.nx [some (.val (Li ns)), some (.val (.int i)), some (.val (Hi b c)), some (.val (.list (E.map Li))), some (.val (Li d)), some (.val (Hi b' c')), some (.val (.list (C.map Li))), x7, x8, some (.val (.list [.none, y, .str "a", Li [1, 0], .list [.none], Li [1000]])), x10, x11, x12, x13, x14]) ∧ F_are_data [y] = .ok (.val (.bool false)) := by
    by_cases hd : d = []
    · exact ⟨.int 5, by simp [x_var, x_ne, hd], data_int 5⟩
    · exact ⟨Tu d, by simp [x_var, x_ne, hd], data_tup _⟩
  refine Nx.step (ρ1 := [some (.val (Li ns)), some (.val (.int i)), some (.val (Hi b c)), some (.val (.list (E.map Li))), some (.val (Li d)), some (.val (Hi b' c')), some (.val (.list (C.map Li))), x7, x8, some (.val (.list [.none, y, .str "a", Li [1, 0], .list [.none], Li [1000]])), x10, x11, x12, x13, x14]) hy ?_
  have key : ∀ z ∈ [PyData.none, y, .str "a", Li [1, 0], .list [.none], Li [1000]], F_are_data [z] = .ok (.val (.bool false)) := by
    intro z hz
    simp only [List.mem_cons, List.not_mem_nil, or_false] at hz
    rcases hz with rfl | rfl | rfl | rfl | rfl | rfl
    · exact data_none
    · exact ky
    · exact data_str _
    · rw [data_dec, decide_eq_false fun v => by have := v.le; simp at this]
    · exact data_noneL
    · rw [data_dec, decide_eq_false fun v => by have := v.rg 1000 (by simp); omega]
  have el : lcR (.nm 14) tYes (eT (t2 cIsNot (eCall F_are_common_data [eVar 2, eVar 5, eVar 14]) (eK (.bool false)))) [some (.val (Li ns)), some (.val (.int i)), some (.val (Hi b c)), some (.val (.list (E.map Li))), some (.val (Li d)), some (.val (Hi b' c')), some (.val (.list (C.map Li))), x7, x8, some (.val (.list [.none, y, .str "a", Li [1, 0], .list [.none], Li [1000]])), x10, x11, x12, x13, none] ([PyData.none, y, .str "a", Li [1, 0], .list [.none], Li [1000]].map id) = .ok ([PyData.none, y, .str "a", Li [1, 0], .list [.none], Li [1000]].map fun _ => PyData.bool false) :=
    lc_map _ _ _ fun z hz => ⟨_, rfl, .val (.bool false), by simp [x_var, are_common_no h h' (key z hz)], rfl⟩
  rw [List.map_id] at el
  have ga : gAny [.val (.list ([PyData.none, y, .str "a", Li [1, 0], .list [.none], Li [1000]].map fun _ => PyData.bool false))] = .ok (.val (.bool false)) := by
    rw [x_anyP _ (fun _ => false)]
    rfl
  generalize ([PyData.none, y, .str "a", Li [1, 0], .list [.none], Li [1000]].map fun _ => PyData.bool false) = V at el ga
  have zl : [PyData.none, y, .str "a", Li [1, 0], .list [.none], Li [1000]].length ≤ 1000000 := by simp
  generalize [PyData.none, y, .str "a", Li [1, 0], .list [.none], Li [1000]] = Z at el zl
  exact ⟨_, if_no (by simp [x_var, wipeE, zl, el, ga]) rfl, ⟨_, _, _, _, _, _, _, _, rfl⟩⟩
end
theorem turn_ok (ns : List Int) (hn : ns.length ≤ 63) (i : Int) (i0 : 0 ≤ i) (i3 : i < 3) {x2 x3 x4 x5 x6 x7 x8 x9 x10 x11 x12 x13 x14 : Option Cl} :
    Nx b_law_2 [some (.val (Li ns)), some (.val (.int i)), x2, x3, x4, x5, x6, x7, x8, x9, x10, x11, x12, x13, x14] (fun (ρ : En) => ∃ x1 x2 x3 x4 x5 x6 x7 x8 x9 x10 x11 x12 x13 x14 : Option Cl, ρ = [some (.val (Li ns)), x1, x2, x3, x4, x5, x6, x7, x8, x9, x10, x11, x12, x13, x14]) := by
  obtain ⟨b, c, e, hS⟩ := small_pick ns (by omega) (20 * i) (by omega) (by omega)
  obtain ⟨E, ee, hE, hl⟩ := every_eq hS
  have h := hS.vh
  have few := hS.few
  have hh : 0 < E.length := List.length_pos_iff.mpr (List.ne_nil_of_mem (All.low h hE))
  have qk := pick_eq ns (60 + i) E.length (by omega) (by omega) (by omega) (by omega)
  have pk := pick_rg ns (60 + i) E.length (by omega) (by omega) (by omega) (by omega)
  obtain ⟨k, hk, ek⟩ : ∃ k : Nat, k < E.length ∧ pick ns (60 + i) E.length = k := ⟨(pick ns (60 + i) E.length).toNat, by omega, by omega⟩
  rw [ek] at qk
  obtain ⟨d, hd, hdE⟩ : ∃ d, d = E[k] ∧ d ∈ E := ⟨_, rfl, List.getElem_mem hk⟩
  obtain ⟨so, bt⟩ := (hE d).mp hdE
  obtain ⟨b', c', eo, h', es⟩ := other_eq ns hn (place := 70 + 10 * i) (by omega) (by omega) hS so bt
  have vd := All.vd h hE hdE
  have dl := All.len h hE hdE
  refine Nx.step (ρ1 := [some (.val (Li ns)), some (.val (.int i)), some (.val (Hi b c)), x3, x4, x5, x6, x7, x8, x9, x10, x11, x12, x13, x14]) (by simp [x_var, e]) ?_
  refine Nx.step (ρ1 := [some (.val (Li ns)), some (.val (.int i)), some (.val (Hi b c)), some (.val (.list (E.map Li))), x4, x5, x6, x7, x8, x9, x10, x11, x12, x13, x14]) (by simp [x_var, ee]) ?_
  refine Nx.step (ρ1 := [some (.val (Li ns)), some (.val (.int i)), some (.val (Hi b c)), some (.val (.list (E.map Li))), some (.val (Li d)), x5, x6, x7, x8, x9, x10, x11, x12, x13, x14]) ?_ ?_
  · have kk : gIx (.val (.list (E.map Li))) (.val (.int k)) = .ok (.val (Li d)) := by
      have : atI (E.map Li) k = some (Li d) := by
        rw [atI_nat]
        simp [hk, hd]
      simp [gIx, this]
    simp [x_var, qk, kk]
  refine Nx.step (ρ1 := [some (.val (Li ns)), some (.val (.int i)), some (.val (Hi b c)), some (.val (.list (E.map Li))), some (.val (Li d)), some (.val (Hi b' c')), x6, x7, x8, x9, x10, x11, x12, x13, x14]) (by simp [x_var, x_ix0, eo]) ?_
  have hC := fun d => com_mem (d := d) h' hE
  have cl : (com b' c' E).length ≤ 1024 := Nat.le_trans (List.length_filter_le _ _) hl
  have kc := com_compat h h' hE
  have lc : lcR (.nm 8) (tE (eCall F__law_fits [eVar 8, eVar 5])) (eVar 8) [some (.val (Li ns)), some (.val (.int i)), some (.val (Hi b c)), some (.val (.list (E.map Li))), some (.val (Li d)), some (.val (Hi b' c')), x6, x7, none, x9, x10, x11, x12, x13, x14] (E.map Li) = .ok ((com b' c' E).map Li) :=
    lc_filter _ _ _ _ fun x hx => by
      have vx := All.vd h hE hx
      have f2 := fits_dec (b := b') (c := c') (d := x) (by have := h'.vb.hi; omega) (by have := vx.len; omega) vx.le
      exact ⟨_, rfl, by simp [x_var, f2], fun _ => ⟨.val (Li x), by simp [x_var], rfl⟩⟩
  generalize com b' c' E = C at hC cl kc lc
  have z : E.length ≤ 1000000 := by omega
  refine Nx.step (ρ1 := [some (.val (Li ns)), some (.val (.int i)), some (.val (Hi b c)), some (.val (.list (E.map Li))), some (.val (Li d)), some (.val (Hi b' c')), some (.val (.list (C.map Li))), x7, x8, x9, x10, x11, x12, x13, x14]) (by simp [x_var, wipeE, z, lc]) ?_
  have k1 := can_same_eq h h'
  have k2 := can_same_eq h' h
  rw [compat_swap] at k2
  have ln := li_nil C
  refine Nx.step (if_no ?_ rfl) ?_
  · rw [kc] at k1 k2
    by_cases hn : C = []
    · simp [hn] at k1 k2
      simp [x_var, x_ne, k1, k2, hn]
    · simp [hn] at k1 k2
      rw [decide_eq_false hn] at ln
      simp [x_var, x_ne, k1, k2, ln]
  have rest : ∀ (x7 x8 x9 x10 x11 x12 x13 x14 : Option Cl), Nx (sSeq (sFor (iSeq (e2 gAdd (eSl (eVar 3) (pNo) (pSo (eK (.int 5)))) (eLst [eVar 4, eSl (eVar 4) (pSo (eK (.int 1))) (pNo), e2 gAdd (eVar 4) (eLst [eK (.int 999)])]))) (.nm 8) (b_law_1)) (sSeq (sSet 9 (eF (eLst [eK .none, eIf (t2 cNe (eVar 4) (eLst [])) (eB gTuple [eVar 4]) (eK (.int 5)), eK (.str "a"), eLst [eK (.int 1), eK (.int 0)], eLst [eK .none], eLst [eK (.int 1000)]]))) (sIf (tE (eB gAny [eLc (iSeq (eVar 9)) (.nm 14) (tYes) (eT (t2 cIsNot (eCall F_are_common_data [eVar 2, eVar 5, eVar 14]) (eK (.bool false)))) [14]])) (sRet (eK (.bool false))) (sNil)))) [some (.val (Li ns)), some (.val (.int i)), some (.val (Hi b c)), some (.val (.list (E.map Li))), some (.val (Li d)), some (.val (Hi b' c')), some (.val (.list (C.map Li))), x7, x8, x9, x10, x11, x12, x13, x14] (fun (ρ : En) => ∃ x1 x2 x3 x4 x5 x6 x7 x8 x9 x10 x11 x12 x13 x14 : Option Cl, ρ = [some (.val (Li ns)), x1, x2, x3, x4, x5, x6, x7, x8, x9, x10, x11, x12, x13, x14]) := by
    intro x7 x8 x9 x10 x11 x12 x13 x14
    refine Nx.seq (P := (fun (ρ : En) => ∃ x7 x8 x9 x10 x11 x12 x13 x14 : Option Cl, ρ = [some (.val (Li ns)), some (.val (.int i)), some (.val (Hi b c)), some (.val (.list (E.map Li))), some (.val (Li d)), some (.val (Hi b' c')), some (.val (.list (C.map Li))), x7, x8, x9, x10, x11, x12, x13, x14])) ?_ ?_
    · have vt : VD d.tail := ⟨by have := vd.len; rw [List.length_tail]; omega, fun x hx => vd.rg x (List.mem_of_mem_tail hx), vd.le.sublist (List.tail_sublist d)⟩
      have va : VD (d ++ [999]) := ⟨by rw [List.length_append]; have := h.sum; simp; omega, fun x hx => by
        rcases List.mem_append.mp hx with q | q
        · exact vd.rg x q
        · simp at q; omega, le_snoc.mpr ⟨vd.le, fun u hu => (vd.rg u hu).2⟩⟩
      refine Nx.for_ ((cut E none (some 5) ++ [d, d.tail, d ++ [999]]).map Li) (fun (_ : Nat) (ρ : En) => ∃ x7 x8 x9 x10 x11 x12 x13 x14 : Option Cl, ρ = [some (.val (Li ns)), some (.val (.int i)), some (.val (Hi b c)), some (.val (.list (E.map Li))), some (.val (Li d)), some (.val (Hi b' c')), some (.val (.list (C.map Li))), x7, x8, x9, x10, x11, x12, x13, x14]) ?_ ⟨_, _, _, _, _, _, _, _, rfl⟩ ?_ fun _ h => h
      · have a1 := cut_len E none (some 5)
        have a3 : (cut E none (some 5)).length + 3 ≤ 1000000 := by omega
        have a4 : d.length + 1 ≤ 1000000 := by have := vd.len; omega
        simp [x_var, cut_map, a3, a4, cut_tail]
      · rintro j ρ w hw ⟨x7, x8, x9, x10, x11, x12, x13, x14, rfl⟩
        obtain ⟨l, hl, rfl⟩ : ∃ l, VD l ∧ w = Li l := by
          have := List.mem_of_getElem? hw
          obtain ⟨l, hl, rfl⟩ := List.mem_map.mp this
          refine ⟨l, ?_, rfl⟩
          rcases List.mem_append.mp hl with q | q
          · exact All.vd h hE (mem_cut q)
          · simp only [List.mem_cons, List.not_mem_nil, or_false] at q
            rcases q with rfl | rfl | rfl
            · exact vd
            · exact vt
            · exact va
        exact ⟨_, rfl, some_step h h' hl⟩
    rintro ρ ⟨x7, x8, x9, x10, x11, x12, x13, x14, rfl⟩
    obtain ⟨ρ', e1, y7, y8, y9, y10, y11, y12, y13, y14, rfl⟩ := odd_part (ns := ns) (i := i) (d := d) (E := E) (C := C) (x7 := x7) (x8 := x8) (x9 := x9) (x10 := x10) (x11 := x11) (x12 := x12) (x13 := x13) (x14 := x14) h h'
    exact ⟨_, e1, _, _, _, _, _, _, _, _, _, _, _, _, _, _, rfl⟩
  by_cases hq : C = []
  · have hc : compat b c b' c' = false := by rw [kc, decide_eq_false (by simp [hq])]
    obtain ⟨n1, _⟩ := common_none h h' hc
    refine Nx.step (ρ1 := [some (.val (Li ns)), some (.val (.int i)), some (.val (Hi b c)), some (.val (.list (E.map Li))), some (.val (Li d)), some (.val (Hi b' c')), some (.val (.list (C.map Li))), some (.val .none), x8, x9, x10, x11, x12, x13, x14]) (by simp [x_var, n1]) ?_
    refine Nx.seq (P := (fun (ρ : En) => ∃ x7 x8 x9 x10 x11 x12 x13 x14 : Option Cl, ρ = [some (.val (Li ns)), some (.val (.int i)), some (.val (Hi b c)), some (.val (.list (E.map Li))), some (.val (Li d)), some (.val (Hi b' c')), some (.val (.list (C.map Li))), x7, x8, x9, x10, x11, x12, x13, x14])) (Nx.yes (by rw [decide_eq_true hq] at ln; simp [x_var, x_eq, ln]) (clash_part h h' es.symm hc)) ?_
    rintro ρ ⟨x7, x8, x9, x10, x11, x12, x13, x14, rfl⟩
    exact rest _ _ _ _ _ _ _ _
  · have hc : compat b c b' c' = true := by rw [kc, decide_eq_true hq]
    obtain ⟨_, o1, o2, o3⟩ := compat_both h h' hc
    have kd := common_data_eq h h' o2 o3
    have hf := (hC _).mpr ⟨o1, o2, o3⟩
    generalize both b c b' c' = f at kd hf
    refine Nx.step (ρ1 := [some (.val (Li ns)), some (.val (.int i)), some (.val (Hi b c)), some (.val (.list (E.map Li))), some (.val (Li d)), some (.val (Hi b' c')), some (.val (.list (C.map Li))), some (.val (Li f)), x8, x9, x10, x11, x12, x13, x14]) (by simp [x_var, kd]) ?_
    refine Nx.seq (P := (fun (ρ : En) => ∃ x7 x8 x9 x10 x11 x12 x13 x14 : Option Cl, ρ = [some (.val (Li ns)), some (.val (.int i)), some (.val (Hi b c)), some (.val (.list (E.map Li))), some (.val (Li d)), some (.val (Hi b' c')), some (.val (.list (C.map Li))), x7, x8, x9, x10, x11, x12, x13, x14])) (Nx.no (by rw [decide_eq_false hq] at ln; simp [x_var, x_eq, ln]) (common_part h h' hC hq cl dl hf)) ?_
    rintro ρ ⟨x7, x8, x9, x10, x11, x12, x13, x14, rfl⟩
    exact rest _ _ _ _ _ _ _ _
theorem law_true (ns : List Int) (h : ns.length ≤ 63) : F_law [.list (ns.map PyData.int)] = .ok (.val (.bool true)) := by
  have r3 : okR 3 := okR_of (by decide) (by decide)
  obtain ⟨ρ', e1, x1, x2, x3, x4, x5, x6, x7, x8, x9, x10, x11, x12, x13, x14, rfl⟩ := Nx.for_ (ι := iRg1 (eK (.int 3))) (τ := .nm 1) (B := b_law_2) (ρ := [some (.val (Li ns)), none, none, none, none, none, none, none, none, none, none, none, none, none, none]) (rangeD 0 3)
    (fun (_ : Nat) (ρ : En) => ∃ x1 x2 x3 x4 x5 x6 x7 x8 x9 x10 x11 x12 x13 x14 : Option Cl, ρ = [some (.val (Li ns)), x1, x2, x3, x4, x5, x6, x7, x8, x9, x10, x11, x12, x13, x14]) (by simp [r3]) ⟨_, _, _, _, _, _, _, _, _, _, _, _, _, _, rfl⟩ (by
      rintro i ρ d hd ⟨x1, x2, x3, x4, x5, x6, x7, x8, x9, x10, x11, x12, x13, x14, rfl⟩
      obtain ⟨rfl, hi⟩ := rg0_get hd
      exact ⟨_, rfl, turn_ok ns h (i : Int) (by omega) (by omega)⟩) fun _ h => h
  exact fn_rt (seq_nx e1 (by simp))
end Py

set_option Elab.async false
set_option linter.all false
set_option maxRecDepth 100000
set_option autoImplicit false
set_option maxHeartbeats 4000000
open PySem PySem.W PySem.Calls PyProof.Rows
theorem PySem.Challenge.cw_bucketdata_k22_whole_pairs_holds : PySem.Challenge.rw_bucketdata_k22_whole_pairs.Holds := by
  w_on; o_law
  refine HandSHeadRun.head_any (r := OpenLaw.row PySem.Challenge.rw_bucketdata_k22_whole_pairs) (q := view (OpenLaw.row PySem.Challenge.rw_bucketdata_k22_whole_pairs).prog [63]) (H := Hd.hk) (ob := Hd.ob) (M := 6000) (loose := Hd.loose) (d := HandSHeadRun.topDef (OpenLaw.row PySem.Challenge.rw_bucketdata_k22_whole_pairs).prog 63) (kwd := []) Hd.ob_eq
    (by kernel_rfl) (fun s => by kernel_rfl) Hd.run (by kernel_rfl) (by kernel_rfl) (by kernel_rfl) (by rfl) (by first | assumption | decide +kernel) (by decide +kernel) ⟨rfl, rfl, rfl, rfl, rfl, by decide +kernel⟩ ?hw ?hc
  case hw => w_witness2
  case hc =>
    refine Py.walk_pyT (l := PySem.Challenge.rw_bucketdata_k22_whole_pairs) (n := 63) (k := 10) (x := "script") (G := Py.F_law) rfl (by decide) (by kernel_rfl) ⟨rfl, by decide, by decide⟩ ?F Py.law_true
    intro w mg fa h Y G hmg0
    obtain ⟨K, KX, c1⟩ := Y
    have hmg : mg ("law" : PySem.Str) = some (.ref fa) := by
      have e : (HandSHeadRun.topDef (OpenLaw.row PySem.Challenge.rw_bucketdata_k22_whole_pairs).prog 63).name = ("law" : PySem.Str) := by kernel_rfl
      rw [← e]
      exact hmg0
    have c : Py.SaysX Hd.fa Hd.fn (Py.xfOf Hd.excs "BucketError" Hd.asked ++ Hd.lcs.map Py.XF.kiv) K := ⟨c1.t.d, (He.ba c1.more).1⟩
    obtain ⟨T1, T2, T3, T4⟩ := Py.end_tab KX c1
    letI : Py.KK := ⟨K, (Hd.tf.map (fun p => ((He.cT K p.1).1, (He.cT K p.1).2, p.2))).map (·.2)⟩
    have Z : Py.Facts mg := ⟨⟨h, KX, G⟩, c⟩
    obtain ⟨fd, F⟩ := c.def_ 37 (d := Hd.d_law) rfl
    have e := hmg.symm.trans (Py.Z_glo_law Z)
    cases e
    have b := L2.FunD.bindsA (ps := ["script"]) F fun _ _ _ _ _ _ us hl => match us, hl with | [_], _ => rfl
    exact ⟨K, fd, _, KX, T1, T2, T3, fun s v => b s [v] rfl, fun base _ _ hTB => Py.ok_law_fn Z (T4 mg base hTB) F⟩

